import PyProof.Rows.All
import Wide.All
import OpenK.AllK
import Wide.FinOn
import HandS.Base
import HandS.Call
import HandS.Exc
import HandS.Defaults
import HandS.Head0
import HandS.Head1
import HandS.Head2
import HandS.HeadEnd
import HandS.HeadHook1
import HandS.HeadHook2
import HandS.HeadNt
import HandS.HeadHook4
import HandS.HeadHook3
import HandS.ForMost
import HandS.Wide
import HandS.IsInst
import HandS.StrMore
import HandS.Style
import HandS.RaiseMore
import HandS.EndBits
import HandS.Deep
import HandS.ReplaceLit
import HandS.ReplaceList
import HandS.ForExc
import HandS.CallSlots
import HandS.TryMany
import HandS.ExcInit
import HandS.Comp
import HandS.Iter
import HandS.ExcCtx
import HandS.TupAny
import HandS.More
import HandS.Zip
import HandS.SlotsOwn
import HandS.ExcField
import HandS.ExcIs
import KE.KExcIs
import HandS.MakeKwOnly
import HandS.ClsMeth
import HandS.NoneIn
import HandS.Conv
import KE.GoesEnum
import KE.KxField
import PyProof.FString3
import HandS.FStr
import KE.KOpsOwn
import KE.KCallOwn
import HandS.SetFor
import KE.OsRunLaw
import KE.KSortAsk
import HandS.SortKw
import HandS.SetKeys
import HandS.Lambda
import KE.KNestM
import KE.KSortTupAny
import HandS.SortRule
import HandS.Dict
import HandS.HotCalls
import HandS.SuiteRaise
import HandS.RaiseFrom
import HandS.ExcInitHot
import PyProof.RulesMatch
import HandS.Flow
import HandS.ExcBuiltin
import HandS.SortInts
import PySem.Challenge.RW_keysthroughtext_k39_what_conditions_ment
set_option Elab.async false
set_option linter.all false
set_option maxRecDepth 100000
set_option maxHeartbeats 4000000

namespace KQ
open PySem PySem.Spec PyProof.Rows L2
/-! ### a head by facts: functions by their names, everything else as Bools over the part -/
abbrev AlB : Type := Bool × List He5.FnW
def obsB (fb : PySem.W.Frag → List Bool) (fn : List He5.DefA) (K : PySem.W.Frag) : AlB := ((fb K).all id && fn.all fun d => d.ok K, fn.map fun d => He5.fnA K (d.at_ K))
def SaysB (fb : PySem.W.Frag → List Bool) (fn : List He5.DefA) (K : PySem.W.Frag) : Prop := obsB fb fn K = (true, fn.map He5.DefA.val)
/-! ### the head's run asked twice: what it looks like and the facts; the functions -/
def obsF (fn : List He5.DefA) (K : PySem.W.Frag) : AlB := (fn.all fun d => d.ok K, fn.map fun d => He5.fnA K (d.at_ K))
/-- a def by its place -/
def FA (p : Str × Option Str) (n q : Str) (st : Stmt) (dfl : List He.Dv) (kwd : List (Str × He.Dv)) : He5.DefA := ⟨fun K => He.fAd K p, n, q, defArgs st, defBody st, defScope st, dfl, kwd⟩
theorem obsB_split {fb : PySem.W.Frag → List Bool} {fn : List He5.DefA} {K : PySem.W.Frag} (h1 : (fb K).all id = true) (h2 : obsF fn K = (true, fn.map He5.DefA.val)) : obsB fb fn K = (true, fn.map He5.DefA.val) := by
  have e1 : (fn.all fun d => d.ok K) = true := congrArg (fun z : AlB => z.1) h2
  have e2 : (fn.map fun d => He5.fnA K (d.at_ K)) = fn.map He5.DefA.val := congrArg (fun z : AlB => z.2) h2
  unfold obsB
  rw [h1, e1, e2]; rfl
open PySem.W PySem.Calls in
def RunA (r : OpenRow) (q : Program) (ob1 : SharedT → Bool) (M : Nat) (loose : List PySem.Str) (w : World) : Prop :=
  ∀ os : OsState, (HandSHeadRun.endF (HandSHeadRun.stepQ (HandSHeadRun.denQ HandSHeadRun.tabQ) r.prog w) M r.prog w os).map (fun s => (HandSHeadRun.looksF r.prog (boot_heap w.params) s.abs, HandSHeadRun.seenQ q loose (importedModules r.prog.main.body) (fun s => xlAt q [] s && recOk r.toRowW.records s) s.abs, ob1 s)) = some (true, openGood q loose, true)
open PySem.W PySem.Calls in
def RunB {β : Type} (r : OpenRow) (ob2 : SharedT → β) (M : Nat) (w : World) (v : β) : Prop :=
  ∀ os : OsState, (HandSHeadRun.endF (HandSHeadRun.stepQ (HandSHeadRun.denQ HandSHeadRun.tabQ) r.prog w) M r.prog w os).map ob2 = some v
/-- an own exception class under ValueError -/
def oexB (K : PySem.W.Frag) (C : Addr) : Bool := match K.lookup C with
  | some ⟨.type "type", _, .cls cd, sl⟩ => (match cd.mro, sl.toList with
    | .ref C' :: bm, [_, _, _, _, some (.builtin n), _] => C' == C && n == "ValueError.__new__" && !cd.hasDel && cd.hasDict && PySem.HandSPX.refsVE bm
    | _, _ => false)
  | _ => false
/-! constants of the module -/
inductive Cs where
  | non
  | bl (b : Bool)
  | int (n : Int)
  | str (z : Str)
  | tup (xs : List Cs)
mutual
def csB (K : PySem.W.Frag) : Cs → Value → Bool
  | .non, u => (match u with | .none => true | _ => false)
  | .bl b, u => (match u with | .bool c => b == c | _ => false)
  | .int n, u => (match u with | .int m _ => decide (n = m) | _ => false)
  | .str z, u => (match u with | .str y _ => decide (z = y) | _ => false)
  | .tup xs, u => (match u with
    | .ref a => (match K.lookup a with
      | some ⟨.type c, _, .seq its _, _⟩ => decide (c = "tuple") && (decide (its.size ≤ sizeLine) && csL K xs its.toList)
      | _ => false)
    | _ => false)
def csL (K : PySem.W.Frag) : List Cs → List Value → Bool
  | [], us => us.isEmpty
  | x :: xs, us => (match us with
    | u :: us => csB K x u && csL K xs us
    | [] => false)
end
def gloB (K : PySem.W.Frag) (x : Str) (t : Cs) : Bool := match PySem.W.nsIn K mainGlobals x with
  | some (some u) => csB K t u
  | _ => false
end KQ
namespace KQ
open PySem PySem.Spec PyProof.Rows L2
/-! ### a head by facts, with empty tables of code objects left out of the part -/
def tabObj : Obj := { cls := .none, data := .fields #[] }
/-! ### .. with dicts of the module, whose keys' hashes the world gives -/
/-! ### look-ups off the tree, by a mask of the addresses -/
open PySem.W PySem.Calls in
/-- the run's looks alone -/
def RunL (r : OpenRow) (q : Program) (M : Nat) (loose : List PySem.Str) (w : World) : Prop :=
  ∀ os : OsState, (HandSHeadRun.endF (HandSHeadRun.stepQ (HandSHeadRun.denQ HandSHeadRun.tabQ) r.prog w) M r.prog w os).map (fun s => (HandSHeadRun.looksF r.prog (boot_heap w.params) s.abs, HandSHeadRun.seenQ q loose (importedModules r.prog.main.body) (fun s => xlAt q [] s && recOk r.toRowW.records s) s.abs)) = some (true, openGood q loose)
open PySem.W PySem.Calls in
theorem RunL.and {r : OpenRow} {q : Program} {M : Nat} {loose : List PySem.Str} {w : World} {ob : SharedT → Bool} (a : RunL r q M loose w) (b : RunB r ob M w true) : RunA r q ob M loose w := by
  intro os
  have ha := a os
  have hb := b os
  cases e : HandSHeadRun.endF (HandSHeadRun.stepQ (HandSHeadRun.denQ HandSHeadRun.tabQ) r.prog w) M r.prog w os with
  | none => rw [e] at hb; cases hb
  | some s =>
    rw [e] at ha hb
    have ea := Option.some.inj ha
    have eb : ob s = true := Option.some.inj hb
    have e1 := congrArg (fun z => z.1) ea
    have e2 := congrArg (fun z => z.2) ea
    simp only [] at e1 e2
    rw [Option.map_some, e1, e2, eb]
open PySem.W PySem.Calls in
theorem RunB.and {r : OpenRow} {M : Nat} {w : World} {o1 o2 o : SharedT → Bool} (a : RunB r o1 M w true) (b : RunB r o2 M w true) (k : ∀ s, o1 s = true → o2 s = true → o s = true) : RunB r o M w true := by
  intro os
  have ha := a os
  have hb := b os
  cases e : HandSHeadRun.endF (HandSHeadRun.stepQ (HandSHeadRun.denQ HandSHeadRun.tabQ) r.prog w) M r.prog w os with
  | none => rw [e] at hb; cases hb
  | some s =>
    rw [e] at ha hb
    rw [Option.map_some, k s (Option.some.inj ha) (Option.some.inj hb)]
open PySem.W PySem.Calls in
theorem RunB.to {β : Type} {r : OpenRow} {M : Nat} {w : World} {o1 o : SharedT → β} {v : β} (a : RunB r o1 M w v) (k : ∀ s, o s = o1 s) : RunB r o M w v := by
  rw [show o = o1 from funext k]; exact a
theorem all_cut {l : List Bool} (n : Nat) (h1 : (l.take n).all id = true) (h2 : (l.drop n).all id = true) : l.all id = true := by
  rw [← List.take_append_drop n l, List.all_append, h1, h2]; rfl
end KQ
namespace KQ
open PySem PySem.Spec PyProof.Rows L2
/-! ### a head whose objects are written out -/
def DE (w : World) (k : Str) (t : Tok) (v : Value) : DictEntry := ⟨PyData.keyHash w.params k, .str k t, v⟩
def FD (st : Stmt) (n q : Str) (g : Addr) (cl : List (Str × Addr)) (d kw doc pm : Value) (an : Option Addr) (code ct : Value) (b : Addr) : Data :=
  .func ⟨n, q, defArgs st, .stmts (defBody st), defScope st, g, cl, d, kw, doc, pm, an, code, ct, b⟩
/-- a code object, a plain function -/
def CO (n q : Str) (t : Tok) (l a b c d : Int) (r : Addr) (e : Int) (r2 : Addr) (u v x : Value) (r3 : Addr) (y : Int) (t2 : Tok) : Obj :=
  ⟨.type "code", none, .fields #[.str n t, .str q (t + 1), .str "/claim/cut.py" (t + 2), .int l 0, .int a 0, .int b 0, .int c 0, .int d 0, .ref r, .bool true, .int e 0, .ref r2, u, v, x, .ref r3, .int y 0, .int l 0, .str "/claim/cut.py" t2], #[]⟩
def FN (st : Stmt) (n q m : Str) (t : Tok) (c : Addr) : Obj := ⟨.type "function", none, FD st n q 3 [] .none .none .none (.str m t) none (.ref c) .none 0, #[]⟩
def hookL (as : List Addr) (KL : World → PySem.W.Frag) (tl : List Addr) (hk : ∀ w, as = (KL w).map (·.1)) : PySem.W.Hook where
  α := List (Option Obj) × List (Option Obj)
  obs := fun s => (as.map s.heap.get?, tl.map s.heap.get?)
  val := fun w => ((KL w).map fun p => some p.2, tl.map fun _ => some tabObj)
  says := fun w h => (KL w).In h ∧ ∀ a ∈ tl, h.get? a = some tabObj
  of := fun w s e => ⟨PySem.W.Frag.in_of (hk w) (congrArg (fun z => z.1) e), fun a ha => by
    have e2 : tl.map s.heap.get? = tl.map fun _ => some tabObj := congrArg (fun z => z.2) e
    exact List.map_inj_left.mp e2 a ha⟩
  keeps := fun w h h' ⟨a, b⟩ k => ⟨PySem.W.Frag.In.keeps a k, fun x hx => k _ _ (b x hx)⟩
def obL (as tl : List Addr) (s : PySem.W.SharedT) : List (Option Obj) × List (Option Obj) := (as.map (HandSHeadRun.getT s), tl.map (HandSHeadRun.getT s))
theorem obL_eq {as tl : List Addr} {KL : World → PySem.W.Frag} {hk : ∀ w, as = (KL w).map (·.1)} (s : PySem.W.SharedT) : obL as tl s = (hookL as KL tl hk).obs s.abs := by
  unfold obL
  rw [show HandSHeadRun.getT s = s.abs.heap.get? from funext (HandSHeadRun.getT_eq s)]
  rfl
theorem fn_cut {fn : List He5.DefA} {K : PySem.W.Frag} (n : Nat) (h1 : obsF (fn.take n) K = (true, (fn.take n).map He5.DefA.val)) (h2 : obsF (fn.drop n) K = (true, (fn.drop n).map He5.DefA.val)) : obsF fn K = (true, fn.map He5.DefA.val) := by
  have a1 : ((fn.take n).all fun d => d.ok K) = true := congrArg (fun z : AlB => z.1) h1
  have a2 : ((fn.take n).map fun d => He5.fnA K (d.at_ K)) = (fn.take n).map He5.DefA.val := congrArg (fun z : AlB => z.2) h1
  have b1 : ((fn.drop n).all fun d => d.ok K) = true := congrArg (fun z : AlB => z.1) h2
  have b2 : ((fn.drop n).map fun d => He5.fnA K (d.at_ K)) = (fn.drop n).map He5.DefA.val := congrArg (fun z : AlB => z.2) h2
  unfold obsF
  refine Prod.ext ?_ ?_
  · show (fn.all fun d => d.ok K) = true
    rw [← List.take_append_drop n fn, List.all_append, a1, b1]; rfl
  · show (fn.map fun d => He5.fnA K (d.at_ K)) = fn.map He5.DefA.val
    rw [← List.take_append_drop n fn, List.map_append, List.map_append, a2, b2]
theorem saysB_lit {fb : PySem.W.Frag → List Bool} {fn : List He5.DefA} {K : PySem.W.Frag} (h1 : (fb K).all id = true) (h2 : obsF fn K = (true, fn.map He5.DefA.val)) : SaysB fb fn K := obsB_split h1 h2
end KQ

namespace K39
open PySem PySem.Spec PyProof.Rows L2 KQ
section
open PySem PySem.W PySem.Calls PyProof.Rows
set_option maxRecDepth 100000 in
set_option maxHeartbeats 0 in
theorem lookK (h : (OpenLaw.row PySem.Challenge.rw_keysthroughtext_k39_what_conditions_ment).wellSaid = true → (OpenLaw.row PySem.Challenge.rw_keysthroughtext_k39_what_conditions_ment).Holds) : PySem.Challenge.rw_keysthroughtext_k39_what_conditions_ment.Holds := by
  w_on; o_law
  exact h (by assumption)
end
def topS (i : Nat) : Stmt := PySem.Challenge.pw_keysthroughtext_k39_what_conditions_ment.main.body.getD i (.Pass ⟨0, 0, 0, 0⟩)
abbrev s__law_draw : Stmt := topS 23
abbrev s__law_some : Stmt := topS 24
abbrev s__law_ask : Stmt := topS 29
abbrev s__law_draws : Stmt := topS 22
abbrev s__law_integer : Stmt := topS 26
abbrev s__law_joined : Stmt := topS 30
abbrev s__law_text : Stmt := topS 25
abbrev s__law_keys : Stmt := topS 27
abbrev s_Before___init__ : Stmt := inClass (topS 17) 0
abbrev s_Equals___init__ : Stmt := inClass (topS 13) 0
abbrev s_Every___init__ : Stmt := inClass (topS 19) 0
abbrev s_First___init__ : Stmt := inClass (topS 18) 0
abbrev s_Has___init__ : Stmt := inClass (topS 15) 0
abbrev s_Item___init__ : Stmt := inClass (topS 16) 0
abbrev s_BadCondition___init__ : Stmt := inClass (topS 3) 0
abbrev s_Kind___init__ : Stmt := inClass (topS 12) 0
abbrev s_Size___init__ : Stmt := inClass (topS 14) 0
abbrev s_Some___init__ : Stmt := inClass (topS 20) 0
abbrev s_Both___init__ : Stmt := inClass (topS 9) 0
abbrev s_Condition___and__ : Stmt := inClass (topS 8) 0
abbrev s_Inverse___init__ : Stmt := inClass (topS 11) 0
abbrev s_Condition___invert__ : Stmt := inClass (topS 8) 2
abbrev s_Either___init__ : Stmt := inClass (topS 10) 0
abbrev s_Condition___or__ : Stmt := inClass (topS 8) 1
abbrev s__law_made : Stmt := topS 28
abbrev s__law_leaves : Stmt := topS 31
abbrev s__law_mentions : Stmt := topS 32
abbrev s_without_repeats : Stmt := topS 7
abbrev s_Condition_leaves : Stmt := inClass (topS 8) 4
abbrev s_Both_leaves : Stmt := inClass (topS 9) 2
abbrev s_Either_leaves : Stmt := inClass (topS 10) 2
abbrev s_Inverse_leaves : Stmt := inClass (topS 11) 2
abbrev s_Condition_own_keys : Stmt := inClass (topS 8) 5
abbrev s_Has_own_keys : Stmt := inClass (topS 15) 2
abbrev s_Item_own_keys : Stmt := inClass (topS 16) 2
abbrev s_Before_own_keys : Stmt := inClass (topS 17) 2
abbrev s_Condition_key_list : Stmt := inClass (topS 8) 9
abbrev s_Condition_own_labels : Stmt := inClass (topS 8) 6
abbrev s_Item_own_labels : Stmt := inClass (topS 16) 3
abbrev s_First_own_labels : Stmt := inClass (topS 18) 2
abbrev s_Every_own_labels : Stmt := inClass (topS 19) 2
abbrev s_Some_own_labels : Stmt := inClass (topS 20) 2
abbrev s_Condition_label_list : Stmt := inClass (topS 8) 10
abbrev s_law : Stmt := topS 33
def fbK (K : PySem.W.Frag) : List Bool := [
  decide (PySem.W.nsIn K mainGlobals "abs" = some none),
  decide (PySem.W.nsIn K mainGlobals "all" = some none),
  decide (PySem.W.nsIn K mainGlobals "any" = some none),
  decide (PySem.W.nsIn K mainGlobals "bool" = some none),
  decide (PySem.W.nsIn K mainGlobals "enumerate" = some none),
  decide (PySem.W.nsIn K mainGlobals "int" = some none),
  decide (PySem.W.nsIn K mainGlobals "isinstance" = some none),
  decide (PySem.W.nsIn K mainGlobals "len" = some none),
  decide (PySem.W.nsIn K mainGlobals "list" = some none),
  decide (PySem.W.nsIn K mainGlobals "max" = some none),
  decide (PySem.W.nsIn K mainGlobals "min" = some none),
  decide (PySem.W.nsIn K mainGlobals "range" = some none),
  decide (PySem.W.nsIn K mainGlobals "set" = some none),
  decide (PySem.W.nsIn K mainGlobals "sorted" = some none),
  decide (PySem.W.nsIn K mainGlobals "str" = some none),
  decide (PySem.W.nsIn K mainGlobals "tuple" = some none),
  decide (PySem.W.nsIn K mainGlobals "zip" = some none),
  decide (PySem.W.nsIn K mainGlobals "iter" = some none),
  decide (PySem.W.nsIn K mainGlobals "ValueError" = some none),
  decide (PySem.W.nsIn K mainGlobals "sum" = some none),
  decide (PySem.W.nsIn K mainGlobals "dict" = some none),
  decide (PySem.W.nsIn K mainGlobals "_law_draw" = some (some (.ref (He.ga K "_law_draw")))),
  decide (PySem.W.nsIn K mainGlobals "_law_some" = some (some (.ref (He.ga K "_law_some")))),
  decide (PySem.W.nsIn K mainGlobals "_law_ask" = some (some (.ref (He.ga K "_law_ask")))),
  decide (PySem.W.nsIn K mainGlobals "_law_draws" = some (some (.ref (He.ga K "_law_draws")))),
  decide (PySem.W.nsIn K mainGlobals "_law_integer" = some (some (.ref (He.ga K "_law_integer")))),
  decide (PySem.W.nsIn K mainGlobals "_law_joined" = some (some (.ref (He.ga K "_law_joined")))),
  decide (PySem.W.nsIn K mainGlobals "_law_text" = some (some (.ref (He.ga K "_law_text")))),
  decide (PySem.W.nsIn K mainGlobals "_law_keys" = some (some (.ref (He.ga K "_law_keys")))),
  decide (PySem.W.findIn K (.ref (He.ga K "Before")) "__init__" = some (some (.ref (He.ma K (He.ga K "Before") "__init__")))),
  decide (PySem.W.isFn K (.ref (He.ma K (He.ga K "Before") "__init__")) = true),
  decide (PySem.W.findIn K (.ref (He.ga K "Equals")) "__init__" = some (some (.ref (He.ma K (He.ga K "Equals") "__init__")))),
  decide (PySem.W.isFn K (.ref (He.ma K (He.ga K "Equals") "__init__")) = true),
  decide (PySem.W.findIn K (.ref (He.ga K "Every")) "__init__" = some (some (.ref (He.ma K (He.ga K "Every") "__init__")))),
  decide (PySem.W.isFn K (.ref (He.ma K (He.ga K "Every") "__init__")) = true),
  decide (PySem.W.findIn K (.ref (He.ga K "First")) "__init__" = some (some (.ref (He.ma K (He.ga K "First") "__init__")))),
  decide (PySem.W.isFn K (.ref (He.ma K (He.ga K "First") "__init__")) = true),
  decide (PySem.W.findIn K (.ref (He.ga K "Has")) "__init__" = some (some (.ref (He.ma K (He.ga K "Has") "__init__")))),
  decide (PySem.W.isFn K (.ref (He.ma K (He.ga K "Has") "__init__")) = true),
  decide (PySem.W.findIn K (.ref (He.ga K "Item")) "__init__" = some (some (.ref (He.ma K (He.ga K "Item") "__init__")))),
  decide (PySem.W.isFn K (.ref (He.ma K (He.ga K "Item") "__init__")) = true),
  decide (PySem.W.findIn K (.ref (He.ga K "BadCondition")) "__init__" = some (some (.ref (He.ma K (He.ga K "BadCondition") "__init__")))),
  decide (PySem.W.isFn K (.ref (He.ma K (He.ga K "BadCondition") "__init__")) = true),
  decide (PySem.W.findIn K (.ref (He.ga K "Kind")) "__init__" = some (some (.ref (He.ma K (He.ga K "Kind") "__init__")))),
  decide (PySem.W.isFn K (.ref (He.ma K (He.ga K "Kind") "__init__")) = true),
  decide (PySem.W.findIn K (.ref (He.ga K "Size")) "__init__" = some (some (.ref (He.ma K (He.ga K "Size") "__init__")))),
  decide (PySem.W.isFn K (.ref (He.ma K (He.ga K "Size") "__init__")) = true),
  decide (PySem.W.findIn K (.ref (He.ga K "Some")) "__init__" = some (some (.ref (He.ma K (He.ga K "Some") "__init__")))),
  decide (PySem.W.isFn K (.ref (He.ma K (He.ga K "Some") "__init__")) = true),
  decide (PySem.W.findIn K (.ref (He.ga K "Both")) "__init__" = some (some (.ref (He.ma K (He.ga K "Both") "__init__")))),
  decide (PySem.W.isFn K (.ref (He.ma K (He.ga K "Both") "__init__")) = true),
  decide (PySem.W.findIn K (.ref (He.ga K "Inverse")) "__init__" = some (some (.ref (He.ma K (He.ga K "Inverse") "__init__")))),
  decide (PySem.W.isFn K (.ref (He.ma K (He.ga K "Inverse") "__init__")) = true),
  decide (PySem.W.findIn K (.ref (He.ga K "Either")) "__init__" = some (some (.ref (He.ma K (He.ga K "Either") "__init__")))),
  decide (PySem.W.isFn K (.ref (He.ma K (He.ga K "Either") "__init__")) = true),
  decide (PySem.W.nsIn K mainGlobals "_law_made" = some (some (.ref (He.ga K "_law_made")))),
  decide (PySem.W.nsIn K mainGlobals "_law_leaves" = some (some (.ref (He.ga K "_law_leaves")))),
  decide (PySem.W.nsIn K mainGlobals "_law_mentions" = some (some (.ref (He.ga K "_law_mentions")))),
  decide (PySem.W.nsIn K mainGlobals "without_repeats" = some (some (.ref (He.ga K "without_repeats")))),
  decide (PySem.W.nsIn K mainGlobals "law" = some (some (.ref (He.ga K "law")))),
  decide (PySem.W.findIn K (.ref (He.ga K "Kind")) "__and__" = some (some (.ref (He.ma K (He.ga K "Kind") "__and__")))),
  decide (PySem.W.isFn K (.ref (He.ma K (He.ga K "Kind") "__and__")) = true),
  decide (PySem.W.findIn K (.ref (He.ga K "Equals")) "__and__" = some (some (.ref (He.ma K (He.ga K "Equals") "__and__")))),
  decide (PySem.W.isFn K (.ref (He.ma K (He.ga K "Equals") "__and__")) = true),
  decide (PySem.W.findIn K (.ref (He.ga K "Size")) "__and__" = some (some (.ref (He.ma K (He.ga K "Size") "__and__")))),
  decide (PySem.W.isFn K (.ref (He.ma K (He.ga K "Size") "__and__")) = true),
  decide (PySem.W.findIn K (.ref (He.ga K "Has")) "__and__" = some (some (.ref (He.ma K (He.ga K "Has") "__and__")))),
  decide (PySem.W.isFn K (.ref (He.ma K (He.ga K "Has") "__and__")) = true),
  decide (PySem.W.findIn K (.ref (He.ga K "Item")) "__and__" = some (some (.ref (He.ma K (He.ga K "Item") "__and__")))),
  decide (PySem.W.isFn K (.ref (He.ma K (He.ga K "Item") "__and__")) = true),
  decide (PySem.W.findIn K (.ref (He.ga K "Before")) "__and__" = some (some (.ref (He.ma K (He.ga K "Before") "__and__")))),
  decide (PySem.W.isFn K (.ref (He.ma K (He.ga K "Before") "__and__")) = true),
  decide (PySem.W.findIn K (.ref (He.ga K "First")) "__and__" = some (some (.ref (He.ma K (He.ga K "First") "__and__")))),
  decide (PySem.W.isFn K (.ref (He.ma K (He.ga K "First") "__and__")) = true),
  decide (PySem.W.findIn K (.ref (He.ga K "Every")) "__and__" = some (some (.ref (He.ma K (He.ga K "Every") "__and__")))),
  decide (PySem.W.isFn K (.ref (He.ma K (He.ga K "Every") "__and__")) = true),
  decide (PySem.W.findIn K (.ref (He.ga K "Some")) "__and__" = some (some (.ref (He.ma K (He.ga K "Some") "__and__")))),
  decide (PySem.W.isFn K (.ref (He.ma K (He.ga K "Some") "__and__")) = true),
  decide (PySem.W.findIn K (.ref (He.ga K "Both")) "__and__" = some (some (.ref (He.ma K (He.ga K "Both") "__and__")))),
  decide (PySem.W.isFn K (.ref (He.ma K (He.ga K "Both") "__and__")) = true),
  decide (PySem.W.findIn K (.ref (He.ga K "Either")) "__and__" = some (some (.ref (He.ma K (He.ga K "Either") "__and__")))),
  decide (PySem.W.isFn K (.ref (He.ma K (He.ga K "Either") "__and__")) = true),
  decide (PySem.W.findIn K (.ref (He.ga K "Inverse")) "__and__" = some (some (.ref (He.ma K (He.ga K "Inverse") "__and__")))),
  decide (PySem.W.isFn K (.ref (He.ma K (He.ga K "Inverse") "__and__")) = true),
  decide (PySem.W.findIn K (.ref (He.ga K "Kind")) "__invert__" = some (some (.ref (He.ma K (He.ga K "Kind") "__invert__")))),
  decide (PySem.W.isFn K (.ref (He.ma K (He.ga K "Kind") "__invert__")) = true),
  decide (PySem.W.findIn K (.ref (He.ga K "Equals")) "__invert__" = some (some (.ref (He.ma K (He.ga K "Equals") "__invert__")))),
  decide (PySem.W.isFn K (.ref (He.ma K (He.ga K "Equals") "__invert__")) = true),
  decide (PySem.W.findIn K (.ref (He.ga K "Size")) "__invert__" = some (some (.ref (He.ma K (He.ga K "Size") "__invert__")))),
  decide (PySem.W.isFn K (.ref (He.ma K (He.ga K "Size") "__invert__")) = true),
  decide (PySem.W.findIn K (.ref (He.ga K "Has")) "__invert__" = some (some (.ref (He.ma K (He.ga K "Has") "__invert__")))),
  decide (PySem.W.isFn K (.ref (He.ma K (He.ga K "Has") "__invert__")) = true),
  decide (PySem.W.findIn K (.ref (He.ga K "Item")) "__invert__" = some (some (.ref (He.ma K (He.ga K "Item") "__invert__")))),
  decide (PySem.W.isFn K (.ref (He.ma K (He.ga K "Item") "__invert__")) = true),
  decide (PySem.W.findIn K (.ref (He.ga K "Before")) "__invert__" = some (some (.ref (He.ma K (He.ga K "Before") "__invert__")))),
  decide (PySem.W.isFn K (.ref (He.ma K (He.ga K "Before") "__invert__")) = true),
  decide (PySem.W.findIn K (.ref (He.ga K "First")) "__invert__" = some (some (.ref (He.ma K (He.ga K "First") "__invert__")))),
  decide (PySem.W.isFn K (.ref (He.ma K (He.ga K "First") "__invert__")) = true),
  decide (PySem.W.findIn K (.ref (He.ga K "Every")) "__invert__" = some (some (.ref (He.ma K (He.ga K "Every") "__invert__")))),
  decide (PySem.W.isFn K (.ref (He.ma K (He.ga K "Every") "__invert__")) = true),
  decide (PySem.W.findIn K (.ref (He.ga K "Some")) "__invert__" = some (some (.ref (He.ma K (He.ga K "Some") "__invert__")))),
  decide (PySem.W.isFn K (.ref (He.ma K (He.ga K "Some") "__invert__")) = true),
  decide (PySem.W.findIn K (.ref (He.ga K "Both")) "__invert__" = some (some (.ref (He.ma K (He.ga K "Both") "__invert__")))),
  decide (PySem.W.isFn K (.ref (He.ma K (He.ga K "Both") "__invert__")) = true),
  decide (PySem.W.findIn K (.ref (He.ga K "Either")) "__invert__" = some (some (.ref (He.ma K (He.ga K "Either") "__invert__")))),
  decide (PySem.W.isFn K (.ref (He.ma K (He.ga K "Either") "__invert__")) = true),
  decide (PySem.W.findIn K (.ref (He.ga K "Inverse")) "__invert__" = some (some (.ref (He.ma K (He.ga K "Inverse") "__invert__")))),
  decide (PySem.W.isFn K (.ref (He.ma K (He.ga K "Inverse") "__invert__")) = true),
  decide (PySem.W.findIn K (.ref (He.ga K "Kind")) "__or__" = some (some (.ref (He.ma K (He.ga K "Kind") "__or__")))),
  decide (PySem.W.isFn K (.ref (He.ma K (He.ga K "Kind") "__or__")) = true),
  decide (PySem.W.findIn K (.ref (He.ga K "Equals")) "__or__" = some (some (.ref (He.ma K (He.ga K "Equals") "__or__")))),
  decide (PySem.W.isFn K (.ref (He.ma K (He.ga K "Equals") "__or__")) = true),
  decide (PySem.W.findIn K (.ref (He.ga K "Size")) "__or__" = some (some (.ref (He.ma K (He.ga K "Size") "__or__")))),
  decide (PySem.W.isFn K (.ref (He.ma K (He.ga K "Size") "__or__")) = true),
  decide (PySem.W.findIn K (.ref (He.ga K "Has")) "__or__" = some (some (.ref (He.ma K (He.ga K "Has") "__or__")))),
  decide (PySem.W.isFn K (.ref (He.ma K (He.ga K "Has") "__or__")) = true),
  decide (PySem.W.findIn K (.ref (He.ga K "Item")) "__or__" = some (some (.ref (He.ma K (He.ga K "Item") "__or__")))),
  decide (PySem.W.isFn K (.ref (He.ma K (He.ga K "Item") "__or__")) = true),
  decide (PySem.W.findIn K (.ref (He.ga K "Before")) "__or__" = some (some (.ref (He.ma K (He.ga K "Before") "__or__")))),
  decide (PySem.W.isFn K (.ref (He.ma K (He.ga K "Before") "__or__")) = true),
  decide (PySem.W.findIn K (.ref (He.ga K "First")) "__or__" = some (some (.ref (He.ma K (He.ga K "First") "__or__")))),
  decide (PySem.W.isFn K (.ref (He.ma K (He.ga K "First") "__or__")) = true),
  decide (PySem.W.findIn K (.ref (He.ga K "Every")) "__or__" = some (some (.ref (He.ma K (He.ga K "Every") "__or__")))),
  decide (PySem.W.isFn K (.ref (He.ma K (He.ga K "Every") "__or__")) = true),
  decide (PySem.W.findIn K (.ref (He.ga K "Some")) "__or__" = some (some (.ref (He.ma K (He.ga K "Some") "__or__")))),
  decide (PySem.W.isFn K (.ref (He.ma K (He.ga K "Some") "__or__")) = true),
  decide (PySem.W.findIn K (.ref (He.ga K "Both")) "__or__" = some (some (.ref (He.ma K (He.ga K "Both") "__or__")))),
  decide (PySem.W.isFn K (.ref (He.ma K (He.ga K "Both") "__or__")) = true),
  decide (PySem.W.findIn K (.ref (He.ga K "Either")) "__or__" = some (some (.ref (He.ma K (He.ga K "Either") "__or__")))),
  decide (PySem.W.isFn K (.ref (He.ma K (He.ga K "Either") "__or__")) = true),
  decide (PySem.W.findIn K (.ref (He.ga K "Inverse")) "__or__" = some (some (.ref (He.ma K (He.ga K "Inverse") "__or__")))),
  decide (PySem.W.isFn K (.ref (He.ma K (He.ga K "Inverse") "__or__")) = true),
  decide (PySem.W.findIn K (.ref (He.ga K "Kind")) "leaves" = some (some (.ref (He.ma K (He.ga K "Kind") "leaves")))),
  decide (PySem.W.isFn K (.ref (He.ma K (He.ga K "Kind") "leaves")) = true),
  decide (PySem.W.findIn K (.ref (He.ga K "Equals")) "leaves" = some (some (.ref (He.ma K (He.ga K "Equals") "leaves")))),
  decide (PySem.W.isFn K (.ref (He.ma K (He.ga K "Equals") "leaves")) = true),
  decide (PySem.W.findIn K (.ref (He.ga K "Size")) "leaves" = some (some (.ref (He.ma K (He.ga K "Size") "leaves")))),
  decide (PySem.W.isFn K (.ref (He.ma K (He.ga K "Size") "leaves")) = true),
  decide (PySem.W.findIn K (.ref (He.ga K "Has")) "leaves" = some (some (.ref (He.ma K (He.ga K "Has") "leaves")))),
  decide (PySem.W.isFn K (.ref (He.ma K (He.ga K "Has") "leaves")) = true),
  decide (PySem.W.findIn K (.ref (He.ga K "Item")) "leaves" = some (some (.ref (He.ma K (He.ga K "Item") "leaves")))),
  decide (PySem.W.isFn K (.ref (He.ma K (He.ga K "Item") "leaves")) = true),
  decide (PySem.W.findIn K (.ref (He.ga K "Before")) "leaves" = some (some (.ref (He.ma K (He.ga K "Before") "leaves")))),
  decide (PySem.W.isFn K (.ref (He.ma K (He.ga K "Before") "leaves")) = true),
  decide (PySem.W.findIn K (.ref (He.ga K "First")) "leaves" = some (some (.ref (He.ma K (He.ga K "First") "leaves")))),
  decide (PySem.W.isFn K (.ref (He.ma K (He.ga K "First") "leaves")) = true),
  decide (PySem.W.findIn K (.ref (He.ga K "Every")) "leaves" = some (some (.ref (He.ma K (He.ga K "Every") "leaves")))),
  decide (PySem.W.isFn K (.ref (He.ma K (He.ga K "Every") "leaves")) = true),
  decide (PySem.W.findIn K (.ref (He.ga K "Some")) "leaves" = some (some (.ref (He.ma K (He.ga K "Some") "leaves")))),
  decide (PySem.W.isFn K (.ref (He.ma K (He.ga K "Some") "leaves")) = true),
  decide (PySem.W.findIn K (.ref (He.ga K "Both")) "leaves" = some (some (.ref (He.ma K (He.ga K "Both") "leaves")))),
  decide (PySem.W.isFn K (.ref (He.ma K (He.ga K "Both") "leaves")) = true),
  decide (PySem.W.findIn K (.ref (He.ga K "Either")) "leaves" = some (some (.ref (He.ma K (He.ga K "Either") "leaves")))),
  decide (PySem.W.isFn K (.ref (He.ma K (He.ga K "Either") "leaves")) = true),
  decide (PySem.W.findIn K (.ref (He.ga K "Inverse")) "leaves" = some (some (.ref (He.ma K (He.ga K "Inverse") "leaves")))),
  decide (PySem.W.isFn K (.ref (He.ma K (He.ga K "Inverse") "leaves")) = true),
  decide (PySem.W.findIn K (.ref (He.ga K "Kind")) "own_keys" = some (some (.ref (He.ma K (He.ga K "Kind") "own_keys")))),
  decide (PySem.W.isFn K (.ref (He.ma K (He.ga K "Kind") "own_keys")) = true),
  decide (PySem.W.findIn K (.ref (He.ga K "Equals")) "own_keys" = some (some (.ref (He.ma K (He.ga K "Equals") "own_keys")))),
  decide (PySem.W.isFn K (.ref (He.ma K (He.ga K "Equals") "own_keys")) = true),
  decide (PySem.W.findIn K (.ref (He.ga K "Size")) "own_keys" = some (some (.ref (He.ma K (He.ga K "Size") "own_keys")))),
  decide (PySem.W.isFn K (.ref (He.ma K (He.ga K "Size") "own_keys")) = true),
  decide (PySem.W.findIn K (.ref (He.ga K "Has")) "own_keys" = some (some (.ref (He.ma K (He.ga K "Has") "own_keys")))),
  decide (PySem.W.isFn K (.ref (He.ma K (He.ga K "Has") "own_keys")) = true),
  decide (PySem.W.findIn K (.ref (He.ga K "Item")) "own_keys" = some (some (.ref (He.ma K (He.ga K "Item") "own_keys")))),
  decide (PySem.W.isFn K (.ref (He.ma K (He.ga K "Item") "own_keys")) = true),
  decide (PySem.W.findIn K (.ref (He.ga K "Before")) "own_keys" = some (some (.ref (He.ma K (He.ga K "Before") "own_keys")))),
  decide (PySem.W.isFn K (.ref (He.ma K (He.ga K "Before") "own_keys")) = true),
  decide (PySem.W.findIn K (.ref (He.ga K "First")) "own_keys" = some (some (.ref (He.ma K (He.ga K "First") "own_keys")))),
  decide (PySem.W.isFn K (.ref (He.ma K (He.ga K "First") "own_keys")) = true),
  decide (PySem.W.findIn K (.ref (He.ga K "Every")) "own_keys" = some (some (.ref (He.ma K (He.ga K "Every") "own_keys")))),
  decide (PySem.W.isFn K (.ref (He.ma K (He.ga K "Every") "own_keys")) = true),
  decide (PySem.W.findIn K (.ref (He.ga K "Some")) "own_keys" = some (some (.ref (He.ma K (He.ga K "Some") "own_keys")))),
  decide (PySem.W.isFn K (.ref (He.ma K (He.ga K "Some") "own_keys")) = true),
  decide (PySem.W.findIn K (.ref (He.ga K "Both")) "own_keys" = some (some (.ref (He.ma K (He.ga K "Both") "own_keys")))),
  decide (PySem.W.isFn K (.ref (He.ma K (He.ga K "Both") "own_keys")) = true),
  decide (PySem.W.findIn K (.ref (He.ga K "Either")) "own_keys" = some (some (.ref (He.ma K (He.ga K "Either") "own_keys")))),
  decide (PySem.W.isFn K (.ref (He.ma K (He.ga K "Either") "own_keys")) = true),
  decide (PySem.W.findIn K (.ref (He.ga K "Inverse")) "own_keys" = some (some (.ref (He.ma K (He.ga K "Inverse") "own_keys")))),
  decide (PySem.W.isFn K (.ref (He.ma K (He.ga K "Inverse") "own_keys")) = true),
  decide (PySem.W.findIn K (.ref (He.ga K "Kind")) "key_list" = some (some (.ref (He.ma K (He.ga K "Kind") "key_list")))),
  decide (PySem.W.isFn K (.ref (He.ma K (He.ga K "Kind") "key_list")) = true),
  decide (PySem.W.findIn K (.ref (He.ga K "Equals")) "key_list" = some (some (.ref (He.ma K (He.ga K "Equals") "key_list")))),
  decide (PySem.W.isFn K (.ref (He.ma K (He.ga K "Equals") "key_list")) = true),
  decide (PySem.W.findIn K (.ref (He.ga K "Size")) "key_list" = some (some (.ref (He.ma K (He.ga K "Size") "key_list")))),
  decide (PySem.W.isFn K (.ref (He.ma K (He.ga K "Size") "key_list")) = true),
  decide (PySem.W.findIn K (.ref (He.ga K "Has")) "key_list" = some (some (.ref (He.ma K (He.ga K "Has") "key_list")))),
  decide (PySem.W.isFn K (.ref (He.ma K (He.ga K "Has") "key_list")) = true),
  decide (PySem.W.findIn K (.ref (He.ga K "Item")) "key_list" = some (some (.ref (He.ma K (He.ga K "Item") "key_list")))),
  decide (PySem.W.isFn K (.ref (He.ma K (He.ga K "Item") "key_list")) = true),
  decide (PySem.W.findIn K (.ref (He.ga K "Before")) "key_list" = some (some (.ref (He.ma K (He.ga K "Before") "key_list")))),
  decide (PySem.W.isFn K (.ref (He.ma K (He.ga K "Before") "key_list")) = true),
  decide (PySem.W.findIn K (.ref (He.ga K "First")) "key_list" = some (some (.ref (He.ma K (He.ga K "First") "key_list")))),
  decide (PySem.W.isFn K (.ref (He.ma K (He.ga K "First") "key_list")) = true),
  decide (PySem.W.findIn K (.ref (He.ga K "Every")) "key_list" = some (some (.ref (He.ma K (He.ga K "Every") "key_list")))),
  decide (PySem.W.isFn K (.ref (He.ma K (He.ga K "Every") "key_list")) = true),
  decide (PySem.W.findIn K (.ref (He.ga K "Some")) "key_list" = some (some (.ref (He.ma K (He.ga K "Some") "key_list")))),
  decide (PySem.W.isFn K (.ref (He.ma K (He.ga K "Some") "key_list")) = true),
  decide (PySem.W.findIn K (.ref (He.ga K "Both")) "key_list" = some (some (.ref (He.ma K (He.ga K "Both") "key_list")))),
  decide (PySem.W.isFn K (.ref (He.ma K (He.ga K "Both") "key_list")) = true),
  decide (PySem.W.findIn K (.ref (He.ga K "Either")) "key_list" = some (some (.ref (He.ma K (He.ga K "Either") "key_list")))),
  decide (PySem.W.isFn K (.ref (He.ma K (He.ga K "Either") "key_list")) = true),
  decide (PySem.W.findIn K (.ref (He.ga K "Inverse")) "key_list" = some (some (.ref (He.ma K (He.ga K "Inverse") "key_list")))),
  decide (PySem.W.isFn K (.ref (He.ma K (He.ga K "Inverse") "key_list")) = true),
  decide (PySem.W.findIn K (.ref (He.ga K "Kind")) "own_labels" = some (some (.ref (He.ma K (He.ga K "Kind") "own_labels")))),
  decide (PySem.W.isFn K (.ref (He.ma K (He.ga K "Kind") "own_labels")) = true),
  decide (PySem.W.findIn K (.ref (He.ga K "Equals")) "own_labels" = some (some (.ref (He.ma K (He.ga K "Equals") "own_labels")))),
  decide (PySem.W.isFn K (.ref (He.ma K (He.ga K "Equals") "own_labels")) = true),
  decide (PySem.W.findIn K (.ref (He.ga K "Size")) "own_labels" = some (some (.ref (He.ma K (He.ga K "Size") "own_labels")))),
  decide (PySem.W.isFn K (.ref (He.ma K (He.ga K "Size") "own_labels")) = true),
  decide (PySem.W.findIn K (.ref (He.ga K "Has")) "own_labels" = some (some (.ref (He.ma K (He.ga K "Has") "own_labels")))),
  decide (PySem.W.isFn K (.ref (He.ma K (He.ga K "Has") "own_labels")) = true),
  decide (PySem.W.findIn K (.ref (He.ga K "Item")) "own_labels" = some (some (.ref (He.ma K (He.ga K "Item") "own_labels")))),
  decide (PySem.W.isFn K (.ref (He.ma K (He.ga K "Item") "own_labels")) = true),
  decide (PySem.W.findIn K (.ref (He.ga K "Before")) "own_labels" = some (some (.ref (He.ma K (He.ga K "Before") "own_labels")))),
  decide (PySem.W.isFn K (.ref (He.ma K (He.ga K "Before") "own_labels")) = true),
  decide (PySem.W.findIn K (.ref (He.ga K "First")) "own_labels" = some (some (.ref (He.ma K (He.ga K "First") "own_labels")))),
  decide (PySem.W.isFn K (.ref (He.ma K (He.ga K "First") "own_labels")) = true),
  decide (PySem.W.findIn K (.ref (He.ga K "Every")) "own_labels" = some (some (.ref (He.ma K (He.ga K "Every") "own_labels")))),
  decide (PySem.W.isFn K (.ref (He.ma K (He.ga K "Every") "own_labels")) = true),
  decide (PySem.W.findIn K (.ref (He.ga K "Some")) "own_labels" = some (some (.ref (He.ma K (He.ga K "Some") "own_labels")))),
  decide (PySem.W.isFn K (.ref (He.ma K (He.ga K "Some") "own_labels")) = true),
  decide (PySem.W.findIn K (.ref (He.ga K "Both")) "own_labels" = some (some (.ref (He.ma K (He.ga K "Both") "own_labels")))),
  decide (PySem.W.isFn K (.ref (He.ma K (He.ga K "Both") "own_labels")) = true),
  decide (PySem.W.findIn K (.ref (He.ga K "Either")) "own_labels" = some (some (.ref (He.ma K (He.ga K "Either") "own_labels")))),
  decide (PySem.W.isFn K (.ref (He.ma K (He.ga K "Either") "own_labels")) = true),
  decide (PySem.W.findIn K (.ref (He.ga K "Inverse")) "own_labels" = some (some (.ref (He.ma K (He.ga K "Inverse") "own_labels")))),
  decide (PySem.W.isFn K (.ref (He.ma K (He.ga K "Inverse") "own_labels")) = true),
  decide (PySem.W.findIn K (.ref (He.ga K "Kind")) "label_list" = some (some (.ref (He.ma K (He.ga K "Kind") "label_list")))),
  decide (PySem.W.isFn K (.ref (He.ma K (He.ga K "Kind") "label_list")) = true),
  decide (PySem.W.findIn K (.ref (He.ga K "Equals")) "label_list" = some (some (.ref (He.ma K (He.ga K "Equals") "label_list")))),
  decide (PySem.W.isFn K (.ref (He.ma K (He.ga K "Equals") "label_list")) = true),
  decide (PySem.W.findIn K (.ref (He.ga K "Size")) "label_list" = some (some (.ref (He.ma K (He.ga K "Size") "label_list")))),
  decide (PySem.W.isFn K (.ref (He.ma K (He.ga K "Size") "label_list")) = true),
  decide (PySem.W.findIn K (.ref (He.ga K "Has")) "label_list" = some (some (.ref (He.ma K (He.ga K "Has") "label_list")))),
  decide (PySem.W.isFn K (.ref (He.ma K (He.ga K "Has") "label_list")) = true),
  decide (PySem.W.findIn K (.ref (He.ga K "Item")) "label_list" = some (some (.ref (He.ma K (He.ga K "Item") "label_list")))),
  decide (PySem.W.isFn K (.ref (He.ma K (He.ga K "Item") "label_list")) = true),
  decide (PySem.W.findIn K (.ref (He.ga K "Before")) "label_list" = some (some (.ref (He.ma K (He.ga K "Before") "label_list")))),
  decide (PySem.W.isFn K (.ref (He.ma K (He.ga K "Before") "label_list")) = true),
  decide (PySem.W.findIn K (.ref (He.ga K "First")) "label_list" = some (some (.ref (He.ma K (He.ga K "First") "label_list")))),
  decide (PySem.W.isFn K (.ref (He.ma K (He.ga K "First") "label_list")) = true),
  decide (PySem.W.findIn K (.ref (He.ga K "Every")) "label_list" = some (some (.ref (He.ma K (He.ga K "Every") "label_list")))),
  decide (PySem.W.isFn K (.ref (He.ma K (He.ga K "Every") "label_list")) = true),
  decide (PySem.W.findIn K (.ref (He.ga K "Some")) "label_list" = some (some (.ref (He.ma K (He.ga K "Some") "label_list")))),
  decide (PySem.W.isFn K (.ref (He.ma K (He.ga K "Some") "label_list")) = true),
  decide (PySem.W.findIn K (.ref (He.ga K "Both")) "label_list" = some (some (.ref (He.ma K (He.ga K "Both") "label_list")))),
  decide (PySem.W.isFn K (.ref (He.ma K (He.ga K "Both") "label_list")) = true),
  decide (PySem.W.findIn K (.ref (He.ga K "Either")) "label_list" = some (some (.ref (He.ma K (He.ga K "Either") "label_list")))),
  decide (PySem.W.isFn K (.ref (He.ma K (He.ga K "Either") "label_list")) = true),
  decide (PySem.W.findIn K (.ref (He.ga K "Inverse")) "label_list" = some (some (.ref (He.ma K (He.ga K "Inverse") "label_list")))),
  decide (PySem.W.isFn K (.ref (He.ma K (He.ga K "Inverse") "label_list")) = true),
  decide (PySem.W.nsIn K mainGlobals "Condition" = some (some (.ref (He.ga K "Condition")))),
  decide (PySem.W.plainGet K (He.ga K "Condition") Str.empty = true),
  decide (PySem.W.hasDictIn K (He.ga K "Condition") = true),
  decide (PySem.W.plainOver K (He.ga K "Condition") = true),
  decide (PySem.W.findIn K (.ref (He.ga K "Condition")) "__setattr__" = some (some (.builtin "object.__setattr__"))),
  decide (PySem.W.findIn K (.ref (He.ga K "Condition")) "__class__" = some (some (.builtin "object.__class__"))),
  decide (PySem.W.specialIn K (.builtin "object.__class__") "__get__" = some (some (.builtin "getset_descriptor.__get__"))),
  decide (PySem.W.takesIn K (.builtin "object.__class__") = some true),
  decide (PySem.W.mroIn K (He.ga K "Condition") (.type "object") = some true),
  decide (PySem.W.keepIn K (.ref (He.ga K "Condition")) = true),
  decide (PySem.W.makesIn K (He.ga K "Condition") = true),
  decide (PySem.W.nsIn K mainGlobals "Both" = some (some (.ref (He.ga K "Both")))),
  decide (PySem.W.plainGet K (He.ga K "Both") Str.empty = true),
  decide (PySem.W.hasDictIn K (He.ga K "Both") = true),
  decide (PySem.W.plainOver K (He.ga K "Both") = true),
  decide (PySem.W.findIn K (.ref (He.ga K "Both")) "__setattr__" = some (some (.builtin "object.__setattr__"))),
  decide (PySem.W.findIn K (.ref (He.ga K "Both")) "__class__" = some (some (.builtin "object.__class__"))),
  decide (PySem.W.mroIn K (He.ga K "Both") (.type "object") = some true),
  decide (PySem.W.keepIn K (.ref (He.ga K "Both")) = true),
  decide (PySem.W.makesIn K (He.ga K "Both") = true),
  decide (PySem.W.nsIn K mainGlobals "Either" = some (some (.ref (He.ga K "Either")))),
  decide (PySem.W.plainGet K (He.ga K "Either") Str.empty = true),
  decide (PySem.W.hasDictIn K (He.ga K "Either") = true),
  decide (PySem.W.plainOver K (He.ga K "Either") = true),
  decide (PySem.W.findIn K (.ref (He.ga K "Either")) "__setattr__" = some (some (.builtin "object.__setattr__"))),
  decide (PySem.W.findIn K (.ref (He.ga K "Either")) "__class__" = some (some (.builtin "object.__class__"))),
  decide (PySem.W.mroIn K (He.ga K "Either") (.type "object") = some true),
  decide (PySem.W.keepIn K (.ref (He.ga K "Either")) = true),
  decide (PySem.W.makesIn K (He.ga K "Either") = true),
  decide (PySem.W.nsIn K mainGlobals "Inverse" = some (some (.ref (He.ga K "Inverse")))),
  decide (PySem.W.plainGet K (He.ga K "Inverse") Str.empty = true),
  decide (PySem.W.hasDictIn K (He.ga K "Inverse") = true),
  decide (PySem.W.plainOver K (He.ga K "Inverse") = true),
  decide (PySem.W.findIn K (.ref (He.ga K "Inverse")) "__setattr__" = some (some (.builtin "object.__setattr__"))),
  decide (PySem.W.findIn K (.ref (He.ga K "Inverse")) "__class__" = some (some (.builtin "object.__class__"))),
  decide (PySem.W.mroIn K (He.ga K "Inverse") (.type "object") = some true),
  decide (PySem.W.keepIn K (.ref (He.ga K "Inverse")) = true),
  decide (PySem.W.makesIn K (He.ga K "Inverse") = true),
  decide (PySem.W.nsIn K mainGlobals "Kind" = some (some (.ref (He.ga K "Kind")))),
  decide (PySem.W.plainGet K (He.ga K "Kind") Str.empty = true),
  decide (PySem.W.hasDictIn K (He.ga K "Kind") = true),
  decide (PySem.W.plainOver K (He.ga K "Kind") = true),
  decide (PySem.W.findIn K (.ref (He.ga K "Kind")) "__setattr__" = some (some (.builtin "object.__setattr__"))),
  decide (PySem.W.findIn K (.ref (He.ga K "Kind")) "__class__" = some (some (.builtin "object.__class__"))),
  decide (PySem.W.mroIn K (He.ga K "Kind") (.type "object") = some true),
  decide (PySem.W.keepIn K (.ref (He.ga K "Kind")) = true),
  decide (PySem.W.makesIn K (He.ga K "Kind") = true),
  decide (PySem.W.nsIn K mainGlobals "Equals" = some (some (.ref (He.ga K "Equals")))),
  decide (PySem.W.plainGet K (He.ga K "Equals") Str.empty = true),
  decide (PySem.W.hasDictIn K (He.ga K "Equals") = true),
  decide (PySem.W.plainOver K (He.ga K "Equals") = true),
  decide (PySem.W.findIn K (.ref (He.ga K "Equals")) "__setattr__" = some (some (.builtin "object.__setattr__"))),
  decide (PySem.W.findIn K (.ref (He.ga K "Equals")) "__class__" = some (some (.builtin "object.__class__"))),
  decide (PySem.W.mroIn K (He.ga K "Equals") (.type "object") = some true),
  decide (PySem.W.keepIn K (.ref (He.ga K "Equals")) = true),
  decide (PySem.W.makesIn K (He.ga K "Equals") = true),
  decide (PySem.W.nsIn K mainGlobals "Size" = some (some (.ref (He.ga K "Size")))),
  decide (PySem.W.plainGet K (He.ga K "Size") Str.empty = true),
  decide (PySem.W.hasDictIn K (He.ga K "Size") = true),
  decide (PySem.W.plainOver K (He.ga K "Size") = true),
  decide (PySem.W.findIn K (.ref (He.ga K "Size")) "__setattr__" = some (some (.builtin "object.__setattr__"))),
  decide (PySem.W.findIn K (.ref (He.ga K "Size")) "__class__" = some (some (.builtin "object.__class__"))),
  decide (PySem.W.mroIn K (He.ga K "Size") (.type "object") = some true),
  decide (PySem.W.keepIn K (.ref (He.ga K "Size")) = true),
  decide (PySem.W.makesIn K (He.ga K "Size") = true),
  decide (PySem.W.nsIn K mainGlobals "Has" = some (some (.ref (He.ga K "Has")))),
  decide (PySem.W.plainGet K (He.ga K "Has") Str.empty = true),
  decide (PySem.W.hasDictIn K (He.ga K "Has") = true),
  decide (PySem.W.plainOver K (He.ga K "Has") = true),
  decide (PySem.W.findIn K (.ref (He.ga K "Has")) "__setattr__" = some (some (.builtin "object.__setattr__"))),
  decide (PySem.W.findIn K (.ref (He.ga K "Has")) "__class__" = some (some (.builtin "object.__class__"))),
  decide (PySem.W.mroIn K (He.ga K "Has") (.type "object") = some true),
  decide (PySem.W.keepIn K (.ref (He.ga K "Has")) = true),
  decide (PySem.W.makesIn K (He.ga K "Has") = true),
  decide (PySem.W.nsIn K mainGlobals "Item" = some (some (.ref (He.ga K "Item")))),
  decide (PySem.W.plainGet K (He.ga K "Item") Str.empty = true),
  decide (PySem.W.hasDictIn K (He.ga K "Item") = true),
  decide (PySem.W.plainOver K (He.ga K "Item") = true),
  decide (PySem.W.findIn K (.ref (He.ga K "Item")) "__setattr__" = some (some (.builtin "object.__setattr__"))),
  decide (PySem.W.findIn K (.ref (He.ga K "Item")) "__class__" = some (some (.builtin "object.__class__"))),
  decide (PySem.W.mroIn K (He.ga K "Item") (.type "object") = some true),
  decide (PySem.W.keepIn K (.ref (He.ga K "Item")) = true),
  decide (PySem.W.makesIn K (He.ga K "Item") = true),
  decide (PySem.W.nsIn K mainGlobals "Before" = some (some (.ref (He.ga K "Before")))),
  decide (PySem.W.plainGet K (He.ga K "Before") Str.empty = true),
  decide (PySem.W.hasDictIn K (He.ga K "Before") = true),
  decide (PySem.W.plainOver K (He.ga K "Before") = true),
  decide (PySem.W.findIn K (.ref (He.ga K "Before")) "__setattr__" = some (some (.builtin "object.__setattr__"))),
  decide (PySem.W.findIn K (.ref (He.ga K "Before")) "__class__" = some (some (.builtin "object.__class__"))),
  decide (PySem.W.mroIn K (He.ga K "Before") (.type "object") = some true),
  decide (PySem.W.keepIn K (.ref (He.ga K "Before")) = true),
  decide (PySem.W.makesIn K (He.ga K "Before") = true),
  decide (PySem.W.nsIn K mainGlobals "First" = some (some (.ref (He.ga K "First")))),
  decide (PySem.W.plainGet K (He.ga K "First") Str.empty = true),
  decide (PySem.W.hasDictIn K (He.ga K "First") = true),
  decide (PySem.W.plainOver K (He.ga K "First") = true),
  decide (PySem.W.findIn K (.ref (He.ga K "First")) "__setattr__" = some (some (.builtin "object.__setattr__"))),
  decide (PySem.W.findIn K (.ref (He.ga K "First")) "__class__" = some (some (.builtin "object.__class__"))),
  decide (PySem.W.mroIn K (He.ga K "First") (.type "object") = some true),
  decide (PySem.W.keepIn K (.ref (He.ga K "First")) = true),
  decide (PySem.W.makesIn K (He.ga K "First") = true),
  decide (PySem.W.nsIn K mainGlobals "Every" = some (some (.ref (He.ga K "Every")))),
  decide (PySem.W.plainGet K (He.ga K "Every") Str.empty = true),
  decide (PySem.W.hasDictIn K (He.ga K "Every") = true),
  decide (PySem.W.plainOver K (He.ga K "Every") = true),
  decide (PySem.W.findIn K (.ref (He.ga K "Every")) "__setattr__" = some (some (.builtin "object.__setattr__"))),
  decide (PySem.W.findIn K (.ref (He.ga K "Every")) "__class__" = some (some (.builtin "object.__class__"))),
  decide (PySem.W.mroIn K (He.ga K "Every") (.type "object") = some true),
  decide (PySem.W.keepIn K (.ref (He.ga K "Every")) = true),
  decide (PySem.W.makesIn K (He.ga K "Every") = true),
  decide (PySem.W.nsIn K mainGlobals "Some" = some (some (.ref (He.ga K "Some")))),
  decide (PySem.W.plainGet K (He.ga K "Some") Str.empty = true),
  decide (PySem.W.hasDictIn K (He.ga K "Some") = true),
  decide (PySem.W.plainOver K (He.ga K "Some") = true),
  decide (PySem.W.findIn K (.ref (He.ga K "Some")) "__setattr__" = some (some (.builtin "object.__setattr__"))),
  decide (PySem.W.findIn K (.ref (He.ga K "Some")) "__class__" = some (some (.builtin "object.__class__"))),
  decide (PySem.W.mroIn K (He.ga K "Some") (.type "object") = some true),
  decide (PySem.W.keepIn K (.ref (He.ga K "Some")) = true),
  decide (PySem.W.makesIn K (He.ga K "Some") = true),
  decide (PySem.W.nsIn K mainGlobals "KeysError" = some (some (.ref (He.ga K "KeysError")))),
  decide (PySem.W.nsIn K mainGlobals "BadCondition" = some (some (.ref (He.ga K "BadCondition")))),
  oexB K (He.ga K "BadCondition"),
  decide (PySem.W.findIn K (.ref (He.ga K "BadCondition")) "__setattr__" = some (some (.builtin "object.__setattr__"))),
  decide (PySem.W.subIn K (.ref (He.ga K "BadCondition")) (.type "BaseException") = some true),
  decide (PySem.W.typeIn K (.ref (He.ga K "BadCondition")) = some (.type "type")),
  decide (PySem.W.keepIn K (.ref (He.ga K "BadCondition")) = true),
  decide (PySem.W.kitOne K (.type "NoneType") (.ref (He.ga K "Condition")) = some false),
  decide (PySem.W.kitOne K (.type "bool") (.ref (He.ga K "Condition")) = some false),
  decide (PySem.W.kitOne K (.ref (He.ga K "Condition")) (.type "bool") = some false),
  decide (PySem.W.kitOne K (.type "int") (.ref (He.ga K "Condition")) = some false),
  decide (PySem.W.kitOne K (.ref (He.ga K "Condition")) (.type "int") = some false),
  decide (PySem.W.kitOne K (.type "str") (.ref (He.ga K "Condition")) = some false),
  decide (PySem.W.kitOne K (.ref (He.ga K "Condition")) (.type "str") = some false),
  decide (PySem.W.kitOne K (.type "list") (.ref (He.ga K "Condition")) = some false),
  decide (PySem.W.kitOne K (.ref (He.ga K "Condition")) (.type "list") = some false),
  decide (PySem.W.kitOne K (.type "tuple") (.ref (He.ga K "Condition")) = some false),
  decide (PySem.W.kitOne K (.ref (He.ga K "Condition")) (.type "tuple") = some false),
  decide (PySem.W.kitOne K (.type "dict") (.ref (He.ga K "Condition")) = some false),
  decide (PySem.W.kitOne K (.ref (He.ga K "Condition")) (.ref (He.ga K "Condition")) = some true),
  decide (PySem.W.findIn K (.ref (He.ga K "Both")) "left" = some none),
  decide (PySem.W.findIn K (.ref (He.ga K "Both")) "right" = some none),
  decide (PySem.W.selfFirst K (He.ga K "Both") = true),
  decide (PySem.W.kitOne K (.ref (He.ga K "Both")) (.ref (He.ga K "Condition")) = some true),
  decide (PySem.W.findIn K (.ref (He.ga K "Both")) "__rand__" = some none),
  decide (PySem.W.findIn K (.ref (He.ga K "Both")) "__ror__" = some none),
  decide (PySem.W.subIn K (.ref (He.ga K "Both")) (.ref (He.ga K "Kind")) = some false),
  decide (PySem.W.subIn K (.ref (He.ga K "Both")) (.ref (He.ga K "Equals")) = some false),
  decide (PySem.W.subIn K (.ref (He.ga K "Both")) (.ref (He.ga K "Size")) = some false),
  decide (PySem.W.subIn K (.ref (He.ga K "Both")) (.ref (He.ga K "Has")) = some false),
  decide (PySem.W.subIn K (.ref (He.ga K "Both")) (.ref (He.ga K "Item")) = some false),
  decide (PySem.W.subIn K (.ref (He.ga K "Both")) (.ref (He.ga K "Before")) = some false),
  decide (PySem.W.subIn K (.ref (He.ga K "Both")) (.ref (He.ga K "First")) = some false),
  decide (PySem.W.subIn K (.ref (He.ga K "Both")) (.ref (He.ga K "Every")) = some false),
  decide (PySem.W.subIn K (.ref (He.ga K "Both")) (.ref (He.ga K "Some")) = some false),
  decide (PySem.W.subIn K (.ref (He.ga K "Both")) (.ref (He.ga K "Either")) = some false),
  decide (PySem.W.subIn K (.ref (He.ga K "Both")) (.ref (He.ga K "Inverse")) = some false),
  decide (PySem.W.findIn K (.ref (He.ga K "Either")) "left" = some none),
  decide (PySem.W.findIn K (.ref (He.ga K "Either")) "right" = some none),
  decide (PySem.W.selfFirst K (He.ga K "Either") = true),
  decide (PySem.W.kitOne K (.ref (He.ga K "Either")) (.ref (He.ga K "Condition")) = some true),
  decide (PySem.W.findIn K (.ref (He.ga K "Either")) "__rand__" = some none),
  decide (PySem.W.findIn K (.ref (He.ga K "Either")) "__ror__" = some none),
  decide (PySem.W.subIn K (.ref (He.ga K "Either")) (.ref (He.ga K "Kind")) = some false),
  decide (PySem.W.subIn K (.ref (He.ga K "Either")) (.ref (He.ga K "Equals")) = some false),
  decide (PySem.W.subIn K (.ref (He.ga K "Either")) (.ref (He.ga K "Size")) = some false),
  decide (PySem.W.subIn K (.ref (He.ga K "Either")) (.ref (He.ga K "Has")) = some false),
  decide (PySem.W.subIn K (.ref (He.ga K "Either")) (.ref (He.ga K "Item")) = some false),
  decide (PySem.W.subIn K (.ref (He.ga K "Either")) (.ref (He.ga K "Before")) = some false),
  decide (PySem.W.subIn K (.ref (He.ga K "Either")) (.ref (He.ga K "First")) = some false),
  decide (PySem.W.subIn K (.ref (He.ga K "Either")) (.ref (He.ga K "Every")) = some false),
  decide (PySem.W.subIn K (.ref (He.ga K "Either")) (.ref (He.ga K "Some")) = some false),
  decide (PySem.W.subIn K (.ref (He.ga K "Either")) (.ref (He.ga K "Both")) = some false),
  decide (PySem.W.subIn K (.ref (He.ga K "Either")) (.ref (He.ga K "Inverse")) = some false),
  decide (PySem.W.findIn K (.ref (He.ga K "Inverse")) "inner" = some none),
  decide (PySem.W.selfFirst K (He.ga K "Inverse") = true),
  decide (PySem.W.kitOne K (.ref (He.ga K "Inverse")) (.ref (He.ga K "Condition")) = some true),
  decide (PySem.W.findIn K (.ref (He.ga K "Inverse")) "__rand__" = some none),
  decide (PySem.W.findIn K (.ref (He.ga K "Inverse")) "__ror__" = some none),
  decide (PySem.W.subIn K (.ref (He.ga K "Inverse")) (.ref (He.ga K "Kind")) = some false),
  decide (PySem.W.subIn K (.ref (He.ga K "Inverse")) (.ref (He.ga K "Equals")) = some false),
  decide (PySem.W.subIn K (.ref (He.ga K "Inverse")) (.ref (He.ga K "Size")) = some false),
  decide (PySem.W.subIn K (.ref (He.ga K "Inverse")) (.ref (He.ga K "Has")) = some false),
  decide (PySem.W.subIn K (.ref (He.ga K "Inverse")) (.ref (He.ga K "Item")) = some false),
  decide (PySem.W.subIn K (.ref (He.ga K "Inverse")) (.ref (He.ga K "Before")) = some false),
  decide (PySem.W.subIn K (.ref (He.ga K "Inverse")) (.ref (He.ga K "First")) = some false),
  decide (PySem.W.subIn K (.ref (He.ga K "Inverse")) (.ref (He.ga K "Every")) = some false),
  decide (PySem.W.subIn K (.ref (He.ga K "Inverse")) (.ref (He.ga K "Some")) = some false),
  decide (PySem.W.subIn K (.ref (He.ga K "Inverse")) (.ref (He.ga K "Both")) = some false),
  decide (PySem.W.subIn K (.ref (He.ga K "Inverse")) (.ref (He.ga K "Either")) = some false),
  decide (PySem.W.findIn K (.ref (He.ga K "Kind")) "name" = some none),
  decide (PySem.W.selfFirst K (He.ga K "Kind") = true),
  decide (PySem.W.kitOne K (.ref (He.ga K "Kind")) (.ref (He.ga K "Condition")) = some true),
  decide (PySem.W.findIn K (.ref (He.ga K "Kind")) "__rand__" = some none),
  decide (PySem.W.findIn K (.ref (He.ga K "Kind")) "__ror__" = some none),
  decide (PySem.W.subIn K (.ref (He.ga K "Kind")) (.ref (He.ga K "Equals")) = some false),
  decide (PySem.W.subIn K (.ref (He.ga K "Kind")) (.ref (He.ga K "Size")) = some false),
  decide (PySem.W.subIn K (.ref (He.ga K "Kind")) (.ref (He.ga K "Has")) = some false),
  decide (PySem.W.subIn K (.ref (He.ga K "Kind")) (.ref (He.ga K "Item")) = some false),
  decide (PySem.W.subIn K (.ref (He.ga K "Kind")) (.ref (He.ga K "Before")) = some false),
  decide (PySem.W.subIn K (.ref (He.ga K "Kind")) (.ref (He.ga K "First")) = some false),
  decide (PySem.W.subIn K (.ref (He.ga K "Kind")) (.ref (He.ga K "Every")) = some false),
  decide (PySem.W.subIn K (.ref (He.ga K "Kind")) (.ref (He.ga K "Some")) = some false),
  decide (PySem.W.subIn K (.ref (He.ga K "Kind")) (.ref (He.ga K "Both")) = some false),
  decide (PySem.W.subIn K (.ref (He.ga K "Kind")) (.ref (He.ga K "Either")) = some false),
  decide (PySem.W.subIn K (.ref (He.ga K "Kind")) (.ref (He.ga K "Inverse")) = some false),
  decide (PySem.W.findIn K (.ref (He.ga K "Equals")) "atom" = some none),
  decide (PySem.W.selfFirst K (He.ga K "Equals") = true),
  decide (PySem.W.kitOne K (.ref (He.ga K "Equals")) (.ref (He.ga K "Condition")) = some true),
  decide (PySem.W.findIn K (.ref (He.ga K "Equals")) "__rand__" = some none),
  decide (PySem.W.findIn K (.ref (He.ga K "Equals")) "__ror__" = some none),
  decide (PySem.W.subIn K (.ref (He.ga K "Equals")) (.ref (He.ga K "Kind")) = some false),
  decide (PySem.W.subIn K (.ref (He.ga K "Equals")) (.ref (He.ga K "Size")) = some false),
  decide (PySem.W.subIn K (.ref (He.ga K "Equals")) (.ref (He.ga K "Has")) = some false),
  decide (PySem.W.subIn K (.ref (He.ga K "Equals")) (.ref (He.ga K "Item")) = some false),
  decide (PySem.W.subIn K (.ref (He.ga K "Equals")) (.ref (He.ga K "Before")) = some false),
  decide (PySem.W.subIn K (.ref (He.ga K "Equals")) (.ref (He.ga K "First")) = some false),
  decide (PySem.W.subIn K (.ref (He.ga K "Equals")) (.ref (He.ga K "Every")) = some false),
  decide (PySem.W.subIn K (.ref (He.ga K "Equals")) (.ref (He.ga K "Some")) = some false),
  decide (PySem.W.subIn K (.ref (He.ga K "Equals")) (.ref (He.ga K "Both")) = some false),
  decide (PySem.W.subIn K (.ref (He.ga K "Equals")) (.ref (He.ga K "Either")) = some false),
  decide (PySem.W.subIn K (.ref (He.ga K "Equals")) (.ref (He.ga K "Inverse")) = some false),
  decide (PySem.W.findIn K (.ref (He.ga K "Size")) "count" = some none),
  decide (PySem.W.selfFirst K (He.ga K "Size") = true),
  decide (PySem.W.kitOne K (.ref (He.ga K "Size")) (.ref (He.ga K "Condition")) = some true),
  decide (PySem.W.findIn K (.ref (He.ga K "Size")) "__rand__" = some none),
  decide (PySem.W.findIn K (.ref (He.ga K "Size")) "__ror__" = some none),
  decide (PySem.W.subIn K (.ref (He.ga K "Size")) (.ref (He.ga K "Kind")) = some false),
  decide (PySem.W.subIn K (.ref (He.ga K "Size")) (.ref (He.ga K "Equals")) = some false),
  decide (PySem.W.subIn K (.ref (He.ga K "Size")) (.ref (He.ga K "Has")) = some false),
  decide (PySem.W.subIn K (.ref (He.ga K "Size")) (.ref (He.ga K "Item")) = some false),
  decide (PySem.W.subIn K (.ref (He.ga K "Size")) (.ref (He.ga K "Before")) = some false),
  decide (PySem.W.subIn K (.ref (He.ga K "Size")) (.ref (He.ga K "First")) = some false),
  decide (PySem.W.subIn K (.ref (He.ga K "Size")) (.ref (He.ga K "Every")) = some false),
  decide (PySem.W.subIn K (.ref (He.ga K "Size")) (.ref (He.ga K "Some")) = some false),
  decide (PySem.W.subIn K (.ref (He.ga K "Size")) (.ref (He.ga K "Both")) = some false),
  decide (PySem.W.subIn K (.ref (He.ga K "Size")) (.ref (He.ga K "Either")) = some false),
  decide (PySem.W.subIn K (.ref (He.ga K "Size")) (.ref (He.ga K "Inverse")) = some false),
  decide (PySem.W.findIn K (.ref (He.ga K "Has")) "key" = some none),
  decide (PySem.W.selfFirst K (He.ga K "Has") = true),
  decide (PySem.W.kitOne K (.ref (He.ga K "Has")) (.ref (He.ga K "Condition")) = some true),
  decide (PySem.W.findIn K (.ref (He.ga K "Has")) "__rand__" = some none),
  decide (PySem.W.findIn K (.ref (He.ga K "Has")) "__ror__" = some none),
  decide (PySem.W.subIn K (.ref (He.ga K "Has")) (.ref (He.ga K "Kind")) = some false),
  decide (PySem.W.subIn K (.ref (He.ga K "Has")) (.ref (He.ga K "Equals")) = some false),
  decide (PySem.W.subIn K (.ref (He.ga K "Has")) (.ref (He.ga K "Size")) = some false),
  decide (PySem.W.subIn K (.ref (He.ga K "Has")) (.ref (He.ga K "Item")) = some false),
  decide (PySem.W.subIn K (.ref (He.ga K "Has")) (.ref (He.ga K "Before")) = some false),
  decide (PySem.W.subIn K (.ref (He.ga K "Has")) (.ref (He.ga K "First")) = some false),
  decide (PySem.W.subIn K (.ref (He.ga K "Has")) (.ref (He.ga K "Every")) = some false),
  decide (PySem.W.subIn K (.ref (He.ga K "Has")) (.ref (He.ga K "Some")) = some false),
  decide (PySem.W.subIn K (.ref (He.ga K "Has")) (.ref (He.ga K "Both")) = some false),
  decide (PySem.W.subIn K (.ref (He.ga K "Has")) (.ref (He.ga K "Either")) = some false),
  decide (PySem.W.subIn K (.ref (He.ga K "Has")) (.ref (He.ga K "Inverse")) = some false),
  decide (PySem.W.findIn K (.ref (He.ga K "Item")) "key" = some none),
  decide (PySem.W.findIn K (.ref (He.ga K "Item")) "label" = some none),
  decide (PySem.W.selfFirst K (He.ga K "Item") = true),
  decide (PySem.W.kitOne K (.ref (He.ga K "Item")) (.ref (He.ga K "Condition")) = some true),
  decide (PySem.W.findIn K (.ref (He.ga K "Item")) "__rand__" = some none),
  decide (PySem.W.findIn K (.ref (He.ga K "Item")) "__ror__" = some none),
  decide (PySem.W.subIn K (.ref (He.ga K "Item")) (.ref (He.ga K "Kind")) = some false),
  decide (PySem.W.subIn K (.ref (He.ga K "Item")) (.ref (He.ga K "Equals")) = some false),
  decide (PySem.W.subIn K (.ref (He.ga K "Item")) (.ref (He.ga K "Size")) = some false),
  decide (PySem.W.subIn K (.ref (He.ga K "Item")) (.ref (He.ga K "Has")) = some false),
  decide (PySem.W.subIn K (.ref (He.ga K "Item")) (.ref (He.ga K "Before")) = some false),
  decide (PySem.W.subIn K (.ref (He.ga K "Item")) (.ref (He.ga K "First")) = some false),
  decide (PySem.W.subIn K (.ref (He.ga K "Item")) (.ref (He.ga K "Every")) = some false),
  decide (PySem.W.subIn K (.ref (He.ga K "Item")) (.ref (He.ga K "Some")) = some false),
  decide (PySem.W.subIn K (.ref (He.ga K "Item")) (.ref (He.ga K "Both")) = some false),
  decide (PySem.W.subIn K (.ref (He.ga K "Item")) (.ref (He.ga K "Either")) = some false),
  decide (PySem.W.subIn K (.ref (He.ga K "Item")) (.ref (He.ga K "Inverse")) = some false),
  decide (PySem.W.findIn K (.ref (He.ga K "Before")) "first" = some none),
  decide (PySem.W.findIn K (.ref (He.ga K "Before")) "second" = some none),
  decide (PySem.W.selfFirst K (He.ga K "Before") = true),
  decide (PySem.W.kitOne K (.ref (He.ga K "Before")) (.ref (He.ga K "Condition")) = some true),
  decide (PySem.W.findIn K (.ref (He.ga K "Before")) "__rand__" = some none),
  decide (PySem.W.findIn K (.ref (He.ga K "Before")) "__ror__" = some none),
  decide (PySem.W.subIn K (.ref (He.ga K "Before")) (.ref (He.ga K "Kind")) = some false),
  decide (PySem.W.subIn K (.ref (He.ga K "Before")) (.ref (He.ga K "Equals")) = some false),
  decide (PySem.W.subIn K (.ref (He.ga K "Before")) (.ref (He.ga K "Size")) = some false),
  decide (PySem.W.subIn K (.ref (He.ga K "Before")) (.ref (He.ga K "Has")) = some false),
  decide (PySem.W.subIn K (.ref (He.ga K "Before")) (.ref (He.ga K "Item")) = some false),
  decide (PySem.W.subIn K (.ref (He.ga K "Before")) (.ref (He.ga K "First")) = some false),
  decide (PySem.W.subIn K (.ref (He.ga K "Before")) (.ref (He.ga K "Every")) = some false),
  decide (PySem.W.subIn K (.ref (He.ga K "Before")) (.ref (He.ga K "Some")) = some false),
  decide (PySem.W.subIn K (.ref (He.ga K "Before")) (.ref (He.ga K "Both")) = some false),
  decide (PySem.W.subIn K (.ref (He.ga K "Before")) (.ref (He.ga K "Either")) = some false),
  decide (PySem.W.subIn K (.ref (He.ga K "Before")) (.ref (He.ga K "Inverse")) = some false),
  decide (PySem.W.findIn K (.ref (He.ga K "First")) "label" = some none),
  decide (PySem.W.selfFirst K (He.ga K "First") = true),
  decide (PySem.W.kitOne K (.ref (He.ga K "First")) (.ref (He.ga K "Condition")) = some true),
  decide (PySem.W.findIn K (.ref (He.ga K "First")) "__rand__" = some none),
  decide (PySem.W.findIn K (.ref (He.ga K "First")) "__ror__" = some none),
  decide (PySem.W.subIn K (.ref (He.ga K "First")) (.ref (He.ga K "Kind")) = some false),
  decide (PySem.W.subIn K (.ref (He.ga K "First")) (.ref (He.ga K "Equals")) = some false),
  decide (PySem.W.subIn K (.ref (He.ga K "First")) (.ref (He.ga K "Size")) = some false),
  decide (PySem.W.subIn K (.ref (He.ga K "First")) (.ref (He.ga K "Has")) = some false),
  decide (PySem.W.subIn K (.ref (He.ga K "First")) (.ref (He.ga K "Item")) = some false),
  decide (PySem.W.subIn K (.ref (He.ga K "First")) (.ref (He.ga K "Before")) = some false),
  decide (PySem.W.subIn K (.ref (He.ga K "First")) (.ref (He.ga K "Every")) = some false),
  decide (PySem.W.subIn K (.ref (He.ga K "First")) (.ref (He.ga K "Some")) = some false),
  decide (PySem.W.subIn K (.ref (He.ga K "First")) (.ref (He.ga K "Both")) = some false),
  decide (PySem.W.subIn K (.ref (He.ga K "First")) (.ref (He.ga K "Either")) = some false),
  decide (PySem.W.subIn K (.ref (He.ga K "First")) (.ref (He.ga K "Inverse")) = some false),
  decide (PySem.W.findIn K (.ref (He.ga K "Every")) "label" = some none),
  decide (PySem.W.selfFirst K (He.ga K "Every") = true),
  decide (PySem.W.kitOne K (.ref (He.ga K "Every")) (.ref (He.ga K "Condition")) = some true),
  decide (PySem.W.findIn K (.ref (He.ga K "Every")) "__rand__" = some none),
  decide (PySem.W.findIn K (.ref (He.ga K "Every")) "__ror__" = some none),
  decide (PySem.W.subIn K (.ref (He.ga K "Every")) (.ref (He.ga K "Kind")) = some false),
  decide (PySem.W.subIn K (.ref (He.ga K "Every")) (.ref (He.ga K "Equals")) = some false),
  decide (PySem.W.subIn K (.ref (He.ga K "Every")) (.ref (He.ga K "Size")) = some false),
  decide (PySem.W.subIn K (.ref (He.ga K "Every")) (.ref (He.ga K "Has")) = some false),
  decide (PySem.W.subIn K (.ref (He.ga K "Every")) (.ref (He.ga K "Item")) = some false),
  decide (PySem.W.subIn K (.ref (He.ga K "Every")) (.ref (He.ga K "Before")) = some false),
  decide (PySem.W.subIn K (.ref (He.ga K "Every")) (.ref (He.ga K "First")) = some false),
  decide (PySem.W.subIn K (.ref (He.ga K "Every")) (.ref (He.ga K "Some")) = some false),
  decide (PySem.W.subIn K (.ref (He.ga K "Every")) (.ref (He.ga K "Both")) = some false),
  decide (PySem.W.subIn K (.ref (He.ga K "Every")) (.ref (He.ga K "Either")) = some false),
  decide (PySem.W.subIn K (.ref (He.ga K "Every")) (.ref (He.ga K "Inverse")) = some false),
  decide (PySem.W.findIn K (.ref (He.ga K "Some")) "label" = some none),
  decide (PySem.W.selfFirst K (He.ga K "Some") = true),
  decide (PySem.W.kitOne K (.ref (He.ga K "Some")) (.ref (He.ga K "Condition")) = some true),
  decide (PySem.W.findIn K (.ref (He.ga K "Some")) "__rand__" = some none),
  decide (PySem.W.findIn K (.ref (He.ga K "Some")) "__ror__" = some none),
  decide (PySem.W.subIn K (.ref (He.ga K "Some")) (.ref (He.ga K "Kind")) = some false),
  decide (PySem.W.subIn K (.ref (He.ga K "Some")) (.ref (He.ga K "Equals")) = some false),
  decide (PySem.W.subIn K (.ref (He.ga K "Some")) (.ref (He.ga K "Size")) = some false),
  decide (PySem.W.subIn K (.ref (He.ga K "Some")) (.ref (He.ga K "Has")) = some false),
  decide (PySem.W.subIn K (.ref (He.ga K "Some")) (.ref (He.ga K "Item")) = some false),
  decide (PySem.W.subIn K (.ref (He.ga K "Some")) (.ref (He.ga K "Before")) = some false),
  decide (PySem.W.subIn K (.ref (He.ga K "Some")) (.ref (He.ga K "First")) = some false),
  decide (PySem.W.subIn K (.ref (He.ga K "Some")) (.ref (He.ga K "Every")) = some false),
  decide (PySem.W.subIn K (.ref (He.ga K "Some")) (.ref (He.ga K "Both")) = some false),
  decide (PySem.W.subIn K (.ref (He.ga K "Some")) (.ref (He.ga K "Either")) = some false),
  decide (PySem.W.subIn K (.ref (He.ga K "Some")) (.ref (He.ga K "Inverse")) = some false),
  decide (PySem.W.findIn K (.ref (He.ga K "BadCondition")) "__getattribute__" = some (some (.builtin "BaseException.__getattribute__"))),
  decide (PySem.W.findIn K (.ref (He.ga K "BadCondition")) "__getattr__" = some none),
  decide (PySem.W.hasDictIn K (He.ga K "BadCondition") = true),
  decide (PySem.W.findIn K (.ref (He.ga K "BadCondition")) "__class__" = some (some (.builtin "object.__class__"))),
  decide (PySem.W.mroIn K (He.ga K "BadCondition") (.type "object") = some true),
  decide (PySem.W.findIn K (.ref (He.ga K "BadCondition")) "value" = some none),
  gloB K "KINDS" (.tup [.str "null", .str "true", .str "false", .str "integer", .str "text", .str "list", .str "tuple", .str "table"]),
  gloB K "MOST_COUNT" (.int 4)]
def fnK : List He5.DefA := [
  FA ("_law_draw", none) "_law_draw" "_law_draw" s__law_draw [] [],
  FA ("_law_some", none) "_law_some" "_law_some" s__law_some [] [],
  FA ("_law_ask", none) "_law_ask" "_law_ask" s__law_ask [] [],
  FA ("_law_draws", none) "_law_draws" "_law_draws" s__law_draws [] [],
  FA ("_law_integer", none) "_law_integer" "_law_integer" s__law_integer [] [],
  FA ("_law_joined", none) "_law_joined" "_law_joined" s__law_joined [] [],
  FA ("_law_text", none) "_law_text" "_law_text" s__law_text [] [],
  FA ("_law_keys", none) "_law_keys" "_law_keys" s__law_keys [] [],
  FA ("Before", some "__init__") "__init__" "Before.__init__" s_Before___init__ [] [],
  FA ("Equals", some "__init__") "__init__" "Equals.__init__" s_Equals___init__ [] [],
  FA ("Every", some "__init__") "__init__" "Every.__init__" s_Every___init__ [] [],
  FA ("First", some "__init__") "__init__" "First.__init__" s_First___init__ [] [],
  FA ("Has", some "__init__") "__init__" "Has.__init__" s_Has___init__ [] [],
  FA ("Item", some "__init__") "__init__" "Item.__init__" s_Item___init__ [] [],
  FA ("BadCondition", some "__init__") "__init__" "BadCondition.__init__" s_BadCondition___init__ [] [],
  FA ("Kind", some "__init__") "__init__" "Kind.__init__" s_Kind___init__ [] [],
  FA ("Size", some "__init__") "__init__" "Size.__init__" s_Size___init__ [] [],
  FA ("Some", some "__init__") "__init__" "Some.__init__" s_Some___init__ [] [],
  FA ("Both", some "__init__") "__init__" "Both.__init__" s_Both___init__ [] [],
  FA ("Inverse", some "__init__") "__init__" "Inverse.__init__" s_Inverse___init__ [] [],
  FA ("Either", some "__init__") "__init__" "Either.__init__" s_Either___init__ [] [],
  FA ("_law_made", none) "_law_made" "_law_made" s__law_made [] [],
  FA ("_law_leaves", none) "_law_leaves" "_law_leaves" s__law_leaves [] [],
  FA ("_law_mentions", none) "_law_mentions" "_law_mentions" s__law_mentions [] [],
  FA ("without_repeats", none) "without_repeats" "without_repeats" s_without_repeats [] [],
  FA ("law", none) "law" "law" s_law [] [],
  FA ("Kind", some "__and__") "__and__" "Condition.__and__" s_Condition___and__ [] [],
  FA ("Equals", some "__and__") "__and__" "Condition.__and__" s_Condition___and__ [] [],
  FA ("Size", some "__and__") "__and__" "Condition.__and__" s_Condition___and__ [] [],
  FA ("Has", some "__and__") "__and__" "Condition.__and__" s_Condition___and__ [] [],
  FA ("Item", some "__and__") "__and__" "Condition.__and__" s_Condition___and__ [] [],
  FA ("Before", some "__and__") "__and__" "Condition.__and__" s_Condition___and__ [] [],
  FA ("First", some "__and__") "__and__" "Condition.__and__" s_Condition___and__ [] [],
  FA ("Every", some "__and__") "__and__" "Condition.__and__" s_Condition___and__ [] [],
  FA ("Some", some "__and__") "__and__" "Condition.__and__" s_Condition___and__ [] [],
  FA ("Both", some "__and__") "__and__" "Condition.__and__" s_Condition___and__ [] [],
  FA ("Either", some "__and__") "__and__" "Condition.__and__" s_Condition___and__ [] [],
  FA ("Inverse", some "__and__") "__and__" "Condition.__and__" s_Condition___and__ [] [],
  FA ("Kind", some "__invert__") "__invert__" "Condition.__invert__" s_Condition___invert__ [] [],
  FA ("Equals", some "__invert__") "__invert__" "Condition.__invert__" s_Condition___invert__ [] [],
  FA ("Size", some "__invert__") "__invert__" "Condition.__invert__" s_Condition___invert__ [] [],
  FA ("Has", some "__invert__") "__invert__" "Condition.__invert__" s_Condition___invert__ [] [],
  FA ("Item", some "__invert__") "__invert__" "Condition.__invert__" s_Condition___invert__ [] [],
  FA ("Before", some "__invert__") "__invert__" "Condition.__invert__" s_Condition___invert__ [] [],
  FA ("First", some "__invert__") "__invert__" "Condition.__invert__" s_Condition___invert__ [] [],
  FA ("Every", some "__invert__") "__invert__" "Condition.__invert__" s_Condition___invert__ [] [],
  FA ("Some", some "__invert__") "__invert__" "Condition.__invert__" s_Condition___invert__ [] [],
  FA ("Both", some "__invert__") "__invert__" "Condition.__invert__" s_Condition___invert__ [] [],
  FA ("Either", some "__invert__") "__invert__" "Condition.__invert__" s_Condition___invert__ [] [],
  FA ("Inverse", some "__invert__") "__invert__" "Condition.__invert__" s_Condition___invert__ [] [],
  FA ("Kind", some "__or__") "__or__" "Condition.__or__" s_Condition___or__ [] [],
  FA ("Equals", some "__or__") "__or__" "Condition.__or__" s_Condition___or__ [] [],
  FA ("Size", some "__or__") "__or__" "Condition.__or__" s_Condition___or__ [] [],
  FA ("Has", some "__or__") "__or__" "Condition.__or__" s_Condition___or__ [] [],
  FA ("Item", some "__or__") "__or__" "Condition.__or__" s_Condition___or__ [] [],
  FA ("Before", some "__or__") "__or__" "Condition.__or__" s_Condition___or__ [] [],
  FA ("First", some "__or__") "__or__" "Condition.__or__" s_Condition___or__ [] [],
  FA ("Every", some "__or__") "__or__" "Condition.__or__" s_Condition___or__ [] [],
  FA ("Some", some "__or__") "__or__" "Condition.__or__" s_Condition___or__ [] [],
  FA ("Both", some "__or__") "__or__" "Condition.__or__" s_Condition___or__ [] [],
  FA ("Either", some "__or__") "__or__" "Condition.__or__" s_Condition___or__ [] [],
  FA ("Inverse", some "__or__") "__or__" "Condition.__or__" s_Condition___or__ [] [],
  FA ("Kind", some "leaves") "leaves" "Condition.leaves" s_Condition_leaves [] [],
  FA ("Equals", some "leaves") "leaves" "Condition.leaves" s_Condition_leaves [] [],
  FA ("Size", some "leaves") "leaves" "Condition.leaves" s_Condition_leaves [] [],
  FA ("Has", some "leaves") "leaves" "Condition.leaves" s_Condition_leaves [] [],
  FA ("Item", some "leaves") "leaves" "Condition.leaves" s_Condition_leaves [] [],
  FA ("Before", some "leaves") "leaves" "Condition.leaves" s_Condition_leaves [] [],
  FA ("First", some "leaves") "leaves" "Condition.leaves" s_Condition_leaves [] [],
  FA ("Every", some "leaves") "leaves" "Condition.leaves" s_Condition_leaves [] [],
  FA ("Some", some "leaves") "leaves" "Condition.leaves" s_Condition_leaves [] [],
  FA ("Both", some "leaves") "leaves" "Both.leaves" s_Both_leaves [] [],
  FA ("Either", some "leaves") "leaves" "Either.leaves" s_Either_leaves [] [],
  FA ("Inverse", some "leaves") "leaves" "Inverse.leaves" s_Inverse_leaves [] [],
  FA ("Kind", some "own_keys") "own_keys" "Condition.own_keys" s_Condition_own_keys [] [],
  FA ("Equals", some "own_keys") "own_keys" "Condition.own_keys" s_Condition_own_keys [] [],
  FA ("Size", some "own_keys") "own_keys" "Condition.own_keys" s_Condition_own_keys [] [],
  FA ("Has", some "own_keys") "own_keys" "Has.own_keys" s_Has_own_keys [] [],
  FA ("Item", some "own_keys") "own_keys" "Item.own_keys" s_Item_own_keys [] [],
  FA ("Before", some "own_keys") "own_keys" "Before.own_keys" s_Before_own_keys [] [],
  FA ("First", some "own_keys") "own_keys" "Condition.own_keys" s_Condition_own_keys [] [],
  FA ("Every", some "own_keys") "own_keys" "Condition.own_keys" s_Condition_own_keys [] [],
  FA ("Some", some "own_keys") "own_keys" "Condition.own_keys" s_Condition_own_keys [] [],
  FA ("Both", some "own_keys") "own_keys" "Condition.own_keys" s_Condition_own_keys [] [],
  FA ("Either", some "own_keys") "own_keys" "Condition.own_keys" s_Condition_own_keys [] [],
  FA ("Inverse", some "own_keys") "own_keys" "Condition.own_keys" s_Condition_own_keys [] [],
  FA ("Kind", some "key_list") "key_list" "Condition.key_list" s_Condition_key_list [] [],
  FA ("Equals", some "key_list") "key_list" "Condition.key_list" s_Condition_key_list [] [],
  FA ("Size", some "key_list") "key_list" "Condition.key_list" s_Condition_key_list [] [],
  FA ("Has", some "key_list") "key_list" "Condition.key_list" s_Condition_key_list [] [],
  FA ("Item", some "key_list") "key_list" "Condition.key_list" s_Condition_key_list [] [],
  FA ("Before", some "key_list") "key_list" "Condition.key_list" s_Condition_key_list [] [],
  FA ("First", some "key_list") "key_list" "Condition.key_list" s_Condition_key_list [] [],
  FA ("Every", some "key_list") "key_list" "Condition.key_list" s_Condition_key_list [] [],
  FA ("Some", some "key_list") "key_list" "Condition.key_list" s_Condition_key_list [] [],
  FA ("Both", some "key_list") "key_list" "Condition.key_list" s_Condition_key_list [] [],
  FA ("Either", some "key_list") "key_list" "Condition.key_list" s_Condition_key_list [] [],
  FA ("Inverse", some "key_list") "key_list" "Condition.key_list" s_Condition_key_list [] [],
  FA ("Kind", some "own_labels") "own_labels" "Condition.own_labels" s_Condition_own_labels [] [],
  FA ("Equals", some "own_labels") "own_labels" "Condition.own_labels" s_Condition_own_labels [] [],
  FA ("Size", some "own_labels") "own_labels" "Condition.own_labels" s_Condition_own_labels [] [],
  FA ("Has", some "own_labels") "own_labels" "Condition.own_labels" s_Condition_own_labels [] [],
  FA ("Item", some "own_labels") "own_labels" "Item.own_labels" s_Item_own_labels [] [],
  FA ("Before", some "own_labels") "own_labels" "Condition.own_labels" s_Condition_own_labels [] [],
  FA ("First", some "own_labels") "own_labels" "First.own_labels" s_First_own_labels [] [],
  FA ("Every", some "own_labels") "own_labels" "Every.own_labels" s_Every_own_labels [] [],
  FA ("Some", some "own_labels") "own_labels" "Some.own_labels" s_Some_own_labels [] [],
  FA ("Both", some "own_labels") "own_labels" "Condition.own_labels" s_Condition_own_labels [] [],
  FA ("Either", some "own_labels") "own_labels" "Condition.own_labels" s_Condition_own_labels [] [],
  FA ("Inverse", some "own_labels") "own_labels" "Condition.own_labels" s_Condition_own_labels [] [],
  FA ("Kind", some "label_list") "label_list" "Condition.label_list" s_Condition_label_list [] [],
  FA ("Equals", some "label_list") "label_list" "Condition.label_list" s_Condition_label_list [] [],
  FA ("Size", some "label_list") "label_list" "Condition.label_list" s_Condition_label_list [] [],
  FA ("Has", some "label_list") "label_list" "Condition.label_list" s_Condition_label_list [] [],
  FA ("Item", some "label_list") "label_list" "Condition.label_list" s_Condition_label_list [] [],
  FA ("Before", some "label_list") "label_list" "Condition.label_list" s_Condition_label_list [] [],
  FA ("First", some "label_list") "label_list" "Condition.label_list" s_Condition_label_list [] [],
  FA ("Every", some "label_list") "label_list" "Condition.label_list" s_Condition_label_list [] [],
  FA ("Some", some "label_list") "label_list" "Condition.label_list" s_Condition_label_list [] [],
  FA ("Both", some "label_list") "label_list" "Condition.label_list" s_Condition_label_list [] [],
  FA ("Either", some "label_list") "label_list" "Condition.label_list" s_Condition_label_list [] [],
  FA ("Inverse", some "label_list") "label_list" "Condition.label_list" s_Condition_label_list [] []]
def KL5 (w : World) : PySem.W.Frag := []
def KL4 (w : World) : PySem.W.Frag :=
  (463, ⟨.none, none, (FD (inClass (topS 17) 2) "own_keys" "Before.own_keys" 0 [] (.none) (.none) (.none) (.none) none (.none) (.none) 0), #[]⟩) ::
  (449, ⟨.none, none, (FD (inClass (topS 17) 0) "__init__" "Before.__init__" 0 [] (.none) (.none) (.none) (.none) none (.none) (.none) 0), #[]⟩) ::
  (423, ⟨.none, none, (FD (inClass (topS 16) 3) "own_labels" "Item.own_labels" 0 [] (.none) (.none) (.none) (.none) none (.none) (.none) 0), #[]⟩) ::
  (416, ⟨.none, none, (FD (inClass (topS 16) 2) "own_keys" "Item.own_keys" 0 [] (.none) (.none) (.none) (.none) none (.none) (.none) 0), #[]⟩) ::
  (402, ⟨.none, none, (FD (inClass (topS 16) 0) "__init__" "Item.__init__" 0 [] (.none) (.none) (.none) (.none) none (.none) (.none) 0), #[]⟩) ::
  (376, ⟨.none, none, (FD (inClass (topS 15) 2) "own_keys" "Has.own_keys" 0 [] (.none) (.none) (.none) (.none) none (.none) (.none) 0), #[]⟩) ::
  (362, ⟨.none, none, (FD (inClass (topS 15) 0) "__init__" "Has.__init__" 0 [] (.none) (.none) (.none) (.none) none (.none) (.none) 0), #[]⟩) ::
  (329, ⟨.none, none, (FD (inClass (topS 14) 0) "__init__" "Size.__init__" 0 [] (.none) (.none) (.none) (.none) none (.none) (.none) 0), #[]⟩) ::
  (296, ⟨.none, none, (FD (inClass (topS 13) 0) "__init__" "Equals.__init__" 0 [] (.none) (.none) (.none) (.none) none (.none) (.none) 0), #[]⟩) ::
  (263, ⟨.none, none, (FD (inClass (topS 12) 0) "__init__" "Kind.__init__" 0 [] (.none) (.none) (.none) (.none) none (.none) (.none) 0), #[]⟩) ::
  (244, ⟨.none, none, (FD (inClass (topS 11) 2) "leaves" "Inverse.leaves" 0 [] (.none) (.none) (.none) (.none) none (.none) (.none) 0), #[]⟩) ::
  (230, ⟨.none, none, (FD (inClass (topS 11) 0) "__init__" "Inverse.__init__" 0 [] (.none) (.none) (.none) (.none) none (.none) (.none) 0), #[]⟩) ::
  (211, ⟨.none, none, (FD (inClass (topS 10) 2) "leaves" "Either.leaves" 0 [] (.none) (.none) (.none) (.none) none (.none) (.none) 0), #[]⟩) ::
  (197, ⟨.none, none, (FD (inClass (topS 10) 0) "__init__" "Either.__init__" 0 [] (.none) (.none) (.none) (.none) none (.none) (.none) 0), #[]⟩) ::
  (178, ⟨.none, none, (FD (inClass (topS 9) 2) "leaves" "Both.leaves" 0 [] (.none) (.none) (.none) (.none) none (.none) (.none) 0), #[]⟩) ::
  (164, ⟨.none, none, (FD (inClass (topS 9) 0) "__init__" "Both.__init__" 0 [] (.none) (.none) (.none) (.none) none (.none) (.none) 0), #[]⟩) ::
  (143, ⟨.none, none, (FD (inClass (topS 8) 10) "label_list" "Condition.label_list" 0 [] (.none) (.none) (.none) (.none) none (.none) (.none) 0), #[]⟩) ::
  (136, ⟨.none, none, (FD (inClass (topS 8) 9) "key_list" "Condition.key_list" 0 [] (.none) (.none) (.none) (.none) none (.none) (.none) 0), #[]⟩) ::
  (115, ⟨.none, none, (FD (inClass (topS 8) 6) "own_labels" "Condition.own_labels" 0 [] (.none) (.none) (.none) (.none) none (.none) (.none) 0), #[]⟩) ::
  (108, ⟨.none, none, (FD (inClass (topS 8) 5) "own_keys" "Condition.own_keys" 0 [] (.none) (.none) (.none) (.none) none (.none) (.none) 0), #[]⟩) ::
  (101, ⟨.none, none, (FD (inClass (topS 8) 4) "leaves" "Condition.leaves" 0 [] (.none) (.none) (.none) (.none) none (.none) (.none) 0), #[]⟩) ::
  (87, ⟨.none, none, (FD (inClass (topS 8) 2) "__invert__" "Condition.__invert__" 0 [] (.none) (.none) (.none) (.none) none (.none) (.none) 0), #[]⟩) ::
  (80, ⟨.none, none, (FD (inClass (topS 8) 1) "__or__" "Condition.__or__" 0 [] (.none) (.none) (.none) (.none) none (.none) (.none) 0), #[]⟩) ::
  (73, ⟨.none, none, (FD (inClass (topS 8) 0) "__and__" "Condition.__and__" 0 [] (.none) (.none) (.none) (.none) none (.none) (.none) 0), #[]⟩) ::
  (46, ⟨.none, none, (FD (inClass (topS 3) 0) "__init__" "BadCondition.__init__" 0 [] (.none) (.none) (.none) (.none) none (.none) (.none) 0), #[]⟩) ::
  (2, ⟨.none, none, (.dict #[] 0), #[]⟩) :: KL5 w
def KL3 (w : World) : PySem.W.Frag :=
  (48, FN (inClass (topS 3) 0) "__init__" "BadCondition.__init__" "keysthroughtext.errors" 194 47) ::
  (32, ⟨.type "getset_descriptor", none, (.fields #[.str "__weakref__" 209, .ref 31, .builtin "ExceptionGroup.__weakref__", .none]), #[]⟩) ::
  (29, ⟨.type "tuple", none, (.seq #[] 0), #[]⟩) ::
  (47, CO "__init__" "BadCondition.__init__" 226 9 2 0 0 3 42 181 43 .none (.ref 44) (.ref 45) 46 231 232) ::
  (74, CO "__and__" "Condition.__and__" 273 22 2 0 0 3 69 181 70 .none (.ref 71) (.ref 72) 73 278 279) ::
  (81, CO "__or__" "Condition.__or__" 281 25 2 0 0 3 76 181 77 .none (.ref 78) (.ref 79) 80 286 287) ::
  (88, CO "__invert__" "Condition.__invert__" 289 28 1 0 0 3 83 181 84 .none (.ref 85) (.ref 86) 87 293 294) ::
  (102, CO "leaves" "Condition.leaves" 304 34 1 0 0 3 97 181 98 .none (.ref 99) (.ref 100) 101 308 309) ::
  (109, CO "own_keys" "Condition.own_keys" 311 37 1 0 0 3 104 181 105 .none (.ref 106) (.ref 107) 108 315 316) ::
  (116, CO "own_labels" "Condition.own_labels" 318 40 1 0 0 3 111 181 112 .none (.ref 113) (.ref 114) 115 322 323) ::
  (137, CO "key_list" "Condition.key_list" 339 49 1 0 0 3 132 181 133 .none (.ref 134) (.ref 135) 136 345 346) ::
  (144, CO "label_list" "Condition.label_list" 348 55 1 0 0 3 139 181 140 .none (.ref 141) (.ref 142) 143 354 355) ::
  (165, CO "__init__" "Both.__init__" 377 62 3 0 0 3 160 181 161 .none (.ref 162) (.ref 163) 164 383 384) ::
  (179, CO "leaves" "Both.leaves" 394 69 1 0 0 3 174 181 175 .none (.ref 176) (.ref 177) 178 398 399) ::
  (198, CO "__init__" "Either.__init__" 419 73 3 0 0 3 193 181 194 .none (.ref 195) (.ref 196) 197 425 426) ::
  (212, CO "leaves" "Either.leaves" 436 80 1 0 0 3 207 181 208 .none (.ref 209) (.ref 210) 211 440 441) ::
  (231, CO "__init__" "Inverse.__init__" 461 84 2 0 0 3 226 181 227 .none (.ref 228) (.ref 229) 230 466 467) ::
  (245, CO "leaves" "Inverse.leaves" 477 90 1 0 0 3 240 181 241 .none (.ref 242) (.ref 243) 244 481 482) ::
  (264, CO "__init__" "Kind.__init__" 501 94 2 0 0 3 259 181 260 .none (.ref 261) (.ref 262) 263 506 507) ::
  (297, CO "__init__" "Equals.__init__" 541 106 2 0 0 3 292 181 293 .none (.ref 294) (.ref 295) 296 546 547) ::
  (330, CO "__init__" "Size.__init__" 582 117 2 0 0 3 325 181 326 .none (.ref 327) (.ref 328) 329 587 588) ::
  (363, CO "__init__" "Has.__init__" 622 129 2 0 0 3 358 181 359 .none (.ref 360) (.ref 361) 362 627 628) ::
  (377, CO "own_keys" "Has.own_keys" 638 135 1 0 0 3 372 181 373 .none (.ref 374) (.ref 375) 376 642 643) ::
  (403, CO "__init__" "Item.__init__" 669 142 3 0 0 3 398 181 399 .none (.ref 400) (.ref 401) 402 675 676) ::
  (417, CO "own_keys" "Item.own_keys" 686 149 1 0 0 3 412 181 413 .none (.ref 414) (.ref 415) 416 690 691) ::
  (424, CO "own_labels" "Item.own_labels" 693 152 1 0 0 3 419 181 420 .none (.ref 421) (.ref 422) 423 697 698) ::
  (450, CO "__init__" "Before.__init__" 725 159 3 0 0 3 445 181 446 .none (.ref 447) (.ref 448) 449 731 732) ::
  (464, CO "own_keys" "Before.own_keys" 742 168 1 0 0 3 459 181 460 .none (.ref 461) (.ref 462) 463 746 747) ::
  (490, CO "__init__" "First.__init__" 774 175 2 0 0 3 485 181 486 .none (.ref 487) (.ref 488) 489 779 780) ::
  (504, CO "own_labels" "First.own_labels" 790 181 1 0 0 3 499 181 500 .none (.ref 501) (.ref 502) 503 794 795) ::
  (530, CO "__init__" "Every.__init__" 821 188 2 0 0 3 525 181 526 .none (.ref 527) (.ref 528) 529 826 827) ::
  (544, CO "own_labels" "Every.own_labels" 837 194 1 0 0 3 539 181 540 .none (.ref 541) (.ref 542) 543 841 842) ::
  (570, CO "__init__" "Some.__init__" 868 201 2 0 0 3 565 181 566 .none (.ref 567) (.ref 568) 569 873 874) ::
  (584, CO "own_labels" "Some.own_labels" 884 207 1 0 0 3 579 181 580 .none (.ref 581) (.ref 582) 583 888 889) ::
  (583, ⟨.none, none, (FD (inClass (topS 20) 2) "own_labels" "Some.own_labels" 0 [] (.none) (.none) (.none) (.none) none (.none) (.none) 0), #[]⟩) ::
  (569, ⟨.none, none, (FD (inClass (topS 20) 0) "__init__" "Some.__init__" 0 [] (.none) (.none) (.none) (.none) none (.none) (.none) 0), #[]⟩) ::
  (543, ⟨.none, none, (FD (inClass (topS 19) 2) "own_labels" "Every.own_labels" 0 [] (.none) (.none) (.none) (.none) none (.none) (.none) 0), #[]⟩) ::
  (529, ⟨.none, none, (FD (inClass (topS 19) 0) "__init__" "Every.__init__" 0 [] (.none) (.none) (.none) (.none) none (.none) (.none) 0), #[]⟩) ::
  (503, ⟨.none, none, (FD (inClass (topS 18) 2) "own_labels" "First.own_labels" 0 [] (.none) (.none) (.none) (.none) none (.none) (.none) 0), #[]⟩) ::
  (489, ⟨.none, none, (FD (inClass (topS 18) 0) "__init__" "First.__init__" 0 [] (.none) (.none) (.none) (.none) none (.none) (.none) 0), #[]⟩) :: KL4 w
def KL2 (w : World) : PySem.W.Frag :=
  (505, FN (inClass (topS 18) 2) "own_labels" "First.own_labels" "keysthroughtext.conditions" 239 504) ::
  (491, FN (inClass (topS 18) 0) "__init__" "First.__init__" "keysthroughtext.conditions" 239 490) ::
  (473, ⟨.type "tuple", none, (.seq #[.str "first" 756, .str "second" 757] 0), #[]⟩) ::
  (465, FN (inClass (topS 17) 2) "own_keys" "Before.own_keys" "keysthroughtext.conditions" 239 464) ::
  (451, FN (inClass (topS 17) 0) "__init__" "Before.__init__" "keysthroughtext.conditions" 239 450) ::
  (433, ⟨.type "tuple", none, (.seq #[.str "key" 707, .str "label" 708] 0), #[]⟩) ::
  (425, FN (inClass (topS 16) 3) "own_labels" "Item.own_labels" "keysthroughtext.conditions" 239 424) ::
  (418, FN (inClass (topS 16) 2) "own_keys" "Item.own_keys" "keysthroughtext.conditions" 239 417) ::
  (404, FN (inClass (topS 16) 0) "__init__" "Item.__init__" "keysthroughtext.conditions" 239 403) ::
  (386, ⟨.type "tuple", none, (.seq #[.str "key" 652] 0), #[]⟩) ::
  (378, FN (inClass (topS 15) 2) "own_keys" "Has.own_keys" "keysthroughtext.conditions" 239 377) ::
  (364, FN (inClass (topS 15) 0) "__init__" "Has.__init__" "keysthroughtext.conditions" 239 363) ::
  (346, ⟨.type "tuple", none, (.seq #[.str "count" 605] 0), #[]⟩) ::
  (331, FN (inClass (topS 14) 0) "__init__" "Size.__init__" "keysthroughtext.conditions" 239 330) ::
  (313, ⟨.type "tuple", none, (.seq #[.str "atom" 565] 0), #[]⟩) ::
  (298, FN (inClass (topS 13) 0) "__init__" "Equals.__init__" "keysthroughtext.conditions" 239 297) ::
  (280, ⟨.type "tuple", none, (.seq #[.str "name" 524] 0), #[]⟩) ::
  (265, FN (inClass (topS 12) 0) "__init__" "Kind.__init__" "keysthroughtext.conditions" 239 264) ::
  (247, ⟨.type "tuple", none, (.seq #[.str "inner" 484] 0), #[]⟩) ::
  (246, FN (inClass (topS 11) 2) "leaves" "Inverse.leaves" "keysthroughtext.conditions" 239 245) ::
  (232, FN (inClass (topS 11) 0) "__init__" "Inverse.__init__" "keysthroughtext.conditions" 239 231) ::
  (214, ⟨.type "tuple", none, (.seq #[.str "left" 443, .str "right" 444] 0), #[]⟩) ::
  (213, FN (inClass (topS 10) 2) "leaves" "Either.leaves" "keysthroughtext.conditions" 239 212) ::
  (199, FN (inClass (topS 10) 0) "__init__" "Either.__init__" "keysthroughtext.conditions" 239 198) ::
  (181, ⟨.type "tuple", none, (.seq #[.str "left" 401, .str "right" 402] 0), #[]⟩) ::
  (180, FN (inClass (topS 9) 2) "leaves" "Both.leaves" "keysthroughtext.conditions" 239 179) ::
  (166, FN (inClass (topS 9) 0) "__init__" "Both.__init__" "keysthroughtext.conditions" 239 165) ::
  (150, ⟨.type "getset_descriptor", none, (.fields #[.str "__weakref__" 360, .ref 148, .builtin "ExceptionGroup.__weakref__", .none]), #[]⟩) ::
  (149, ⟨.type "getset_descriptor", none, (.fields #[.str "__dict__" 358, .ref 148, .builtin "function.__dict__", .builtin "function.__dict__#set"]), #[]⟩) ::
  (146, ⟨.type "tuple", none, (.seq #[] 0), #[]⟩) ::
  (145, FN (inClass (topS 8) 10) "label_list" "Condition.label_list" "keysthroughtext.conditions" 239 144) ::
  (138, FN (inClass (topS 8) 9) "key_list" "Condition.key_list" "keysthroughtext.conditions" 239 137) ::
  (117, FN (inClass (topS 8) 6) "own_labels" "Condition.own_labels" "keysthroughtext.conditions" 239 116) ::
  (110, FN (inClass (topS 8) 5) "own_keys" "Condition.own_keys" "keysthroughtext.conditions" 239 109) ::
  (103, FN (inClass (topS 8) 4) "leaves" "Condition.leaves" "keysthroughtext.conditions" 239 102) ::
  (89, FN (inClass (topS 8) 2) "__invert__" "Condition.__invert__" "keysthroughtext.conditions" 239 88) ::
  (82, FN (inClass (topS 8) 1) "__or__" "Condition.__or__" "keysthroughtext.conditions" 239 81) ::
  (75, FN (inClass (topS 8) 0) "__and__" "Condition.__and__" "keysthroughtext.conditions" 239 74) ::
  (59, ⟨.none, none, (FD (topS 7) "without_repeats" "without_repeats" 0 [] (.none) (.none) (.none) (.none) none (.none) (.none) 0), #[]⟩) ::
  (49, ⟨.type "tuple", none, (.seq #[.str "value" 234] 0), #[]⟩) :: KL3 w
def KL1 (w : World) : PySem.W.Frag :=
  (674, FN (topS 32) "_law_mentions" "_law_mentions" "law_keysthroughtext_k39_what_conditions_ment" 903 673) ::
  (61, FN (topS 7) "without_repeats" "without_repeats" "keysthroughtext.conditions" 239 60) ::
  (681, FN (topS 33) "law" "law" "law_keysthroughtext_k39_what_conditions_ment" 903 680) ::
  (31, ⟨.type "type", none, (.cls ⟨"KeysError", [.type "ValueError"], [.ref 31, .type "ValueError", .type "Exception", .type "BaseException", .type "object"], 30, "KeysError", true, [], [.ref 51], false, none, false⟩), #[some (.ref 22), none, some (.str "KeysError" 196), some (.str "KeysError" 204), some (.builtin "ValueError.__new__"), some (.bool true)]⟩) ::
  (30, ⟨.type "dict", none, (.dict #[DE w "__module__" 203 (.str "keysthroughtext.errors" 194), DE w "__firstlineno__" 207 (.int (5) 206), DE w "__static_attributes__" 208 (.ref 29), DE w "__weakref__" 210 (.ref 32), DE w "__doc__" 211 (.none)] 3), #[]⟩) ::
  (54, ⟨.type "tuple", none, (.seq #[.str "null" 241, .str "true" 242, .str "false" 243, .str "integer" 244, .str "text" 245, .str "list" 246, .str "tuple" 247, .str "table" 248] 0), #[]⟩) ::
  (4, ⟨.type "module", (some 0), .plain, #[]⟩) ::
  (6, ⟨.type "dict", none, (.dict #[] 0), #[]⟩) ::
  (60, CO "without_repeats" "without_repeats" 252 14 1 0 0 3 55 181 56 .none (.ref 57) (.ref 58) 59 258 259) ::
  (603, CO "_law_draws" "_law_draws" 905 213 2 0 0 3 598 181 599 .none (.ref 600) (.ref 601) 602 914 915) ::
  (610, CO "_law_draw" "_law_draw" 917 222 2 0 0 3 605 181 606 .none (.ref 607) (.ref 608) 609 923 924) ::
  (617, CO "_law_some" "_law_some" 926 230 2 0 0 3 612 181 613 .none (.ref 614) (.ref 615) 616 931 932) ::
  (624, CO "_law_text" "_law_text" 934 232 1 0 0 3 619 181 620 .none (.ref 621) (.ref 622) 623 941 942) ::
  (631, CO "_law_integer" "_law_integer" 944 238 1 0 0 3 626 181 627 .none (.ref 628) (.ref 629) 630 950 951) ::
  (638, CO "_law_keys" "_law_keys" 953 242 2 0 0 3 633 181 634 .none (.ref 635) (.ref 636) 637 962 963) ::
  (645, CO "_law_made" "_law_made" 965 252 1 0 0 3 640 181 641 .none (.ref 642) (.ref 643) 644 972 973) ::
  (652, CO "_law_ask" "_law_ask" 975 268 4 0 0 3 647 181 648 .none (.ref 649) (.ref 650) 651 983 984) ::
  (659, CO "_law_joined" "_law_joined" 986 285 5 0 0 3 654 181 655 .none (.ref 656) (.ref 657) 658 998 999) ::
  (666, CO "_law_leaves" "_law_leaves" 1001 296 1 0 0 3 661 181 662 .none (.ref 663) (.ref 664) 665 1005 1006) ::
  (673, CO "_law_mentions" "_law_mentions" 1008 300 1 0 0 3 668 181 669 .none (.ref 670) (.ref 671) 672 1018 1019) ::
  (680, CO "law" "law" 1021 311 1 0 0 3 675 181 676 .none (.ref 677) (.ref 678) 679 1039 1040) ::
  (679, ⟨.none, none, (FD (topS 33) "law" "law" 0 [] (.none) (.none) (.none) (.none) none (.none) (.none) 0), #[]⟩) ::
  (672, ⟨.none, none, (FD (topS 32) "_law_mentions" "_law_mentions" 0 [] (.none) (.none) (.none) (.none) none (.none) (.none) 0), #[]⟩) ::
  (665, ⟨.none, none, (FD (topS 31) "_law_leaves" "_law_leaves" 0 [] (.none) (.none) (.none) (.none) none (.none) (.none) 0), #[]⟩) ::
  (658, ⟨.none, none, (FD (topS 30) "_law_joined" "_law_joined" 0 [] (.none) (.none) (.none) (.none) none (.none) (.none) 0), #[]⟩) ::
  (651, ⟨.none, none, (FD (topS 29) "_law_ask" "_law_ask" 0 [] (.none) (.none) (.none) (.none) none (.none) (.none) 0), #[]⟩) ::
  (644, ⟨.none, none, (FD (topS 28) "_law_made" "_law_made" 0 [] (.none) (.none) (.none) (.none) none (.none) (.none) 0), #[]⟩) ::
  (637, ⟨.none, none, (FD (topS 27) "_law_keys" "_law_keys" 0 [] (.none) (.none) (.none) (.none) none (.none) (.none) 0), #[]⟩) ::
  (630, ⟨.none, none, (FD (topS 26) "_law_integer" "_law_integer" 0 [] (.none) (.none) (.none) (.none) none (.none) (.none) 0), #[]⟩) ::
  (623, ⟨.none, none, (FD (topS 25) "_law_text" "_law_text" 0 [] (.none) (.none) (.none) (.none) none (.none) (.none) 0), #[]⟩) ::
  (616, ⟨.none, none, (FD (topS 24) "_law_some" "_law_some" 0 [] (.none) (.none) (.none) (.none) none (.none) (.none) 0), #[]⟩) ::
  (609, ⟨.none, none, (FD (topS 23) "_law_draw" "_law_draw" 0 [] (.none) (.none) (.none) (.none) none (.none) (.none) 0), #[]⟩) ::
  (602, ⟨.none, none, (FD (topS 22) "_law_draws" "_law_draws" 0 [] (.none) (.none) (.none) (.none) none (.none) (.none) 0), #[]⟩) ::
  (593, ⟨.type "tuple", none, (.seq #[.str "label" 898] 0), #[]⟩) ::
  (585, FN (inClass (topS 20) 2) "own_labels" "Some.own_labels" "keysthroughtext.conditions" 239 584) ::
  (571, FN (inClass (topS 20) 0) "__init__" "Some.__init__" "keysthroughtext.conditions" 239 570) ::
  (553, ⟨.type "tuple", none, (.seq #[.str "label" 851] 0), #[]⟩) ::
  (545, FN (inClass (topS 19) 2) "own_labels" "Every.own_labels" "keysthroughtext.conditions" 239 544) ::
  (531, FN (inClass (topS 19) 0) "__init__" "Every.__init__" "keysthroughtext.conditions" 239 530) ::
  (513, ⟨.type "tuple", none, (.seq #[.str "label" 804] 0), #[]⟩) :: KL2 w
def KL (w : World) : PySem.W.Frag :=
  (3, ⟨.type "dict", none, (.dict #[DE w "__name__" 165 (.str "law_keysthroughtext_k39_what_conditions_ment" 903), DE w "__doc__" 166 (.none), DE w "__package__" 167 (.none), DE w "__loader__" 168 (.builtin "__main__.__loader__#opaque"), DE w "__spec__" 169 (.none), DE w "__annotations__" 170 (.ref 6), DE w "__builtins__" 171 (.ref 4), DE w "__file__" 173 (.str "/claim/cut.py" 172), DE w "__cached__" 174 (.none), DE w "_wall" 193 (.ref 21), DE w "KeysError" 213 (.ref 31), DE w "BadCondition" 238 (.ref 51), DE w "KINDS" 249 (.ref 54), DE w "MOST_COUNT" 251 (.int (4) 250), DE w "without_repeats" 260 (.ref 61), DE w "Condition" 364 (.ref 148), DE w "Both" 406 (.ref 183), DE w "Either" 448 (.ref 216), DE w "Inverse" 488 (.ref 249), DE w "Kind" 528 (.ref 282), DE w "Equals" 569 (.ref 315), DE w "Size" 609 (.ref 348), DE w "Has" 656 (.ref 388), DE w "Item" 712 (.ref 435), DE w "Before" 761 (.ref 475), DE w "First" 808 (.ref 515), DE w "Every" 855 (.ref 555), DE w "Some" 902 (.ref 595), DE w "_law_draws" 916 (.ref 604), DE w "_law_draw" 925 (.ref 611), DE w "_law_some" 933 (.ref 618), DE w "_law_text" 943 (.ref 625), DE w "_law_integer" 952 (.ref 632), DE w "_law_keys" 964 (.ref 639), DE w "_law_made" 974 (.ref 646), DE w "_law_ask" 985 (.ref 653), DE w "_law_joined" 1000 (.ref 660), DE w "_law_leaves" 1007 (.ref 667), DE w "_law_mentions" 1020 (.ref 674), DE w "law" 1041 (.ref 681)] 40), #[]⟩) ::
  (475, ⟨.type "type", none, (.cls ⟨"Before", [.ref 148], [.ref 475, .ref 148, .type "object"], 474, "Before", true, [], [], false, none, false⟩), #[some (.ref 438), none, some (.str "Before" 713), some (.str "Before" 721), some (.builtin "object.__new__"), some (.bool true)]⟩) ::
  (474, ⟨.type "dict", none, (.dict #[DE w "__module__" 720 (.str "keysthroughtext.conditions" 239), DE w "__firstlineno__" 724 (.int (157) 723), DE w "__init__" 733 (.ref 451), DE w "holds" 741 (.ref 458), DE w "own_keys" 748 (.ref 465), DE w "demand" 755 (.ref 472), DE w "__static_attributes__" 758 (.ref 473), DE w "__doc__" 759 (.none)] 2), #[]⟩) ::
  (435, ⟨.type "type", none, (.cls ⟨"Item", [.ref 148], [.ref 435, .ref 148, .type "object"], 434, "Item", true, [], [], false, none, false⟩), #[some (.ref 391), none, some (.str "Item" 657), some (.str "Item" 665), some (.builtin "object.__new__"), some (.bool true)]⟩) ::
  (434, ⟨.type "dict", none, (.dict #[DE w "__module__" 664 (.str "keysthroughtext.conditions" 239), DE w "__firstlineno__" 668 (.int (140) 667), DE w "__init__" 677 (.ref 404), DE w "holds" 685 (.ref 411), DE w "own_keys" 692 (.ref 418), DE w "own_labels" 699 (.ref 425), DE w "demand" 706 (.ref 432), DE w "__static_attributes__" 709 (.ref 433), DE w "__doc__" 710 (.none)] 2), #[]⟩) ::
  (183, ⟨.type "type", none, (.cls ⟨"Both", [.ref 148], [.ref 183, .ref 148, .type "object"], 182, "Both", true, [], [], false, none, false⟩), #[some (.ref 153), none, some (.str "Both" 365), some (.str "Both" 373), some (.builtin "object.__new__"), some (.bool true)]⟩) ::
  (182, ⟨.type "dict", none, (.dict #[DE w "__module__" 372 (.str "keysthroughtext.conditions" 239), DE w "__firstlineno__" 376 (.int (60) 375), DE w "__init__" 385 (.ref 166), DE w "holds" 393 (.ref 173), DE w "leaves" 400 (.ref 180), DE w "__static_attributes__" 403 (.ref 181), DE w "__doc__" 404 (.none)] 2), #[]⟩) ::
  (216, ⟨.type "type", none, (.cls ⟨"Either", [.ref 148], [.ref 216, .ref 148, .type "object"], 215, "Either", true, [], [], false, none, false⟩), #[some (.ref 186), none, some (.str "Either" 407), some (.str "Either" 415), some (.builtin "object.__new__"), some (.bool true)]⟩) ::
  (215, ⟨.type "dict", none, (.dict #[DE w "__module__" 414 (.str "keysthroughtext.conditions" 239), DE w "__firstlineno__" 418 (.int (71) 417), DE w "__init__" 427 (.ref 199), DE w "holds" 435 (.ref 206), DE w "leaves" 442 (.ref 213), DE w "__static_attributes__" 445 (.ref 214), DE w "__doc__" 446 (.none)] 2), #[]⟩) ::
  (315, ⟨.type "type", none, (.cls ⟨"Equals", [.ref 148], [.ref 315, .ref 148, .type "object"], 314, "Equals", true, [], [], false, none, false⟩), #[some (.ref 285), none, some (.str "Equals" 529), some (.str "Equals" 537), some (.builtin "object.__new__"), some (.bool true)]⟩) ::
  (314, ⟨.type "dict", none, (.dict #[DE w "__module__" 536 (.str "keysthroughtext.conditions" 239), DE w "__firstlineno__" 540 (.int (104) 539), DE w "__init__" 548 (.ref 298), DE w "holds" 557 (.ref 305), DE w "demand" 564 (.ref 312), DE w "__static_attributes__" 566 (.ref 313), DE w "__doc__" 567 (.none)] 2), #[]⟩) ::
  (555, ⟨.type "type", none, (.cls ⟨"Every", [.ref 148], [.ref 555, .ref 148, .type "object"], 554, "Every", true, [], [], false, none, false⟩), #[some (.ref 518), none, some (.str "Every" 809), some (.str "Every" 817), some (.builtin "object.__new__"), some (.bool true)]⟩) ::
  (554, ⟨.type "dict", none, (.dict #[DE w "__module__" 816 (.str "keysthroughtext.conditions" 239), DE w "__firstlineno__" 820 (.int (186) 819), DE w "__init__" 828 (.ref 531), DE w "holds" 836 (.ref 538), DE w "own_labels" 843 (.ref 545), DE w "demand" 850 (.ref 552), DE w "__static_attributes__" 852 (.ref 553), DE w "__doc__" 853 (.none)] 2), #[]⟩) ::
  (515, ⟨.type "type", none, (.cls ⟨"First", [.ref 148], [.ref 515, .ref 148, .type "object"], 514, "First", true, [], [], false, none, false⟩), #[some (.ref 478), none, some (.str "First" 762), some (.str "First" 770), some (.builtin "object.__new__"), some (.bool true)]⟩) ::
  (514, ⟨.type "dict", none, (.dict #[DE w "__module__" 769 (.str "keysthroughtext.conditions" 239), DE w "__firstlineno__" 773 (.int (173) 772), DE w "__init__" 781 (.ref 491), DE w "holds" 789 (.ref 498), DE w "own_labels" 796 (.ref 505), DE w "demand" 803 (.ref 512), DE w "__static_attributes__" 805 (.ref 513), DE w "__doc__" 806 (.none)] 2), #[]⟩) ::
  (388, ⟨.type "type", none, (.cls ⟨"Has", [.ref 148], [.ref 388, .ref 148, .type "object"], 387, "Has", true, [], [], false, none, false⟩), #[some (.ref 351), none, some (.str "Has" 610), some (.str "Has" 618), some (.builtin "object.__new__"), some (.bool true)]⟩) ::
  (387, ⟨.type "dict", none, (.dict #[DE w "__module__" 617 (.str "keysthroughtext.conditions" 239), DE w "__firstlineno__" 621 (.int (127) 620), DE w "__init__" 629 (.ref 364), DE w "holds" 637 (.ref 371), DE w "own_keys" 644 (.ref 378), DE w "demand" 651 (.ref 385), DE w "__static_attributes__" 653 (.ref 386), DE w "__doc__" 654 (.none)] 2), #[]⟩) ::
  (282, ⟨.type "type", none, (.cls ⟨"Kind", [.ref 148], [.ref 282, .ref 148, .type "object"], 281, "Kind", true, [], [], false, none, false⟩), #[some (.ref 252), none, some (.str "Kind" 489), some (.str "Kind" 497), some (.builtin "object.__new__"), some (.bool true)]⟩) ::
  (281, ⟨.type "dict", none, (.dict #[DE w "__module__" 496 (.str "keysthroughtext.conditions" 239), DE w "__firstlineno__" 500 (.int (92) 499), DE w "__init__" 508 (.ref 265), DE w "holds" 516 (.ref 272), DE w "demand" 523 (.ref 279), DE w "__static_attributes__" 525 (.ref 280), DE w "__doc__" 526 (.none)] 2), #[]⟩) ::
  (348, ⟨.type "type", none, (.cls ⟨"Size", [.ref 148], [.ref 348, .ref 148, .type "object"], 347, "Size", true, [], [], false, none, false⟩), #[some (.ref 318), none, some (.str "Size" 570), some (.str "Size" 578), some (.builtin "object.__new__"), some (.bool true)]⟩) ::
  (347, ⟨.type "dict", none, (.dict #[DE w "__module__" 577 (.str "keysthroughtext.conditions" 239), DE w "__firstlineno__" 581 (.int (115) 580), DE w "__init__" 589 (.ref 331), DE w "holds" 597 (.ref 338), DE w "demand" 604 (.ref 345), DE w "__static_attributes__" 606 (.ref 346), DE w "__doc__" 607 (.none)] 2), #[]⟩) ::
  (595, ⟨.type "type", none, (.cls ⟨"Some", [.ref 148], [.ref 595, .ref 148, .type "object"], 594, "Some", true, [], [], false, none, false⟩), #[some (.ref 558), none, some (.str "Some" 856), some (.str "Some" 864), some (.builtin "object.__new__"), some (.bool true)]⟩) ::
  (594, ⟨.type "dict", none, (.dict #[DE w "__module__" 863 (.str "keysthroughtext.conditions" 239), DE w "__firstlineno__" 867 (.int (199) 866), DE w "__init__" 875 (.ref 571), DE w "holds" 883 (.ref 578), DE w "own_labels" 890 (.ref 585), DE w "demand" 897 (.ref 592), DE w "__static_attributes__" 899 (.ref 593), DE w "__doc__" 900 (.none)] 2), #[]⟩) ::
  (249, ⟨.type "type", none, (.cls ⟨"Inverse", [.ref 148], [.ref 249, .ref 148, .type "object"], 248, "Inverse", true, [], [], false, none, false⟩), #[some (.ref 219), none, some (.str "Inverse" 449), some (.str "Inverse" 457), some (.builtin "object.__new__"), some (.bool true)]⟩) ::
  (248, ⟨.type "dict", none, (.dict #[DE w "__module__" 456 (.str "keysthroughtext.conditions" 239), DE w "__firstlineno__" 460 (.int (82) 459), DE w "__init__" 468 (.ref 232), DE w "holds" 476 (.ref 239), DE w "leaves" 483 (.ref 246), DE w "__static_attributes__" 485 (.ref 247), DE w "__doc__" 486 (.none)] 2), #[]⟩) ::
  (148, ⟨.type "type", none, (.cls ⟨"Condition", [.type "object"], [.ref 148, .type "object"], 147, "Condition", true, [], [.ref 183, .ref 216, .ref 249, .ref 282, .ref 315, .ref 348, .ref 388, .ref 435, .ref 475, .ref 515, .ref 555, .ref 595], false, none, false⟩), #[none, none, some (.str "Condition" 261), some (.str "Condition" 269), some (.builtin "object.__new__"), some (.bool true)]⟩) ::
  (147, ⟨.type "dict", none, (.dict #[DE w "__module__" 268 (.str "keysthroughtext.conditions" 239), DE w "__firstlineno__" 272 (.int (20) 271), DE w "__and__" 280 (.ref 75), DE w "__or__" 288 (.ref 82), DE w "__invert__" 295 (.ref 89), DE w "holds" 303 (.ref 96), DE w "leaves" 310 (.ref 103), DE w "own_keys" 317 (.ref 110), DE w "own_labels" 324 (.ref 117), DE w "demand" 331 (.ref 124), DE w "demands" 338 (.ref 131), DE w "key_list" 347 (.ref 138), DE w "label_list" 356 (.ref 145), DE w "__static_attributes__" 357 (.ref 146), DE w "__dict__" 359 (.ref 149), DE w "__weakref__" 361 (.ref 150), DE w "__doc__" 362 (.none)] 4), #[]⟩) ::
  (51, ⟨.type "type", none, (.cls ⟨"BadCondition", [.ref 31], [.ref 51, .ref 31, .type "ValueError", .type "Exception", .type "BaseException", .type "object"], 50, "BadCondition", true, [], [], false, none, false⟩), #[some (.ref 35), none, some (.str "BadCondition" 214), some (.str "BadCondition" 222), some (.builtin "ValueError.__new__"), some (.bool true)]⟩) ::
  (50, ⟨.type "dict", none, (.dict #[DE w "__module__" 221 (.str "keysthroughtext.errors" 194), DE w "__firstlineno__" 225 (.int (7) 224), DE w "__init__" 233 (.ref 48), DE w "__static_attributes__" 235 (.ref 49), DE w "__doc__" 236 (.none)] 2), #[]⟩) ::
  (611, FN (topS 23) "_law_draw" "_law_draw" "law_keysthroughtext_k39_what_conditions_ment" 903 610) ::
  (0, ⟨.type "dict", none, (.dict #[DE w "__name__" 1 (.str "builtins" 160), DE w "__doc__" 2 (.builtin "builtins.__doc__:str#opaque"), DE w "__package__" 3 (.builtin "builtins.__package__:str#opaque"), DE w "__loader__" 4 (.builtin "builtins.__loader__:shared#opaque"), DE w "__spec__" 5 (.builtin "builtins.__spec__#opaque"), DE w "__build_class__" 6 (.builtin "__build_class__"), DE w "__import__" 7 (.builtin "__import__"), DE w "abs" 8 (.builtin "abs"), DE w "all" 9 (.builtin "all"), DE w "any" 10 (.builtin "any"), DE w "ascii" 11 (.builtin "ascii"), DE w "bin" 12 (.builtin "bin"), DE w "breakpoint" 13 (.builtin "breakpoint"), DE w "callable" 14 (.builtin "callable"), DE w "chr" 15 (.builtin "chr"), DE w "compile" 16 (.builtin "compile"), DE w "delattr" 17 (.builtin "delattr"), DE w "dir" 18 (.builtin "dir"), DE w "divmod" 19 (.builtin "divmod"), DE w "eval" 20 (.builtin "eval"), DE w "exec" 21 (.builtin "exec"), DE w "format" 22 (.builtin "format"), DE w "getattr" 23 (.builtin "getattr"), DE w "globals" 24 (.builtin "globals"), DE w "hasattr" 25 (.builtin "hasattr"), DE w "hash" 26 (.builtin "hash"), DE w "hex" 27 (.builtin "hex"), DE w "id" 28 (.builtin "id"), DE w "input" 29 (.builtin "input"), DE w "isinstance" 30 (.builtin "isinstance"), DE w "issubclass" 31 (.builtin "issubclass"), DE w "iter" 32 (.builtin "iter"), DE w "aiter" 33 (.builtin "aiter"), DE w "len" 34 (.builtin "len"), DE w "locals" 35 (.builtin "locals"), DE w "max" 36 (.builtin "max"), DE w "min" 37 (.builtin "min"), DE w "next" 38 (.builtin "next"), DE w "anext" 39 (.builtin "anext"), DE w "oct" 40 (.builtin "oct"), DE w "ord" 41 (.builtin "ord"), DE w "pow" 42 (.builtin "pow"), DE w "print" 43 (.builtin "print"), DE w "repr" 44 (.builtin "repr"), DE w "round" 45 (.builtin "round"), DE w "setattr" 46 (.builtin "setattr"), DE w "sorted" 47 (.builtin "sorted"), DE w "sum" 48 (.builtin "sum"), DE w "vars" 49 (.builtin "vars"), DE w "None" 50 (.none), DE w "Ellipsis" 51 (.ellipsis), DE w "NotImplemented" 52 (.notImplemented), DE w "False" 53 (.bool false), DE w "True" 54 (.bool true), DE w "bool" 55 (.type "bool"), DE w "memoryview" 56 (.type "memoryview"), DE w "bytearray" 57 (.type "bytearray"), DE w "bytes" 58 (.type "bytes"), DE w "classmethod" 59 (.type "classmethod"), DE w "complex" 60 (.type "complex"), DE w "dict" 61 (.type "dict"), DE w "enumerate" 62 (.type "enumerate"), DE w "filter" 63 (.type "filter"), DE w "float" 64 (.type "float"), DE w "frozenset" 65 (.type "frozenset"), DE w "property" 66 (.type "property"), DE w "int" 67 (.type "int"), DE w "list" 68 (.type "list"), DE w "map" 69 (.type "map"), DE w "object" 70 (.type "object"), DE w "range" 71 (.type "range"), DE w "reversed" 72 (.type "reversed"), DE w "set" 73 (.type "set"), DE w "slice" 74 (.type "slice"), DE w "staticmethod" 75 (.type "staticmethod"), DE w "str" 76 (.type "str"), DE w "super" 77 (.type "super"), DE w "tuple" 78 (.type "tuple"), DE w "type" 79 (.type "type"), DE w "zip" 80 (.type "zip"), DE w "__debug__" 81 (.bool true), DE w "BaseException" 82 (.type "BaseException"), DE w "BaseExceptionGroup" 83 (.type "BaseExceptionGroup"), DE w "Exception" 84 (.type "Exception"), DE w "GeneratorExit" 85 (.type "GeneratorExit"), DE w "KeyboardInterrupt" 86 (.type "KeyboardInterrupt"), DE w "SystemExit" 87 (.type "SystemExit"), DE w "ArithmeticError" 88 (.type "ArithmeticError"), DE w "AssertionError" 89 (.type "AssertionError"), DE w "AttributeError" 90 (.type "AttributeError"), DE w "BufferError" 91 (.type "BufferError"), DE w "EOFError" 92 (.type "EOFError"), DE w "ImportError" 93 (.type "ImportError"), DE w "LookupError" 94 (.type "LookupError"), DE w "MemoryError" 95 (.type "MemoryError"), DE w "NameError" 96 (.type "NameError"), DE w "OSError" 97 (.type "OSError"), DE w "ReferenceError" 98 (.type "ReferenceError"), DE w "RuntimeError" 99 (.type "RuntimeError"), DE w "StopAsyncIteration" 100 (.type "StopAsyncIteration"), DE w "StopIteration" 101 (.type "StopIteration"), DE w "SyntaxError" 102 (.type "SyntaxError"), DE w "SystemError" 103 (.type "SystemError"), DE w "TypeError" 104 (.type "TypeError"), DE w "ValueError" 105 (.type "ValueError"), DE w "Warning" 106 (.type "Warning"), DE w "FloatingPointError" 107 (.type "FloatingPointError"), DE w "OverflowError" 108 (.type "OverflowError"), DE w "ZeroDivisionError" 109 (.type "ZeroDivisionError"), DE w "BytesWarning" 110 (.type "BytesWarning"), DE w "DeprecationWarning" 111 (.type "DeprecationWarning"), DE w "EncodingWarning" 112 (.type "EncodingWarning"), DE w "FutureWarning" 113 (.type "FutureWarning"), DE w "ImportWarning" 114 (.type "ImportWarning"), DE w "PendingDeprecationWarning" 115 (.type "PendingDeprecationWarning"), DE w "ResourceWarning" 116 (.type "ResourceWarning"), DE w "RuntimeWarning" 117 (.type "RuntimeWarning"), DE w "SyntaxWarning" 118 (.type "SyntaxWarning"), DE w "UnicodeWarning" 119 (.type "UnicodeWarning"), DE w "UserWarning" 120 (.type "UserWarning"), DE w "BlockingIOError" 121 (.type "BlockingIOError"), DE w "ChildProcessError" 122 (.type "ChildProcessError"), DE w "ConnectionError" 123 (.type "ConnectionError"), DE w "FileExistsError" 124 (.type "FileExistsError"), DE w "FileNotFoundError" 125 (.type "FileNotFoundError"), DE w "InterruptedError" 126 (.type "InterruptedError"), DE w "IsADirectoryError" 127 (.type "IsADirectoryError"), DE w "NotADirectoryError" 128 (.type "NotADirectoryError"), DE w "PermissionError" 129 (.type "PermissionError"), DE w "ProcessLookupError" 130 (.type "ProcessLookupError"), DE w "TimeoutError" 131 (.type "TimeoutError"), DE w "IndentationError" 132 (.type "IndentationError"), DE w "_IncompleteInputError" 133 (.type "_IncompleteInputError"), DE w "IndexError" 134 (.type "IndexError"), DE w "KeyError" 135 (.type "KeyError"), DE w "ModuleNotFoundError" 136 (.type "ModuleNotFoundError"), DE w "NotImplementedError" 137 (.type "NotImplementedError"), DE w "PythonFinalizationError" 138 (.type "PythonFinalizationError"), DE w "RecursionError" 139 (.type "RecursionError"), DE w "UnboundLocalError" 140 (.type "UnboundLocalError"), DE w "UnicodeError" 141 (.type "UnicodeError"), DE w "BrokenPipeError" 142 (.type "BrokenPipeError"), DE w "ConnectionAbortedError" 143 (.type "ConnectionAbortedError"), DE w "ConnectionRefusedError" 144 (.type "ConnectionRefusedError"), DE w "ConnectionResetError" 145 (.type "ConnectionResetError"), DE w "TabError" 146 (.type "TabError"), DE w "UnicodeDecodeError" 147 (.type "UnicodeDecodeError"), DE w "UnicodeEncodeError" 148 (.type "UnicodeEncodeError"), DE w "UnicodeTranslateError" 149 (.type "UnicodeTranslateError"), DE w "ExceptionGroup" 150 (.type "ExceptionGroup"), DE w "EnvironmentError" 151 (.type "OSError"), DE w "IOError" 152 (.type "OSError"), DE w "open" 153 (.builtin "open"), DE w "quit" 154 (.builtin "builtins.quit#opaque"), DE w "exit" 155 (.builtin "builtins.exit#opaque"), DE w "copyright" 156 (.builtin "builtins.copyright#opaque"), DE w "credits" 157 (.builtin "builtins.credits#opaque"), DE w "license" 158 (.builtin "builtins.license#opaque"), DE w "help" 159 (.builtin "builtins.help#opaque")] 159), #[]⟩) ::
  (618, FN (topS 24) "_law_some" "_law_some" "law_keysthroughtext_k39_what_conditions_ment" 903 617) ::
  (653, FN (topS 29) "_law_ask" "_law_ask" "law_keysthroughtext_k39_what_conditions_ment" 903 652) ::
  (604, FN (topS 22) "_law_draws" "_law_draws" "law_keysthroughtext_k39_what_conditions_ment" 903 603) ::
  (632, FN (topS 26) "_law_integer" "_law_integer" "law_keysthroughtext_k39_what_conditions_ment" 903 631) ::
  (660, FN (topS 30) "_law_joined" "_law_joined" "law_keysthroughtext_k39_what_conditions_ment" 903 659) ::
  (625, FN (topS 25) "_law_text" "_law_text" "law_keysthroughtext_k39_what_conditions_ment" 903 624) ::
  (639, FN (topS 27) "_law_keys" "_law_keys" "law_keysthroughtext_k39_what_conditions_ment" 903 638) ::
  (646, FN (topS 28) "_law_made" "_law_made" "law_keysthroughtext_k39_what_conditions_ment" 903 645) ::
  (667, FN (topS 31) "_law_leaves" "_law_leaves" "law_keysthroughtext_k39_what_conditions_ment" 903 666) :: KL1 w
def asK : List Addr := [3, 475, 474, 435, 434, 183, 182, 216, 215, 315, 314, 555, 554, 515, 514, 388, 387, 282, 281, 348, 347, 595, 594, 249, 248, 148, 147, 51, 50, 611, 0, 618, 653, 604, 632, 660, 625, 639, 646, 667, 674, 61, 681, 31, 30, 54, 4, 6, 60, 603, 610, 617, 624, 631, 638, 645, 652, 659, 666, 673, 680, 679, 672, 665, 658, 651, 644, 637, 630, 623, 616, 609, 602, 593, 585, 571, 553, 545, 531, 513, 505, 491, 473, 465, 451, 433, 425, 418, 404, 386, 378, 364, 346, 331, 313, 298, 280, 265, 247, 246, 232, 214, 213, 199, 181, 180, 166, 150, 149, 146, 145, 138, 117, 110, 103, 89, 82, 75, 59, 49, 48, 32, 29, 47, 74, 81, 88, 102, 109, 116, 137, 144, 165, 179, 198, 212, 231, 245, 264, 297, 330, 363, 377, 403, 417, 424, 450, 464, 490, 504, 530, 544, 570, 584, 583, 569, 543, 529, 503, 489, 463, 449, 423, 416, 402, 376, 362, 329, 296, 263, 244, 230, 211, 197, 178, 164, 143, 136, 115, 108, 101, 87, 80, 73, 46, 2]
theorem asK_eq (w : World) : asK = (KL w).map (·.1) := by kernel_rfl
def tlK : List Addr := []
abbrev RK : PySem.W.OpenRow := PySem.W.OpenLaw.row PySem.Challenge.rw_keysthroughtext_k39_what_conditions_ment
abbrev hkK : PySem.W.Hook := hookL asK KL tlK asK_eq
def obK (s : PySem.W.SharedT) : List (Option Obj) × List (Option Obj) := obL asK tlK s
theorem obK_eq (s : PySem.W.SharedT) : obK s = hkK.obs s.abs := obL_eq s
def looseK : List PySem.Str := (["_wall", "KeysError", "BadCondition", "KINDS", "MOST_COUNT", "without_repeats", "Condition", "Both", "Either", "Inverse", "Kind", "Equals", "Size", "Has", "Item", "Before", "First", "Every", "Some", "_law_draws", "_law_draw", "_law_some", "_law_text", "_law_integer", "_law_keys", "_law_made", "_law_ask", "_law_joined", "_law_leaves", "_law_mentions"] : List PySem.Str)
set_option maxHeartbeats 0 in
theorem runK (w : World) : HandSHeadRun.RunEq RK (PySem.W.view RK.prog [33]) hkK obK 20000 looseK w := by
  intro os
  kernel_rfl
theorem fK0 (w : World) : ((fbK (KL w)).take 80).all id = true := by kernel_rfl
theorem fK1 (w : World) : (((fbK (KL w)).drop 80).take 80).all id = true := by kernel_rfl
theorem fK2 (w : World) : ((((fbK (KL w)).drop 80).drop 80).take 80).all id = true := by kernel_rfl
theorem fK3 (w : World) : (((((fbK (KL w)).drop 80).drop 80).drop 80).take 80).all id = true := by kernel_rfl
theorem fK4 (w : World) : ((((((fbK (KL w)).drop 80).drop 80).drop 80).drop 80).take 80).all id = true := by kernel_rfl
theorem fK5 (w : World) : (((((((fbK (KL w)).drop 80).drop 80).drop 80).drop 80).drop 80).take 80).all id = true := by kernel_rfl
theorem fK6 (w : World) : ((((((((fbK (KL w)).drop 80).drop 80).drop 80).drop 80).drop 80).drop 80).take 80).all id = true := by kernel_rfl
theorem fK7 (w : World) : (((((((((fbK (KL w)).drop 80).drop 80).drop 80).drop 80).drop 80).drop 80).drop 80)).all id = true := by kernel_rfl
theorem fK (w : World) : (fbK (KL w)).all id = true := (all_cut 80 (fK0 w) (all_cut 80 (fK1 w) (all_cut 80 (fK2 w) (all_cut 80 (fK3 w) (all_cut 80 (fK4 w) (all_cut 80 (fK5 w) (all_cut 80 (fK6 w) (fK7 w))))))))
theorem nK0 (w : World) : obsF (fnK.take 30) (KL w) = (true, ((fnK.take 30)).map He5.DefA.val) := by kernel_rfl
theorem nK1 (w : World) : obsF ((fnK.drop 30).take 30) (KL w) = (true, (((fnK.drop 30).take 30)).map He5.DefA.val) := by kernel_rfl
theorem nK2 (w : World) : obsF (((fnK.drop 30).drop 30).take 30) (KL w) = (true, ((((fnK.drop 30).drop 30).take 30)).map He5.DefA.val) := by kernel_rfl
theorem nK3 (w : World) : obsF ((((fnK.drop 30).drop 30).drop 30).take 30) (KL w) = (true, (((((fnK.drop 30).drop 30).drop 30).take 30)).map He5.DefA.val) := by kernel_rfl
theorem nK4 (w : World) : obsF ((((fnK.drop 30).drop 30).drop 30).drop 30) (KL w) = (true, (((((fnK.drop 30).drop 30).drop 30).drop 30)).map He5.DefA.val) := by kernel_rfl
theorem nK (w : World) : obsF fnK (KL w) = (true, fnK.map He5.DefA.val) := (fn_cut 30 (nK0 w) (fn_cut 30 (nK1 w) (fn_cut 30 (nK2 w) (fn_cut 30 (nK3 w) (nK4 w)))))
theorem saysX (w : World) (h : Heap) (e : ∀ a ∈ tlK, h.get? a = some tabObj) : SaysB fbK fnK (KL w) := saysB_lit (fK w) (nK w)
section
open PySem PySem.W PySem.Calls PyProof.Rows
set_option maxRecDepth 100000 in
set_option maxHeartbeats 0 in
noncomputable def finK : PSigma fun P : Prop => P → PySem.Challenge.rw_keysthroughtext_k39_what_conditions_ment.Holds := ⟨_, fun F => by
  refine lookK fun said => ?_
  refine HandSHeadRun.head_any (r := OpenLaw.row PySem.Challenge.rw_keysthroughtext_k39_what_conditions_ment) (q := view (OpenLaw.row PySem.Challenge.rw_keysthroughtext_k39_what_conditions_ment).prog [33]) (H := hkK) (ob := obK) (M := 20000) (loose := looseK) (d := HandSHeadRun.topDef (OpenLaw.row PySem.Challenge.rw_keysthroughtext_k39_what_conditions_ment).prog 33) (kwd := []) obK_eq (by kernel_rfl) (fun s => by kernel_rfl) runK (by kernel_rfl) (by kernel_rfl) (by kernel_rfl) (by rfl) (by first | assumption | decide +kernel) (by decide +kernel) ⟨rfl, rfl, rfl, rfl, rfl, by decide +kernel⟩ ?hw ?hc
  case hw => w_witness2
  case hc => exact F⟩
end
end K39
namespace KB
open PySem PySem.Spec PyProof.Rows L2
/-! ### defs of the module, called by name -/
structure Def (K : PySem.W.Frag) (mg : Str → Option Value) (x : Str) (st : Stmt) : Prop where
  ex : ∃ (f : Addr) (fd : FuncData), Fun K x x st f fd ∧ mg x = some (.ref f)
structure Callee (P : Program) (w : World) (K : PySem.W.Frag) (mg : Str → Option Value) (base : Heap) (k : Nat) (x : Str) (ps : List Str) (sp : Sp) : Prop where
  ex : ∃ (f : Addr) (fd : FuncData), mg x = some (.ref f) ∧ PySem.W.keepIn K (.ref f) = true ∧ Binds K fd ps [] ∧ FnOk P w K mg base CX0 k f fd ps sp ∧ ∃ oc od osl, K.lookup f = some ⟨oc, od, .func fd, osl⟩
section
variable {P : Program} {w : World} {K : PySem.W.Frag} {mg : Str → Option Value} {base : Heap}
theorem Def.ok {x : Str} {st : Stmt} {N ps : List Str} {k : Nat} {sp : Sp} (D : Def K mg x st) (S : FnScope N ps (defScope st))
    (hb : ∀ (kV doc pm : Value) (an : Option Addr) (cdv ct : Value) (us : List Value), us.length = ps.length → bindArgs (PySem.W.fnOf x x (defArgs st) (defBody st) (defScope st) .none kV doc pm an cdv ct) ⟨us, []⟩ = pure (ps.zip us))
    (len : ∀ vs H Q E, sp vs H Q E → vs.length = ps.length)
    (hbody : ∀ (f : Addr) (cdv : Value) (A : Around) (outer : List Env) (s : Shared) (H : Hp) (vs : List V) (Q : VK) (E : XK), Room k (A.deeper (envOfC x (defScope st) s.heap.objs.size f cdv)) → sp vs H Q E →
      ∃ t, PSs (cxOf CX0 P w K mg base N x (defScope st) f cdv A outer s H E).nox (defBody st) t ∧ t { nx := fun _ H' => Q .non H', rt := Q } (start N vs) H) : Callee P w K mg base (k + 1) x ps sp := by
  obtain ⟨f, fd, F, g⟩ := D.ex
  have E := F.ex
  obtain ⟨oc, od, kV, doc, pm, an, cdv, ct, osl, e, lk, _⟩ := E
  exact ⟨f, fd, g, F.kp, F.binds hb, F.ok S len (hbody f), oc, od, osl, lk⟩
theorem Callee.mono {x : Str} {ps : List Str} {k : Nat} {sp sp' : Sp} (C : Callee P w K mg base k x ps sp) (h : ∀ vs H Q E, sp' vs H Q E → sp vs H Q E) : Callee P w K mg base k x ps sp' := by
  obtain ⟨f, fd, g, kp, b, F, lk⟩ := C.ex
  exact ⟨f, fd, g, kp, b, ⟨fun vs H Q E q => F.len vs H Q E (h _ _ _ _ q), fun A outer s H as us vs Q E hr e hb r q => F.run A outer s H as us vs Q E hr e hb r (h _ _ _ _ q)⟩, lk⟩
/-- the built-in names that the module leaves alone -/
structure Bi (mg : Str → Option Value) : Prop where
  b_abs : mg "abs" = none
  b_all : mg "all" = none
  b_any : mg "any" = none
  b_bool : mg "bool" = none
  b_enumerate : mg "enumerate" = none
  b_int : mg "int" = none
  b_isinstance : mg "isinstance" = none
  b_len : mg "len" = none
  b_list : mg "list" = none
  b_max : mg "max" = none
  b_min : mg "min" = none
  b_range : mg "range" = none
  b_set : mg "set" = none
  b_sorted : mg "sorted" = none
  b_str : mg "str" = none
  b_tuple : mg "tuple" = none
  b_zip : mg "zip" = none
  b_iter : mg "iter" = none
  b_ValueError : mg "ValueError" = none
  b_sum : mg "sum" = none
  b_dict : mg "dict" = none
end
section
variable {X : Cx}
/-! ### what stands behind a statement, under a name -/
/-! ### rules for more than one kind of value -/
theorem OpR.wk {f : Value → Value → Sem Value} {r r' : R2} (h : OpR X f r) (w : ∀ x y H Q, r' x y H Q → r x y H Q) : OpR X f r' := fun pins s σ H x y v u Q I rx ry q => h pins s σ H x y v u Q I rx ry (w x y H Q q)
theorem CallR.wk {f : Value} {r r' : List V → Hp → VK → Prop} (h : CallR X f r) (w : ∀ xs H Q, r' xs H Q → r xs H Q) : CallR X f r' := fun pins s σ H xs us Q I r1 q => h pins s σ H xs us Q I r1 (w xs H Q q)
theorem CallR.or {f : Value} {r r' : List V → Hp → VK → Prop} (h : CallR X f r) (h' : CallR X f r') : CallR X f (fun xs H Q => r xs H Q ∨ r' xs H Q) := fun pins s σ H xs us Q I r1 q => by
  rcases q with q | q
  · exact h pins s σ H xs us Q I r1 q
  · exact h' pins s σ H xs us Q I r1 q
theorem MtR.wk {id : String} {r r' : V → List V → Hp → VK → Prop} (h : MtR X id r) (w : ∀ x xs H Q, r' x xs H Q → r x xs H Q) : MtR X id r' := fun pins s σ H x xs v us Q I rx r1 q => h pins s σ H x xs v us Q I rx r1 (w x xs H Q q)
theorem IxR.wk {r r' : R2} (h : IxR X r) (w : ∀ x y H Q, r' x y H Q → r x y H Q) : IxR X r' := fun a b pins s σ H x y v u Q I rx ry q => h a b pins s σ H x y v u Q I rx ry (w x y H Q q)
theorem SlR.wk {r r' : V → Option Int → Option Int → Hp → VK → Prop} (h : SlR X r) (w : ∀ x a b H Q, r' x a b H Q → r x a b H Q) : SlR X r' := fun pins s σ H x v vl vu lo hi sl Q I rx hs pl pu q => h pins s σ H x v vl vu lo hi sl Q I rx hs pl pu (w _ _ _ _ _ q)
/-- a + b: ints, texts, two lists -/
def rAd : R2 := fun x y H Q => (∃ i j, x = .int i ∧ y = .int j ∧ Q (.int (i + j)) H) ∨ (∃ i j, x = .str i ∧ y = .str j ∧ i.length + j.length ≤ sizeLine ∧ Q (.str (i ++ j)) H) ∨ rCat x y H Q
theorem ad_any : OpR X (binaryOp .Add) rAd := op_add.or (op_add_str.or op_cat)
def rMl : R2 := fun x y H Q => (∃ i j, x = .int i ∧ y = .int j ∧ (CMul i j ∨ CMulW i j) ∧ Q (.int (i * j)) H) ∨ rRep x y H Q
theorem ml_any : OpR X (binaryOp .Mult) rMl := by
  refine OpR.or (fun pins s σ H x y v u Q I rx ry h => ?_) op_rep
  obtain ⟨i, j, rfl, rfl, c | c, q⟩ := h
  · exact op_mul pins s σ H _ _ v u Q I rx ry ⟨i, j, rfl, rfl, c, q⟩
  · exact op_mulW pins s σ H _ _ v u Q I rx ry ⟨i, j, rfl, rfl, c, q⟩
def rMd : R2 := fun x y H Q => ∃ i j, x = .int i ∧ y = .int j ∧ 0 < j ∧ Q (.int (i % j)) H
theorem md_any : OpR X (binaryOp .Mod) rMd := op_mod
def rFd : R2 := fun x y H Q => ∃ i j, x = .int i ∧ y = .int j ∧ CDivW i j ∧ Q (.int (i / j)) H
theorem fd_any : OpR X (binaryOp .FloorDiv) rFd := op_fdivW
def rIntA : List V → Hp → VK → Prop := fun vs H Q => (∃ i, vs = [.int i] ∧ Q (.int i) H) ∨ (∃ k, vs = [.bl k] ∧ Q (.int (if k then 1 else 0)) H) ∨ (∃ a n, vs = [.str a] ∧ PySem.intText? a = some n ∧ a.length ≤ 640 ∧ Q (.int n) H)
theorem int_any : CallR X (.type "int") rIntA := by
  refine CallR.wk (CallR.or call_int1 call_int_str) fun vs H Q h => ?_
  rcases h with h | h | ⟨a, n, h⟩
  · exact .inl (.inl h)
  · exact .inl (.inr h)
  · exact .inr ⟨a, n, h⟩
def rStrA : List V → Hp → VK → Prop := fun vs H Q => (∃ i, vs = [.int i] ∧ i.natAbs.log2 < 1920 ∧ Q (.str (toString i)) H) ∨ (∃ a, vs = [.str a] ∧ Q (.str a) H)
theorem str_any : CallR X (.type "str") rStrA := CallR.or call_str_int SkE.call_str_str
/-- the name of a value's type, where the value is flat or a tracked list, tuple or dict -/
def TyN (H : Hp) (x : V) (n : String) : Prop := match x with
  | .non => n = "NoneType"
  | .bl _ => n = "bool"
  | .int _ => n = "int"
  | .str _ => n = "str"
  | .ref a => (∃ xs, H a = some (.lst xs) ∧ n = "list") ∨ (∃ xs, H a = some (.tup xs) ∧ n = "tuple") ∨ ∃ kvs, H a = some (.dK kvs) ∧ n = "dict"
  | _ => False
theorem TyN.ty {K : PySem.W.Frag} {H : Hp} {x : V} {n : String} (h : TyN H x n) : TyX K H x (.type n) := by
  unfold TyN at h
  split at h
  · subst h; exact .base .non
  · subst h; exact .base (.bl _)
  · subst h; exact .base (.int _)
  · subst h; exact .base (.str _)
  · rcases h with ⟨xs, e, rfl⟩ | ⟨xs, e, rfl⟩ | ⟨kvs, e, rfl⟩
    · exact .base (.lst e)
    · exact .base (.tup e)
    · exact .base (.dK e)
  · exact h.elim
/-- x[a:b]: a text, a tracked list -/
def rSlA : V → Option Int → Option Int → Hp → VK → Prop := fun x lo hi H Q => (∃ z, x = .str z ∧ z.length ≤ sizeLine ∧ Q (.str (cutS z lo hi)) H) ∨ (∃ a xs, x = .ref a ∧ H a = some (.lst xs) ∧ ∀ p, H p = none → Q (.ref p) (upd H p (.lst (cutV xs lo hi))))
end
end KB
namespace KB
open PySem PySem.Spec PyProof.Rows L2
section
variable {σ : L2.St} {H : Hp} {Q : VK} {D : L2.Ends}
section
variable {Q : Bool → Hp → Prop} {t u : TT} {te : TE}
end
end
section
variable {x y : V} {H : Hp} {Q : VK}
theorem kb_NoneType_int : kitB "NoneType" "int" = some false := by decide +kernel
theorem kb_NoneType_str : kitB "NoneType" "str" = some false := by decide +kernel
theorem kb_NoneType_bool : kitB "NoneType" "bool" = some false := by decide +kernel
theorem kb_NoneType_list : kitB "NoneType" "list" = some false := by decide +kernel
theorem kb_NoneType_tuple : kitB "NoneType" "tuple" = some false := by decide +kernel
theorem kb_bool_int : kitB "bool" "int" = some true := by decide +kernel
theorem kb_bool_str : kitB "bool" "str" = some false := by decide +kernel
theorem kb_bool_bool : kitB "bool" "bool" = some true := by decide +kernel
theorem kb_bool_list : kitB "bool" "list" = some false := by decide +kernel
theorem kb_bool_tuple : kitB "bool" "tuple" = some false := by decide +kernel
theorem kb_int_int : kitB "int" "int" = some true := by decide +kernel
theorem kb_int_str : kitB "int" "str" = some false := by decide +kernel
theorem kb_int_bool : kitB "int" "bool" = some false := by decide +kernel
theorem kb_int_list : kitB "int" "list" = some false := by decide +kernel
theorem kb_int_tuple : kitB "int" "tuple" = some false := by decide +kernel
theorem kb_str_int : kitB "str" "int" = some false := by decide +kernel
theorem kb_str_str : kitB "str" "str" = some true := by decide +kernel
theorem kb_str_bool : kitB "str" "bool" = some false := by decide +kernel
theorem kb_str_list : kitB "str" "list" = some false := by decide +kernel
theorem kb_str_tuple : kitB "str" "tuple" = some false := by decide +kernel
theorem kb_list_int : kitB "list" "int" = some false := by decide +kernel
theorem kb_list_str : kitB "list" "str" = some false := by decide +kernel
theorem kb_list_bool : kitB "list" "bool" = some false := by decide +kernel
theorem kb_list_list : kitB "list" "list" = some true := by decide +kernel
theorem kb_list_tuple : kitB "list" "tuple" = some false := by decide +kernel
theorem kb_tuple_int : kitB "tuple" "int" = some false := by decide +kernel
theorem kb_tuple_str : kitB "tuple" "str" = some false := by decide +kernel
theorem kb_tuple_bool : kitB "tuple" "bool" = some false := by decide +kernel
theorem kb_tuple_list : kitB "tuple" "list" = some false := by decide +kernel
theorem kb_tuple_tuple : kitB "tuple" "tuple" = some true := by decide +kernel
theorem abs_nat (i : Int) : (if i < 0 then -i else i) = (i.natAbs : Int) := by split <;> omega
end
/-! ### dicts by text keys -/
theorem sizeN {n : Nat} (h : n ≤ 100000) : n < sizeLine := Nat.lt_of_le_of_lt h (by decide)
/-! ### the source of draws -/
def Keep (a : Addr) (H H' : Hp) : Prop := ∀ b o, H b = some o → b ≠ a → H' b = some o
theorem Keep.refl (a : Addr) (H : Hp) : Keep a H H := fun _ _ h _ => h
theorem Keep.trans {a : Addr} {H H1 H2 : Hp} (x : Keep a H H1) (y : Keep a H1 H2) : Keep a H H2 := fun b o h n => y b o (x b o h n) n
theorem Keep.upd {a : Addr} {H : Hp} {o : HO} : Keep a H (upd H a o) := fun b u h n => by rw [upd_ne n]; exact h
theorem Keep.new {a p : Addr} {H : Hp} {o : HO} (h : H p = none) : Keep a H (L2.upd H p o) := fun b u e _ => by rw [upd_ne (ne_of_none e h)]; exact e
/-- an object that was not there at H changes -/
theorem Keep.mut {a d : Addr} {H H1 H2 : Hp} {o : HO} (k1 : Keep a H H1) (n : d ≠ a) (hd : H1 d = none) (k2 : Keep a H H2) : Keep a H (L2.upd H2 d o) := fun b u h nb => by
  have e : b ≠ d := fun e => by
    subst e
    have := k1 _ _ h nb
    rw [hd] at this
    cases this
  rw [upd_ne e]
  exact k2 b u h nb
/-! ### loops -/
section
variable {σ : L2.St} {H : Hp} {Q : VK} {D : L2.Ends} {g : TG} {tb : TS} {R : It → Hp → Prop}
/-- what a turn of a comprehension is to reach -/
def LcNext (p : Addr) (i : Nat) (G : Nat → List V → Hp → Prop) : VK := fun y H4 => ∃ acc, H4 p = some (.lst acc) ∧ acc.length < sizeLine ∧ ∃ ys, ys.length = i + 1 ∧ upd H4 p (.lst (acc ++ [y])) p = some (.lst ys) ∧ G (i + 1) ys (upd H4 p (.lst (acc ++ [y])))
theorem LcNext.mk {p : Addr} {i : Nat} {G : Nat → List V → Hp → Prop} {y : V} {H4 : Hp} {ys : List V} (h : H4 p = some (.lst ys)) (e : ys.length = i) (hi : i < 100000) (hG : G (i + 1) (ys ++ [y]) (upd H4 p (.lst (ys ++ [y])))) : LcNext p i G y H4 :=
  ⟨ys, h, sizeN (by omega), ys ++ [y], by simp [e], upd_same, hG⟩
end
section
variable {x y : V} {H : Hp} {Q : VK} {K : PySem.W.Frag} {n : Bool}
end
end KB
namespace KB
open PySem PySem.Spec PyProof.Rows L2 TL
/-! ### texts as lists of codes -/
/-- printable signs alone -/
def Pr (z : Str) : Prop := ∀ c ∈ tl z, 32 ≤ c ∧ c < 127
theorem Pr.app {x y : Str} (hx : Pr x) (hy : Pr y) : Pr (x ++ y) := fun c hc => by
  rw [tl_append] at hc
  rcases List.mem_append.mp hc with h | h
  · exact hx c h
  · exact hy c h
theorem pr_one {c : Nat} (h : 32 ≤ c ∧ c < 127) : Pr ⟨#[c]⟩ := fun d hd => by
  have e : d = c := List.mem_singleton.mp hd
  subst e
  exact h
theorem pr_lit {s : String} (h : (s.toList.map Char.toNat).all (fun c => decide (32 ≤ c) && decide (c < 127)) = true) : Pr (Str.ofString s) := fun c hc => by
  rw [tl_ofString] at hc
  have q := List.all_eq_true.mp h c hc
  simpa using q
theorem len_app (x y : Str) : (x ++ y).length = x.length + y.length := by rw [len_tl, tl_append, List.length_append, ← len_tl, ← len_tl]
theorem tl_neg (n : Nat) (h : 0 < n) : tl (Str.ofString (toString (-(n : Int)))) = 45 :: numL n := by
  obtain ⟨m, rfl⟩ : ∃ m, n = m + 1 := ⟨n - 1, by omega⟩
  have e : toString (-((m + 1 : Nat) : Int)) = "-" ++ toString ((m + 1 : Nat) : Int) := rfl
  rw [e, tl_ofString, String.toList_append, List.map_append]
  rw [show List.map Char.toNat (toString ((m + 1 : Nat) : Int)).toList = numL (m + 1) from (tl_ofString _).symm.trans (tl_num (m + 1))]
  rfl
/-- the codes of str(n) -/
def intL (n : Int) : List Nat := if n < 0 then 45 :: numL n.natAbs else numL n.natAbs
theorem tl_int (n : Int) : tl (Str.ofString (toString n)) = intL n := by
  unfold intL
  split
  · have e : n = -((n.natAbs : Nat) : Int) := by omega
    have h := tl_neg n.natAbs (by omega)
    rw [← e] at h
    exact h
  · have e : n = ((n.natAbs : Nat) : Int) := by omega
    have h := tl_num n.natAbs
    rw [← e] at h
    exact h
theorem intL_sign {n : Int} {c : Nat} (h : c ∈ intL n) : c = 45 ∨ (48 ≤ c ∧ c ≤ 57) := by
  unfold intL at h
  split at h
  · rcases List.mem_cons.mp h with h | h
    · exact .inl h
    · exact .inr (numL_digits _ c h)
  · exact .inr (numL_digits _ c h)
theorem pr_int (n : Int) : Pr (Str.ofString (toString n)) := fun c hc => by
  rw [tl_int] at hc
  have h := intL_sign hc
  omega
theorem len_int {n : Int} {k : Nat} (hk : 0 < k) (h : n.natAbs < 10 ^ k) : (Str.ofString (toString n)).length ≤ k + 1 := by
  rw [len_tl, tl_int]
  have e := numL_len hk h
  unfold intL
  split
  · rw [List.length_cons]; omega
  · omega
theorem log_int {n : Int} (h : n.natAbs < 10 ^ 30) : n.natAbs.log2 < 1920 := by
  by_cases h0 : n.natAbs = 0
  · rw [h0]; decide
  · exact (Nat.log2_lt h0).mpr (Nat.lt_trans h (by decide +kernel))
theorem menu_at {vs : List V} {n : Nat} {r : Int} (hn : vs.length = n) (r0 : 0 ≤ r) (r1 : r < n) : ∃ v ∈ vs, atI vs r = some v := by
  obtain ⟨j, rfl⟩ := Int.eq_ofNat_of_zero_le r0
  have hj : j < vs.length := by omega
  exact ⟨vs[j], List.getElem_mem hj, atI_nat (List.getElem?_eq_getElem hj)⟩
theorem menu_ex {vs : List V} {n : Nat} {r : Int} {R : V → Prop} (hn : vs.length = n) (r0 : 0 ≤ r) (r1 : r < n) (k : ∀ v ∈ vs, R v) : ∃ v, atI vs r = some v ∧ R v := by
  obtain ⟨v, hv, e⟩ := menu_at hn r0 r1
  exact ⟨v, e, k v hv⟩
/-! ### numbers read from digits -/
theorem digitsVal_snoc (l : List Nat) (c : Nat) : NumText.digitsVal (l ++ [c]) = NumText.digitsVal l * 10 + (c - 48) := by
  unfold NumText.digitsVal
  rw [List.foldl_append]
  rfl
theorem rev_ind {α : Type} {p : List α → Prop} (h0 : p []) (h1 : ∀ l a, p l → p (l ++ [a])) (l : List α) : p l := by
  rw [← List.reverse_reverse l]
  induction l.reverse with
  | nil => exact h0
  | cons a r ih => rw [List.reverse_cons]; exact h1 _ _ ih
theorem digitsVal_lt (l : List Nat) : NumText.AllDigits l → NumText.digitsVal l < 10 ^ l.length := by
  refine rev_ind (p := fun l => NumText.AllDigits l → NumText.digitsVal l < 10 ^ l.length) (fun _ => by decide) (fun r c ih hd => ?_) l
  have hc := hd c (by simp)
  have h1 := ih fun d h => hd d (List.mem_append_left _ h)
  rw [digitsVal_snoc, List.length_append, List.length_singleton, Nat.pow_succ]
  omega
theorem digits30 {l : List Nat} (hd : NumText.AllDigits l) (h : l.length ≤ 30) : NumText.digitsVal l < 10 ^ 30 := Nat.lt_of_lt_of_le (digitsVal_lt l hd) (Nat.pow_le_pow_right (by decide) h)
theorem digits_pos (l : List Nat) : NumText.AllDigits l → l ≠ [] → l.head? ≠ some 48 → 0 < NumText.digitsVal l := by
  refine rev_ind (p := fun l => NumText.AllDigits l → l ≠ [] → l.head? ≠ some 48 → 0 < NumText.digitsVal l) (fun _ h _ => absurd rfl h) (fun r c ih hd _ hh => ?_) l
  rw [digitsVal_snoc]
  have hc := hd c (by simp)
  cases r with
  | nil =>
    have : c ≠ 48 := fun e => hh (by simp [e])
    omega
  | cons x r =>
    have := ih (fun d h => hd d (List.mem_append_left _ h)) (by simp) (by simpa using hh)
    omega
theorem numL_back (l : List Nat) : NumText.AllDigits l → l ≠ [] → (l = [48] ∨ l.head? ≠ some 48) → numL (NumText.digitsVal l) = l := by
  refine rev_ind (p := fun l => NumText.AllDigits l → l ≠ [] → (l = [48] ∨ l.head? ≠ some 48) → numL (NumText.digitsVal l) = l) (fun _ h _ => absurd rfl h) (fun r c ih hd _ hh => ?_) l
  have hc := hd c (by simp)
  have hr : NumText.AllDigits r := fun d h => hd d (List.mem_append_left _ h)
  rw [digitsVal_snoc]
  cases r with
  | nil =>
    rw [show NumText.digitsVal [] * 10 + (c - 48) = c - 48 by simp [NumText.digitsVal]]
    rw [numL_lt (by omega)]
    simp
    omega
  | cons x r =>
    have hx : (x :: r).head? ≠ some 48 := by
      rcases hh with hh | hh
      · have := congrArg List.length hh
        simp at this
      · simpa using hh
    have hp := digits_pos (x :: r) hr (by simp) hx
    rw [numL_step (by omega)]
    rw [show (NumText.digitsVal (x :: r) * 10 + (c - 48)) / 10 = NumText.digitsVal (x :: r) by omega, show (NumText.digitsVal (x :: r) * 10 + (c - 48)) % 10 = c - 48 by omega, ih hr (by simp) (.inr hx)]
    congr 2
    omega
/-! ### digit keys -/
def isDg (c : Nat) : Bool := decide (48 ≤ c) && decide (c ≤ 57)
/-- what stands behind a minus sign, or the whole -/
def body (l : List Nat) : List Nat := if l.head? = some 45 then l.tail else l
def digK (l : List Nat) : Bool := decide (body l ≠ []) && decide ((body l).length ≤ 30) && (body l).all isDg && (decide (l = [48]) || decide ((body l).head? ≠ some 48))
theorem digK_int {z : Str} (h : digK (tl z) = true) : ∃ n, PySem.intText? z = some n ∧ Str.ofString (toString n) = z ∧ z.length ≤ 31 ∧ n.natAbs < 10 ^ 30 := by
  unfold digK at h
  simp only [Bool.and_eq_true, decide_eq_true_eq, Bool.or_eq_true] at h
  obtain ⟨⟨⟨h1, h2⟩, h3⟩, h4⟩ := h
  have hd : NumText.AllDigits (body (tl z)) := fun c hc => by
    have q := List.all_eq_true.mp h3 c hc
    simpa [isDg] using q
  by_cases hm : (tl z).head? = some 45
  · obtain ⟨r, er⟩ : ∃ r, tl z = 45 :: r := by
      cases e : tl z with
      | nil => rw [e] at hm; cases hm
      | cons x r => rw [e] at hm; cases hm; exact ⟨r, rfl⟩
    have eb : body (tl z) = r := by unfold body; rw [if_pos hm, er]; rfl
    rw [eb] at h1 h2 hd h4
    have h0 : r.head? ≠ some 48 := by
      rcases h4 with h4 | h4
      · rw [er] at h4; cases h4
      · exact h4
    have hp := digits_pos r hd h1 h0
    have hl : z.length ≤ 31 := by rw [len_tl, er, List.length_cons]; omega
    refine ⟨-((NumText.digitsVal r : Nat) : Int), intText_neg er hd h1 (by omega), ext_tl ?_, hl, by have := digits30 hd h2; omega⟩
    rw [tl_neg _ hp, er, numL_back r hd h1 (.inr h0)]
  · have eb : body (tl z) = tl z := by unfold body; rw [if_neg hm]
    rw [eb] at h1 h2 hd h4
    have hl : z.length ≤ 31 := by rw [len_tl]; omega
    refine ⟨((NumText.digitsVal (tl z) : Nat) : Int), intText_digits hd h1 (by omega), ext_tl ?_, hl, by have := digits30 hd h2; omega⟩
    rw [tl_num, numL_back _ hd h1 h4]
theorem uni_dig : ∀ c : Nat, c < 127 → Unicode.isDigit c = isDg c := by decide +kernel
theorem isdigit_pr {z : Str} (h : ∀ c ∈ tl z, 32 ≤ c ∧ c < 127) : Txt.isdigit z = (decide (tl z ≠ []) && (tl z).all isDg) := by
  have e1 : (decide (z.length > 0)) = decide (tl z ≠ []) := by
    rw [len_tl]
    cases tl z <;> simp
  have e2 : z.cps.all Unicode.isDigit = (tl z).all isDg := by
    rw [← Array.all_toList]
    rw [Bool.eq_iff_iff, List.all_eq_true, List.all_eq_true]
    exact ⟨fun q c hc => by rw [← uni_dig c (h c hc).2]; exact q c hc, fun q c hc => by rw [uni_dig c (h c hc).2]; exact q c hc⟩
  unfold Txt.isdigit
  rw [e1, e2]
end KB
namespace KB
open PySem PySem.Spec PyProof.Rows L2 TL
/-! ### raw values -/
inductive Raw where
  | non
  | bl (b : Bool)
  | int (n : Int)
  | str (z : Str)
  | row (rs : List Raw)
  | tab (zs : List Str) (rs : List Raw)
mutual
def Rp (H : Hp) : Raw → V → Prop
  | .non, v => v = .non
  | .bl b, v => v = .bl b
  | .int n, v => v = .int n
  | .str z, v => v = .str z
  | .row rs, v => ∃ t l vs, v = .ref t ∧ H t = some (.tup [.str "row", .ref l]) ∧ H l = some (.lst vs) ∧ RpL H rs vs
  | .tab zs rs, v => ∃ t l vs, v = .ref t ∧ H t = some (.tup [.str "table", .ref l]) ∧ H l = some (.lst vs) ∧ RpP H rs zs vs
def RpL (H : Hp) : List Raw → List V → Prop
  | [], vs => vs = []
  | r :: rs, vs => ∃ v ws, vs = v :: ws ∧ Rp H r v ∧ RpL H rs ws
def RpP (H : Hp) : List Raw → List Str → List V → Prop
  | [], zs, vs => zs = [] ∧ vs = []
  | r :: rs, zs, vs => ∃ z ys t v ws, zs = z :: ys ∧ vs = .ref t :: ws ∧ H t = some (.tup [.str z, v]) ∧ Rp H r v ∧ RpP H rs ys ws
end
mutual
theorem Rp.mono {H H' : Hp} (s : Same H H') : ∀ (r : Raw) (v : V), Rp H r v → Rp H' r v
  | .non, _, h => h
  | .bl _, _, h => h
  | .int _, _, h => h
  | .str _, _, h => h
  | .row rs, v, h => by
    obtain ⟨t, l, vs, e, h1, h2, h3⟩ := h
    exact ⟨t, l, vs, e, s _ _ h1, s _ _ h2, RpL.mono s rs vs h3⟩
  | .tab zs rs, v, h => by
    obtain ⟨t, l, vs, e, h1, h2, h3⟩ := h
    exact ⟨t, l, vs, e, s _ _ h1, s _ _ h2, RpP.mono s rs zs vs h3⟩
theorem RpL.mono {H H' : Hp} (s : Same H H') : ∀ (rs : List Raw) (vs : List V), RpL H rs vs → RpL H' rs vs
  | [], _, h => h
  | r :: rs, _, h => by
    obtain ⟨v, ws, e, h1, h2⟩ := h
    exact ⟨v, ws, e, Rp.mono s r v h1, RpL.mono s rs ws h2⟩
theorem RpP.mono {H H' : Hp} (s : Same H H') : ∀ (rs : List Raw) (zs : List Str) (vs : List V), RpP H rs zs vs → RpP H' rs zs vs
  | [], _, _, h => h
  | r :: rs, _, _, h => by
    obtain ⟨z, ys, t, v, ws, e1, e2, h0, h1, h2⟩ := h
    exact ⟨z, ys, t, v, ws, e1, e2, s _ _ h0, Rp.mono s r v h1, RpP.mono s rs ys ws h2⟩
end
mutual
def depth : Raw → Nat
  | .row rs => 1 + depthL rs
  | .tab _ rs => 1 + depthL rs
  | _ => 0
def depthL : List Raw → Nat
  | [] => 0
  | r :: rs => max (depth r) (depthL rs)
end
mutual
def OkR : Raw → Prop
  | .non => True
  | .bl _ => True
  | .int n => n.natAbs < 10 ^ 30
  | .str z => Pr z ∧ z.length ≤ 300
  | .row rs => OkL rs
  | .tab zs rs => OkL rs ∧ zs.length = rs.length ∧ ∀ z ∈ zs, Pr z ∧ z.length ≤ 300
def OkL : List Raw → Prop
  | [] => True
  | r :: rs => OkR r ∧ OkL rs
end
theorem RpL.len {H : Hp} : ∀ {rs : List Raw} {vs : List V}, RpL H rs vs → vs.length = rs.length
  | [], _, h => by cases h; rfl
  | r :: rs, _, h => by
    obtain ⟨v, ws, rfl, h1, h2⟩ := h
    rw [List.length_cons, List.length_cons, h2.len]
theorem RpP.len {H : Hp} : ∀ {rs : List Raw} {zs : List Str} {vs : List V}, RpP H rs zs vs → vs.length = rs.length ∧ zs.length = rs.length
  | [], _, _, h => by obtain ⟨rfl, rfl⟩ := h; exact ⟨rfl, rfl⟩
  | r :: rs, _, _, h => by
    obtain ⟨z, ys, t, v, ws, rfl, rfl, h0, h1, h2⟩ := h
    have := h2.len
    simp only [List.length_cons]
    omega
theorem RpL.get {H : Hp} : ∀ {rs : List Raw} {vs : List V} {i : Nat} {v : V}, RpL H rs vs → vs[i]? = some v → ∃ r, rs[i]? = some r ∧ Rp H r v
  | [], _, i, v, h, e => by cases h; simp at e
  | q :: rs, _, i, v, h, e => by
    obtain ⟨w, ws, rfl, h2, h3⟩ := h
    cases i with
    | zero => cases e; exact ⟨q, rfl, h2⟩
    | succ i => exact RpL.get (i := i) h3 (by simpa using e)
theorem RpP.get {H : Hp} : ∀ {rs : List Raw} {zs : List Str} {vs : List V} {i : Nat} {v : V}, RpP H rs zs vs → vs[i]? = some v → ∃ r z t u, rs[i]? = some r ∧ zs[i]? = some z ∧ v = .ref t ∧ H t = some (.tup [.str z, u]) ∧ Rp H r u
  | [], _, _, i, v, h, e => by obtain ⟨rfl, rfl⟩ := h; simp at e
  | q :: rs, _, _, i, v, h, e => by
    obtain ⟨y, ys, t, w, ws, rfl, rfl, h3, h4, h5⟩ := h
    cases i with
    | zero => cases e; exact ⟨q, y, t, w, rfl, rfl, rfl, h3, h4⟩
    | succ i => exact RpP.get (i := i) h5 (by simpa using e)
theorem OkL.get : ∀ {rs : List Raw} {i : Nat} {r : Raw}, OkL rs → rs[i]? = some r → OkR r
  | [], i, r, _, e => by simp at e
  | q :: rs, i, r, h, e => by
    cases i with
    | zero => cases e; exact h.1
    | succ i => exact OkL.get (i := i) h.2 (by simpa using e)
/-! ### parts of heaps -/
/-- what is new in the second one -/
def new (H H' : Hp) : Hp := fun b => if (H b).isSome then none else H' b
/-! ### a list of flat things compared with [] -/
theorem pr_strOk {z : Str} (h : Pr z) : PyData.strOk z = true := by
  unfold PyData.strOk
  rw [← Array.all_toList, List.all_eq_true]
  intro c hc
  have := (h c hc).2
  exact decide_eq_true (by omega)
/-! ### Keep and raw values -/
/-! ### a list at d grows by new raw values -/
/-! ### the same, where nothing that stood changes -/
end KB
namespace KB
open PySem PySem.Spec PyProof.Rows L2 TL
/-! ### the texts of raw values -/
def escC (c : Nat) : List Nat := if c = 34 ∨ c = 92 then [92, c] else [c]
def esc (l : List Nat) : List Nat := l.flatMap escC
def strL (l : List Nat) : List Nat := 34 :: (esc l ++ [34])
mutual
def rend : Raw → List Nat
  | .non => [110, 117, 108, 108]
  | .bl true => [116, 114, 117, 101]
  | .bl false => [102, 97, 108, 115, 101]
  | .int n => intL n
  | .str z => strL (tl z)
  | .row rs => 91 :: (joinL [44] (rendL rs) ++ [93])
  | .tab zs rs => 123 :: (joinL [44] (rendP rs zs) ++ [125])
def rendL : List Raw → List (List Nat)
  | [] => []
  | r :: rs => rend r :: rendL rs
def rendP : List Raw → List Str → List (List Nat)
  | [], _ => []
  | r :: rs, zs => (strL (tl (zs.headD Str.empty)) ++ 58 :: rend r) :: rendP rs zs.tail
end
/-! ### replace -/
/-! ### tokens -/
mutual
def toks : Raw → List (List Nat)
  | .row rs => [91] :: (tokL rs ++ [[93]])
  | .tab zs rs => [123] :: (tokP rs zs ++ [[125]])
  | .non => [rend .non]
  | .bl b => [rend (.bl b)]
  | .int n => [rend (.int n)]
  | .str z => [rend (.str z)]
def tokL : List Raw → List (List Nat)
  | [] => []
  | r :: rs => toks r ++ tokL' rs
def tokL' : List Raw → List (List Nat)
  | [] => []
  | r :: rs => [44] :: (toks r ++ tokL' rs)
def tokP : List Raw → List Str → List (List Nat)
  | [], _ => []
  | r :: rs, zs => strL (tl (zs.headD Str.empty)) :: [58] :: (toks r ++ tokP' rs zs.tail)
def tokP' : List Raw → List Str → List (List Nat)
  | [], _ => []
  | r :: rs, zs => [44] :: strL (tl (zs.headD Str.empty)) :: [58] :: (toks r ++ tokP' rs zs.tail)
end
end KB
namespace KB
open PySem PySem.Spec PyProof.Rows L2 TL
/-! ### the class Table as the top has made it -/
structure TabC (K : PySem.W.Frag) (mg : Str → Option Value) (C : Addr) : Prop where
  cl : Cls K C
  nH : NoAttr K C "held"
  mgC : mg "Table" = some (.ref C)
  kC : PySem.W.keepIn K (.ref C) = true
  mak : PySem.W.makesIn K C = true
  ha : PySem.W.findIn K (.ref C) "__class__" = some (some (.builtin "object.__class__"))
  hn : PySem.W.specialIn K (.builtin "object.__class__") "__get__" = some (some (.builtin "getset_descriptor.__get__"))
  ht : PySem.W.takesIn K (.builtin "object.__class__") = some true
  hm : PySem.W.mroIn K C (.type "object") = some true
  own : PySem.W.kitOne K (.ref C) (.ref C) = some true
  c_non : PySem.W.kitOne K (.type "NoneType") (.ref C) = some false
  c_bool : PySem.W.kitOne K (.type "bool") (.ref C) = some false
  c_int : PySem.W.kitOne K (.type "int") (.ref C) = some false
  c_str : PySem.W.kitOne K (.type "str") (.ref C) = some false
  c_list : PySem.W.kitOne K (.type "list") (.ref C) = some false
  c_tuple : PySem.W.kitOne K (.type "tuple") (.ref C) = some false
  c_dict : PySem.W.kitOne K (.type "dict") (.ref C) = some false
  t_int : PySem.W.kitOne K (.ref C) (.type "int") = some false
  t_bool : PySem.W.kitOne K (.ref C) (.type "bool") = some false
  t_str : PySem.W.kitOne K (.ref C) (.type "str") = some false
  t_list : PySem.W.kitOne K (.ref C) (.type "list") = some false
  t_tuple : PySem.W.kitOne K (.ref C) (.type "tuple") = some false
theorem TabC.non {K : PySem.W.Frag} {mg : Str → Option Value} {C : Addr} (T : TabC K mg C) {H : Hp} {x : V} {n : String} (h : TyN H x n) : PySem.W.kitOne K (.type n) (.ref C) = some false := by
  unfold TyN at h
  split at h
  · subst h; exact T.c_non
  · subst h; exact T.c_bool
  · subst h; exact T.c_int
  · subst h; exact T.c_str
  · rcases h with ⟨_, _, rfl⟩ | ⟨_, _, rfl⟩ | ⟨_, _, rfl⟩
    · exact T.c_list
    · exact T.c_tuple
    · exact T.c_dict
  · exact h.elim
theorem TyN.one {H : Hp} {x : V} {m n : String} (h : TyN H x m) (g : TyN H x n) : m = n := by
  unfold TyN at h g
  split at h
  · subst h; subst g; rfl
  · subst h; subst g; rfl
  · subst h; subst g; rfl
  · subst h; subst g; rfl
  · rcases h with ⟨_, e, rfl⟩ | ⟨_, e, rfl⟩ | ⟨_, e, rfl⟩ <;> rcases g with ⟨_, e', rfl⟩ | ⟨_, e', rfl⟩ | ⟨_, e', rfl⟩ <;> first | rfl | (rw [e] at e'; cases e')
  · exact h.elim
def isBT (T : String) : Bool := T == "int" || T == "bool" || T == "str" || T == "list" || T == "tuple"
theorem isBT_mem {T : String} (h : isBT T = true) : T = "int" ∨ T = "bool" ∨ T = "str" ∨ T = "list" ∨ T = "tuple" := by
  unfold isBT at h
  simp only [Bool.or_eq_true, beq_iff_eq] at h
  rcases h with (((h | h) | h) | h) | h <;> simp [h]
/-- what isinstance says of a value and a class: a built-in one or Table -/
inductive IsT (C : Addr) (H : Hp) : V → V → Bool → Prop where
  | ty {x : V} {n T : String} {b : Bool} (h : TyN H x n) (k : kitB n T = some b) : IsT C H x (.ty T) b
  | tab {a dx : Addr} {fs : List (Str × V)} {T : String} (h : H a = some (.ins C dx fs)) (k : isBT T = true) : IsT C H (.ref a) (.ty T) false
  | no {x : V} {n : String} (h : TyN H x n) : IsT C H x (.ref C) false
  | own {a dx : Addr} {fs : List (Str × V)} (h : H a = some (.ins C dx fs)) : IsT C H (.ref a) (.ref C) true
theorem IsT.rule {K : PySem.W.Frag} {mg : Str → Option Value} {C : Addr} (T : TabC K mg C) {H : Hp} {x c : V} {b : Bool} (h : IsT C H x c b) : ∃ t u, ClsV c u ∧ TyX K H x t ∧ PySem.W.kitOne K t u = some b := by
  cases h with
  | ty h k => exact ⟨_, _, .ty _, h.ty, kit_ty k⟩
  | tab h k =>
    refine ⟨_, _, .ty _, .base (.ins h T.cl T.ha T.hn T.ht T.hm), ?_⟩
    rcases isBT_mem k with rfl | rfl | rfl | rfl | rfl
    · exact T.t_int
    · exact T.t_bool
    · exact T.t_str
    · exact T.t_list
    · exact T.t_tuple
  | no h => exact ⟨_, _, .own C, h.ty, T.non h⟩
  | own h => exact ⟨_, _, .own C, .base (.ins h T.cl T.ha T.hn T.ht T.hm), T.own⟩
section
variable {X : Cx} {C : Addr}
end
/-! ### the readings -/
section
variable {C a D : Addr} {H : Hp} {Q : VK} {T : String} {b : Bool} {x c : V}
end
end KB
namespace KB
open PySem PySem.Spec PyProof.Rows L2 TL
/-! ### values of the program -/
inductive Val where
  | non
  | bl (b : Bool)
  | int (n : Int)
  | str (z : Str)
  | lst (vs : List Val)
  | tup (vs : List Val)
  | tab (ks : List Key) (vs : List Val)
mutual
def RpV (C : Addr) (H : Hp) : Val → V → Prop
  | .non, v => v = .non
  | .bl b, v => v = .bl b
  | .int n, v => v = .int n
  | .str z, v => v = .str z
  | .lst vs, v => ∃ a ws, v = .ref a ∧ H a = some (.lst ws) ∧ RpVL C H vs ws
  | .tup vs, v => ∃ a ws, v = .ref a ∧ H a = some (.tup ws) ∧ RpVL C H vs ws
  | .tab ks vs, v => ∃ a dx d ws, v = .ref a ∧ H a = some (.ins C dx [("held", .ref d)]) ∧ H d = some (.dK (ks.zip ws)) ∧ ks.Nodup ∧ ks.length = vs.length ∧ RpVL C H vs ws
def RpVL (C : Addr) (H : Hp) : List Val → List V → Prop
  | [], ws => ws = []
  | v :: vs, ws => ∃ w us, ws = w :: us ∧ RpV C H v w ∧ RpVL C H vs us
end
section
variable {C : Addr} {H H' : Hp}
mutual
theorem RpV.mono (s : Same H H') : ∀ (x : Val) (v : V), RpV C H x v → RpV C H' x v
  | .non, _, h => h
  | .bl _, _, h => h
  | .int _, _, h => h
  | .str _, _, h => h
  | .lst vs, v, h => by
    obtain ⟨a, ws, e, h1, h2⟩ := h
    exact ⟨a, ws, e, s _ _ h1, RpVL.mono s vs ws h2⟩
  | .tup vs, v, h => by
    obtain ⟨a, ws, e, h1, h2⟩ := h
    exact ⟨a, ws, e, s _ _ h1, RpVL.mono s vs ws h2⟩
  | .tab ks vs, v, h => by
    obtain ⟨a, dx, d, ws, e, h1, h2, h3, h4, h5⟩ := h
    exact ⟨a, dx, d, ws, e, s _ _ h1, s _ _ h2, h3, h4, RpVL.mono s vs ws h5⟩
theorem RpVL.mono (s : Same H H') : ∀ (vs : List Val) (ws : List V), RpVL C H vs ws → RpVL C H' vs ws
  | [], _, h => h
  | v :: vs, _, h => by
    obtain ⟨w, us, e, h1, h2⟩ := h
    exact ⟨w, us, e, RpV.mono s v w h1, RpVL.mono s vs us h2⟩
end
theorem RpVL.len : ∀ {vs : List Val} {ws : List V}, RpVL C H vs ws → ws.length = vs.length
  | [], _, h => by cases h; rfl
  | v :: vs, _, h => by
    obtain ⟨w, us, rfl, h1, h2⟩ := h
    rw [List.length_cons, List.length_cons, h2.len]
theorem RpVL.get : ∀ {vs : List Val} {ws : List V} {i : Nat} {w : V}, RpVL C H vs ws → ws[i]? = some w → ∃ v, vs[i]? = some v ∧ RpV C H v w
  | [], _, i, w, h, e => by cases h; simp at e
  | x :: vs, _, i, w, h, e => by
    obtain ⟨y, us, rfl, h2, h3⟩ := h
    cases i with
    | zero => cases e; exact ⟨x, rfl, h2⟩
    | succ i => exact RpVL.get (i := i) h3 (by simpa using e)
end
mutual
def vparts : Val → Nat
  | .lst vs => 1 + vpartsL vs
  | .tup vs => 1 + vpartsL vs
  | .tab _ vs => 1 + vpartsL vs
  | _ => 1
def vpartsL : List Val → Nat
  | [] => 0
  | v :: vs => vparts v + vpartsL vs
end
mutual
def vdepth : Val → Nat
  | .lst vs => 1 + vdepthL vs
  | .tup vs => 1 + vdepthL vs
  | .tab _ vs => 1 + vdepthL vs
  | _ => 0
def vdepthL : List Val → Nat
  | [] => 0
  | v :: vs => max (vdepth v) (vdepthL vs)
end
/-! ### a part of the heap, and what is new -/
section
variable {σ : L2.St} {H : Hp} {Q : VK} {D : L2.Ends} {K : PySem.W.Frag}
end
/-! ### a class called, a method called -/
structure NewC (P : Program) (w : World) (K : PySem.W.Frag) (mg : Str → Option Value) (base : Heap) (k : Nat) (x : Str) (C : Addr) (sp : Sp) : Prop where
  ex : ∃ (f : Addr) (fd : FuncData) (ps : List Str) (spI : Sp), Mk K C f ∧ mg x = some (.ref C) ∧ Binds K fd ps [] ∧ FnOk P w K mg base CX0 k f fd ps spI ∧
    ∀ vs H Q, sp vs H Q E0 → ∀ a dx, H a = none → H dx = none → dx ≠ a → spI (.ref a :: vs) (upd (upd H dx (.own a)) a (.ins C dx [])) (fun v H2 => v = .non ∧ Q (.ref a) H2) E0
/-- a method by its class -/
structure MthC (P : Program) (w : World) (K : PySem.W.Frag) (mg : Str → Option Value) (base : Heap) (k : Nat) (C : Addr) (m : Str) (ps : List Str) (sp : Sp) : Prop where
  ex : ∃ (f : Addr) (fd : FuncData), Meth K C m f ∧ Binds K fd ps [] ∧ FnOk P w K mg base CX0 k f fd ps sp
/-- a def of a class, as the top has made it (defaults: dvs) -/
structure DefM (K : PySem.W.Frag) (C : Addr) (m qual : Str) (st : Stmt) (dvs : List V) : Prop where
  ex : ∃ (f : Addr) (fd : FuncData), FunD K m qual (defArgs st) (defBody st) (defScope st) dvs [] f fd ∧ PySem.W.findIn K (.ref C) m = some (some (.ref f)) ∧ PySem.W.isFn K (.ref f) = true
section
variable {X : Cx} {k : Nat} {x : Str} {C : Addr} {sp : Sp} {p pos : Pos} {e : Expr} {es : List Expr} {t : TA}
theorem PE.wk {e : Expr} {t t' : TE} (h : PE X e t) (w : ∀ σ H Q, t' σ H Q → t σ H Q) : PE X e t' := ⟨fun pins s σ H Q I q => h.run pins s σ H Q I (w _ _ _ q)⟩
end
/-! ### for over a list or a tuple -/
def iSeq (K : PySem.W.Frag) (tl : TE) : TI := fun σ H R => tl σ H fun x H1 => ∃ a, x = .ref a ∧ (((∃ xs, SqL K H1 a xs) ∧ R (Itl K a) H1) ∨ ((∃ xs, SqT K H1 a xs) ∧ R (Itt K a) H1))
section
variable {X : Cx} {tg : Expr}
theorem pi_seq {l : Expr} {tl : TE} (hl : PE X l tl) : PI X tg l (iSeq X.K tl) := by
  refine ⟨fun pins s σ H R I h => ?_⟩
  refine thn (hl.run pins s σ H _ I h) fun v s1 ⟨x, H1, I1, r1, q1⟩ => ?_
  obtain ⟨a, e, ⟨⟨xs, hq⟩, q⟩ | ⟨⟨xs, hq⟩, q⟩⟩ := q1
  · subst e
    cases r1
    obtain ⟨its, rv, p, hz⟩ := I1.list hq
    refine wpAny_pyIter_list p.isList ?_
    refine ⟨s1.heap.objs.size, [s1.heap.objs.size], _, _, H1, rfl, I1.kept (t' := s1.toks) fun b o e => Heap.get?_push_of_some _ e, turn_list a _, ⟨_, Heap.get?_push_size _ rfl, rfl, rfl⟩, fun b hb => ?_, q⟩
    have e : b = s1.heap.objs.size := by simpa using hb
    subst e
    exact I1.fpOk (Nat.le_refl _) (I1.hok.fresh (Nat.le_refl _))
  · subst e
    cases r1
    obtain ⟨its, rv, p, hz⟩ := I1.tuple hq
    refine wpAny_pyIter_tuple (show s1.heap.IsTuple a its.toArray from p) ?_
    refine ⟨s1.heap.objs.size, [s1.heap.objs.size], _, _, H1, rfl, I1.kept (t' := s1.toks) fun b o e => Heap.get?_push_of_some _ e, turn_tuple a _, ⟨_, Heap.get?_push_size _ rfl, rfl, rfl⟩, fun b hb => ?_, q⟩
    have e : b = s1.heap.objs.size := by simpa using hb
    subst e
    exact I1.fpOk (Nat.le_refl _) (I1.hok.fresh (Nat.le_refl _))
end
section
variable {P : Program} {w : World} {K : PySem.W.Frag} {mg : Str → Option Value} {base : Heap} {C : Addr}
/-- a class by its __init__ (one default, every argument written) -/
theorem DefM.new {x qual : Str} {st : Stmt} {dv : V} {N ps : List Str} {k : Nat} {sp spI : Sp} (D : DefM K C "__init__" qual st [dv]) (hmk : PySem.W.makesIn K C = true) (hkp : PySem.W.keepIn K (.ref C) = true) (g : mg x = some (.ref C)) (S : FnScope N ps (defScope st))
    (hb : ∀ (T : Addr) (kV doc pm : Value) (an : Option Addr) (cdv ct : Value) (us its : List Value), us.length = ps.length → its.length = 1 →
      ∃ k, bindArgs (PySem.W.fnOf "__init__" qual (defArgs st) (defBody st) (defScope st) (.ref T) kV doc pm an cdv ct) ⟨us, []⟩ = seqItems? (.ref T) >>= k ∧ k (some its.toArray) = pure (ps.zip (us ++ its.drop 1)))
    (len : ∀ vs H Q E, spI vs H Q E → vs.length = ps.length)
    (hbody : ∀ (f : Addr) (cdv : Value) (A : Around) (outer : List Env) (s : Shared) (H : Hp) (vs : List V) (Q : VK) (E : XK), Room k (A.deeper (envOfC qual (defScope st) s.heap.objs.size f cdv)) → spI vs H Q E →
      ∃ t, PSs (cxOf CX0 P w K mg base N qual (defScope st) f cdv A outer s H E).nox (defBody st) t ∧ t { nx := fun _ H' => Q .non H', rt := Q } (start N vs) H)
    (hw : ∀ vs H Q, sp vs H Q E0 → ∀ a dx, H a = none → H dx = none → dx ≠ a → spI (.ref a :: vs) (upd (upd H dx (.own a)) a (.ins C dx [])) (fun v H2 => v = .non ∧ Q (.ref a) H2) E0) : NewC P w K mg base (k + 1) x C sp := by
  obtain ⟨f, fd, F, h1, h2⟩ := D.ex
  obtain ⟨ds, v, b⟩ := F.binds1 (ps := ps) ps.length 1 (by simp) (by simp) (fun T kV doc pm an cdv ct us its h3 h4 => hb T kV doc pm an cdv ct us its h3 h4)
  cases v
  refine ⟨f, fd, ps, spI, ⟨hmk, h1, h2, hkp⟩, g, b, F.ok S len fun cdv A outer s H vs Q E hr hq => ?_, hw⟩
  obtain ⟨t, h, q⟩ := hbody f cdv A outer s H vs Q E hr hq
  exact ⟨t, h.nox, q⟩
end
/-! ### tuple(xs), list(xs) -/
/-! ### a list at d grows by parts that were there (in G) or are new -/
section
variable {G H H2 H3 : Hp} {d : Addr} {o u : HO}
end
/-! ### dicts by keys -/
/-- entries: a list of pairs -/
def Ents (H : Hp) : List V → List Key → List V → Prop
  | [], ks, ws => ks = [] ∧ ws = []
  | e :: es, ks, ws => ∃ t k ks' w ws', e = .ref t ∧ ks = k :: ks' ∧ ws = w :: ws' ∧ H t = some (.tup [kV k, w]) ∧ Ents H es ks' ws'
theorem Ents.mono {H H' : Hp} (s : Same H H') : ∀ {es : List V} {ks : List Key} {ws : List V}, Ents H es ks ws → Ents H' es ks ws
  | [], _, _, h => h
  | e :: es, _, _, h => by
    obtain ⟨t, k, ks', w, ws', e1, e2, e3, h1, h2⟩ := h
    exact ⟨t, k, ks', w, ws', e1, e2, e3, s _ _ h1, h2.mono s⟩
theorem Ents.get {H : Hp} : ∀ {es : List V} {ks : List Key} {ws : List V} {i : Nat} {e : V}, Ents H es ks ws → es[i]? = some e → ∃ t k w, e = .ref t ∧ ks[i]? = some k ∧ ws[i]? = some w ∧ H t = some (.tup [kV k, w])
  | [], _, _, i, e, h, he => by simp at he
  | x :: es, _, _, i, e, h, he => by
    obtain ⟨t, k, ks', w, ws', rfl, rfl, rfl, h1, h2⟩ := h
    cases i with
    | zero => cases he; exact ⟨t, k, w, rfl, rfl, rfl, h1⟩
    | succ i => exact Ents.get (i := i) h2 (by simpa using he)
theorem Ents.len {H : Hp} : ∀ {es : List V} {ks : List Key} {ws : List V}, Ents H es ks ws → ks.length = es.length ∧ ws.length = es.length
  | [], _, _, h => by obtain ⟨rfl, rfl⟩ := h; exact ⟨rfl, rfl⟩
  | x :: es, _, _, h => by
    obtain ⟨t, k, ks', w, ws', rfl, rfl, rfl, h1, h2⟩ := h
    have := h2.len
    simp only [List.length_cons]
    omega
end KB
namespace KQ
open PySem PySem.Spec PyProof.Rows L2 TL KB
/-! ### trees: what values mean, without addresses -/
inductive Tr where
  | non
  | bl (b : Bool)
  | int (n : Int)
  | str (z : Str)
  | ty (n : String)
  | ref (a : Addr)
  | scr (ns : List Int)
  | exc (a d : Addr) (c : Value) (fs : List Str) (xs : List Tr)
  | lst (xs : List Tr)
  | tup (xs : List Tr)
  | dic (ks : List Key) (xs : List Tr)
  | ins (C : Addr) (fs : List Str) (xs : List Tr)
  | opq (o : HO)
  | sem (c : Hp → Addr → HO → Prop)
abbrev Sto := Addr → Option Tr
abbrev Rho := List (Option Tr)
mutual
def Rep (K : PySem.W.Frag) (I : Hp) : Tr → V → Prop
  | .non, v => v = .non
  | .bl b, v => v = .bl b
  | .int n, v => v = .int n
  | .str z, v => v = .str z
  | .ty n, v => v = .ty n
  | .ref a, v => v = .ref a
  | .scr ns, v => ∃ a, v = .ref a ∧ SqL K I a (ns.map V.int)
  | .exc a d c fs xs, v => v = .ref a ∧ ∃ vs, I d = some (.xd (fs.zip vs)) ∧ fs.length = xs.length ∧ RepL K I xs vs
  | .lst xs, v => ∃ a vs, v = .ref a ∧ I a = some (.lst vs) ∧ RepL K I xs vs
  | .tup xs, v => ∃ a vs, v = .ref a ∧ SqT K I a vs ∧ RepL K I xs vs
  | .dic ks xs, v => ∃ a vs, v = .ref a ∧ I a = some (.dK (ks.zip vs)) ∧ ks.length = xs.length ∧ RepL K I xs vs
  | .ins C fs xs, v => ∃ a dx vs, v = .ref a ∧ I a = some (.ins C dx (fs.zip vs)) ∧ fs.length = xs.length ∧ RepL K I xs vs
  | .opq q, v => ∃ a, v = .ref a ∧ I a = some q
  | .sem c, v => ∃ a o, v = .ref a ∧ I a = some o ∧ ∀ I', Same I I' → c I' a o
def RepL (K : PySem.W.Frag) (I : Hp) : List Tr → List V → Prop
  | [], vs => vs = []
  | x :: xs, vs => ∃ v ws, vs = v :: ws ∧ Rep K I x v ∧ RepL K I xs ws
end
theorem sqT_mono {K : PySem.W.Frag} {H H' : Hp} {a : Addr} {xs : List V} (e : Same H H') (h : SqT K H a xs) : SqT K H' a xs := by
  rcases h with (h | ⟨o, h⟩) | h
  · exact .inl (.inl (e _ _ h))
  · exact .inl (.inr ⟨o, e _ _ h⟩)
  · exact .inr h
section
variable {K : PySem.W.Frag} {I I' : Hp}
mutual
theorem Rep.mono (s : Same I I') : ∀ (x : Tr) (v : V), Rep K I x v → Rep K I' x v
  | .non, _, h => h
  | .bl _, _, h => h
  | .int _, _, h => h
  | .str _, _, h => h
  | .ty _, _, h => h
  | .ref _, _, h => h
  | .scr _, _, h => by
    obtain ⟨a, e, h⟩ := h
    exact ⟨a, e, s.seq h⟩
  | .exc a d c fs xs, _, h => by
    obtain ⟨e, vs, h1, h2, h3⟩ := h
    exact ⟨e, vs, s _ _ h1, h2, RepL.mono s xs vs h3⟩
  | .lst xs, _, h => by
    obtain ⟨a, vs, e, h1, h2⟩ := h
    exact ⟨a, vs, e, s _ _ h1, RepL.mono s xs vs h2⟩
  | .tup xs, _, h => by
    obtain ⟨a, vs, e, h1, h2⟩ := h
    exact ⟨a, vs, e, sqT_mono s h1, RepL.mono s xs vs h2⟩
  | .dic ks xs, _, h => by
    obtain ⟨a, vs, e, h1, h2, h3⟩ := h
    exact ⟨a, vs, e, s _ _ h1, h2, RepL.mono s xs vs h3⟩
  | .ins C fs xs, _, h => by
    obtain ⟨a, dx, vs, e, h1, h2, h3⟩ := h
    exact ⟨a, dx, vs, e, s _ _ h1, h2, RepL.mono s xs vs h3⟩
  | .opq q, _, h => by
    obtain ⟨a, e, h1⟩ := h
    exact ⟨a, e, s _ _ h1⟩
  | .sem c, _, h => by
    obtain ⟨a, o, e, h1, h2⟩ := h
    exact ⟨a, o, e, s _ _ h1, fun I2 s2 => h2 I2 (s.trans s2)⟩
theorem RepL.mono (s : Same I I') : ∀ (xs : List Tr) (vs : List V), RepL K I xs vs → RepL K I' xs vs
  | [], _, h => h
  | x :: xs, _, h => by
    obtain ⟨v, ws, e, h1, h2⟩ := h
    exact ⟨v, ws, e, Rep.mono s x v h1, RepL.mono s xs ws h2⟩
end
theorem RepL.nil : RepL K I [] [] := rfl
theorem RepL.cons {x : Tr} {v : V} {xs : List Tr} {vs : List V} (h : Rep K I x v) (t : RepL K I xs vs) : RepL K I (x :: xs) (v :: vs) := ⟨v, vs, rfl, h, t⟩
theorem RepL.len : ∀ {xs : List Tr} {vs : List V}, RepL K I xs vs → vs.length = xs.length
  | [], _, h => by cases h; rfl
  | x :: xs, _, h => by
    obtain ⟨v, ws, rfl, h1, h2⟩ := h
    rw [List.length_cons, List.length_cons, h2.len]
theorem RepL.app : ∀ {xs ys : List Tr} {vs ws : List V}, RepL K I xs vs → RepL K I ys ws → RepL K I (xs ++ ys) (vs ++ ws)
  | [], _, _, _, h, g => by cases h; exact g
  | x :: xs, _, _, _, h, g => by
    obtain ⟨v, ws, rfl, h1, h2⟩ := h
    exact ⟨v, _, rfl, h1, h2.app g⟩
theorem RepL.get : ∀ {xs : List Tr} {vs : List V} {i : Nat} {v : V}, RepL K I xs vs → vs[i]? = some v → ∃ x, xs[i]? = some x ∧ Rep K I x v
  | [], _, i, v, h, e => by cases h; simp at e
  | x :: xs, _, i, v, h, e => by
    obtain ⟨y, us, rfl, h2, h3⟩ := h
    cases i with
    | zero => cases e; exact ⟨x, rfl, h2⟩
    | succ i => exact RepL.get (i := i) h3 (by simpa using e)
theorem RepL.get' : ∀ {xs : List Tr} {vs : List V} {i : Nat} {x : Tr}, RepL K I xs vs → xs[i]? = some x → ∃ v, vs[i]? = some v ∧ Rep K I x v
  | [], _, i, v, h, e => by simp at e
  | x :: xs, _, i, v, h, e => by
    obtain ⟨y, us, rfl, h2, h3⟩ := h
    cases i with
    | zero => cases e; exact ⟨y, rfl, h2⟩
    | succ i => exact RepL.get' (i := i) h3 (by simpa using e)
theorem RepL.drop : ∀ {xs : List Tr} {vs : List V} (n : Nat), RepL K I xs vs → RepL K I (xs.drop n) (vs.drop n)
  | _, _, 0, h => h
  | [], _, n + 1, h => by cases h; exact rfl
  | x :: xs, _, n + 1, h => by
    obtain ⟨v, ws, rfl, h1, h2⟩ := h
    exact RepL.drop n h2
theorem RepL.take : ∀ {xs : List Tr} {vs : List V} (n : Nat), RepL K I xs vs → RepL K I (xs.take n) (vs.take n)
  | _, _, 0, h => rfl
  | [], _, n + 1, h => by cases h; exact rfl
  | x :: xs, _, n + 1, h => by
    obtain ⟨v, ws, rfl, h1, h2⟩ := h
    exact ⟨v, _, rfl, h1, RepL.take n h2⟩
theorem RepL.set : ∀ {xs : List Tr} {vs : List V} {x : Tr} {v : V} (n : Nat), RepL K I xs vs → Rep K I x v → RepL K I (xs.set n x) (vs.set n v)
  | [], _, _, _, n, h, _ => by cases h; exact rfl
  | y :: xs, _, x, v, 0, h, g => by
    obtain ⟨w, ws, rfl, h1, h2⟩ := h
    exact ⟨v, ws, rfl, g, h2⟩
  | y :: xs, _, x, v, n + 1, h, g => by
    obtain ⟨w, ws, rfl, h1, h2⟩ := h
    exact ⟨w, _, rfl, h1, RepL.set n h2 g⟩
theorem RepL.ints : ∀ (ns : List Int), RepL K I (ns.map Tr.int) (ns.map V.int)
  | [] => rfl
  | n :: ns => ⟨_, _, rfl, rfl, RepL.ints ns⟩
end
/-! ### what a cell holds -/
def CRep (K : PySem.W.Frag) (I : Hp) : Tr → HO → Prop
  | .lst xs, o => ∃ vs, o = .lst vs ∧ RepL K I xs vs
  | .dic ks xs, o => ∃ vs, o = .dK (ks.zip vs) ∧ ks.length = xs.length ∧ RepL K I xs vs
  | .ins C fs xs, o => ∃ dx vs, o = .ins C dx (fs.zip vs) ∧ fs.length = xs.length ∧ RepL K I xs vs
  | .opq q, o => o = q
  | .sem c, o => ∀ I' a, Same I I' → c I' a o
  | _, _ => False
theorem CRep.mono {K : PySem.W.Frag} {I I' : Hp} (s : Same I I') {c : Tr} {o : HO} (h : CRep K I c o) : CRep K I' c o := by
  cases c with
  | lst xs => obtain ⟨vs, e, h⟩ := h; exact ⟨vs, e, h.mono s⟩
  | dic ks xs => obtain ⟨vs, e, l, h⟩ := h; exact ⟨vs, e, l, h.mono s⟩
  | ins C fs xs => obtain ⟨dx, vs, e, l, h⟩ := h; exact ⟨dx, vs, e, l, h.mono s⟩
  | opq q => exact h
  | sem c => exact fun I2 a s2 => h I2 a (s.trans s2)
  | _ => exact h.elim
def lk : Option Obj → HO → HO
  | none, o => o
  | some od, o => .frz od o
abbrev Lk := Addr → Option Obj
/-- H holds: the trees' part I (dicts locked by L), the cells S, the frame F -/
structure Hd (K : PySem.W.Frag) (L : Lk) (F H : Hp) (S : Sto) (I : Hp) : Prop where
  sub : ∀ b o, I b = some o → H b = some (lk (L b) o)
  lck : ∀ b od, L b = some od → ∃ kvs, I b = some (.dK kvs)
  cel : ∀ a c, S a = some c → I a = none ∧ F a = none ∧ ∃ o, H a = some o ∧ CRep K I c o
  fra : ∀ b o, F b = some o → H b = some o ∧ I b = none
def put (S : Sto) (a : Addr) (c : Tr) : Sto := fun b => if b = a then some c else S b
theorem put_same {S : Sto} {a : Addr} {c : Tr} : put S a c a = some c := if_pos rfl
theorem put_ne {S : Sto} {a b : Addr} {c : Tr} (h : b ≠ a) : put S a c b = S b := if_neg h
theorem put_put {S : Sto} {a : Addr} {c d : Tr} : put (put S a c) a d = put S a d := by
  funext b; unfold put; split <;> rfl
theorem put_comm {S : Sto} {a b : Addr} {c d : Tr} (h : a ≠ b) : put (put S a c) b d = put (put S b d) a c := by
  funext x; unfold put; split
  · rename_i e; subst e; rw [if_neg h.symm]
  · rfl
section
variable {K : PySem.W.Frag} {L : Lk} {F H : Hp} {S : Sto} {I : Hp} {a b p d : Addr} {o : HO} {c : Tr}
theorem Hd.freeI (h : Hd K L F H S I) (n : H p = none) : I p = none := by
  cases e : I p with
  | none => rfl
  | some o => rw [h.sub p o e] at n; cases n
theorem Hd.freeS (h : Hd K L F H S I) (n : H p = none) : S p = none := by
  cases e : S p with
  | none => rfl
  | some o => obtain ⟨_, _, o, e, _⟩ := h.cel p o e; rw [e] at n; cases n
theorem Hd.freeF (h : Hd K L F H S I) (n : H p = none) : F p = none := by
  cases e : F p with
  | none => rfl
  | some o => rw [(h.fra p o e).1] at n; cases n
theorem Hd.freeL (h : Hd K L F H S I) (n : H p = none) : L p = none := by
  cases e : L p with
  | none => rfl
  | some o => obtain ⟨k, e⟩ := h.lck p o e; rw [h.freeI n] at e; cases e
theorem Hd.lkN (h : Hd K L F H S I) (n : I p = none) : L p = none := by
  cases e : L p with
  | none => rfl
  | some o => obtain ⟨k, e⟩ := h.lck p o e; rw [n] at e; cases e
theorem upd_sub {H' : Hp} {p : Addr} {o : HO} (n : H' p = none) : Same H' (upd H' p o) := fun b u e => by rw [upd_ne (ne_of_none e n)]; exact e
/-- a new thing of the trees -/
theorem Hd.imm (h : Hd K L F H S I) (n : H p = none) : Hd K L F (upd H p o) S (upd I p o) where
  sub := fun b u e => by
    by_cases hb : b = p
    · subst hb; rw [upd_same] at e ⊢; cases e; rw [h.freeL n]; rfl
    · rw [upd_ne hb] at e ⊢; exact h.sub b u e
  lck := fun b od e => by
    obtain ⟨k, e⟩ := h.lck b od e
    exact ⟨k, by rw [upd_ne (ne_of_none e (h.freeI n))]; exact e⟩
  cel := fun a c e => by
    obtain ⟨h1, h2, o', h3, h4⟩ := h.cel a c e
    have hn : a ≠ p := ne_of_none h3 n
    exact ⟨by rw [upd_ne hn]; exact h1, h2, o', by rw [upd_ne hn]; exact h3, h4.mono (upd_sub (h.freeI n))⟩
  fra := fun b u e => by
    obtain ⟨h1, h2⟩ := h.fra b u e
    have hn : b ≠ p := ne_of_none h1 n
    exact ⟨by rw [upd_ne hn]; exact h1, by rw [upd_ne hn]; exact h2⟩
/-- a new thing that nobody tracks -/
theorem Hd.un (h : Hd K L F H S I) (n : H p = none) : Hd K L F (upd H p o) S I where
  sub := fun b u e => by rw [upd_ne (ne_of_none (h.sub b u e) n)]; exact h.sub b u e
  lck := h.lck
  cel := fun a c e => by
    obtain ⟨h1, h2, o', h3, h4⟩ := h.cel a c e
    exact ⟨h1, h2, o', by rw [upd_ne (ne_of_none h3 n)]; exact h3, h4⟩
  fra := fun b u e => by
    obtain ⟨h1, h2⟩ := h.fra b u e
    exact ⟨by rw [upd_ne (ne_of_none h1 n)]; exact h1, h2⟩
/-- a new cell -/
theorem Hd.cell (h : Hd K L F H S I) (n : H p = none) (r : CRep K I c o) : Hd K L F (upd H p o) (put S p c) I where
  sub := (h.un n).sub
  lck := h.lck
  cel := fun a c' e => by
    by_cases ha : a = p
    · subst ha; rw [put_same] at e; cases e
      exact ⟨h.freeI n, h.freeF n, o, upd_same, r⟩
    · rw [put_ne ha] at e
      exact (h.un n).cel a c' e
  fra := (h.un n).fra
/-- a cell is changed -/
theorem Hd.mut (h : Hd K L F H S I) {c0 : Tr} (e0 : S a = some c0) (r : CRep K I c o) : Hd K L F (upd H a o) (put S a c) I := by
  obtain ⟨i0, f0, _⟩ := h.cel a c0 e0
  refine ⟨fun b u e => ?_, h.lck, fun b c' e => ?_, fun b u e => ?_⟩
  · rw [upd_ne (ne_of_none e i0)]; exact h.sub b u e
  · by_cases hb : b = a
    · subst hb; rw [put_same] at e; cases e
      exact ⟨i0, f0, o, upd_same, r⟩
    · rw [put_ne hb] at e
      obtain ⟨h1, h2, o', h3, h4⟩ := h.cel b c' e
      exact ⟨h1, h2, o', by rw [upd_ne hb]; exact h3, h4⟩
  · obtain ⟨h1, h2⟩ := h.fra b u e
    exact ⟨by rw [upd_ne (ne_of_none e f0)]; exact h1, h2⟩
/-- into the frame -/
theorem Hd.frame (h : Hd K L F H S I) (n : H p = none) : Hd K L (upd F p o) (upd H p o) S I where
  sub := (h.un n).sub
  lck := h.lck
  cel := fun a c e => by
    obtain ⟨h1, h2, o', h3, h4⟩ := h.cel a c e
    have hn : a ≠ p := ne_of_none h3 n
    exact ⟨h1, by rw [upd_ne hn]; exact h2, o', by rw [upd_ne hn]; exact h3, h4⟩
  fra := fun b u e => by
    by_cases hb : b = p
    · subst hb; rw [upd_same] at e ⊢; exact ⟨e, h.freeI n⟩
    · rw [upd_ne hb] at e ⊢; exact h.fra b u e
theorem Hd.fewer {S' : Sto} (h : Hd K L F H S I) (s : ∀ a c, S' a = some c → S a = some c) : Hd K L F H S' I := ⟨h.sub, h.lck, fun a c e => h.cel a c (s a c e), h.fra⟩
def setL (L : Lk) (d : Addr) (v : Option Obj) : Lk := fun b => if b = d then v else L b
/-- a dict of the trees is locked -/
theorem Hd.lock {kvs : List (Key × V)} {od : Obj} (h : Hd K L F H S I) (e : I d = some (.dK kvs)) : Hd K (setL L d (some od)) F (upd H d (.frz od (.dK kvs))) S I := by
  refine ⟨fun b u z => ?_, fun b od' z => ?_, fun a c z => ?_, fun b u z => ?_⟩
  · by_cases hb : b = d
    · subst hb; rw [e] at z; cases z; rw [upd_same]; unfold setL; rw [if_pos rfl]; rfl
    · rw [upd_ne hb]; unfold setL; rw [if_neg hb]; exact h.sub b u z
  · unfold setL at z
    split at z
    · rename_i hb; subst hb; exact ⟨kvs, e⟩
    · exact h.lck b od' z
  · obtain ⟨h1, h2, o', h3, h4⟩ := h.cel a c z
    have hn : a ≠ d := fun y => by subst y; rw [e] at h1; cases h1
    exact ⟨h1, h2, o', by rw [upd_ne hn]; exact h3, h4⟩
  · obtain ⟨h1, h2⟩ := h.fra b u z
    have hn : b ≠ d := fun y => by subst y; rw [e] at h2; cases h2
    exact ⟨by rw [upd_ne hn]; exact h1, h2⟩
end
/-! ### what a tree shows, cells looked at -/
def vw (S : Sto) : Tr → Tr
  | .ref a => (S a).getD (.ref a)
  | x => x
theorem vw_ref {S : Sto} {a : Addr} {c : Tr} (h : S a = some c) : vw S (.ref a) = c := by show (S a).getD _ = c; rw [h]; rfl
section
variable {K : PySem.W.Frag} {L : Lk} {F H : Hp} {S : Sto} {I : Hp} {x : Tr} {v : V}
theorem vw_cases (S : Sto) (x : Tr) : (vw S x = x ∧ ∀ a, x = .ref a → S a = none) ∨ ∃ a c, x = .ref a ∧ S a = some c ∧ vw S x = c := by
  cases x with
  | ref a =>
    cases e : S a with
    | none => exact .inl ⟨by show (S a).getD _ = _; rw [e]; rfl, fun b z => by cases z; exact e⟩
    | some c => exact .inr ⟨a, c, rfl, e, vw_ref e⟩
  | _ => exact .inl ⟨rfl, fun a z => nomatch z⟩
theorem vw_lst {xs : List Tr} (h : Hd K L F H S I) (r : Rep K I x v) (e : vw S x = .lst xs) : ∃ a vs, v = .ref a ∧ H a = some (.lst vs) ∧ RepL K I xs vs := by
  rcases vw_cases S x with ⟨e1, n⟩ | ⟨a, c, rfl, ea, e1⟩
  · rw [e1] at e; subst e
    obtain ⟨a, vs, rfl, h1, h2⟩ := r
    have q := h.sub a _ h1
    have hl : L a = none := by
      cases z : L a with
      | none => rfl
      | some od => obtain ⟨k, z⟩ := h.lck a od z; rw [h1] at z; cases z
    rw [hl] at q
    exact ⟨a, vs, rfl, q, h2⟩
  · rw [e1] at e; subst e
    obtain ⟨_, _, o, h1, vs, rfl, h2⟩ := h.cel a _ ea
    cases r
    exact ⟨a, vs, rfl, h1, h2⟩
theorem Hd.sqT (h : Hd K L F H S I) {a : Addr} {vs : List V} (q : SqT K I a vs) : SqT K H a vs := by
  rcases q with (q | ⟨o, q⟩) | q
  · have e := h.sub a _ q
    cases z : L a with
    | none => rw [z] at e; exact .inl (.inl e)
    | some od => rw [z] at e; exact .inl (.inr ⟨od, e⟩)
  · have e := h.sub a _ q
    cases z : L a with
    | none => rw [z] at e; exact .inl (.inr ⟨o, e⟩)
    | some od => obtain ⟨k, z⟩ := h.lck a od z; rw [q] at z; cases z
  · exact .inr q
theorem Hd.sqL (h : Hd K L F H S I) {a : Addr} {vs : List V} (q : SqL K I a vs) : SqL K H a vs := by
  rcases q with (q | ⟨o, q⟩) | q
  · have e := h.sub a _ q
    cases z : L a with
    | none => rw [z] at e; exact .inl (.inl e)
    | some od => rw [z] at e; exact .inl (.inr ⟨od, e⟩)
  · have e := h.sub a _ q
    cases z : L a with
    | none => rw [z] at e; exact .inl (.inr ⟨o, e⟩)
    | some od => obtain ⟨k, z⟩ := h.lck a od z; rw [q] at z; cases z
  · exact .inr q
theorem vw_tup {xs : List Tr} (h : Hd K L F H S I) (r : Rep K I x v) (e : vw S x = .tup xs) : ∃ a vs, v = .ref a ∧ SqT K H a vs ∧ RepL K I xs vs := by
  rcases vw_cases S x with ⟨e1, n⟩ | ⟨a, c, rfl, ea, e1⟩
  · rw [e1] at e; subst e
    obtain ⟨a, vs, rfl, h1, h2⟩ := r
    exact ⟨a, vs, rfl, h.sqT h1, h2⟩
  · rw [e1] at e; subst e
    obtain ⟨_, _, o, h1, h2⟩ := h.cel a _ ea
    exact h2.elim
theorem vw_scr {ns : List Int} (h : Hd K L F H S I) (r : Rep K I x v) (e : vw S x = .scr ns) : ∃ a, v = .ref a ∧ SqL K H a (ns.map V.int) := by
  rcases vw_cases S x with ⟨e1, n⟩ | ⟨a, c, rfl, ea, e1⟩
  · rw [e1] at e; subst e
    obtain ⟨a, rfl, h1⟩ := r
    exact ⟨a, rfl, h.sqL h1⟩
  · rw [e1] at e; subst e
    obtain ⟨_, _, o, h1, h2⟩ := h.cel a _ ea
    exact h2.elim
theorem vw_dic {ks : List Key} {xs : List Tr} (h : Hd K L F H S I) (r : Rep K I x v) (e : vw S x = .dic ks xs) : ∃ a vs, v = .ref a ∧ Rd H a (.dK (ks.zip vs)) ∧ ks.length = xs.length ∧ RepL K I xs vs := by
  rcases vw_cases S x with ⟨e1, n⟩ | ⟨a, c, rfl, ea, e1⟩
  · rw [e1] at e; subst e
    obtain ⟨a, vs, rfl, h1, h2, h3⟩ := r
    refine ⟨a, vs, rfl, ?_, h2, h3⟩
    have q := h.sub a _ h1
    cases z : L a with
    | none => rw [z] at q; exact .inl q
    | some od => rw [z] at q; exact .inr ⟨od, q⟩
  · rw [e1] at e; subst e
    obtain ⟨_, _, o, h1, vs, rfl, h2, h3⟩ := h.cel a _ ea
    cases r
    exact ⟨a, vs, rfl, .inl h1, h2, h3⟩
theorem vw_ins {C : Addr} {fs : List Str} {xs : List Tr} (h : Hd K L F H S I) (r : Rep K I x v) (e : vw S x = .ins C fs xs) : ∃ a dx vs, v = .ref a ∧ H a = some (.ins C dx (fs.zip vs)) ∧ fs.length = xs.length ∧ RepL K I xs vs := by
  rcases vw_cases S x with ⟨e1, n⟩ | ⟨a, c, rfl, ea, e1⟩
  · rw [e1] at e; subst e
    obtain ⟨a, dx, vs, rfl, h1, h2, h3⟩ := r
    refine ⟨a, dx, vs, rfl, ?_, h2, h3⟩
    have q := h.sub a _ h1
    cases z : L a with
    | none => rw [z] at q; exact q
    | some od => obtain ⟨k, z⟩ := h.lck a od z; rw [h1] at z; cases z
  · rw [e1] at e; subst e
    obtain ⟨_, _, o, h1, dx, vs, rfl, h2, h3⟩ := h.cel a _ ea
    cases r
    exact ⟨a, dx, vs, rfl, h1, h2, h3⟩
theorem Rep.int {n : Int} (r : Rep K I (.int n) v) : v = .int n := r
theorem Rep.flat (r : Rep K I x v) (e : vw S x = .non ∨ (∃ b, vw S x = .bl b) ∨ (∃ n, vw S x = .int n) ∨ ∃ z, vw S x = .str z) (h : Hd K L F H S I) : vw S x = x := by
  rcases vw_cases S x with ⟨e1, n⟩ | ⟨a, c, rfl, ea, e1⟩
  · exact e1
  · obtain ⟨_, _, o, h1, h2⟩ := h.cel a _ ea
    rw [e1] at e
    rcases e with rfl | ⟨b, rfl⟩ | ⟨b, rfl⟩ | ⟨b, rfl⟩ <;> exact h2.elim
end
end KQ
namespace KQ
open PySem PySem.Spec PyProof.Rows L2 TL KB
/-! ### readings over trees -/
abbrev QV := Tr → Sto → Prop
abbrev QX := Value → List Str → List Tr → Sto → Prop
abbrev QL := List Tr → Sto → Prop
abbrev QB := Bool → Sto → Prop
abbrev QS := Rho → Sto → Prop
abbrev XS := Value → List Str → List Tr → Rho → Sto → Prop
abbrev UE := Rho → Sto → QV → QX → Prop
abbrev UA := Rho → Sto → QL → QX → Prop
abbrev UT := Rho → Sto → QB → QX → Prop
structure UEnds where
  nx : QS
  rt : QV
  bk : QS
  ct : QS
abbrev US := UEnds → XS → Rho → Sto → Prop
/-- what is walked: the items, and what must hold of the cells at each turn -/
structure Walk where
  xs : List Tr
  ok : Sto → Prop
abbrev UI := Rho → Sto → (Walk → Sto → Prop) → QX → Prop
def Slots (K : PySem.W.Frag) (I : Hp) (σ : L2.St) (ρ : Rho) : Prop := σ.length = ρ.length ∧ ∀ (i : Nat) (x : Tr), ρ[i]? = some (some x) → ∃ v, σ[i]? = some (some v) ∧ Rep K I x v
section
variable {K : PySem.W.Frag} {I I' : Hp} {σ : L2.St} {ρ : Rho}
theorem Slots.mono (h : Slots K I σ ρ) (s : Same I I') : Slots K I' σ ρ := ⟨h.1, fun i x e => by
  obtain ⟨v, e, r⟩ := h.2 i x e
  exact ⟨v, e, r.mono s⟩⟩
theorem Slots.set {i : Nat} {x : Tr} {v : V} (h : Slots K I σ ρ) (r : Rep K I x v) : Slots K I (σ.set i (some v)) (ρ.set i (some x)) := by
  refine ⟨by simp [h.1], fun j y e => ?_⟩
  by_cases hj : i = j
  · subst hj
    have hl : i < ρ.length := by
      by_cases z : i < ρ.length
      · exact z
      · rw [List.getElem?_eq_none (by simpa using z)] at e; cases e
    rw [List.getElem?_set_self hl] at e
    cases e
    exact ⟨v, by rw [List.getElem?_set_self (by rw [h.1]; exact hl)], r⟩
  · rw [List.getElem?_set_ne hj] at e ⊢
    exact h.2 j y e
theorem Slots.none {i : Nat} {o : Option V} (h : Slots K I σ ρ) : Slots K I (σ.set i o) (ρ.set i none) := by
  refine ⟨by simp [h.1], fun j y e => ?_⟩
  by_cases hj : i = j
  · subst hj
    by_cases z : i < ρ.length
    · rw [List.getElem?_set_self z] at e; cases e
    · rw [List.getElem?_eq_none (by simpa using z)] at e; cases e
  · rw [List.getElem?_set_ne hj] at e ⊢
    exact h.2 j y e
def wipeR (ρ : Rho) : List Nat → Rho
  | [] => ρ
  | i :: r => (wipeR ρ r).set i none
theorem Slots.wipe {vs : List Nat} (h : Slots K I σ ρ) : Slots K I (L2.wipe σ vs) (wipeR ρ vs) := by
  induction vs with
  | nil => exact h
  | cons i r ih => exact ih.none
end
section
variable (K : PySem.W.Frag) (L : Lk) (F : Hp) (I : Hp)
def dnV (R : VK) : QV := fun y S' => ∀ v H' I', Hd K L F H' S' I' → Same I I' → Rep K I' y v → R v H'
def dnL (R : List V → Hp → Prop) : QL := fun ys S' => ∀ vs H' I', Hd K L F H' S' I' → Same I I' → RepL K I' ys vs → R vs H'
def dnB (R : Bool → Hp → Prop) : QB := fun b S' => ∀ H' I', Hd K L F H' S' I' → Same I I' → R b H'
/-- an exception's own dict, new -/
def Xd (K : PySem.W.Frag) (F : Hp) (H' : Hp) (S' : Sto) (I' : Hp) (d : Addr) (fs : List Str) (xs : List Tr) : Prop := ∃ vs, H' d = some (.xd (fs.zip vs)) ∧ fs.length = xs.length ∧ RepL K I' xs vs ∧ I' d = none ∧ S' d = none ∧ F d = none
def dnX (W : WX) (σ : L2.St) : QX := fun c fs xs S' => ∀ d H' I', Hd K L F H' S' I' → Same I I' → Xd K F H' S' I' d fs xs → W c (some d) σ H'
def dnS (R : L2.St → Hp → Prop) : QS := fun ρ S' => ∀ σ' H' I', Hd K L F H' S' I' → Same I I' → Slots K I' σ' ρ → R σ' H'
def dnXS (W : WX) : XS := fun c fs xs ρ S' => ∀ d σ' H' I', Hd K L F H' S' I' → Same I I' → Slots K I' σ' ρ → Xd K F H' S' I' d fs xs → W c (some d) σ' H'
def dnD (D : L2.Ends) : UEnds := ⟨dnS K L F I D.nx, dnV K L F I D.rt, dnS K L F I D.bk, dnS K L F I D.ct⟩
end
section
variable {K : PySem.W.Frag} {L : Lk} {F I I1 : Hp}
theorem dnV_up {R : VK} (s : Same I I1) : ∀ y S, dnV K L F I R y S → dnV K L F I1 R y S := fun y S h v H' I' hd s' r => h v H' I' hd (s.trans s') r
theorem dnX_up {W : WX} {σ : L2.St} (s : Same I I1) : ∀ c fs xs S, dnX K L F I W σ c fs xs S → dnX K L F I1 W σ c fs xs S := fun c fs xs S h d H' I' hd s' r => h d H' I' hd (s.trans s') r
theorem dnS_up {R : L2.St → Hp → Prop} (s : Same I I1) : ∀ y S, dnS K L F I R y S → dnS K L F I1 R y S := fun y S h v H' I' hd s' r => h v H' I' hd (s.trans s') r
theorem dnXS_up {W : WX} (s : Same I I1) : ∀ c fs xs ρ S, dnXS K L F I W c fs xs ρ S → dnXS K L F I1 W c fs xs ρ S := fun c fs xs ρ S h d σ' H' I' hd s' r z => h d σ' H' I' hd (s.trans s') r z
/-- an expression's exception, at the slots as they stand -/
theorem dnXS_at {W : WX} {σ : L2.St} {ρ : Rho} (sl : Slots K I σ ρ) : ∀ c fs xs S, dnXS K L F I W c fs xs ρ S → dnX K L F I W σ c fs xs S := fun c fs xs S h d H' I' hd s' r => h d σ H' I' hd s' (sl.mono s') r
end
def ULe (D D' : UEnds) : Prop := (∀ ρ S, D.nx ρ S → D'.nx ρ S) ∧ (∀ y S, D.rt y S → D'.rt y S) ∧ (∀ ρ S, D.bk ρ S → D'.bk ρ S) ∧ (∀ ρ S, D.ct ρ S → D'.ct ρ S)
theorem dnD_up {K : PySem.W.Frag} {L : Lk} {F I I1 : Hp} {D : L2.Ends} (s : Same I I1) : ULe (dnD K L F I D) (dnD K L F I1 D) := ⟨dnS_up s, dnV_up s, dnS_up s, dnS_up s⟩
theorem ULe.refl (D : UEnds) : ULe D D := ⟨fun _ _ h => h, fun _ _ h => h, fun _ _ h => h, fun _ _ h => h⟩
def XLe (X X' : QX) : Prop := ∀ c fs xs S, X c fs xs S → X' c fs xs S
def XSLe (X X' : XS) : Prop := ∀ c fs xs ρ S, X c fs xs ρ S → X' c fs xs ρ S
def atR (X : XS) (ρ : Rho) : QX := fun c fs xs S => X c fs xs ρ S
def MonoE (t : UE) : Prop := ∀ ρ S Q Q' X X', (∀ y S, Q y S → Q' y S) → XLe X X' → t ρ S Q X → t ρ S Q' X'
def MonoA (t : UA) : Prop := ∀ ρ S Q Q' X X', (∀ y S, Q y S → Q' y S) → XLe X X' → t ρ S Q X → t ρ S Q' X'
def MonoT (t : UT) : Prop := ∀ ρ S Q Q' X X', (∀ y S, Q y S → Q' y S) → XLe X X' → t ρ S Q X → t ρ S Q' X'
def MonoS (t : US) : Prop := ∀ D D' X X' ρ S, ULe D D' → XSLe X X' → t D X ρ S → t D' X' ρ S
def MonoI (t : UI) : Prop := ∀ ρ S (Q Q' : Walk → Sto → Prop) X X', (∀ y S, Q y S → Q' y S) → XLe X X' → t ρ S Q X → t ρ S Q' X'
def lE (K : PySem.W.Frag) (W : WX) (t : UE) : TE := fun σ H R => ∃ L F S I ρ, Hd K L F H S I ∧ Slots K I σ ρ ∧ t ρ S (dnV K L F I R) (dnX K L F I W σ)
def lA (K : PySem.W.Frag) (W : WX) (t : UA) : TA := fun σ H R => ∃ L F S I ρ, Hd K L F H S I ∧ Slots K I σ ρ ∧ t ρ S (dnL K L F I R) (dnX K L F I W σ)
def lT (K : PySem.W.Frag) (W : WX) (t : UT) : TT := fun σ H R => ∃ L F S I ρ, Hd K L F H S I ∧ Slots K I σ ρ ∧ t ρ S (dnB K L F I R) (dnX K L F I W σ)
def lS (K : PySem.W.Frag) (W : WX) (t : US) : TS := fun D σ H => ∃ L F S I ρ, Hd K L F H S I ∧ Slots K I σ ρ ∧ t (dnD K L F I D) (dnXS K L F I W) ρ S
/-- an iterator yields the items of a walk -/
structure ItRep (K : PySem.W.Frag) (L : Lk) (I : Hp) (J : It) (wk : Walk) : Prop where
  go : ∀ F i H S I', Hd K L F H S I' → Same I I' → wk.ok S → i < wk.xs.length → J.go i H
  stop : ∀ F i H S I', Hd K L F H S I' → Same I I' → wk.ok S → i = wk.xs.length → J.stop i H
  yld : ∀ F i H S I' v H' x, Hd K L F H S I' → Same I I' → wk.ok S → wk.xs[i]? = some x → J.yld i H v H' → ∃ I'', Hd K L F H' S I'' ∧ Same I' I'' ∧ Rep K I'' x v
def lI (K : PySem.W.Frag) (W : WX) (t : UI) : TI := fun σ H R => ∃ L F S I ρ, Hd K L F H S I ∧ Slots K I σ ρ ∧ t ρ S (fun wk S' => ∀ J H' I', Hd K L F H' S' I' → Same I I' → ItRep K L I' J wk → R J H') (dnX K L F I W σ)
structure TPE (X : Cx) (W : WX) (e : Expr) (t : UE) : Prop where
  pe : PE X e (lE X.K W t)
  mono : MonoE t
structure TPA (X : Cx) (W : WX) (es : List Expr) (t : UA) : Prop where
  pe : PA X es (lA X.K W t)
  mono : MonoA t
structure TPT (X : Cx) (W : WX) (e : Expr) (t : UT) : Prop where
  pe : PT X e (lT X.K W t)
  mono : MonoT t
structure TPW (X : Cx) (W : WX) (e : Expr) (t : UT) : Prop where
  pe : PW X e (lT X.K W t)
  mono : MonoT t
structure TPS (X : Cx) (W : WX) (s : Stmt) (t : US) : Prop where
  pe : PS X s (lS X.K W t)
  mono : MonoS t
structure TPSs (X : Cx) (W : WX) (s : List Stmt) (t : US) : Prop where
  pe : PSs X s (lS X.K W t)
  mono : MonoS t
structure TPI (X : Cx) (W : WX) (tg e : Expr) (t : UI) : Prop where
  pe : PI X tg e (lI X.K W t)
  mono : MonoI t
section
variable {X : Cx}
theorem wkE {e : Expr} {t t' : TE} (h : PE X e t) (w : ∀ σ H Q, t' σ H Q → t σ H Q) : PE X e t' := ⟨fun pins s σ H Q I q => h.run pins s σ H Q I (w _ _ _ q)⟩
theorem wkA {e : List Expr} {t t' : TA} (h : PA X e t) (w : ∀ σ H Q, t' σ H Q → t σ H Q) : PA X e t' := ⟨fun pos pins s σ H Q I q => h.run pos pins s σ H Q I (w _ _ _ q)⟩
theorem wkT {e : Expr} {t t' : TT} (h : PT X e t) (w : ∀ σ H Q, t' σ H Q → t σ H Q) : PT X e t' := ⟨fun pins s σ H Q I q => h.run pins s σ H Q I (w _ _ _ q)⟩
theorem wkW {e : Expr} {t t' : TT} (h : PW X e t) (w : ∀ σ H Q, t' σ H Q → t σ H Q) : PW X e t' := ⟨fun wh pins s σ H Q I q => h.run wh pins s σ H Q I (w _ _ _ q)⟩
theorem wkS {e : Stmt} {t t' : TS} (h : PS X e t) (w : ∀ D σ H, t' D σ H → t D σ H) : PS X e t' := ⟨fun pins s σ H D I q => h.run pins s σ H D I (w _ _ _ q)⟩
theorem wkSs {e : List Stmt} {t t' : TS} (h : PSs X e t) (w : ∀ D σ H, t' D σ H → t D σ H) : PSs X e t' := ⟨fun pins s σ H D I q => h.run pins s σ H D I (w _ _ _ q)⟩
theorem wkI {tg e : Expr} {t t' : TI} (h : PI X tg e t) (w : ∀ σ H R, t' σ H R → t σ H R) : PI X tg e t' := ⟨fun pins s σ H R I q => h.run pins s σ H R I (w _ _ _ q)⟩
end
section
variable {X : Cx} {W : WX} {a b e : Expr} {es : List Expr} {ta tb te : UE} {pos : Pos}
/-- to go on behind an expression -/
theorem lE_then {K : PySem.W.Frag} {L : Lk} {F H I : Hp} {S : Sto} {ρ : Rho} {σ : L2.St} {R : VK} {Q : QV} {X0 : QX} (m : MonoE ta) (hd : Hd K L F H S I) (sl : Slots K I σ ρ) (h : ta ρ S Q X0) (hx : XLe X0 (dnX K L F I W σ))
    (k : ∀ y S' v H' I', Q y S' → Hd K L F H' S' I' → Same I I' → Slots K I' σ ρ → Rep K I' y v → R v H') : lE K W ta σ H R :=
  ⟨L, F, S, I, ρ, hd, sl, m _ _ _ _ _ _ (fun y S' q v H' I' h1 s r => k y S' v H' I' q h1 s (sl.mono s) r) hx h⟩
theorem lA_then {K : PySem.W.Frag} {L : Lk} {F H I : Hp} {S : Sto} {ρ : Rho} {σ : L2.St} {R : List V → Hp → Prop} {Q : QL} {X0 : QX} {tr : UA} (m : MonoA tr) (hd : Hd K L F H S I) (sl : Slots K I σ ρ) (h : tr ρ S Q X0) (hx : XLe X0 (dnX K L F I W σ))
    (k : ∀ y S' v H' I', Q y S' → Hd K L F H' S' I' → Same I I' → Slots K I' σ ρ → RepL K I' y v → R v H') : lA K W tr σ H R :=
  ⟨L, F, S, I, ρ, hd, sl, m _ _ _ _ _ _ (fun y S' q v H' I' h1 s r => k y S' v H' I' q h1 s (sl.mono s) r) hx h⟩
theorem lT_then {K : PySem.W.Frag} {L : Lk} {F H I : Hp} {S : Sto} {ρ : Rho} {σ : L2.St} {R : Bool → Hp → Prop} {Q : QB} {X0 : QX} {tt : UT} (m : MonoT tt) (hd : Hd K L F H S I) (sl : Slots K I σ ρ) (h : tt ρ S Q X0) (hx : XLe X0 (dnX K L F I W σ))
    (k : ∀ b S' H' I', Q b S' → Hd K L F H' S' I' → Same I I' → Slots K I' σ ρ → R b H') : lT K W tt σ H R :=
  ⟨L, F, S, I, ρ, hd, sl, m _ _ _ _ _ _ (fun y S' q H' I' h1 s => k y S' H' I' q h1 s (sl.mono s)) hx h⟩
theorem lS_then {K : PySem.W.Frag} {L : Lk} {F H I : Hp} {S : Sto} {ρ : Rho} {σ : L2.St} {D : L2.Ends} {D0 : UEnds} {X0 : XS} {us : US} (m : MonoS us) (hd : Hd K L F H S I) (sl : Slots K I σ ρ) (h : us D0 X0 ρ S) (hD : ULe D0 (dnD K L F I D)) (hx : XSLe X0 (dnXS K L F I W)) : lS K W us D σ H :=
  ⟨L, F, S, I, ρ, hd, sl, m _ _ _ _ _ _ hD hx h⟩
/-! ### names, constants -/
def uVar (i : Nat) : UE := fun ρ S Q _ => ∃ x : Tr, ρ[i]? = some (some x) ∧ Q x S
def uC (x : Tr) : UE := fun _ S Q _ => Q x S
theorem mono_var (i : Nat) : MonoE (uVar i) := fun _ _ _ _ _ _ hQ _ ⟨x, e, q⟩ => ⟨x, e, hQ _ _ q⟩
theorem mono_c (x : Tr) : MonoE (uC x) := fun _ _ _ _ _ _ hQ _ q => hQ _ _ q
theorem e_var (i : Nat) {x : Str} (hN : X.N[i]? = some x := by rfl) (hv : Vis X.env.scope x := by first | exact Or.inl rfl | exact Or.inr (Or.inl rfl) | exact Or.inr (Or.inr rfl)) (hd : (x == ("__debug__" : Str)) = false := by decide)
    (hcd : (x == ("__classdict__" : Str)) = false := by decide) : TPE X W (.Name x pos) (uVar i) :=
  ⟨wkE (pv i hN hv hd hcd) fun σ H R ⟨L, F, S, I, ρ, h, sl, y, ey, q⟩ => by
    obtain ⟨v, ev, r⟩ := sl.2 i y ey
    exact ⟨v, ev, q v H I h (Same.refl _) r⟩, mono_var i⟩
theorem e_const {v : V} {y : Tr} (h : PE X e (tC v)) (hy : ∀ I, Rep X.K I y v) : TPE X W e (uC y) :=
  ⟨wkE h fun σ H R ⟨L, F, S, I, ρ, hd, sl, q⟩ => q v H I hd (Same.refl _) (hy I), mono_c y⟩
theorem e_int {n : Int} {k : Nat} : TPE X W (.Constant (.int n) k pos) (uC (.int n)) := e_const pe_int fun _ => rfl
theorem e_bl {b : Bool} {k : Nat} : TPE X W (.Constant (.bool b) k pos) (uC (.bl b)) := e_const pe_bl fun _ => rfl
theorem e_str {z : Str} {k : Nat} : TPE X W (.Constant (.str z) k pos) (uC (.str z)) := e_const pe_str fun _ => rfl
/-! ### two in a row -/
def u2 (ta tb : UE) (k : Tr → Tr → Sto → QV → QX → Prop) : UE := fun ρ S Q X => ta ρ S (fun x S1 => tb ρ S1 (fun y S2 => k x y S2 Q X) X) X
/-- an operation by what it gives; the cells stay -/
def uOp (g : Tr → Tr → Tr → Prop) (ta tb : UE) : UE := fun ρ S Q X => ta ρ S (fun x S1 => tb ρ S1 (fun y S2 => ∃ z, g (vw S2 x) (vw S2 y) z ∧ Q z S2) X) X
def uUn (g : Tr → Tr → Prop) (ta : UE) : UE := fun ρ S Q X => ta ρ S (fun x S1 => ∃ z, g (vw S1 x) z ∧ Q z S1) X
theorem mono_op {g : Tr → Tr → Tr → Prop} (ha : MonoE ta) (hb : MonoE tb) : MonoE (uOp g ta tb) := fun ρ S Q Q' X X' hQ hX h =>
  ha _ _ _ _ _ _ (fun x S1 h1 => hb _ _ _ _ _ _ (fun y S2 ⟨z, hg, q⟩ => ⟨z, hg, hQ _ _ q⟩) hX h1) hX h
theorem mono_un {g : Tr → Tr → Prop} (ha : MonoE ta) : MonoE (uUn g ta) := fun ρ S Q Q' X X' hQ hX h =>
  ha _ _ _ _ _ _ (fun x S1 ⟨z, hg, q⟩ => ⟨z, hg, hQ _ _ q⟩) hX h
/-- an operator, over trees -/
def OpT (K : PySem.W.Frag) (r : R2) (g : Tr → Tr → Tr → Prop) : Prop := ∀ {L : Lk} {F H : Hp} {S : Sto} {I : Hp} {x y z : Tr} {v w : V} {R : VK}, Hd K L F H S I → Rep K I x v → Rep K I y w → g (vw S x) (vw S y) z →
  (∀ v' H' I', Hd K L F H' S I' → Same I I' → Rep K I' z v' → R v' H') → r v w H R
def UnT (K : PySem.W.Frag) (r : V → Hp → VK → Prop) (g : Tr → Tr → Prop) : Prop := ∀ {L : Lk} {F H : Hp} {S : Sto} {I : Hp} {x z : Tr} {v : V} {R : VK}, Hd K L F H S I → Rep K I x v → g (vw S x) z →
  (∀ v' H' I', Hd K L F H' S I' → Same I I' → Rep K I' z v' → R v' H') → r v H R
theorem lOp {r : R2} {g : Tr → Tr → Tr → Prop} (s : OpT X.K r g) (ma : MonoE ta) (mb : MonoE tb) : ∀ σ H R, lE X.K W (uOp g ta tb) σ H R → tOp r (lE X.K W ta) (lE X.K W tb) σ H R := fun σ H R ⟨L, F, S, I, ρ, hd, sl, h⟩ =>
  lE_then ma hd sl h (fun _ _ _ _ h => h) fun x S1 v H1 I1 q1 hd1 s1 sl1 rx => lE_then mb hd1 sl1 q1 (dnX_up s1) fun y S2 w H2 I2 ⟨z, hg, q2⟩ hd2 s2 sl2 ry =>
    s hd2 (rx.mono s2) ry hg fun v' H' I' hd' s' r' => q2 v' H' I' hd' ((s1.trans s2).trans s') r'
theorem e_op {op : Operator} {r : R2} {g : Tr → Tr → Tr → Prop} (ho : OpR X (binaryOp op) r) (s : OpT X.K r g) (ha : TPE X W a ta) (hb : TPE X W b tb) : TPE X W (.BinOp a op b pos) (uOp g ta tb) :=
  ⟨wkE (pe_op ho ha.pe hb.pe) (lOp s ha.mono hb.mono), mono_op ha.mono hb.mono⟩
theorem e_un {op : UnaryOp} {r : V → Hp → VK → Prop} {g : Tr → Tr → Prop} (ho : UnR X (unaryOp op) r) (s : UnT X.K r g) (ha : TPE X W a ta) : TPE X W (.UnaryOp op a pos) (uUn g ta) :=
  ⟨wkE (pe_un ho ha.pe) fun σ H R ⟨L, F, S, I, ρ, hd, sl, h⟩ => lE_then ha.mono hd sl h (fun _ _ _ _ h => h) fun x S1 v H1 I1 ⟨z, hg, q⟩ hd1 s1 sl1 rx =>
    s hd1 rx hg fun v' H' I' hd' s' r' => q v' H' I' hd' (s1.trans s') r', mono_un ha.mono⟩
theorem e_ix {r : R2} {g : Tr → Tr → Tr → Prop} (ho : IxR X r) (s : OpT X.K r g) (ha : TPE X W a ta) (hb : TPE X W b tb) (hs : PlainIx b) : TPE X W (.Subscript a b pos) (uOp g ta tb) :=
  ⟨wkE (pe_ix ho ha.pe hb.pe hs) (lOp s ha.mono hb.mono), mono_op ha.mono hb.mono⟩
/-! ### tests -/
def uB (te : UE) : UT := fun ρ S Q X => te ρ S (fun x S1 => ∃ k, x = .bl k ∧ Q k S1) X
theorem mono_b (h : MonoE te) : MonoT (uB te) := fun ρ S Q Q' X X' hQ hX q => h _ _ _ _ _ _ (fun x S1 ⟨k, e, q⟩ => ⟨k, e, hQ _ _ q⟩) hX q
theorem lB (m : MonoE te) : ∀ σ H R, lT X.K W (uB te) σ H R → lE X.K W te σ H (fun x H1 => ∃ k, x = .bl k ∧ R k H1) := fun σ H R ⟨L, F, S, I, ρ, hd, sl, h⟩ =>
  lE_then m hd sl h (fun _ _ _ _ h => h) fun x S1 v H1 I1 ⟨k, e, q⟩ hd1 s1 sl1 r => by subst e; exact ⟨k, r, q H1 I1 hd1 s1⟩
theorem t_val (h : TPE X W e te) (he : ∀ whole, isTrue e X.env whole = (do let v ← whole; standAt e.pos; holding [v] (truthy v)) := by intro _; rfl) : TPT X W e (uB te) :=
  ⟨wkT (pt_val h.pe he) (lB h.mono), mono_b h.mono⟩
theorem t_cmp {op : CmpOp} {r : R2} {g : Tr → Tr → Tr → Prop} (ho : OpR X (compareOp op) r) (s : OpT X.K r g) (ha : TPE X W a ta) (hb : TPE X W b tb) (hm : behindInMarks op b = false) : TPT X W (.Compare a [op] [b] pos) (uB (uOp g ta tb)) :=
  ⟨wkT (pt_cmpR ho ha.pe hb.pe hm) fun σ H R ⟨L, F, S, I, ρ, hd, sl, h⟩ => lOp s ha.mono hb.mono σ H _ (by
    obtain ⟨L', F', S', I', ρ', h1, h2, h3⟩ := lB (X := X) (W := W) (mono_op ha.mono hb.mono) σ H R ⟨L, F, S, I, ρ, hd, sl, h⟩
    exact ⟨L', F', S', I', ρ', h1, h2, h3⟩), mono_b (mono_op ha.mono hb.mono)⟩
def uAnd (t u : UT) : UT := fun ρ S Q X => t ρ S (fun c S1 => if c = true then u ρ S1 Q X else Q false S1) X
def uOr (t u : UT) : UT := fun ρ S Q X => t ρ S (fun c S1 => if c = true then Q true S1 else u ρ S1 Q X) X
def uNot (t : UT) : UT := fun ρ S Q X => t ρ S (fun c S1 => Q (!c) S1) X
section
variable {t u : UT} {rest : List Expr}
theorem mono_and (ht : MonoT t) (hu : MonoT u) : MonoT (uAnd t u) := fun ρ S Q Q' X X' hQ hX h => ht _ _ _ _ _ _ (fun c S1 h1 => by
  cases c with
  | true => rw [if_pos rfl] at h1 ⊢; exact hu _ _ _ _ _ _ hQ hX h1
  | false => rw [if_neg Bool.false_ne_true] at h1 ⊢; exact hQ _ _ h1) hX h
theorem mono_or (ht : MonoT t) (hu : MonoT u) : MonoT (uOr t u) := fun ρ S Q Q' X X' hQ hX h => ht _ _ _ _ _ _ (fun c S1 h1 => by
  cases c with
  | true => rw [if_pos rfl] at h1 ⊢; exact hQ _ _ h1
  | false => rw [if_neg Bool.false_ne_true] at h1 ⊢; exact hu _ _ _ _ _ _ hQ hX h1) hX h
theorem mono_not (ht : MonoT t) : MonoT (uNot t) := fun ρ S Q Q' X X' hQ hX h => ht _ _ _ _ _ _ (fun c S1 h1 => hQ _ _ h1) hX h
theorem w_and1 (ha : TPT X W a t) : TPW X W (.BoolOp .And [a] pos) t := ⟨pw_and1 ha.pe, ha.mono⟩
theorem w_or1 (ha : TPT X W a t) : TPW X W (.BoolOp .Or [a] pos) t := ⟨pw_or1 ha.pe, ha.mono⟩
theorem w_and (ha : TPT X W a t) (hb : TPW X W (.BoolOp .And (b :: rest) pos) u) : TPW X W (.BoolOp .And (a :: b :: rest) pos) (uAnd t u) :=
  ⟨wkW (pw_and ha.pe hb.pe) fun σ H R ⟨L, F, S, I, ρ, hd, sl, h⟩ => lT_then ha.mono hd sl h (fun _ _ _ _ h => h) fun c S1 H1 I1 q hd1 s1 sl1 => by
    cases c with
    | true => rw [if_pos rfl] at q ⊢; exact lT_then hb.mono hd1 sl1 q (dnX_up s1) fun c2 S2 H2 I2 q2 hd2 s2 sl2 => q2 H2 I2 hd2 (s1.trans s2)
    | false => rw [if_neg Bool.false_ne_true] at q ⊢; exact q H1 I1 hd1 s1, mono_and ha.mono hb.mono⟩
theorem w_or (ha : TPT X W a t) (hb : TPW X W (.BoolOp .Or (b :: rest) pos) u) : TPW X W (.BoolOp .Or (a :: b :: rest) pos) (uOr t u) :=
  ⟨wkW (pw_or ha.pe hb.pe) fun σ H R ⟨L, F, S, I, ρ, hd, sl, h⟩ => lT_then ha.mono hd sl h (fun _ _ _ _ h => h) fun c S1 H1 I1 q hd1 s1 sl1 => by
    cases c with
    | true => rw [if_pos rfl] at q ⊢; exact q H1 I1 hd1 s1
    | false => rw [if_neg Bool.false_ne_true] at q ⊢; exact lT_then hb.mono hd1 sl1 q (dnX_up s1) fun c2 S2 H2 I2 q2 hd2 s2 sl2 => q2 H2 I2 hd2 (s1.trans s2), mono_or ha.mono hb.mono⟩
theorem TPW.pt (h : TPW X W e t) : TPT X W e t := ⟨h.pe.pt, h.mono⟩
theorem t_not (ha : TPT X W a t) : TPT X W (.UnaryOp .Not a pos) (uNot t) :=
  ⟨wkT (pt_not ha.pe) fun σ H R ⟨L, F, S, I, ρ, hd, sl, h⟩ => lT_then ha.mono hd sl h (fun _ _ _ _ h => h) fun c S1 H1 I1 q hd1 s1 sl1 => q H1 I1 hd1 s1, mono_not ha.mono⟩
/-- and, or, not as values of truths -/
def uAndV (ta tb : UE) : UE := fun ρ S Q X => ta ρ S (fun x S1 => ∃ c, x = .bl c ∧ if c = true then tb ρ S1 Q X else Q (.bl false) S1) X
def uOrV (ta tb : UE) : UE := fun ρ S Q X => ta ρ S (fun x S1 => ∃ c, x = .bl c ∧ if c = true then Q (.bl true) S1 else tb ρ S1 Q X) X
def uNotV (ta : UE) : UE := fun ρ S Q X => ta ρ S (fun x S1 => ∃ c, x = .bl c ∧ Q (.bl (!c)) S1) X
def uIf (t : UT) (ta tb : UE) : UE := fun ρ S Q X => t ρ S (fun c S1 => if c = true then ta ρ S1 Q X else tb ρ S1 Q X) X
theorem e_ifExp {c : Expr} (hc : TPT X W c t) (ha : TPE X W a ta) (hb : TPE X W b tb) : TPE X W (.IfExp c a b pos) (uIf t ta tb) :=
  ⟨wkE (pe_ifExp hc.pe ha.pe hb.pe) fun σ H R ⟨L, F, S, I, ρ, hd, sl, h⟩ => lT_then hc.mono hd sl h (fun _ _ _ _ h => h) fun c S1 H1 I1 q hd1 s1 sl1 => by
    cases c with
    | true => rw [if_pos rfl] at q ⊢; exact lE_then ha.mono hd1 sl1 q (dnX_up s1) fun y S2 w H2 I2 q2 hd2 s2 sl2 r2 => q2 w H2 I2 hd2 (s1.trans s2) r2
    | false => rw [if_neg Bool.false_ne_true] at q ⊢; exact lE_then hb.mono hd1 sl1 q (dnX_up s1) fun y S2 w H2 I2 q2 hd2 s2 sl2 r2 => q2 w H2 I2 hd2 (s1.trans s2) r2, fun ρ S Q Q' X X' hQ hX h => hc.mono _ _ _ _ _ _ (fun c S1 q => by
      cases c with
      | true => rw [if_pos rfl] at q ⊢; exact ha.mono _ _ _ _ _ _ hQ hX q
      | false => rw [if_neg Bool.false_ne_true] at q ⊢; exact hb.mono _ _ _ _ _ _ hQ hX q) hX h⟩
end
/-! ### arguments, displays, calls of built-ins -/
def uNil : UA := fun _ S Q _ => Q [] S
def uCons (ta : UE) (tr : UA) : UA := fun ρ S Q X => ta ρ S (fun x S1 => tr ρ S1 (fun xs S2 => Q (x :: xs) S2) X) X
theorem a_nil : TPA X W [] uNil := ⟨wkA pa_nil fun σ H R ⟨L, F, S, I, ρ, hd, sl, h⟩ => h [] H I hd (Same.refl _) rfl, fun _ _ _ _ _ _ hQ _ h => hQ _ _ h⟩
theorem a_cons {tr : UA} (ha : TPE X W e te) (hr : TPA X W es tr) (hs : starEach (e :: es) X.env = (false, eval e X.env) :: starEach es X.env := by rfl) : TPA X W (e :: es) (uCons te tr) :=
  ⟨wkA (pa_cons ha.pe hr.pe hs) fun σ H R ⟨L, F, S, I, ρ, hd, sl, h⟩ => lE_then ha.mono hd sl h (fun _ _ _ _ h => h) fun x S1 v H1 I1 q hd1 s1 sl1 rx => lA_then hr.mono hd1 sl1 q (dnX_up s1) fun ys S2 ws H2 I2 q2 hd2 s2 sl2 ry =>
    q2 (v :: ws) H2 I2 hd2 (s1.trans s2) (.cons (rx.mono s2) ry), fun ρ S Q Q' X X' hQ hX h => ha.mono _ _ _ _ _ _ (fun x S1 q => hr.mono _ _ _ _ _ _ (fun xs S2 q => hQ _ _ q) hX q) hX h⟩
/-- a new list, a new tuple of the trees -/
def uTup (t : UA) : UE := fun ρ S Q X => t ρ S (fun xs S1 => xs.length ≤ sizeLine ∧ Q (.tup xs) S1) X
def uLst (t : UA) : UE := fun ρ S Q X => t ρ S (fun xs S1 => xs.length ≤ sizeLine ∧ Q (.lst xs) S1) X
/-- a new list that will change -/
def uLstC (t : UA) : UE := fun ρ S Q X => t ρ S (fun xs S1 => xs.length ≤ sizeLine ∧ ∀ p, S1 p = none → Q (.ref p) (put S1 p (.lst xs))) X
section
variable {tr : UA} {x1 : Nat}
theorem e_tup (h : TPA X W es tr) : TPE X W (.Tuple es x1 pos) (uTup tr) :=
  ⟨wkE (pe_tup h.pe) fun σ H R ⟨L, F, S, I, ρ, hd, sl, q⟩ => lA_then h.mono hd sl q (fun _ _ _ _ h => h) fun xs S1 vs H1 I1 ⟨z, q⟩ hd1 s1 sl1 r =>
    ⟨by rw [r.len]; exact z, fun p np => q _ _ _ (hd1.imm np) (s1.trans (upd_sub (hd1.freeI np))) ⟨p, vs, rfl, .inl (.inl upd_same), r.mono (upd_sub (hd1.freeI np))⟩⟩,
    fun ρ S Q Q' X X' hQ hX h' => h.mono _ _ _ _ _ _ (fun xs S1 ⟨z, q⟩ => ⟨z, hQ _ _ q⟩) hX h'⟩
theorem e_lst (h : TPA X W es tr) : TPE X W (.List es pos) (uLst tr) :=
  ⟨wkE (pe_lst h.pe) fun σ H R ⟨L, F, S, I, ρ, hd, sl, q⟩ => lA_then h.mono hd sl q (fun _ _ _ _ h => h) fun xs S1 vs H1 I1 ⟨z, q⟩ hd1 s1 sl1 r =>
    ⟨by rw [r.len]; exact z, fun p np => q _ _ _ (hd1.imm np) (s1.trans (upd_sub (hd1.freeI np))) ⟨p, vs, rfl, upd_same, r.mono (upd_sub (hd1.freeI np))⟩⟩,
    fun ρ S Q Q' X X' hQ hX h' => h.mono _ _ _ _ _ _ (fun xs S1 ⟨z, q⟩ => ⟨z, hQ _ _ q⟩) hX h'⟩
theorem e_lstC (h : TPA X W es tr) : TPE X W (.List es pos) (uLstC tr) :=
  ⟨wkE (pe_lst h.pe) fun σ H R ⟨L, F, S, I, ρ, hd, sl, q⟩ => lA_then h.mono hd sl q (fun _ _ _ _ h => h) fun xs S1 vs H1 I1 ⟨z, q⟩ hd1 s1 sl1 r =>
    ⟨by rw [r.len]; exact z, fun p np => q p (hd1.freeS np) _ _ _ (hd1.cell np ⟨vs, rfl, r⟩) s1 rfl⟩,
    fun ρ S Q Q' X X' hQ hX h' => h.mono _ _ _ _ _ _ (fun xs S1 ⟨z, q⟩ => ⟨z, fun p np => hQ _ _ (q p np)⟩) hX h'⟩
/-- a built-in by what it gives; the cells stay -/
def uCb (g : List Tr → Tr → Prop) (t : UA) : UE := fun ρ S Q X => t ρ S (fun xs S1 => ∃ z, g (xs.map (vw S1)) z ∧ Q z S1) X
theorem mono_cb {g : List Tr → Tr → Prop} (m : MonoA tr) : MonoE (uCb g tr) := fun ρ S Q Q' X X' hQ hX h => m _ _ _ _ _ _ (fun xs S1 ⟨z, hg, q⟩ => ⟨z, hg, hQ _ _ q⟩) hX h
def CallT (K : PySem.W.Frag) (r : List V → Hp → VK → Prop) (g : List Tr → Tr → Prop) : Prop := ∀ {L : Lk} {F H : Hp} {S : Sto} {I : Hp} {xs : List Tr} {z : Tr} {vs : List V} {R : VK}, Hd K L F H S I → RepL K I xs vs → g (xs.map (vw S)) z →
  (∀ v' H' I', Hd K L F H' S I' → Same I I' → Rep K I' z v' → R v' H') → r vs H R
theorem lCb {r : List V → Hp → VK → Prop} {g : List Tr → Tr → Prop} (s : CallT X.K r g) (m : MonoA tr) : ∀ σ H R, lE X.K W (uCb g tr) σ H R → tCB r (lA X.K W tr) σ H R := fun σ H R ⟨L, F, S, I, ρ, hd, sl, h⟩ =>
  lA_then m hd sl h (fun _ _ _ _ h => h) fun xs S1 vs H1 I1 ⟨z, hg, q⟩ hd1 s1 sl1 r => s hd1 r hg fun v' H' I' hd' s' r' => q v' H' I' hd' (s1.trans s') r'
theorem e_callB {id : String} {x : Str} {p : Pos} {r : List V → Hp → VK → Prop} {g : List Tr → Tr → Prop} (hc : CallR X (.builtin id) r) (s : CallT X.K r g) (hg : Gl X x) (hm : X.mg x = none) (hv : bootBuiltins x = some (.builtin id)) (ha : TPA X W (e :: es) tr) (hn : x ≠ "__name__" := by decide) (hdb : (x == ("__debug__" : Str)) = false := by decide)
    (he : starEach (e :: es) X.env = (false, eval e X.env) :: starEach es X.env := by rfl) (hpl : (backTo pos (starEach es X.env)).any (·.1) = false := by rfl) : TPE X W (.Call (.Name x p) (e :: es) [] pos) (uCb g tr) :=
  ⟨wkE (pe_callB hc hg hm hv ha.pe hn hdb he hpl) (lCb s ha.mono), mono_cb ha.mono⟩
theorem e_callTy {T : String} {x : Str} {p : Pos} {r : List V → Hp → VK → Prop} {g : List Tr → Tr → Prop} (hc : CallR X (.type T) r) (s : CallT X.K r g) (hg : Gl X x) (hm : X.mg x = none) (hv : bootBuiltins x = some (.type T)) (ha : TPA X W (e :: es) tr) (hn : x ≠ "__name__" := by decide) (hdb : (x == ("__debug__" : Str)) = false := by decide)
    (he : starEach (e :: es) X.env = (false, eval e X.env) :: starEach es X.env := by rfl) (hpl : (backTo pos (starEach es X.env)).any (·.1) = false := by rfl) : TPE X W (.Call (.Name x p) (e :: es) [] pos) (uCb g tr) :=
  ⟨wkE (pe_callTy hc hg hm hv ha.pe hn hdb he hpl) (lCb s ha.mono), mono_cb ha.mono⟩
end
end
end KQ
namespace KQ
open PySem PySem.Spec PyProof.Rows L2 TL KB
/-! ### targets of names -/
inductive Pat where
  | nm (i : Nat)
  | tp (ps : List Pat)
mutual
def patR : Pat → Tr → Rho → Option Rho
  | .nm i, x, ρ => some (ρ.set i (some x))
  | .tp ps, x, ρ => match x with
    | .tup xs => patsR ps xs ρ
    | _ => none
def patsR : List Pat → List Tr → Rho → Option Rho
  | [], xs, ρ => match xs with
    | [] => some ρ
    | _ => none
  | p :: ps, xs, ρ => match xs with
    | x :: xs => match patR p x ρ with
      | some ρ' => patsR ps xs ρ'
      | none => none
    | [] => none
end
mutual
def gPat (K : PySem.W.Frag) : Pat → TG
  | .nm i => gName i
  | .tp ps => gTup K ps.length (gPats K ps)
def gPats (K : PySem.W.Frag) : List Pat → TGs
  | [] => gNil
  | p :: ps => gCons (gPat K p) (gPats K ps)
end
mutual
def Pat.slots : Pat → List Nat
  | .nm i => [i]
  | .tp ps => patsSlots ps
def patsSlots : List Pat → List Nat
  | [] => []
  | p :: ps => p.slots ++ patsSlots ps
end
theorem wipe_at (σ : L2.St) (vs : List Nat) (i : Nat) : (wipe σ vs)[i]? = if i ∈ vs ∧ i < σ.length then some none else σ[i]? := by
  induction vs with
  | nil => simp [wipe]
  | cons v r ih =>
    show ((wipe σ r).set v none)[i]? = _
    by_cases h : v = i
    · subst h
      by_cases hl : v < σ.length
      · rw [List.getElem?_set_self (by rw [wipe_length]; exact hl), if_pos ⟨List.mem_cons_self .., hl⟩]
      · rw [if_neg (fun z => hl z.2), List.getElem?_eq_none (by rw [List.length_set, wipe_length]; omega), List.getElem?_eq_none (by omega)]
    · rw [List.getElem?_set_ne h, ih]
      by_cases hr : i ∈ r ∧ i < σ.length
      · rw [if_pos hr, if_pos ⟨List.mem_cons_of_mem _ hr.1, hr.2⟩]
      · rw [if_neg hr, if_neg (fun z => hr ⟨(List.mem_cons.mp z.1).resolve_left (fun e => h e.symm), z.2⟩)]
theorem wipe_set (σ : L2.St) {vs : List Nat} {i : Nat} {o : Option V} (h : i ∈ vs) : wipe (σ.set i o) vs = wipe σ vs := by
  apply List.ext_getElem?
  intro j
  rw [wipe_at, wipe_at, List.length_set]
  by_cases hj : j ∈ vs ∧ j < σ.length
  · rw [if_pos hj, if_pos hj]
  · rw [if_neg hj, if_neg hj]
    by_cases e : i = j
    · subst e
      have hl : ¬ i < σ.length := fun z => hj ⟨h, z⟩
      rw [List.getElem?_eq_none (by rw [List.length_set]; omega), List.getElem?_eq_none (by omega)]
    · rw [List.getElem?_set_ne e]
section
variable {K : PySem.W.Frag} {L : Lk} {F H I : Hp} {S : Sto}
mutual
theorem gPat_run (hd : Hd K L F H S I) : ∀ (p : Pat) {x : Tr} {v : V} {σ : L2.St} {ρ ρ2 : Rho} {Q : L2.St → Hp → Prop}, Rep K I x v → Slots K I σ ρ → patR p x ρ = some ρ2 →
    (∀ σ2, Slots K I σ2 ρ2 → (∀ vs, (∀ i ∈ p.slots, i ∈ vs) → wipe σ2 vs = wipe σ vs) → Q σ2 H) → gPat K p v σ H Q
  | .nm i, x, v, σ, ρ, ρ2, Q, r, sl, e, k => by
    have e' : some (ρ.set i (some x)) = some ρ2 := by simpa [patR] using e
    cases e'
    unfold gPat
    exact k _ (sl.set r) fun vs h => wipe_set σ (h i (by simp [Pat.slots]))
  | .tp ps, x, v, σ, ρ, ρ2, Q, r, sl, e, k => by
    unfold patR at e
    split at e
    · rename_i xs
      obtain ⟨a, vs, rfl, h1, h2⟩ := r
      unfold gPat
      have hl := gPats_len ps e
      exact ⟨a, vs, rfl, hd.sqT h1, by rw [h2.len, hl], gPats_run hd ps h2 sl e fun σ2 s2 w => k σ2 s2 fun vs h => w vs (by simpa [Pat.slots] using h)⟩
    · cases e
theorem gPats_run (hd : Hd K L F H S I) : ∀ (ps : List Pat) {xs : List Tr} {vs : List V} {σ : L2.St} {ρ ρ2 : Rho} {Q : L2.St → Hp → Prop}, RepL K I xs vs → Slots K I σ ρ → patsR ps xs ρ = some ρ2 →
    (∀ σ2, Slots K I σ2 ρ2 → (∀ vs, (∀ i ∈ patsSlots ps, i ∈ vs) → wipe σ2 vs = wipe σ vs) → Q σ2 H) → gPats K ps vs σ H Q
  | [], xs, vs, σ, ρ, ρ2, Q, r, sl, e, k => by
    unfold patsR at e
    split at e
    · cases e
      cases r
      unfold gPats
      exact ⟨rfl, k σ sl fun _ _ => rfl⟩
    · cases e
  | p :: ps, xs, vs, σ, ρ, ρ2, Q, r, sl, e, k => by
    unfold patsR at e
    split at e
    · rename_i x xs
      obtain ⟨v, ws, rfl, r1, r2⟩ := r
      split at e
      · rename_i ρ' e1
        unfold gPats
        refine ⟨v, ws, rfl, gPat_run hd p r1 sl e1 fun σ1 s1 w1 => gPats_run hd ps r2 s1 e fun σ2 s2 w2 => k σ2 s2 fun vs h => ?_⟩
        rw [w2 vs (fun i hi => h i (by simp [patsSlots, hi])), w1 vs (fun i hi => h i (by simp [patsSlots, hi]))]
      · cases e
    · cases e
theorem gPats_len : ∀ (ps : List Pat) {xs : List Tr} {ρ ρ2 : Rho}, patsR ps xs ρ = some ρ2 → xs.length = ps.length
  | [], xs, ρ, ρ2, e => by
    unfold patsR at e
    split at e
    · rfl
    · cases e
  | p :: ps, xs, ρ, ρ2, e => by
    unfold patsR at e
    split at e
    · rename_i x xs
      split at e
      · rename_i ρ' e1
        rw [List.length_cons, List.length_cons, gPats_len ps e]
      · cases e
    · cases e
end
end
/-! ### statements -/
section
variable {X : Cx} {W : WX} {a b e : Expr} {es : List Expr} {te : UE} {pos : Pos} {st : Stmt} {rest : List Stmt} {t u : US}
def uNext : US := fun D _ ρ S => D.nx ρ S
def uSeq (t u : US) : US := fun D X ρ S => t { D with nx := u D X } X ρ S
theorem ule_seq {u : US} {D D' : UEnds} {X X' : XS} (mu : MonoS u) (hD : ULe D D') (hX : XSLe X X') : ULe { D with nx := u D X } { D' with nx := u D' X' } := ⟨fun ρ S h => mu _ _ _ _ _ _ hD hX h, hD.2.1, hD.2.2.1, hD.2.2.2⟩
theorem mono_seq (mt : MonoS t) (mu : MonoS u) : MonoS (uSeq t u) := fun D D' X X' ρ S hD hX h => mt _ _ _ _ _ _ (ule_seq mu hD hX) hX h
theorem ss_nil : TPSs X W [] uNext := ⟨wkSs pss_nil fun D σ H ⟨L, F, S, I, ρ, hd, sl, h⟩ => h σ H I hd (Same.refl _) sl, fun _ _ _ _ _ _ hD _ h => hD.1 _ _ h⟩
def uBreak : US := fun D _ ρ S => D.bk ρ S
def uCont : US := fun D _ ρ S => D.ct ρ S
theorem lS_seq (mt : MonoS t) (mu : MonoS u) : ∀ D σ H, lS X.K W (uSeq t u) D σ H → lS X.K W t { D with nx := lS X.K W u D } σ H := fun D σ H ⟨L, F, S, I, ρ, hd, sl, h⟩ =>
  ⟨L, F, S, I, ρ, hd, sl, mt { dnD X.K L F I D with nx := u (dnD X.K L F I D) (dnXS X.K L F I W) } _ (dnXS X.K L F I W) _ _ _ ⟨fun ρ' S' q σ' H' I' hd' s' sl' => ⟨L, F, S', I', ρ', hd', sl', mu _ _ _ _ _ _ (dnD_up s') (dnXS_up s') q⟩, fun _ _ q => q, fun _ _ q => q, fun _ _ q => q⟩ (fun _ _ _ _ _ q => q) h⟩
theorem ss_cons (h1 : TPS X W st t) (h2 : TPSs X W rest u) : TPSs X W (st :: rest) (uSeq t u) := ⟨wkSs (pss_cons h1.pe h2.pe) (lS_seq h1.mono h2.mono), mono_seq h1.mono h2.mono⟩
theorem ss_one (h1 : TPS X W st t) : TPSs X W [st] t := ⟨pss_one h1.pe, h1.mono⟩
/-- what stands behind, under a name -/
structure CutT (u p : QS) : Prop where
  go : ∀ ρ S, u ρ S → p ρ S
def uCut (t u : US) : US := fun D X ρ S => ∀ p : QS, CutT (u D X) p → t { D with nx := p } X ρ S
theorem ss_cut (h1 : TPS X W st t) (h2 : TPSs X W rest u) : TPSs X W (st :: rest) (uCut t u) :=
  ⟨wkSs (ss_cons h1 h2).pe fun D σ H ⟨L, F, S, I, ρ, hd, sl, h⟩ => ⟨L, F, S, I, ρ, hd, sl, h _ ⟨fun _ _ q => q⟩⟩, fun D D' X X' ρ S hD hX h p hp => h1.mono { D with nx := p } _ X _ _ _ ⟨fun _ _ q => q, hD.2.1, hD.2.2.1, hD.2.2.2⟩ hX (h p ⟨fun ρ S q => hp.go _ _ (h2.mono _ _ _ _ _ _ hD hX q)⟩)⟩
def uDrop (te : UE) : US := fun D X ρ S => te ρ S (fun _ S1 => D.nx ρ S1) (atR X ρ)
theorem s_expr (he : TPE X W e te) (hs : swapsWith e none pos.line X.env = pure false := by rfl) : TPS X W (.Expr e pos) (uDrop te) :=
  ⟨wkS (ps_expr he.pe hs) fun D σ H ⟨L, F, S, I, ρ, hd, sl, h⟩ => lE_then he.mono hd sl h (dnXS_at sl) fun y S1 v H1 I1 q hd1 s1 sl1 r => q σ H1 I1 hd1 s1 sl1, fun D D' X X' ρ S hD hX h => he.mono _ _ _ _ _ _ (fun _ _ q => hD.1 _ _ q) (fun _ _ _ _ q => hX _ _ _ _ _ q) h⟩
def uRet (te : UE) : US := fun D X ρ S => te ρ S D.rt (atR X ρ)
theorem s_ret (he : TPE X W e te) : TPS X W (.Return (some e) pos) (uRet te) :=
  ⟨wkS (ps_ret he.pe) fun D σ H ⟨L, F, S, I, ρ, hd, sl, h⟩ => lE_then he.mono hd sl h (dnXS_at sl) fun y S1 v H1 I1 q hd1 s1 sl1 r => q v H1 I1 hd1 s1 r, fun D D' X X' ρ S hD hX h => he.mono _ _ _ _ _ _ (fun _ _ q => hD.2.1 _ _ q) (fun _ _ _ _ q => hX _ _ _ _ _ q) h⟩
def uRetN : US := fun D _ _ S => D.rt .non S
def uIfS (c : UT) (t u : US) : US := fun D X ρ S => c ρ S (fun b S1 => if b = true then t D X ρ S1 else u D X ρ S1) (atR X ρ)
theorem s_if {c : Expr} {a b : List Stmt} {tc : UT} (hc : TPT X W c tc) (ha : TPSs X W a t) (hb : TPSs X W b u) : TPS X W (.If c a b pos) (uIfS tc t u) :=
  ⟨wkS (ps_if hc.pe ha.pe hb.pe) fun D σ H ⟨L, F, S, I, ρ, hd, sl, h⟩ => lT_then hc.mono hd sl h (dnXS_at sl) fun c S1 H1 I1 q hd1 s1 sl1 => by
    cases c with
    | true => rw [if_pos rfl] at q ⊢; exact lS_then ha.mono hd1 sl1 q (dnD_up s1) (dnXS_up s1)
    | false => rw [if_neg Bool.false_ne_true] at q ⊢; exact lS_then hb.mono hd1 sl1 q (dnD_up s1) (dnXS_up s1), fun D D' X X' ρ S hD hX h => hc.mono _ _ _ _ _ _ (fun c S1 q => by
      cases c with
      | true => rw [if_pos rfl] at q ⊢; exact ha.mono _ _ _ _ _ _ hD hX q
      | false => rw [if_neg Bool.false_ne_true] at q ⊢; exact hb.mono _ _ _ _ _ _ hD hX q) (fun _ _ _ _ q => hX _ _ _ _ _ q) h⟩
def uNever : US := fun _ _ _ _ => False
/-- name = e -/
def uSet (i : Nat) (te : UE) : US := fun D X ρ S => te ρ S (fun x S1 => D.nx (ρ.set i (some x)) S1) (atR X ρ)
theorem mono_set {i : Nat} (m : MonoE te) : MonoS (uSet i te) := fun D D' X X' ρ S hD hX h => m _ _ _ _ _ _ (fun _ _ q => hD.1 _ _ q) (fun _ _ _ _ q => hX _ _ _ _ _ q) h
theorem lSet {i : Nat} (m : MonoE te) : ∀ D σ H, lS X.K W (uSet i te) D σ H → tAsg (lE X.K W te) (gName i) D σ H := fun D σ H ⟨L, F, S, I, ρ, hd, sl, h⟩ =>
  lE_then m hd sl h (dnXS_at sl) fun y S1 v H1 I1 q hd1 s1 sl1 r => q _ H1 I1 hd1 s1 (sl1.set r)
theorem s_set {i : Nat} {x : Str} {pos' : Pos} (hN : X.N.Nodup) (hi : X.N[i]? = some x) (hx : Loc X.env.scope x) (he : TPE X W e te) (hs : swapsWith e (some (.Name x pos')) pos.line X.env = pure false := by rfl) (hf : X.fn x = true ∨ X.env.scope.names.lookup x = some .local := by first | exact .inl rfl | exact .inr rfl | assumption) :
    TPS X W (.Assign [.Name x pos'] e pos) (uSet i te) := ⟨wkS (ps_set hN hi hx he.pe hs hf) (lSet he.mono), mono_set he.mono⟩
/-- a pattern = e -/
def uAsg (p : Pat) (te : UE) : US := fun D X ρ S => te ρ S (fun x S1 => ∃ ρ2, patR p x ρ = some ρ2 ∧ D.nx ρ2 S1) (atR X ρ)
/-- x, y = e1, e2 -/
def uPar (i j : Nat) (ta : UA) : US := fun D X ρ S => ta ρ S (fun xs S1 => ∃ x y, xs = [x, y] ∧ D.nx ((ρ.set i (some x)).set j (some y)) S1) (atR X ρ)
theorem s_par {i j : Nat} {x y : Str} {a b : Expr} {ta : UA} (hc : X.calm = true) (hN : X.N.Nodup) (hi : X.N[i]? = some x) (hj : X.N[j]? = some y) (hij : i ≠ j)
    (hx : X.env.scope.names.lookup x = some .local) (hy : X.env.scope.names.lookup y = some .local) (ha : TPA X W [a, b] ta) (hp : PA X [a, b] (lA X.K W ta) → PS X st (tPar i j (lA X.K W ta))) : TPS X W st (uPar i j ta) :=
  ⟨wkS (hp ha.pe) fun D σ H ⟨L, F, S, I, ρ, hd, sl, h⟩ => lA_then ha.mono hd sl h (dnXS_at sl) fun xs S1 vs H1 I1 ⟨x, y, e, q⟩ hd1 s1 sl1 r => by
    subst e
    obtain ⟨v, ws, rfl, r1, r2⟩ := r
    obtain ⟨w, us, rfl, r2, r3⟩ := r2
    cases r3
    exact ⟨v, w, rfl, q _ H1 I1 hd1 s1 ((sl1.set r1).set r2)⟩, fun D D' X X' ρ S hD hX h => ha.mono _ _ _ _ _ _ (fun _ _ ⟨x, y, e2, q⟩ => ⟨x, y, e2, hD.1 _ _ q⟩) (fun _ _ _ _ q => hX _ _ _ _ _ q) h⟩
/-- name op= e -/
def uAug (i : Nat) (g : Tr → Tr → Tr → Prop) (te : UE) : US := fun D X ρ S => ∃ x : Tr, ρ[i]? = some (some x) ∧ te ρ S (fun y S1 => ∃ z, g (vw S1 x) (vw S1 y) z ∧ D.nx (ρ.set i (some z)) S1) (atR X ρ)
/-! ### for -/
def uLoop (ok : Sto → Prop) (p : Pat) (tb : US) (D : UEnds) (X : XS) : List Tr → Rho → Sto → Prop
  | [], ρ, S => ok S ∧ D.nx ρ S
  | x :: xs, ρ, S => ok S ∧ ∃ ρ2, patR p x ρ = some ρ2 ∧ tb { D with nx := uLoop ok p tb D X xs, ct := uLoop ok p tb D X xs, bk := D.nx } X ρ2 S
def uFor (ui : UI) (p : Pat) (tb : US) : US := fun D X ρ S => ui ρ S (fun wk S1 => uLoop wk.ok p tb D X wk.xs ρ S1) (atR X ρ)
theorem mono_loop {ok : Sto → Prop} {p : Pat} {tb : US} (mb : MonoS tb) {D D' : UEnds} {X X' : XS} (hD : ULe D D') (hX : XSLe X X') : ∀ (xs : List Tr) (ρ : Rho) (S : Sto), uLoop ok p tb D X xs ρ S → uLoop ok p tb D' X' xs ρ S
  | [], ρ, S, h => ⟨h.1, hD.1 _ _ h.2⟩
  | x :: xs, ρ, S, ⟨h1, ρ2, e, h⟩ => ⟨h1, ρ2, e, mb { D with nx := uLoop ok p tb D X xs, ct := uLoop ok p tb D X xs, bk := D.nx } _ X _ _ _ ⟨mono_loop mb hD hX xs, hD.2.1, hD.1, mono_loop mb hD hX xs⟩ hX h⟩
theorem mono_for {ui : UI} {p : Pat} {tb : US} (mi : MonoI ui) (mb : MonoS tb) : MonoS (uFor ui p tb) := fun D D' X X' ρ S hD hX h => mi _ _ _ _ _ _ (fun wk S1 q => mono_loop mb hD hX _ _ _ q) (fun _ _ _ _ q => hX _ _ _ _ _ q) h
theorem loop_run {K : PySem.W.Frag} {L : Lk} {F H1 I1 : Hp} {S1 : Sto} {ρ : Rho} {σ : L2.St} {wk : Walk} {p : Pat} {tb : US} {D : L2.Ends} {J : It} (mb : MonoS tb) (hd : Hd K L F H1 S1 I1) (sl : Slots K I1 σ ρ) (it : ItRep K L I1 J wk)
    (h : uLoop wk.ok p tb (dnD K L F I1 D) (dnXS K L F I1 W) wk.xs ρ S1) : ∃ Wv : Nat → Nat → L2.St → Hp → Prop, (∃ m, Wv 0 m σ H1) ∧ ∀ i m σ H, Wv i m σ H →
      (J.stop i H ∧ D.nx σ H) ∨ (J.go i H ∧ ∃ N : L2.St → Hp → Prop, (∀ σ' H', N σ' H' → ∃ m', m' < m ∧ Wv (i + 1) m' σ' H') ∧ ∀ x H', J.yld i H x H' → gPat K p x σ H' fun σ2 H2 => lS K W tb { D with nx := N, ct := N, bk := D.nx } σ2 H2) := by
  refine ⟨fun i m σ H => m = wk.xs.length - i ∧ i ≤ wk.xs.length ∧ ∃ S I' ρ, Hd K L F H S I' ∧ Same I1 I' ∧ Slots K I' σ ρ ∧ uLoop wk.ok p tb (dnD K L F I1 D) (dnXS K L F I1 W) (wk.xs.drop i) ρ S, ⟨_, rfl, Nat.zero_le _, S1, I1, ρ, hd, Same.refl _, sl, h⟩, ?_⟩
  rintro i m σ H ⟨rfl, hi, S, I', ρ, hd', s', sl', h'⟩
  by_cases hl : i < wk.xs.length
  · obtain ⟨x, ex⟩ : ∃ x, wk.xs[i]? = some x := ⟨_, List.getElem?_eq_getElem hl⟩
    have ed : wk.xs.drop i = x :: wk.xs.drop (i + 1) := by
      rw [List.drop_eq_getElem_cons hl]
      rw [List.getElem?_eq_getElem hl] at ex
      cases ex; rfl
    rw [ed] at h'
    obtain ⟨hok, ρ2, e2, hb⟩ := h'
    refine .inr ⟨it.go F i H S I' hd' s' hok hl, _, fun σ' H' n => ⟨wk.xs.length - (i + 1), by omega, n⟩, fun v H2 y => ?_⟩
    obtain ⟨I2, hd2, s2, r2⟩ := it.yld F i H S I' v H2 x hd' s' hok ex y
    refine gPat_run hd2 p r2 (sl'.mono s2) e2 fun σ2 sl2 _ => lS_then mb hd2 sl2 hb ⟨fun ρ3 S3 q σ3 H3 I3 hd3 s3 sl3 => ?_, dnV_up (s'.trans s2), dnS_up (s'.trans s2), fun ρ3 S3 q σ3 H3 I3 hd3 s3 sl3 => ?_⟩ (dnXS_up (s'.trans s2))
    · exact ⟨rfl, hl, S3, I3, ρ3, hd3, (s'.trans s2).trans s3, sl3, q⟩
    · exact ⟨rfl, hl, S3, I3, ρ3, hd3, (s'.trans s2).trans s3, sl3, q⟩
  · have e : i = wk.xs.length := by omega
    rw [List.drop_eq_nil_of_le (by omega)] at h'
    exact .inl ⟨it.stop F i H S I' hd' s' h'.1 e, h'.2 σ H I' hd' s' sl'⟩
theorem s_for {tg iter : Expr} {body : List Stmt} {ui : UI} {tb : US} (p : Pat) (hp : PassesOwn (model X.prog X.w) X.A X.env X.xe) (hc : X.calm = true) (hi : TPI X W tg iter ui) (hg : PG X tg (gPat X.K p)) (hb : TPSs X W body tb)
    (hs : ∀ x, foldedSetIterable iter X.env x = pure x := by intro _; rfl) : TPS X W (.For tg iter body [] pos) (uFor ui p tb) :=
  ⟨wkS (ps_for hp hc hi.pe hg hb.pe hs) fun D σ H ⟨L, F, S, I, ρ, hd, sl, h⟩ => ⟨L, F, S, I, ρ, hd, sl, hi.mono _ _ _ _ _ _ (fun wk S1 q J H1 I1 hd1 s1 it => loop_run hb.mono hd1 (sl.mono s1) it (mono_loop hb.mono (dnD_up s1) (dnXS_up s1) _ _ _ q)) (dnXS_at sl) h⟩, mono_for hi.mono hb.mono⟩
/-! ### while -/
end
/-! ### what is walked -/
section
variable {X : Cx} {W : WX} {tg l : Expr} {te : UE}
def asL : Tr → Option (List Tr)
  | .lst xs => some xs
  | .scr ns => some (ns.map Tr.int)
  | _ => none
/-- over a list, a tuple, the script -/
def uSeqI (te : UE) : UI := fun ρ S R X => te ρ S (fun x S1 => ∃ xs, (asL (vw S1 x) = some xs ∨ vw S1 x = .tup xs) ∧ R ⟨xs, fun S' => vw S' x = vw S1 x⟩ S1) X
theorem mono_seqI (m : MonoE te) : MonoI (uSeqI te) := fun ρ S Q Q' X X' hQ hX h => m _ _ _ _ _ _ (fun x S1 ⟨xs, e, q⟩ => ⟨xs, e, hQ _ _ q⟩) hX h
theorem asL_sq {K : PySem.W.Frag} {L : Lk} {F H I : Hp} {S : Sto} {x : Tr} {v : V} {xs : List Tr} (h : Hd K L F H S I) (r : Rep K I x v) (e : asL (vw S x) = some xs) : ∃ a vs, v = .ref a ∧ SqL K H a vs ∧ RepL K I xs vs := by
  cases z : vw S x with
  | lst ys =>
    rw [z] at e; cases e
    obtain ⟨a, vs, e1, e2, e3⟩ := vw_lst h r z
    exact ⟨a, vs, e1, .inl (.inl e2), e3⟩
  | scr ns =>
    rw [z] at e; cases e
    obtain ⟨a, e1, e2⟩ := vw_scr h r z
    exact ⟨a, _, e1, e2, RepL.ints ns⟩
  | _ => rw [z] at e; cases e
theorem i_seq (hl : TPE X W l te) : TPI X W tg l (uSeqI te) :=
  ⟨wkI (KB.pi_seq hl.pe) fun σ H R ⟨L, F, S, I, ρ, hd, sl, h⟩ => lE_then hl.mono hd sl h (fun _ _ _ _ h => h) fun x S1 v H1 I1 ⟨xs, e, q⟩ hd1 s1 sl1 r => by
    rcases e with e | e
    · obtain ⟨a, vs, rfl, h1, h2⟩ := asL_sq hd1 r e
      refine ⟨a, rfl, .inl ⟨⟨vs, h1⟩, q (Itl X.K a) H1 I1 hd1 s1 ⟨fun F i H S' I' hd' s' hok hi => ?_, fun F i H S' I' hd' s' hok hi => ?_, fun F i H S' I' w H' y hd' s' hok hi hy => ?_⟩⟩⟩
      · obtain ⟨b, ws, eb, h3, h4⟩ := asL_sq (x := x) hd' (r.mono s') (by rw [hok]; exact e)
        cases eb
        have hl : i < ws.length := by rw [h4.len]; exact hi
        exact ⟨ws, ws[i], h3, List.getElem?_eq_getElem hl⟩
      · obtain ⟨b, ws, eb, h3, h4⟩ := asL_sq (x := x) hd' (r.mono s') (by rw [hok]; exact e)
        cases eb
        exact ⟨ws, h3, by rw [h4.len]; show xs.length ≤ i; have : i = xs.length := hi; omega⟩
      · obtain ⟨b, ws, eb, h3, h4⟩ := asL_sq (x := x) hd' (r.mono s') (by rw [hok]; exact e)
        cases eb
        obtain ⟨rfl, hy⟩ := hy
        obtain ⟨u, eu, ru⟩ := h4.get' hi
        have := hy ws h3
        rw [eu] at this; cases this
        exact ⟨I', hd', Same.refl _, ru⟩
    · obtain ⟨a, vs, rfl, h1, h2⟩ := vw_tup hd1 r e
      refine ⟨a, rfl, .inr ⟨⟨vs, h1⟩, q (Itt X.K a) H1 I1 hd1 s1 ⟨fun F i H S' I' hd' s' hok hi => ?_, fun F i H S' I' hd' s' hok hi => ?_, fun F i H S' I' w H' y hd' s' hok hi hy => ?_⟩⟩⟩
      · obtain ⟨b, ws, eb, h3, h4⟩ := vw_tup (x := x) hd' (r.mono s') (by rw [hok]; exact e)
        cases eb
        have hl : i < ws.length := by rw [h4.len]; exact hi
        exact ⟨ws, ws[i], h3, List.getElem?_eq_getElem hl⟩
      · obtain ⟨b, ws, eb, h3, h4⟩ := vw_tup (x := x) hd' (r.mono s') (by rw [hok]; exact e)
        cases eb
        exact ⟨ws, h3, by rw [h4.len]; show xs.length ≤ i; have : i = xs.length := hi; omega⟩
      · obtain ⟨b, ws, eb, h3, h4⟩ := vw_tup (x := x) hd' (r.mono s') (by rw [hok]; exact e)
        cases eb
        obtain ⟨rfl, hy⟩ := hy
        obtain ⟨u, eu, ru⟩ := h4.get' hi
        have := hy ws h3
        rw [eu] at this; cases this
        exact ⟨I', hd', Same.refl _, ru⟩, mono_seqI hl.mono⟩
end
end KQ
namespace KQ
open PySem PySem.Spec PyProof.Rows L2 TL KB
theorem fun_okC {P : Program} {w : World} {K : PySem.W.Frag} {mg : Str → Option Value} {base : Heap} {CX : CXT} {x qual : Str} {st : Stmt} {f : Addr} {fd : FuncData} {N ps : List Str} {k : Nat} {sp : Sp} (F : Fun K x qual st f fd) (S : FnScope N ps (defScope st)) (len : ∀ vs H Q E, sp vs H Q E → vs.length = ps.length)
    (hbody : ∀ (cdv : Value) (A : Around) (outer : List Env) (s : Shared) (H : Hp) (vs : List V) (Q : VK) (E : XK), Room k (A.deeper (envOfC qual (defScope st) s.heap.objs.size f cdv)) → sp vs H Q E →
      ∃ t, PSs (cxOf CX P w K mg base N qual (defScope st) f cdv A outer s H E) (defBody st) t ∧ t { nx := fun _ H' => Q .non H', rt := Q } (start N vs) H) : FnOk P w K mg base CX (k + 1) f fd ps sp := by
  obtain ⟨oc, od, kV, doc, pm, an, cdv, ct, osl, rfl, lk, hcd⟩ := F.ex
  exact fn_of lk hcd S len fun A outer s H vs Q E hr hsp => hbody cdv A outer s H vs Q E hr hsp
/-! ### freezing: cells become trees -/
mutual
inductive Res (G : Addr → Prop) (S : Sto) : Tr → Tr → Prop
  | self (x : Tr) : Res G S x x
  | cell {a : Addr} {c y : Tr} (g : G a) (e : S a = some c) (r : Res G S c y) : Res G S (.ref a) y
  | lst {xs ys : List Tr} (r : ResL G S xs ys) : Res G S (.lst xs) (.lst ys)
  | tup {xs ys : List Tr} (r : ResL G S xs ys) : Res G S (.tup xs) (.tup ys)
  | dic {ks : List Key} {xs ys : List Tr} (r : ResL G S xs ys) : Res G S (.dic ks xs) (.dic ks ys)
  | ins {C : Addr} {fs : List Str} {xs ys : List Tr} (r : ResL G S xs ys) : Res G S (.ins C fs xs) (.ins C fs ys)
inductive ResL (G : Addr → Prop) (S : Sto) : List Tr → List Tr → Prop
  | nil : ResL G S [] []
  | cons {x y : Tr} {xs ys : List Tr} (r : Res G S x y) (t : ResL G S xs ys) : ResL G S (x :: xs) (y :: ys)
end
theorem ResL.len {G : Addr → Prop} {S : Sto} : ∀ {xs ys : List Tr}, ResL G S xs ys → ys.length = xs.length
  | _, _, .nil => rfl
  | _, _, .cons r t => by rw [List.length_cons, List.length_cons, t.len]
section
variable {K : PySem.W.Frag} {L : Lk} {F H I : Hp} {S : Sto} {G : Addr → Prop}
open Classical in
/-- the trees' part with what is frozen -/
noncomputable def thaw (H I : Hp) (G : Addr → Prop) : Hp := fun b => if G b then H b else I b
theorem thaw_same (hd : Hd K L F H S I) (g : ∀ a, G a → ∃ c, S a = some c) : Same I (thaw H I G) := fun b o e => by
  unfold thaw
  rw [if_neg]
  · exact e
  · intro z
    obtain ⟨c, ec⟩ := g b z
    rw [(hd.cel b c ec).1] at e
    cases e
mutual
theorem Res.rep (hd : Hd K L F H S I) (g : ∀ a, G a → ∃ c, S a = some c) : ∀ {x y : Tr}, Res G S x y → (∀ v, Rep K I x v → Rep K (thaw H I G) y v) ∧ (∀ a o, CRep K I x o → thaw H I G a = some o → Rep K (thaw H I G) y (.ref a))
  | _, _, .self x => ⟨fun v r => r.mono (thaw_same hd g), fun a o r e => by
      cases x with
      | lst xs => obtain ⟨vs, rfl, h⟩ := r; exact ⟨a, vs, rfl, e, h.mono (thaw_same hd g)⟩
      | dic ks xs => obtain ⟨vs, rfl, l, h⟩ := r; exact ⟨a, vs, rfl, e, l, h.mono (thaw_same hd g)⟩
      | ins C fs xs => obtain ⟨dx, vs, rfl, l, h⟩ := r; exact ⟨a, dx, vs, rfl, e, l, h.mono (thaw_same hd g)⟩
      | opq q => cases r; exact ⟨a, rfl, e⟩
      | sem c => exact ⟨a, o, rfl, e, fun I2 s2 => r I2 a ((thaw_same hd g).trans s2)⟩
      | _ => exact r.elim⟩
  | _, _, .cell (a := a) (c := c) ga ea rc => ⟨fun v r => by
      cases r
      obtain ⟨_, _, o, ho, hc⟩ := hd.cel a c ea
      exact (Res.rep hd g rc).2 a o hc (by unfold thaw; rw [if_pos ga]; exact ho), fun b o r e => r.elim⟩
  | _, _, .lst rl => ⟨fun v r => by
      obtain ⟨a, vs, rfl, h1, h2⟩ := r
      exact ⟨a, vs, rfl, thaw_same hd g _ _ h1, ResL.rep hd g rl vs h2⟩, fun a o r e => by
      obtain ⟨vs, rfl, h⟩ := r
      exact ⟨a, vs, rfl, e, ResL.rep hd g rl vs h⟩⟩
  | _, _, .tup rl => ⟨fun v r => by
      obtain ⟨a, vs, rfl, h1, h2⟩ := r
      exact ⟨a, vs, rfl, sqT_mono (thaw_same hd g) h1, ResL.rep hd g rl vs h2⟩, fun a o r e => r.elim⟩
  | _, _, .dic rl => ⟨fun v r => by
      obtain ⟨a, vs, rfl, h1, h2, h3⟩ := r
      exact ⟨a, vs, rfl, thaw_same hd g _ _ h1, h2.trans rl.len.symm, ResL.rep hd g rl vs h3⟩, fun a o r e => by
      obtain ⟨vs, rfl, l, h⟩ := r
      exact ⟨a, vs, rfl, e, l.trans rl.len.symm, ResL.rep hd g rl vs h⟩⟩
  | _, _, .ins rl => ⟨fun v r => by
      obtain ⟨a, dx, vs, rfl, h1, h2, h3⟩ := r
      exact ⟨a, dx, vs, rfl, thaw_same hd g _ _ h1, h2.trans rl.len.symm, ResL.rep hd g rl vs h3⟩, fun a o r e => by
      obtain ⟨dx, vs, rfl, l, h⟩ := r
      exact ⟨a, dx, vs, rfl, e, l.trans rl.len.symm, ResL.rep hd g rl vs h⟩⟩
theorem ResL.rep (hd : Hd K L F H S I) (g : ∀ a, G a → ∃ c, S a = some c) : ∀ {xs ys : List Tr}, ResL G S xs ys → ∀ vs, RepL K I xs vs → RepL K (thaw H I G) ys vs
  | _, _, .nil, vs, h => h
  | _, _, .cons r t, vs, h => by
    obtain ⟨v, ws, rfl, h1, h2⟩ := h
    exact ⟨v, ws, rfl, (Res.rep hd g r).1 v h1, ResL.rep hd g t ws h2⟩
end
theorem Hd.thawed {S' : Sto} (hd : Hd K L F H S I) (g : ∀ a, G a → ∃ c, S a = some c) (s : ∀ a c, S' a = some c → S a = some c ∧ ¬ G a) : Hd K L F H S' (thaw H I G) := by
  have sm := thaw_same (G := G) hd g
  have low : ∀ b o, thaw H I G b = some o → (G b ∧ H b = some o) ∨ (¬ G b ∧ I b = some o) := fun b o e => by
    unfold thaw at e
    split at e
    · rename_i z; exact .inl ⟨z, e⟩
    · rename_i z; exact .inr ⟨z, e⟩
  refine ⟨fun b o e => ?_, fun b od e => ?_, fun a c e => ?_, fun b o e => ?_⟩
  · rcases low b o e with ⟨z, e⟩ | ⟨z, e⟩
    · obtain ⟨c, ec⟩ := g b z
      rw [hd.lkN (hd.cel b c ec).1]
      exact e
    · exact hd.sub b o e
  · obtain ⟨k, e⟩ := hd.lck b od e
    exact ⟨k, sm _ _ e⟩
  · obtain ⟨e1, ng⟩ := s a c e
    obtain ⟨h1, h2, o, h3, h4⟩ := hd.cel a c e1
    exact ⟨by unfold thaw; rw [if_neg ng]; exact h1, h2, o, h3, h4.mono sm⟩
  · obtain ⟨h1, h2⟩ := hd.fra b o e
    refine ⟨h1, ?_⟩
    cases q : thaw H I G b with
    | none => rfl
    | some u =>
      rcases low b u q with ⟨z, _⟩ | ⟨_, z⟩
      · obtain ⟨c, ec⟩ := g b z
        rw [(hd.cel b c ec).2.1] at e
        cases e
      · rw [h2] at z; cases z
end
def Frz (y : Tr) (S : Sto) (y' : Tr) (S' : Sto) : Prop := ∃ G : Addr → Prop, Res G S y y' ∧ (∀ a c, S' a = some c → S a = some c ∧ ¬ G a) ∧ ∀ a, G a → ∃ c, S a = some c
def Closed (Q : QV) : Prop := ∀ y S y' S', Frz y S y' S' → Q y' S' → Q y S
def Sub (S' S : Sto) : Prop := ∀ a c, S' a = some c → S a = some c
def ClosedX (X : QX) : Prop := ∀ c fs xs S S', Sub S' S → X c fs xs S' → X c fs xs S
theorem dnV_closed {K : PySem.W.Frag} {L : Lk} {F I : Hp} {R : VK} : Closed (dnV K L F I R) := fun y S y' S' ⟨G, r, s, g⟩ q v H' I' hd sm rp =>
  q v H' (thaw H' I' G) (hd.thawed g s) (sm.trans (thaw_same hd g)) ((r.rep hd g).1 v rp)
/-- a cell that goes out as a tree -/
theorem Frz.one {S S' : Sto} {a : Addr} {c : Tr} (e : S a = some c) (s : Sub S' S) (n : S' a = none) : Frz (.ref a) S c S' :=
  ⟨fun b => b = a, .cell rfl e (.self c), fun b d h => ⟨s b d h, fun z => by subst z; rw [n] at h; cases h⟩, fun b z => ⟨c, by rw [z]; exact e⟩⟩
theorem Frz.drop {S S' : Sto} {y : Tr} (s : Sub S' S) : Frz y S y S' := ⟨fun _ => False, .self y, fun b d h => ⟨s b d h, fun z => z⟩, fun _ z => z.elim⟩
theorem Closed.one {Q : QV} {S S' : Sto} {a : Addr} {c : Tr} (h : Closed Q) (e : S a = some c) (s : Sub S' S) (n : S' a = none) (q : Q c S') : Q (.ref a) S := h _ _ _ _ (Frz.one e s n) q
theorem Closed.drop {Q : QV} {S S' : Sto} {y : Tr} (h : Closed Q) (s : Sub S' S) (q : Q y S') : Q y S := h _ _ _ _ (Frz.drop s) q
theorem Sub.noneAt {S' S : Sto} (s : Sub S' S) {d : Addr} (h : S d = none) : S' d = none := by
  cases e : S' d with
  | none => rfl
  | some c => rw [s d c e] at h; cases h
theorem Sub.refl (S : Sto) : Sub S S := fun _ _ h => h
theorem Sub.new {S S' : Sto} {p : Addr} {c : Tr} (s : Sub S' S) (n : S' p = none) : Sub S' (put S p c) := fun a d e => by
  have hn : a ≠ p := fun z => by subst z; rw [n] at e; cases e
  rw [put_ne hn]; exact s a d e
theorem Sub.both {S S' : Sto} {p : Addr} {c : Tr} (s : Sub S' S) : Sub (put S' p c) (put S p c) := fun a d e => by
  by_cases h : a = p
  · subst h; rw [put_same] at e ⊢; exact e
  · rw [put_ne h] at e ⊢; exact s a d e
/-! ### promises over trees -/
abbrev TSp := List Tr → Sto → QV → QX → Prop
def MonoSp (t : TSp) : Prop := ∀ xs S (Q Q' : QV) (X X' : QX), (∀ y S, Q y S → Q' y S) → XLe X X' → t xs S Q X → t xs S Q' X'
def lSp (K : PySem.W.Frag) (t : TSp) : Sp := fun vs H Q E => ∃ L F S I xs, Hd K L F H S I ∧ RepL K I xs vs ∧ t xs S (dnV K L F I Q) (dnX K L F I (fun c d _ H => E c d H) [])
structure CalleeT (P : Program) (w : World) (K : PySem.W.Frag) (mg : Str → Option Value) (base : Heap) (k : Nat) (x : Str) (ps : List Str) (t : TSp) : Prop where
  ex : ∃ (f : Addr) (fd : FuncData), mg x = some (.ref f) ∧ PySem.W.keepIn K (.ref f) = true ∧ Binds K fd ps [] ∧ FnOk P w K mg base (L2N.CX P w) k f fd ps (lSp K t) ∧ ∃ oc od osl, K.lookup f = some ⟨oc, od, .func fd, osl⟩
  mono : MonoSp t
def startT (N : List Str) (xs : List Tr) : Rho := xs.map some ++ List.replicate (N.length - xs.length) none
theorem slots_start {K : PySem.W.Frag} {I : Hp} {N : List Str} {xs : List Tr} {vs : List V} (r : RepL K I xs vs) : Slots K I (start N vs) (startT N xs) := by
  refine ⟨by simp [L2.start, startT, r.len], fun i x e => ?_⟩
  unfold startT at e
  unfold L2.start
  by_cases hi : i < xs.length
  · rw [List.getElem?_append_left (by simpa using hi), List.getElem?_map] at e
    rw [List.getElem?_append_left (by simpa [r.len] using hi), List.getElem?_map]
    cases z : xs[i]? with
    | none => rw [z] at e; cases e
    | some y =>
      rw [z] at e
      cases e
      obtain ⟨v, ev, rv⟩ := r.get' z
      exact ⟨v, by rw [ev]; rfl, rv⟩
  · rw [List.getElem?_append_right (by simpa using hi)] at e
    rw [List.getElem?_replicate] at e
    split at e <;> cases e
section
variable {P : Program} {w : World} {K : PySem.W.Frag} {mg : Str → Option Value} {base : Heap}
/-- the end of a def's body -/
def endU (Q : QV) : UEnds := ⟨fun _ S' => Q .non S', Q, fun _ _ => False, fun _ _ => False⟩
def endX (X : QX) : XS := fun c fs xs _ S' => X c fs xs S'
theorem body_ok {st : Stmt} {N : List Str} {tsp : TSp} {us : US} {X : Cx} {L : Lk} {F H I : Hp} {S : Sto} {xs : List Tr} {vs : List V} {Q : VK} {E : XK} (m : MonoS us) (hd : Hd K L F H S I) (r : RepL K I xs vs)
    (h : us (endU (dnV K L F I Q)) (endX (dnX K L F I (fun c d _ H => E c d H) [])) (startT N xs) S) : lS K (fun cls d _ H => E cls d H) us { nx := fun _ H' => Q .non H', rt := Q } (start N vs) H :=
  lS_then m hd (slots_start r) h ⟨fun ρ S' q σ' H' I' hd' s' sl' => q .non H' I' hd' s' rfl, fun _ _ q => q, fun _ _ q => q.elim, fun _ _ q => q.elim⟩ (fun c fs xs ρ S' q d σ' H' I' hd' s' sl' x => q d H' I' hd' s' x)
theorem Def.okT {x : Str} {st : Stmt} {N ps : List Str} {k : Nat} {tsp : TSp} {us : US} (D : Def K mg x st) (S : FnScope N ps (defScope st))
    (hb : ∀ (kV doc pm : Value) (an : Option Addr) (cdv ct : Value) (us : List Value), us.length = ps.length → bindArgs (PySem.W.fnOf x x (defArgs st) (defBody st) (defScope st) .none kV doc pm an cdv ct) ⟨us, []⟩ = pure (ps.zip us))
    (len : ∀ xs S Q X, tsp xs S Q X → xs.length = ps.length) (mono : MonoSp tsp)
    (body : ∀ (f : Addr) (cdv : Value) (A : Around) (outer : List Env) (s : Shared) (H : Hp) (E : XK), Room k (A.deeper (envOfC x (defScope st) s.heap.objs.size f cdv)) → L2N.Takes (cxOf (L2N.CX P w) P w K mg base N x (defScope st) f cdv A outer s H E) (fun cls d _ H => E cls d H) →
      PassesOwn (model P w) (cxOf (L2N.CX P w) P w K mg base N x (defScope st) f cdv A outer s H E).A (cxOf (L2N.CX P w) P w K mg base N x (defScope st) f cdv A outer s H E).env (cxOf (L2N.CX P w) P w K mg base N x (defScope st) f cdv A outer s H E).xe →
      TPSs (cxOf (L2N.CX P w) P w K mg base N x (defScope st) f cdv A outer s H E) (fun cls d _ H => E cls d H) (defBody st) us)
    (h : ∀ xs S Q X, Closed Q → ClosedX X → tsp xs S Q X → us (endU Q) (endX X) (startT N xs) S) : CalleeT P w K mg base (k + 1) x ps tsp := by
  obtain ⟨f, fd, Fn, g⟩ := D.ex
  have E := Fn.ex
  obtain ⟨oc, od, kV, doc, pm, an, cdv, ct, osl, e, lk, _⟩ := E
  refine ⟨⟨f, fd, g, Fn.kp, Fn.binds hb, fun_okC Fn S (fun vs H Q E ⟨_, _, _, _, xs, _, r, q⟩ => by rw [r.len]; exact len _ _ _ _ q) fun cdv A outer s H vs Q E hr ⟨L, F, S0, I, xs, hd, r, q⟩ => ?_, oc, od, osl, lk⟩, mono⟩
  have B := body f cdv A outer s H E hr (L2N.takes_of rfl rfl rfl rfl) (passes_of rfl)
  exact ⟨_, B.pe, body_ok (st := st) (tsp := tsp) (X := cxOf (L2N.CX P w) P w K mg base N x (defScope st) f cdv A outer s H E) B.mono hd r (h xs S0 _ _ dnV_closed (fun c fs ys S S' sb z d H' I' hd' s' ⟨vs, h1, h2, h3, h4, h5, h6⟩ => z d H' I' (hd'.fewer sb) s' ⟨vs, h1, h2, h3, h4, sb.noneAt h5, h6⟩) q)⟩
/-- a promise that nobody can ask for -/
theorem Def.botT {x : Str} {st : Stmt} {N ps : List Str} {k : Nat} {tsp : TSp} (D : Def K mg x st)
    (hb : ∀ (kV doc pm : Value) (an : Option Addr) (cdv ct : Value) (us : List Value), us.length = ps.length → bindArgs (PySem.W.fnOf x x (defArgs st) (defBody st) (defScope st) .none kV doc pm an cdv ct) ⟨us, []⟩ = pure (ps.zip us))
    (h : ∀ xs S Q X, ¬ tsp xs S Q X) : CalleeT P w K mg base k x ps tsp := by
  obtain ⟨f, fd, F, g⟩ := D.ex
  have E := F.ex
  obtain ⟨oc, od, kV, doc, pm, an, cdv, ct, osl, e, lk, _⟩ := E
  exact ⟨⟨f, fd, g, F.kp, F.binds hb, ⟨fun vs H Q E ⟨_, _, _, _, xs, _, r, q⟩ => (h _ _ _ _ q).elim, fun _ _ _ _ _ _ _ _ _ _ _ _ _ ⟨_, _, _, _, xs, _, r, q⟩ => (h _ _ _ _ q).elim⟩, oc, od, osl, lk⟩, fun xs S Q Q' X X' _ _ q => (h _ _ _ _ q).elim⟩
theorem CalleeT.imp {k : Nat} {x : Str} {ps : List Str} {t t' : TSp} (C : CalleeT P w K mg base k x ps t) (m : MonoSp t') (h : ∀ xs S Q X, Closed Q → t' xs S Q X → t xs S Q X) : CalleeT P w K mg base k x ps t' := by
  obtain ⟨⟨f, fd, g, kp, b, F, lk⟩, _⟩ := C
  exact ⟨⟨f, fd, g, kp, b, F.imp fun vs H Q E ⟨L, F, S, I, xs, hd, r, q⟩ => ⟨L, F, S, I, xs, hd, r, h _ _ _ _ dnV_closed q⟩, lk⟩, m⟩
end
/-! ### calls -/
section
variable {X : Cx} {W : WX} {e : Expr} {es : List Expr} {tr : UA} {pos p : Pos} {k : Nat} {x : Str} {ps : List Str} {tsp : TSp}
def uCall (tsp : TSp) (t : UA) : UE := fun ρ S Q X => t ρ S (fun xs S1 => tsp xs S1 Q X) X
theorem mono_call (ms : MonoSp tsp) (m : MonoA tr) : MonoE (uCall tsp tr) := fun ρ S Q Q' X X' hQ hX h => m _ _ _ _ _ _ (fun xs S1 q => ms _ _ _ _ _ _ hQ hX q) hX h
theorem lCall (ms : MonoSp tsp) (m : MonoA tr) : ∀ σ H R, lE X.K W (uCall tsp tr) σ H R → tCallS (lSp X.K tsp) (WE W) (lA X.K W tr) σ H R := fun σ H R ⟨L, F, S, I, ρ, hd, sl, h⟩ =>
  lA_then m hd sl h (fun _ _ _ _ h => h) fun xs S1 vs H1 I1 q hd1 s1 sl1 r => ⟨L, F, S1, I1, xs, hd1, r, ms _ _ _ _ _ _ (dnV_up s1) (dnX_up s1) q⟩
theorem e_call (C : CalleeT X.prog X.w X.K X.mg X.base k x ps tsp) (hr : Room k X.A) (hg : Gl X x) (tk : L2N.Takes X W) (ha : TPA X W (e :: es) tr) (hdb : (x == ("__debug__" : Str)) = false := by decide)
    (he : starEach (e :: es) X.env = (false, eval e X.env) :: starEach es X.env := by rfl) (hpl : (backTo pos (starEach es X.env)).any (·.1) = false := by rfl) : TPE X W (.Call (.Name x p) (e :: es) [] pos) (uCall tsp tr) := by
  obtain ⟨⟨f, fd, g, kp, b, F, _⟩, ms⟩ := C
  exact ⟨wkE (pe_callS F hr hg g kp b (fun σ => L2N.passAt tk σ) ha.pe hdb he hpl) (lCall ms ha.mono), mono_call ms ha.mono⟩
end
/-! ### list comprehensions -/
section
variable {X : Cx} {W : WX}
abbrev W0 : WX := fun _ _ _ _ => False
abbrev X0 : QX := fun _ _ _ _ => False
def uYes : UT := fun _ S Q _ => Q true S
def uLcL (ok : Sto → Prop) (p : Pat) (tt : UT) (te : UE) (ρ : Rho) (Q : QV) : List Tr → List Tr → Sto → Prop
  | [], acc, S => ok S ∧ Q (.lst acc) S
  | x :: xs, acc, S => ok S ∧ ∃ ρ2, patR p x ρ = some ρ2 ∧ tt ρ2 S (fun b S3 => if b = true then te ρ2 S3 (fun y S4 => acc.length < sizeLine ∧ uLcL ok p tt te ρ Q xs (acc ++ [y]) S4) X0 else uLcL ok p tt te ρ Q xs acc S3) X0
def uLc (ui : UI) (p : Pat) (tt : UT) (te : UE) (vs : List Nat) : UE := fun ρ S Q X => ui ρ S (fun wk S1 => uLcL wk.ok p tt te (wipeR ρ vs) Q wk.xs [] S1) X
/-- the list of a comprehension, as a cell -/
def qCell (Q : QV) : QV := fun y S => ∃ xs, y = .lst xs ∧ ∀ p, S p = none → Q (.ref p) (put S p (.lst xs))
def uLcC (ui : UI) (p : Pat) (tt : UT) (te : UE) (vs : List Nat) : UE := fun ρ S Q X => ui ρ S (fun wk S1 => uLcL wk.ok p tt te (wipeR ρ vs) (qCell Q) wk.xs [] S1) X
end
end KQ
namespace KQ
open PySem PySem.Spec PyProof.Rows L2 TL KB
/-! ### operators over trees -/
section
variable {K : PySem.W.Frag}
/-- what a flat tree is -/
theorem vw_eq_non {L : Lk} {F H I : Hp} {S : Sto} {x : Tr} {v : V} (hd : Hd K L F H S I) (r : Rep K I x v) (e : vw S x = .non) : v = .non := by
  have z := Rep.flat r (.inl e) hd
  rw [z] at e; subst e; exact r
theorem vw_eq_bl {L : Lk} {F H I : Hp} {S : Sto} {x : Tr} {v : V} {b : Bool} (hd : Hd K L F H S I) (r : Rep K I x v) (e : vw S x = .bl b) : v = .bl b := by
  have z := Rep.flat r (.inr (.inl ⟨b, e⟩)) hd
  rw [z] at e; subst e; exact r
theorem vw_eq_int {L : Lk} {F H I : Hp} {S : Sto} {x : Tr} {v : V} {n : Int} (hd : Hd K L F H S I) (r : Rep K I x v) (e : vw S x = .int n) : v = .int n := by
  have z := Rep.flat r (.inr (.inr (.inl ⟨n, e⟩))) hd
  rw [z] at e; subst e; exact r
theorem vw_eq_str {L : Lk} {F H I : Hp} {S : Sto} {x : Tr} {v : V} {n : Str} (hd : Hd K L F H S I) (r : Rep K I x v) (e : vw S x = .str n) : v = .str n := by
  have z := Rep.flat r (.inr (.inr (.inr ⟨n, e⟩))) hd
  rw [z] at e; subst e; exact r
theorem vw_eq_ty {L : Lk} {F H I : Hp} {S : Sto} {x : Tr} {v : V} {n : String} (hd : Hd K L F H S I) (r : Rep K I x v) (e : vw S x = .ty n) : v = .ty n := by
  rcases vw_cases S x with ⟨e1, _⟩ | ⟨a, c, rfl, ea, e1⟩
  · rw [e1] at e; subst e; exact r
  · obtain ⟨_, _, o, h1, h2⟩ := hd.cel a _ ea
    rw [e1] at e; subst e; exact h2.elim
theorem vw_eq_ref {L : Lk} {F H I : Hp} {S : Sto} {x : Tr} {v : V} {a : Addr} (hd : Hd K L F H S I) (r : Rep K I x v) (e : vw S x = .ref a) : v = .ref a := by
  rcases vw_cases S x with ⟨e1, _⟩ | ⟨b, c, rfl, ea, e1⟩
  · rw [e1] at e; subst e; exact r
  · obtain ⟨_, _, o, h1, h2⟩ := hd.cel b _ ea
    rw [e1] at e; subst e; exact h2.elim
end
def gAdd (x y z : Tr) : Prop := match x, y with
  | .int i, .int j => z = .int (i + j)
  | .str a, .str b => a.length + b.length ≤ sizeLine ∧ z = .str (a ++ b)
  | .lst xs, .lst ys => xs.length + ys.length ≤ sizeLine ∧ z = .lst (xs ++ ys)
  | .tup xs, .tup ys => xs.length + ys.length ≤ sizeLine ∧ z = .tup (xs ++ ys)
  | _, _ => False
def gInt2 (C : Int → Int → Prop) (f : Int → Int → Tr) (x y z : Tr) : Prop := match x, y with
  | .int i, .int j => C i j ∧ z = f i j
  | _, _ => False
abbrev gSub := gInt2 (fun _ _ => True) fun i j => .int (i - j)
def gMul (x y z : Tr) : Prop := match x, y with
  | .int i, .int j => (CMul i j ∨ CMulW i j) ∧ z = .int (i * j)
  | .lst xs, .int k => (-(2 ^ 63) ≤ k ∧ k < 2 ^ 63 ∧ xs.length * k.toNat ≤ sizeLine) ∧ z = .lst (List.replicate k.toNat xs).flatten
  | _, _ => False
abbrev gMod := gInt2 (fun _ j => 0 < j) fun i j => .int (i % j)
abbrev gFd := gInt2 CDivW fun i j => .int (i / j)
abbrev gPow := gInt2 CPow fun i j => .int (i ^ j.toNat)
abbrev gLt := gInt2 (fun _ _ => True) fun i j => .bl (decide (i < j))
abbrev gLe := gInt2 (fun _ _ => True) fun i j => .bl (decide (i ≤ j))
abbrev gGt := gInt2 (fun _ _ => True) fun i j => .bl (decide (j < i))
abbrev gGe := gInt2 (fun _ _ => True) fun i j => .bl (decide (j ≤ i))
section
variable {X : Cx} {K : PySem.W.Frag}
theorem opt_int2 {C : Int → Int → Prop} {f : Int → Int → Tr} {g : Int → Int → V} {r : R2} (hr : ∀ {i j H Q}, C i j → Q (g i j) H → r (.int i) (.int j) H Q) (hf : ∀ i j I, Rep K I (f i j) (g i j)) : OpT K r (gInt2 C f) := by
  intro L F H S I x y z v w R hd rx ry hg k
  unfold gInt2 at hg
  split at hg
  · rename_i i j e1 e2
    cases vw_eq_int hd rx e1
    cases vw_eq_int hd ry e2
    obtain ⟨c, rfl⟩ := hg
    exact hr c (k _ H I hd (Same.refl _) (hf i j I))
  · exact hg.elim
theorem o_sub : OpT K (rI0 fun i j => .int (i - j)) gSub := opt_int2 (f := fun i j => .int (i - j)) (g := fun i j => .int (i - j)) (fun _ q => ⟨_, _, rfl, rfl, q⟩) fun _ _ _ => rfl
theorem o_mod : OpT K KB.rMd gMod := opt_int2 (f := fun i j => .int (i % j)) (g := fun i j => .int (i % j)) (fun c q => ⟨_, _, rfl, rfl, c, q⟩) fun _ _ _ => rfl
theorem o_fd : OpT K KB.rFd gFd := opt_int2 (f := fun i j => .int (i / j)) (g := fun i j => .int (i / j)) (fun c q => ⟨_, _, rfl, rfl, c, q⟩) fun _ _ _ => rfl
theorem o_pow : OpT K (rI CPow fun i j => .int (i ^ j.toNat)) gPow := opt_int2 (f := fun i j => .int (i ^ j.toNat)) (g := fun i j => .int (i ^ j.toNat)) (fun c q => ⟨_, _, rfl, rfl, c, q⟩) fun _ _ _ => rfl
theorem o_lt : OpT K (rI0 fun i j => .bl (decide (i < j))) gLt := opt_int2 (f := fun i j => .bl (decide (i < j))) (g := fun i j => .bl (decide (i < j))) (fun _ q => ⟨_, _, rfl, rfl, q⟩) fun _ _ _ => rfl
theorem o_le : OpT K (rI0 fun i j => .bl (decide (i ≤ j))) gLe := opt_int2 (f := fun i j => .bl (decide (i ≤ j))) (g := fun i j => .bl (decide (i ≤ j))) (fun _ q => ⟨_, _, rfl, rfl, q⟩) fun _ _ _ => rfl
theorem o_gt : OpT K (rI0 fun i j => .bl (decide (j < i))) gGt := opt_int2 (f := fun i j => .bl (decide (j < i))) (g := fun i j => .bl (decide (j < i))) (fun _ q => ⟨_, _, rfl, rfl, q⟩) fun _ _ _ => rfl
theorem o_ge : OpT K (rI0 fun i j => .bl (decide (j ≤ i))) gGe := opt_int2 (f := fun i j => .bl (decide (j ≤ i))) (g := fun i j => .bl (decide (j ≤ i))) (fun _ q => ⟨_, _, rfl, rfl, q⟩) fun _ _ _ => rfl
/-- + of ints, texts, lists, tuples -/
def rAd2 (K : PySem.W.Frag) : R2 := fun x y H Q => KB.rAd x y H Q ∨ rCatA K x y H Q
theorem ad_op : OpR X (binaryOp .Add) (rAd2 X.K) := OpR.or ad_any op_catA
theorem o_add : OpT K (rAd2 K) gAdd := by
  intro L F H S I x y z v w R hd rx ry hg k
  unfold gAdd at hg
  split at hg
  · rename_i i j e1 e2
    cases vw_eq_int hd rx e1
    cases vw_eq_int hd ry e2
    subst hg
    exact .inl (.inl ⟨i, j, rfl, rfl, k _ H I hd (Same.refl _) rfl⟩)
  · rename_i a b e1 e2
    cases vw_eq_str hd rx e1
    cases vw_eq_str hd ry e2
    obtain ⟨c, rfl⟩ := hg
    exact .inl (.inr (.inl ⟨a, b, rfl, rfl, c, k _ H I hd (Same.refl _) rfl⟩))
  · rename_i xs ys e1 e2
    obtain ⟨a, vs, rfl, h1, h2⟩ := vw_lst hd rx e1
    obtain ⟨b, ws, rfl, h3, h4⟩ := vw_lst hd ry e2
    obtain ⟨c, rfl⟩ := hg
    refine .inl (.inr (.inr ⟨a, b, vs, ws, rfl, rfl, h1, h3, by rw [h2.len, h4.len]; exact c, fun p np => k _ _ _ (hd.imm np) (upd_sub (hd.freeI np)) ⟨p, vs ++ ws, rfl, upd_same, (h2.app h4).mono (upd_sub (hd.freeI np))⟩⟩))
  · rename_i xs ys e1 e2
    obtain ⟨a, vs, rfl, h1, h2⟩ := vw_tup hd rx e1
    obtain ⟨b, ws, rfl, h3, h4⟩ := vw_tup hd ry e2
    obtain ⟨c, rfl⟩ := hg
    have ex : ∀ {x : Tr} {u : V} {zs : List Tr}, Rep K I x u → vw S x = .tup zs → Rep K I (.tup zs) u := fun {x u zs} r e => by
      rcases vw_cases S x with ⟨e1, _⟩ | ⟨b, c, rfl, ea, e1⟩
      · rw [e1] at e; subst e; exact r
      · obtain ⟨_, _, o, _, q⟩ := hd.cel b _ ea
        rw [e1] at e; subst e; exact q.elim
    have z1 := h2.len
    have z2 := h4.len
    refine .inr ⟨a, b, vs, ws, rfl, rfl, h1, h3, by rw [z1, z2]; exact c, fun e => ?_, fun _ e => ?_, fun _ _ p np => ?_⟩
    · subst e
      have : xs = [] := List.length_eq_zero_iff.mp z1.symm
      subst this
      exact k _ H I hd (Same.refl _) (ex ry e2)
    · subst e
      have : ys = [] := List.length_eq_zero_iff.mp z2.symm
      subst this
      rw [List.append_nil] at k
      exact k _ H I hd (Same.refl _) (ex rx e1)
    · exact k _ _ _ (hd.imm np) (upd_sub (hd.freeI np)) ⟨p, vs ++ ws, rfl, .inl (.inl upd_same), (h2.app h4).mono (upd_sub (hd.freeI np))⟩
  · exact hg.elim
theorem RepL.flat {I : Hp} {xs : List Tr} {vs : List V} (h : RepL K I xs vs) : ∀ n, RepL K I (List.replicate n xs).flatten (List.replicate n vs).flatten
  | 0 => rfl
  | n + 1 => by
    rw [List.replicate_succ, List.replicate_succ, List.flatten_cons, List.flatten_cons]
    exact h.app (RepL.flat h n)
theorem o_mul : OpT K KB.rMl gMul := by
  intro L F H S I x y z v w R hd rx ry hg k
  unfold gMul at hg
  split at hg
  · rename_i i j e1 e2
    cases vw_eq_int hd rx e1
    cases vw_eq_int hd ry e2
    obtain ⟨c, rfl⟩ := hg
    exact .inl ⟨i, j, rfl, rfl, c, k _ H I hd (Same.refl _) rfl⟩
  · rename_i xs n e1 e2
    obtain ⟨a, vs, rfl, h1, h2⟩ := vw_lst hd rx e1
    cases vw_eq_int hd ry e2
    obtain ⟨⟨c1, c2, c3⟩, rfl⟩ := hg
    exact .inr ⟨a, n, vs, rfl, rfl, h1, c1, c2, by rw [h2.len]; exact c3, fun p np => k _ _ _ (hd.imm np) (upd_sub (hd.freeI np)) ⟨p, _, rfl, upd_same, (h2.flat _).mono (upd_sub (hd.freeI np))⟩⟩
  · exact hg.elim
/-! ### == of data -/
mutual
def toD : Tr → Option PyData
  | .non => some .none
  | .bl b => some (.bool b)
  | .int n => some (.int n)
  | .str z => some (.str z)
  | .lst xs => (toDs xs).map .list
  | .tup xs => (toDs xs).map .tuple
  | _ => none
def toDs : List Tr → Option (List PyData)
  | [] => some []
  | x :: xs => match toD x, toDs xs with
    | some d, some ds => some (d :: ds)
    | _, _ => none
end
/-- x == y as the flat ones compare -/
def eqF : Tr → Tr → Option Bool
  | .non, .non => some true
  | .non, .int _ => some false
  | .int _, .non => some false
  | .non, .bl _ => some false
  | .bl _, .non => some false
  | .non, .str _ => some false
  | .str _, .non => some false
  | .int i, .int j => some (decide (i = j))
  | .bl a, .bl b => some (decide (a = b))
  | .str a, .str b => some (decide (a = b))
  | .int _, .str _ => some false
  | .str _, .int _ => some false
  | .bl _, .str _ => some false
  | .str _, .bl _ => some false
  | _, _ => none
def gEq (n : Bool) (x y z : Tr) : Prop := (∃ b, eqF x y = some b ∧ z = .bl (n ^^ b)) ∨ (eqF x y = none ∧ ∃ d e, toD x = some d ∧ toD y = some e ∧ SeqAt.shaped d = true ∧ SeqAt.shaped e = true ∧ z = .bl (n ^^ PyData.eqv d e))
mutual
theorem toD_dp {L : Lk} {F H I : Hp} {S : Sto} (hd : Hd K L F H S I) : ∀ {x : Tr} {d : PyData} {v : V}, toD x = some d → Rep K I x v → Dp K H v d
  | .non, d, v, e, r => by cases e; cases r; exact .non
  | .bl b, d, v, e, r => by cases e; cases r; exact .bl b
  | .int b, d, v, e, r => by cases e; cases r; exact .int b
  | .str b, d, v, e, r => by cases e; cases r; exact .str b
  | .lst xs, d, v, e, r => by
    unfold toD at e
    obtain ⟨ds, e1, rfl⟩ := Option.map_eq_some_iff.mp e
    obtain ⟨a, vs, rfl, h1, h2⟩ := vw_lst (x := .lst xs) hd r rfl
    exact .lst (.inl (.inl h1)) (toDs_dp hd e1 h2)
  | .tup xs, d, v, e, r => by
    unfold toD at e
    obtain ⟨ds, e1, rfl⟩ := Option.map_eq_some_iff.mp e
    obtain ⟨a, vs, rfl, h1, h2⟩ := vw_tup (x := .tup xs) hd r rfl
    exact .tup h1 (toDs_dp hd e1 h2)
theorem toDs_dp {L : Lk} {F H I : Hp} {S : Sto} (hd : Hd K L F H S I) : ∀ {xs : List Tr} {ds : List PyData} {vs : List V}, toDs xs = some ds → RepL K I xs vs → DpAll K H vs ds
  | [], ds, vs, e, r => by cases e; cases r; exact .nil
  | x :: xs, ds, vs, e, r => by
    unfold toDs at e
    split at e
    · rename_i d' ds' e1 e2
      cases e
      obtain ⟨v, ws, rfl, r1, r2⟩ := r
      exact .cons (toD_dp hd e1 r1) (toDs_dp hd e2 r2)
    · cases e
end
theorem toD_vw {L : Lk} {F H I : Hp} {S : Sto} {x : Tr} {d : PyData} {v : V} (hd : Hd K L F H S I) (e : toD (vw S x) = some d) (r : Rep K I x v) : Dp K H v d := by
  rcases vw_cases S x with ⟨e1, _⟩ | ⟨a, c, rfl, ea, e1⟩
  · rw [e1] at e; exact toD_dp hd e r
  · obtain ⟨_, _, o, h1, h2⟩ := hd.cel a _ ea
    rw [e1] at e
    cases r
    cases c with
    | lst xs =>
      unfold toD at e
      obtain ⟨ds, e1, rfl⟩ := Option.map_eq_some_iff.mp e
      obtain ⟨vs, rfl, h2⟩ := h2
      exact .lst (.inl (.inl h1)) (toDs_dp hd e1 h2)
    | _ => first | exact h2.elim | cases e
theorem eqF_scal {L : Lk} {F H I : Hp} {S : Sto} {x y : Tr} {v w : V} {b : Bool} (hd : Hd K L F H S I) (rx : Rep K I x v) (ry : Rep K I y w) (e : eqF (vw S x) (vw S y) = some b) : scal v w = true ∧ decide (v = w) = b := by
  unfold eqF at e
  split at e <;> cases e
  · rename_i e1 e2; cases vw_eq_non hd rx e1; cases vw_eq_non hd ry e2; exact ⟨rfl, rfl⟩
  · rename_i e1 e2; cases vw_eq_non hd rx e1; cases vw_eq_int hd ry e2; exact ⟨rfl, rfl⟩
  · rename_i e1 e2; cases vw_eq_int hd rx e1; cases vw_eq_non hd ry e2; exact ⟨rfl, rfl⟩
  · rename_i e1 e2; cases vw_eq_non hd rx e1; cases vw_eq_bl hd ry e2; exact ⟨rfl, rfl⟩
  · rename_i e1 e2; cases vw_eq_bl hd rx e1; cases vw_eq_non hd ry e2; exact ⟨rfl, rfl⟩
  · rename_i e1 e2; cases vw_eq_non hd rx e1; cases vw_eq_str hd ry e2; exact ⟨rfl, rfl⟩
  · rename_i e1 e2; cases vw_eq_str hd rx e1; cases vw_eq_non hd ry e2; exact ⟨rfl, rfl⟩
  · rename_i i j e1 e2; cases vw_eq_int hd rx e1; cases vw_eq_int hd ry e2; exact ⟨rfl, by simp only [V.int.injEq]⟩
  · rename_i i j e1 e2; cases vw_eq_bl hd rx e1; cases vw_eq_bl hd ry e2; exact ⟨rfl, by simp only [V.bl.injEq]⟩
  · rename_i i j e1 e2; cases vw_eq_str hd rx e1; cases vw_eq_str hd ry e2; exact ⟨rfl, by simp only [V.str.injEq]⟩
  · rename_i e1 e2; cases vw_eq_int hd rx e1; cases vw_eq_str hd ry e2; exact ⟨rfl, rfl⟩
  · rename_i e1 e2; cases vw_eq_str hd rx e1; cases vw_eq_int hd ry e2; exact ⟨rfl, rfl⟩
  · rename_i e1 e2; cases vw_eq_bl hd rx e1; cases vw_eq_str hd ry e2; exact ⟨rfl, rfl⟩
  · rename_i e1 e2; cases vw_eq_str hd rx e1; cases vw_eq_bl hd ry e2; exact ⟨rfl, rfl⟩
def rEq2 (K : PySem.W.Frag) (n : Bool) : R2 := fun x y H Q => (scal x y = true ∧ Q (.bl (n ^^ decide (x = y))) H) ∨ (∃ d e, Dp K H x d ∧ Dp K H y e ∧ SeqAt.shaped d = true ∧ SeqAt.shaped e = true ∧ Q (.bl (n ^^ PyData.eqv d e)) H)
theorem eq_op {k : Nat} (hr : Room k X.A) : OpR X (compareOp .Eq) (rEq2 X.K false) := KB.OpR.wk (OpR.or op_eq (op_eqD hr.units)) fun x y H Q h => by
  rcases h with ⟨hx, q⟩ | ⟨d, e, a, b, c, f, q⟩
  · exact .inl ⟨hx, by simpa using q⟩
  · exact .inr ⟨d, e, a, b, c, f, by simpa using q⟩
theorem ne_op {k : Nat} (hr : Room k X.A) : OpR X (compareOp .NotEq) (rEq2 X.K true) := KB.OpR.wk (OpR.or op_ne (op_neD hr.units)) fun x y H Q h => by
  rcases h with ⟨hx, q⟩ | ⟨d, e, a, b, c, f, q⟩
  · exact .inl ⟨hx, by simpa using q⟩
  · exact .inr ⟨d, e, a, b, c, f, by simpa using q⟩
theorem o_eq {n : Bool} : OpT K (rEq2 K n) (gEq n) := by
  intro L F H S I x y z v w R hd rx ry hg k
  rcases hg with ⟨b, e, rfl⟩ | ⟨_, d, e, e1, e2, s1, s2, rfl⟩
  · obtain ⟨h1, h2⟩ := eqF_scal hd rx ry e
    exact .inl ⟨h1, by rw [h2]; exact k _ H I hd (Same.refl _) rfl⟩
  · exact .inr ⟨d, e, toD_vw hd e1 rx, toD_vw hd e2 ry, s1, s2, k _ H I hd (Same.refl _) rfl⟩
/-! ### is -/
def isKT : Tr → Bool
  | .non => true
  | .bl _ => true
  | _ => false
def isT : Tr → Tr → Bool
  | .non, .non => true
  | .bl a, .bl b => a == b
  | _, _ => false
def gIs (n : Bool) (x y z : Tr) : Prop := isKT y = true ∧ z = .bl (n ^^ isT x y)
/-! ### in -/
def flatT : Tr → Option V
  | .non => some .non
  | .bl b => some (.bl b)
  | .int n => some (.int n)
  | .str z => some (.str z)
  | _ => none
def flatTs : List Tr → Option (List V)
  | [] => some []
  | x :: xs => match flatT x, flatTs xs with
    | some v, some vs => some (v :: vs)
    | _, _ => none
def hasK (k : Key) (ks : List Key) : Bool := ks.any fun j => decide (j = k)
theorem hasK_iff {k : Key} {ks : List Key} : hasK k ks = true ↔ k ∈ ks := by
  unfold hasK
  rw [List.any_eq_true]
  exact ⟨fun ⟨j, h, e⟩ => of_decide_eq_true e ▸ h, fun h => ⟨k, h, decide_eq_true rfl⟩⟩
def keyT : Tr → Option Key
  | .int n => some (.inl n)
  | .str z => some (.inr z)
  | _ => none
def gIn (n : Bool) (x y z : Tr) : Prop := match y with
  | .str t => ∃ c, x = .str ⟨#[c]⟩ ∧ z = .bl (n ^^ decide (c ∈ t.cps.toList))
  | .lst ys => ∃ v vs, flatT x = some v ∧ flatTs ys = some vs ∧ z = .bl (n ^^ inV v vs)
  | .tup ys => ∃ v vs, flatT x = some v ∧ flatTs ys = some vs ∧ z = .bl (n ^^ inV v vs)
  | .dic ks xs => ∃ k, keyT x = some k ∧ z = .bl (n ^^ hasK k ks)
  | _ => False
theorem flatT_rep {L : Lk} {F H I : Hp} {S : Sto} {x : Tr} {v u : V} (hd : Hd K L F H S I) (r : Rep K I x u) (e : flatT (vw S x) = some v) : u = v ∧ flatV v = true := by
  cases z : vw S x with
  | non => rw [z] at e; cases e; exact ⟨vw_eq_non hd r z, rfl⟩
  | bl b => rw [z] at e; cases e; exact ⟨vw_eq_bl hd r z, rfl⟩
  | int b => rw [z] at e; cases e; exact ⟨vw_eq_int hd r z, rfl⟩
  | str b => rw [z] at e; cases e; exact ⟨vw_eq_str hd r z, rfl⟩
  | _ => rw [z] at e; cases e
theorem flatT_rep0 {I : Hp} {x : Tr} {v u : V} (r : Rep K I x u) (e : flatT x = some v) : u = v ∧ flatV v = true := by
  cases x with
  | non => cases e; exact ⟨r, rfl⟩
  | bl b => cases e; exact ⟨r, rfl⟩
  | int b => cases e; exact ⟨r, rfl⟩
  | str b => cases e; exact ⟨r, rfl⟩
  | _ => cases e
theorem flatTs_rep {I : Hp} : ∀ {xs : List Tr} {vs us : List V}, RepL K I xs us → flatTs xs = some vs → us = vs ∧ vs.all flatV = true
  | [], vs, us, r, e => by cases e; cases r; exact ⟨rfl, rfl⟩
  | x :: xs, vs, us, r, e => by
    unfold flatTs at e
    split at e
    · rename_i v vs' e1 e2
      cases e
      obtain ⟨u, ws, rfl, r1, r2⟩ := r
      obtain ⟨rfl, h1⟩ := flatT_rep0 r1 e1
      obtain ⟨rfl, h2⟩ := flatTs_rep r2 e2
      exact ⟨rfl, by simp [h1, h2]⟩
    · cases e
theorem keyT_rep {L : Lk} {F H I : Hp} {S : Sto} {x : Tr} {v : V} {k : Key} (hd : Hd K L F H S I) (r : Rep K I x v) (e : keyT (vw S x) = some k) : v = kV k := by
  cases z : vw S x with
  | int b => rw [z] at e; cases e; exact vw_eq_int hd r z
  | str b => rw [z] at e; cases e; exact vw_eq_str hd r z
  | _ => rw [z] at e; cases e
/-- the value of a key -/
def kget (k : Key) : List Key → List Tr → Option Tr
  | j :: ks, x :: xs => if k = j then some x else kget k ks xs
  | _, _ => none
theorem kget_val {I : Hp} {k : Key} : ∀ {ks : List Key} {xs : List Tr} {vs : List V}, ks.length = xs.length → RepL K I xs vs → (∀ x, kget k ks xs = some x → ∃ v, valV (ks.zip vs) k = some v ∧ Rep K I x v) ∧ ((valV (ks.zip vs) k).isSome = hasK k ks)
  | [], [], vs, _, r => by cases r; exact ⟨fun x e => (nomatch e), rfl⟩
  | [], _ :: _, vs, e, r => nomatch e
  | _ :: _, [], vs, e, r => nomatch e
  | j :: ks, y :: xs, vs, e, r => by
    obtain ⟨v, ws, rfl, r1, r2⟩ := r
    have ih := kget_val (k := k) (ks := ks) (by simpa using e) r2
    by_cases h : k = j
    · subst h
      have z : valV ((k :: ks).zip (v :: ws)) k = some v := by simp [valV, List.find?]
      exact ⟨fun x e => by simp [kget] at e; subst e; exact ⟨v, z, r1⟩, by rw [z]; simp [hasK]⟩
    · have z : valV ((j :: ks).zip (v :: ws)) k = valV (ks.zip ws) k := by simp [valV, List.find?, Ne.symm h]
      rw [z]
      exact ⟨fun x e => ih.1 x (by simpa [kget, h] using e), by rw [ih.2]; simp [hasK, Ne.symm h]⟩
def rIn2 (K : PySem.W.Frag) (n : Bool) : R2 := fun x y H Q => (∃ (c : Nat) (z : Str), x = .str ⟨#[c]⟩ ∧ y = .str z ∧ Q (.bl (n ^^ decide (c ∈ z.cps.toList))) H) ∨
  (∃ p xs, y = .ref p ∧ (SqL K H p xs ∨ SqT K H p xs) ∧ flatV x = true ∧ xs.all flatV = true ∧ Q (.bl (n ^^ inV x xs)) H) ∨ (∃ a o, y = .ref a ∧ DGet H a x o ∧ Q (.bl (n ^^ o.isSome)) H)
theorem in_op {k : Nat} (hr : Room k X.A) : OpR X (compareOp .In) (rIn2 X.K false) := by
  intro pins s σ H x y v u Q I rx ry h
  rcases h with ⟨c, z, rfl, rfl, q⟩ | ⟨p, xs, rfl, hp, a, b, q⟩ | ⟨a, o, rfl, g, q⟩
  · exact op_in_sign pins s σ H _ _ v u Q I rx ry ⟨c, z, rfl, rfl, by simpa using q⟩
  · exact op_in_seq pins s σ H _ _ v u Q I rx ry ⟨p, xs, rfl, hp, a, b, by simpa using q⟩
  · cases ry
    exact d_in (hu_of hr) I g rx fun s3 I3 => ⟨.bl o.isSome, H, I3, rfl, by simpa using q⟩
theorem notin_op {k : Nat} (hr : Room k X.A) : OpR X (compareOp .NotIn) (rIn2 X.K true) := by
  intro pins s σ H x y v u Q I rx ry h
  rcases h with ⟨c, z, rfl, rfl, q⟩ | ⟨p, xs, rfl, hp, a, b, q⟩ | ⟨a, o, rfl, g, q⟩
  · exact op_notIn_sign pins s σ H _ _ v u Q I rx ry ⟨c, z, rfl, rfl, by simpa using q⟩
  · exact op_notIn_seq pins s σ H _ _ v u Q I rx ry ⟨p, xs, rfl, hp, a, b, by simpa using q⟩
  · cases ry
    exact d_notIn (hu_of hr) I g rx fun s3 I3 => ⟨.bl (!o.isSome), H, I3, rfl, by simpa using q⟩
theorem o_in {n : Bool} : OpT K (rIn2 K n) (gIn n) := by
  intro L F H S I x y z v w R hd rx ry hg k
  unfold gIn at hg
  split at hg
  · rename_i t e2
    obtain ⟨c, e1, rfl⟩ := hg
    cases vw_eq_str hd rx e1
    cases vw_eq_str hd ry e2
    exact .inl ⟨c, t, rfl, rfl, k _ H I hd (Same.refl _) rfl⟩
  · rename_i ys e2
    obtain ⟨u, us, e1, e3, rfl⟩ := hg
    obtain ⟨a, vs, rfl, h1, h2⟩ := vw_lst hd ry e2
    obtain ⟨rfl, f1⟩ := flatT_rep hd rx e1
    obtain ⟨rfl, f2⟩ := flatTs_rep h2 e3
    exact .inr (.inl ⟨a, vs, rfl, .inl (.inl (.inl h1)), f1, f2, k _ H I hd (Same.refl _) rfl⟩)
  · rename_i ys e2
    obtain ⟨u, us, e1, e3, rfl⟩ := hg
    obtain ⟨a, vs, rfl, h1, h2⟩ := vw_tup hd ry e2
    obtain ⟨rfl, f1⟩ := flatT_rep hd rx e1
    obtain ⟨rfl, f2⟩ := flatTs_rep h2 e3
    exact .inr (.inl ⟨a, vs, rfl, .inr h1, f1, f2, k _ H I hd (Same.refl _) rfl⟩)
  · rename_i ks xs e2
    obtain ⟨key, e1, rfl⟩ := hg
    obtain ⟨a, vs, rfl, h1, hl, h2⟩ := vw_dic hd ry e2
    cases keyT_rep hd rx e1
    exact .inr (.inr ⟨a, _, rfl, .inl ⟨_, key, h1, rfl, rfl⟩, by rw [(kget_val hl h2).2]; exact k _ H I hd (Same.refl _) rfl⟩)
  · exact hg.elim
/-! ### x[i] -/
def gIx (x y z : Tr) : Prop := match x with
  | .str t => t.length ≤ sizeLine ∧ ∃ i c, y = .int i ∧ atI t.cps.toList i = some c ∧ z = .str ⟨#[c]⟩
  | .lst xs => ∃ i, y = .int i ∧ atI xs i = some z
  | .scr ns => ∃ i, y = .int i ∧ ∃ n, atI ns i = some n ∧ z = .int n
  | .tup xs => ∃ i, y = .int i ∧ atI xs i = some z
  | .dic ks xs => ∃ k, keyT y = some k ∧ kget k ks xs = some z
  | _ => False
def rIx2 (K : PySem.W.Frag) : R2 := fun x y H Q => rIxL K x y H Q ∨ rIxT K x y H Q ∨ rIxS x y H Q ∨ (∃ a v, x = .ref a ∧ DGet H a y (some v) ∧ Q v H)
theorem ix_op {k : Nat} (hr : Room k X.A) : IxR X (rIx2 X.K) := by
  intro value slice pins s σ H x y v u Q I rx ry h hs
  rcases h with h | h | h | ⟨a, z, rfl, g, q⟩
  · exact ix_list value slice pins s σ H x y v u Q I rx ry h hs
  · exact ix_tup value slice pins s σ H x y v u Q I rx ry h hs
  · exact ix_str value slice pins s σ H x y v u Q I rx ry h hs
  · cases rx
    have hT := dict_typeIs I g
    have fin : wpAny (model X.prog X.w) X.A (subscripted slice false (Value.ref a) u) (fun r s3 => wpAny (model X.prog X.w) X.A (letTemporaryGo value (Value.ref a) r >>= fun _ => pure r) (EP X pins σ Q) X.xe s3) X.xe s := by
      rw [hs]
      exact wpAny_operating (d_getItem (hu_of hr) I g ry fun w' s3 I3 rw' => wpAny_bind (wpAny_letTemporaryGo (wpAny_pure ⟨z, H, I3, rw', q⟩)))
    unfold subscriptTail
    rw [getitemInPython_of_ne hT.not_modules]
    refine wpAny_bind (wpAny_bind (wpAny_specialOf hT PySem.F.slot_dict_getitem.lookup ?_))
    first | exact wpAny_pure (wpAny_bind fin) | exact wpAny_bind (wpAny_pure (wpAny_bind fin)) | exact wpAny_bind fin
theorem atI_rep {I : Hp} {xs : List Tr} {vs : List V} {i : Int} {x : Tr} (r : RepL K I xs vs) (e : atI xs i = some x) : ∃ v, atI vs i = some v ∧ Rep K I x v := by
  unfold atI at e ⊢
  rw [r.len]
  obtain ⟨j, e1, e2⟩ := Option.bind_eq_some_iff.mp e
  obtain ⟨v, e3, r3⟩ := r.get' e2
  exact ⟨v, by rw [e1]; exact e3, r3⟩
theorem o_ix : OpT K (rIx2 K) gIx := by
  intro L F H S I x y z v w R hd rx ry hg k
  unfold gIx at hg
  split at hg
  · rename_i t e1
    obtain ⟨hl, i, c, e2, ha, rfl⟩ := hg
    cases vw_eq_str hd rx e1
    cases vw_eq_int hd ry e2
    exact .inr (.inr (.inl ⟨t, i, c, rfl, rfl, hl, ha, k _ H I hd (Same.refl _) rfl⟩))
  · rename_i xs e1
    obtain ⟨i, e2, ha⟩ := hg
    obtain ⟨a, vs, rfl, h1, h2⟩ := vw_lst hd rx e1
    cases vw_eq_int hd ry e2
    obtain ⟨u, ha, r⟩ := atI_rep h2 ha
    exact .inl ⟨a, vs, i, u, rfl, rfl, .inl (.inl h1), ha, k _ H I hd (Same.refl _) r⟩
  · rename_i ns e1
    obtain ⟨i, e2, n, ha, rfl⟩ := hg
    obtain ⟨a, rfl, h1⟩ := vw_scr hd rx e1
    cases vw_eq_int hd ry e2
    refine .inl ⟨a, _, i, .int n, rfl, rfl, h1, ?_, k _ H I hd (Same.refl _) rfl⟩
    unfold atI at ha ⊢
    obtain ⟨j, e3, e4⟩ := Option.bind_eq_some_iff.mp ha
    rw [List.length_map, e3]
    show (ns.map V.int)[j]? = _
    rw [List.getElem?_map, e4]; rfl
  · rename_i xs e1
    obtain ⟨i, e2, ha⟩ := hg
    obtain ⟨a, vs, rfl, h1, h2⟩ := vw_tup hd rx e1
    cases vw_eq_int hd ry e2
    obtain ⟨u, ha, r⟩ := atI_rep h2 ha
    exact .inr (.inl ⟨a, vs, i, u, rfl, rfl, h1, ha, k _ H I hd (Same.refl _) r⟩)
  · rename_i ks xs e1
    obtain ⟨key, e2, ha⟩ := hg
    obtain ⟨a, vs, rfl, h1, hl, h2⟩ := vw_dic hd rx e1
    cases keyT_rep hd ry e2
    obtain ⟨u, ha, r⟩ := (kget_val hl h2).1 z ha
    exact .inr (.inr (.inr ⟨a, u, rfl, .inl ⟨_, key, h1, rfl, ha.symm⟩, k _ H I hd (Same.refl _) r⟩))
  · exact hg.elim
end
end KQ
namespace KQ
open PySem PySem.Spec PyProof.Rows L2 TL KB
section
variable {K : PySem.W.Frag} {X : Cx} {W : WX}
/-! ### unary minus -/
def gNeg (x z : Tr) : Prop := match x with
  | .int i => z = .int (-i)
  | _ => False
theorem u_neg : UnT K (rU fun i => .int (-i)) gNeg := by
  intro L F H S I x z v R hd rx hg k
  unfold gNeg at hg
  split at hg
  · rename_i i e
    cases vw_eq_int hd rx e
    subst hg
    exact ⟨i, rfl, k _ H I hd (Same.refl _) rfl⟩
  · exact hg.elim
/-! ### slices -/
structure TPO (X : Cx) (W : WX) (e : Option Expr) (t : Rho → Sto → (Option Int → Sto → Prop) → QX → Prop) : Prop where
  pe : PO X e (fun σ H R => ∃ L F S I ρ, Hd X.K L F H S I ∧ Slots X.K I σ ρ ∧ t ρ S (fun o S' => ∀ H' I', Hd X.K L F H' S' I' → Same I I' → R o H') (dnX X.K L F I W σ))
  mono : ∀ ρ S (Q Q' : Option Int → Sto → Prop) X X', (∀ y S, Q y S → Q' y S) → XLe X X' → t ρ S Q X → t ρ S Q' X'
def uPart (te : UE) : Rho → Sto → (Option Int → Sto → Prop) → QX → Prop := fun ρ S Q X => te ρ S (fun x S1 => ∃ i, vw S1 x = .int i ∧ Q (some i) S1) X
def uNoPart : Rho → Sto → (Option Int → Sto → Prop) → QX → Prop := fun ρ S Q X => Q none S
theorem wkO {e : Option Expr} {t t' : TO} (h : PO X e t) (w : ∀ σ H Q, t' σ H Q → t σ H Q) : PO X e t' := ⟨fun pins s σ H Q I q => h.run pins s σ H Q I (w _ _ _ q)⟩
theorem o_some {e : Expr} {te : UE} (he : TPE X W e te) : TPO X W (some e) (uPart te) :=
  ⟨wkO (po_some he.pe) fun σ H R ⟨L, F, S, I, ρ, hd, sl, h⟩ => lE_then he.mono hd sl h (fun _ _ _ _ h => h) fun x S1 v H1 I1 ⟨i, e, q⟩ hd1 s1 sl1 r => ⟨i, vw_eq_int hd1 r e, q H1 I1 hd1 s1⟩,
    fun ρ S Q Q' X X' hQ hX h => he.mono _ _ _ _ _ _ (fun x S1 ⟨i, e, q⟩ => ⟨i, e, hQ _ _ q⟩) hX h⟩
theorem o_none : TPO X W none uNoPart :=
  ⟨wkO po_none fun σ H R ⟨L, F, S, I, ρ, hd, sl, h⟩ => h H I hd (Same.refl _), fun ρ S Q Q' X X' hQ hX h => hQ _ _ h⟩
def cutT (xs : List Tr) (lo hi : Option Int) : List Tr := (xs.drop (HT.sIx xs.length 0 lo)).take (HT.sIx xs.length xs.length hi - HT.sIx xs.length 0 lo)
def gSl (x : Tr) (lo hi : Option Int) (z : Tr) : Prop := match x with
  | .str t => t.length ≤ sizeLine ∧ z = .str (cutS t lo hi)
  | .lst xs => z = .lst (cutT xs lo hi)
  | .scr ns => z = .lst (cutT (ns.map Tr.int) lo hi)
  | .tup xs => z = .tup (cutT xs lo hi)
  | _ => False
def rSl3 (K : PySem.W.Frag) : V → Option Int → Option Int → Hp → VK → Prop := fun x lo hi H Q => (∃ z, x = .str z ∧ z.length ≤ sizeLine ∧ Q (.str (cutS z lo hi)) H) ∨ (∃ a xs, x = .ref a ∧ SqL K H a xs ∧ ∀ p, H p = none → Q (.ref p) (upd H p (.lst (cutV xs lo hi)))) ∨ L2.rSlA K x lo hi H Q
theorem sl_op : SlR X (rSl3 X.K) := by
  refine KB.SlR.wk (SlR.or sl_str (SlR.or sl_list sl_tupA)) fun x a b H Q h => ?_
  rcases h with h | h | h
  · exact .inl h
  · exact .inr (.inl h)
  · exact .inr (.inr h)
theorem cut_rep {I : Hp} {xs : List Tr} {vs : List V} (r : RepL K I xs vs) (lo hi : Option Int) : RepL K I (cutT xs lo hi) (cutV vs lo hi) := by
  unfold cutT cutV
  rw [r.len]
  exact (r.drop _).take _
def uSl (te : UE) (tl th : Rho → Sto → (Option Int → Sto → Prop) → QX → Prop) : UE := fun ρ S Q X => te ρ S (fun x S1 => tl ρ S1 (fun l S2 => th ρ S2 (fun u S3 => ∃ z, gSl (vw S3 x) l u z ∧ Q z S3) X) X) X
theorem e_slice {e : Expr} {lo hi : Option Expr} {te : UE} {tl th : Rho → Sto → (Option Int → Sto → Prop) → QX → Prop} {p2 pos : Pos} (he : TPE X W e te) (hl : TPO X W lo tl) (hu : TPO X W hi th) : TPE X W (.Subscript e (.Slice lo hi none p2) pos) (uSl te tl th) :=
  ⟨wkE (pe_slice sl_op he.pe hl.pe hu.pe) fun σ H R ⟨L, F, S, I, ρ, hd, sl, h⟩ => lE_then he.mono hd sl h (fun _ _ _ _ h => h) fun x S1 v H1 I1 q hd1 s1 sl1 r => by
    refine ⟨L, F, S1, I1, ρ, hd1, sl1, hl.mono _ _ _ _ _ _ (fun l S2 q2 H2 I2 hd2 s2 => ?_) (dnX_up s1) q⟩
    refine ⟨L, F, S2, I2, ρ, hd2, sl1.mono s2, hu.mono _ _ _ _ _ _ (fun u S3 q3 H3 I3 hd3 s3 => ?_) (dnX_up (s1.trans s2)) q2⟩
    obtain ⟨z, hg, q⟩ := q3
    have r3 := r.mono (s2.trans s3)
    have sm := (s1.trans s2).trans s3
    unfold gSl at hg
    split at hg
    · rename_i t e
      cases vw_eq_str hd3 r3 e
      obtain ⟨c, rfl⟩ := hg
      exact .inl ⟨t, rfl, c, q _ H3 I3 hd3 sm rfl⟩
    · rename_i xs e
      obtain ⟨a, vs, rfl, h1, h2⟩ := vw_lst hd3 r3 e
      subst hg
      exact .inr (.inl ⟨a, vs, rfl, .inl (.inl h1), fun p np => q _ _ _ (hd3.imm np) (sm.trans (upd_sub (hd3.freeI np))) ⟨p, _, rfl, upd_same, (cut_rep h2 l u).mono (upd_sub (hd3.freeI np))⟩⟩)
    · rename_i ns e
      obtain ⟨a, rfl, h1⟩ := vw_scr hd3 r3 e
      subst hg
      exact .inr (.inl ⟨a, _, rfl, h1, fun p np => q _ _ _ (hd3.imm np) (sm.trans (upd_sub (hd3.freeI np))) ⟨p, _, rfl, upd_same, (cut_rep (RepL.ints ns) l u).mono (upd_sub (hd3.freeI np))⟩⟩)
    · rename_i xs e
      obtain ⟨a, vs, e1, h1, h2⟩ := vw_tup hd3 r3 e
      subst e1
      subst hg
      refine .inr (.inr ⟨a, vs, rfl, h1, fun hw => ?_, fun hw p np => ?_⟩)
      · have ez : cutT xs l u = xs := by
          rw [h2.len] at hw
          unfold cutT
          rw [hw.1, hw.2, List.drop_zero, Nat.sub_zero, List.take_length]
        rw [ez] at q
        refine q _ H3 I3 hd3 sm ?_
        rcases vw_cases S3 x with ⟨e1, _⟩ | ⟨b, c, rfl, ea, e1⟩
        · rw [e1] at e; subst e; exact r3
        · obtain ⟨_, _, o, _, z⟩ := hd3.cel b _ ea
          rw [e1] at e; subst e; exact z.elim
      · exact q _ _ _ (hd3.imm np) (sm.trans (upd_sub (hd3.freeI np))) ⟨p, _, rfl, .inl (.inl upd_same), (cut_rep h2 l u).mono (upd_sub (hd3.freeI np))⟩
    · exact hg.elim, fun ρ S Q Q' X X' hQ hX h => he.mono _ _ _ _ _ _ (fun x S1 q => hl.mono _ _ _ _ _ _ (fun l S2 q => hu.mono _ _ _ _ _ _ (fun u S3 ⟨z, hg, q⟩ => ⟨z, hg, hQ _ _ q⟩) hX q) hX q) hX h⟩
/-! ### built-ins -/
def gLen (xs : List Tr) (z : Tr) : Prop := match xs with
  | [.str t] => t.length ≤ sizeLine ∧ z = .int t.length
  | [.lst ys] => z = .int ys.length
  | [.scr ys] => z = .int ys.length
  | [.tup ys] => z = .int ys.length
  | [.dic ks ys] => z = .int ks.length
  | _ => False
theorem RepL.one {I : Hp} {x : Tr} {vs : List V} (r : RepL K I [x] vs) : ∃ v, vs = [v] ∧ Rep K I x v := by
  obtain ⟨v, ws, rfl, r1, r2⟩ := r
  cases r2
  exact ⟨v, rfl, r1⟩
theorem RepL.two {I : Hp} {x y : Tr} {vs : List V} (r : RepL K I [x, y] vs) : ∃ v w, vs = [v, w] ∧ Rep K I x v ∧ Rep K I y w := by
  obtain ⟨v, ws, rfl, r1, r2⟩ := r
  obtain ⟨w, rfl, r3⟩ := RepL.one r2
  exact ⟨v, w, rfl, r1, r3⟩
theorem map1 {S : Sto} {xs : List Tr} {y : Tr} (e : xs.map (vw S) = [y]) : ∃ x, xs = [x] ∧ vw S x = y := by
  cases xs with
  | nil => cases e
  | cons x r => cases r with
    | nil => cases e; exact ⟨x, rfl, rfl⟩
    | cons a b => cases e
theorem map2 {S : Sto} {xs : List Tr} {y z : Tr} (e : xs.map (vw S) = [y, z]) : ∃ x w, xs = [x, w] ∧ vw S x = y ∧ vw S w = z := by
  cases xs with
  | nil => cases e
  | cons x r =>
    rw [List.map_cons] at e
    injection e with e1 e2
    obtain ⟨w, rfl, e3⟩ := map1 e2
    exact ⟨x, w, rfl, e1, e3⟩
def rLen2 (K : PySem.W.Frag) : List V → Hp → VK → Prop := fun vs H Q => (∃ z, vs = [.str z] ∧ z.length ≤ sizeLine ∧ Q (.int z.length) H) ∨ (∃ p ys, vs = [.ref p] ∧ (SqL K H p ys ∨ SqT K H p ys) ∧ Q (.int ys.length) H) ∨ (∃ p kvs, vs = [.ref p] ∧ Rd H p (.dK kvs) ∧ Q (.int kvs.length) H)
theorem len_dR : CallR X (.builtin "len") (fun xs H Q => ∃ a kvs, xs = [V.ref a] ∧ Rd H a (.dK kvs) ∧ Q (.int kvs.length) H) := by
  intro pins s σ H xs us Q I r h
  obtain ⟨a, kvs, rfl, ha, q⟩ := h
  obtain ⟨u, rfl, ru⟩ := vals1 r
  cases ru
  exact d_len I ha fun t s' I' => ⟨.int kvs.length, H, I', ⟨t, rfl⟩, q⟩
theorem len_op : CallR X (.builtin "len") (rLen2 X.K) := by
  refine KB.CallR.wk (KB.CallR.or call_len_str (KB.CallR.or call_len_seq len_dR)) fun vs H Q h => ?_
  rcases h with h | h | h
  · exact .inl h
  · exact .inr (.inl h)
  · exact .inr (.inr h)
theorem c_len : CallT K (rLen2 K) gLen := by
  intro L F H S I xs z vs R hd r hg k
  unfold gLen at hg
  split at hg
  · rename_i t e0
    obtain ⟨x, rfl, e⟩ := map1 e0
    obtain ⟨v, rfl, r1⟩ := RepL.one r
    cases vw_eq_str hd r1 e
    obtain ⟨c, rfl⟩ := hg
    exact .inl ⟨t, rfl, c, k _ H I hd (Same.refl _) rfl⟩
  · rename_i ys e0
    obtain ⟨x, rfl, e⟩ := map1 e0
    obtain ⟨v, rfl, r1⟩ := RepL.one r
    obtain ⟨a, us, rfl, h1, h2⟩ := vw_lst hd r1 e
    subst hg
    exact .inr (.inl ⟨a, us, rfl, .inl (.inl (.inl h1)), by rw [h2.len]; exact k _ H I hd (Same.refl _) rfl⟩)
  · rename_i ys e0
    obtain ⟨x, rfl, e⟩ := map1 e0
    obtain ⟨v, rfl, r1⟩ := RepL.one r
    obtain ⟨a, rfl, h1⟩ := vw_scr hd r1 e
    subst hg
    exact .inr (.inl ⟨a, _, rfl, .inl h1, by rw [List.length_map]; exact k _ H I hd (Same.refl _) rfl⟩)
  · rename_i ys e0
    obtain ⟨x, rfl, e⟩ := map1 e0
    obtain ⟨v, rfl, r1⟩ := RepL.one r
    obtain ⟨a, us, rfl, h1, h2⟩ := vw_tup hd r1 e
    subst hg
    exact .inr (.inl ⟨a, us, rfl, .inr h1, by rw [h2.len]; exact k _ H I hd (Same.refl _) rfl⟩)
  · rename_i ks ys e0
    obtain ⟨x, rfl, e⟩ := map1 e0
    obtain ⟨v, rfl, r1⟩ := RepL.one r
    obtain ⟨a, us, rfl, h1, hl, h2⟩ := vw_dic hd r1 e
    subst hg
    refine .inr (.inr ⟨a, _, rfl, h1, ?_⟩)
    have : (ks.zip us).length = ks.length := by rw [List.length_zip, h2.len]; omega
    rw [this]
    exact k _ H I hd (Same.refl _) rfl
  · exact hg.elim
def gAbs (xs : List Tr) (z : Tr) : Prop := match xs with
  | [.int i] => z = .int i.natAbs
  | _ => False
theorem c_abs : CallT K (fun xs H Q => ∃ i, xs = [.int i] ∧ Q (.int (if i < 0 then -i else i)) H) gAbs := by
  intro L F H S I xs z vs R hd r hg k
  unfold gAbs at hg
  split at hg
  · rename_i i e0
    obtain ⟨x, rfl, e⟩ := map1 e0
    obtain ⟨v, rfl, r1⟩ := RepL.one r
    cases vw_eq_int hd r1 e
    subst hg
    exact ⟨i, rfl, by rw [KB.abs_nat]; exact k _ H I hd (Same.refl _) rfl⟩
  · exact hg.elim
def gInt (xs : List Tr) (z : Tr) : Prop := match xs with
  | [.int i] => z = .int i
  | [.bl b] => z = .int (if b then 1 else 0)
  | [.str a] => ∃ n, PySem.intText? a = some n ∧ a.length ≤ 640 ∧ z = .int n
  | _ => False
theorem c_int : CallT K KB.rIntA gInt := by
  intro L F H S I xs z vs R hd r hg k
  unfold gInt at hg
  split at hg
  · rename_i i e0
    obtain ⟨x, rfl, e⟩ := map1 e0
    obtain ⟨v, rfl, r1⟩ := RepL.one r
    cases vw_eq_int hd r1 e
    subst hg
    exact .inl ⟨i, rfl, k _ H I hd (Same.refl _) rfl⟩
  · rename_i i e0
    obtain ⟨x, rfl, e⟩ := map1 e0
    obtain ⟨v, rfl, r1⟩ := RepL.one r
    cases vw_eq_bl hd r1 e
    subst hg
    exact .inr (.inl ⟨i, rfl, k _ H I hd (Same.refl _) rfl⟩)
  · rename_i i e0
    obtain ⟨x, rfl, e⟩ := map1 e0
    obtain ⟨v, rfl, r1⟩ := RepL.one r
    cases vw_eq_str hd r1 e
    obtain ⟨n, h1, h2, rfl⟩ := hg
    exact .inr (.inr ⟨i, n, rfl, h1, h2, k _ H I hd (Same.refl _) rfl⟩)
  · exact hg.elim
def gStr (xs : List Tr) (z : Tr) : Prop := match xs with
  | [.int i] => i.natAbs.log2 < 1920 ∧ z = .str (Str.ofString (toString i))
  | [.str a] => z = .str a
  | _ => False
theorem c_str : CallT K KB.rStrA gStr := by
  intro L F H S I xs z vs R hd r hg k
  unfold gStr at hg
  split at hg
  · rename_i i e0
    obtain ⟨x, rfl, e⟩ := map1 e0
    obtain ⟨v, rfl, r1⟩ := RepL.one r
    cases vw_eq_int hd r1 e
    obtain ⟨c, rfl⟩ := hg
    exact .inl ⟨i, rfl, c, k _ H I hd (Same.refl _) rfl⟩
  · rename_i i e0
    obtain ⟨x, rfl, e⟩ := map1 e0
    obtain ⟨v, rfl, r1⟩ := RepL.one r
    cases vw_eq_str hd r1 e
    subst hg
    exact .inr ⟨i, rfl, k _ H I hd (Same.refl _) rfl⟩
  · exact hg.elim
def gMM (f : Int → Int → Int) (xs : List Tr) (z : Tr) : Prop := match xs with
  | [.int i, .int j] => z = .int (f i j)
  | _ => False
theorem c_mm {f : Int → Int → Int} : CallT K (fun xs H Q => ∃ i j, xs = [.int i, .int j] ∧ Q (.int (f i j)) H) (gMM f) := by
  intro L F H S I xs z vs R hd r hg k
  unfold gMM at hg
  split at hg
  · rename_i i j e
    obtain ⟨x, y, rfl, e1, e2⟩ := map2 e
    obtain ⟨v, w, rfl, r1, r2⟩ := RepL.two r
    cases vw_eq_int hd r1 e1
    cases vw_eq_int hd r2 e2
    subst hg
    exact ⟨i, j, rfl, k _ H I hd (Same.refl _) rfl⟩
  · exact hg.elim
/-- list(x), tuple(x) -/
def gList (xs : List Tr) (z : Tr) : Prop := match xs with
  | [.lst ys] => z = .lst ys
  | [.scr ns] => z = .lst (ns.map Tr.int)
  | [.tup ys] => z = .lst ys
  | _ => False
theorem c_list : CallT K (fun xs H Q => ∃ p ys, xs = [.ref p] ∧ (SqL K H p ys ∨ SqT K H p ys) ∧ ∀ l, H l = none → Q (.ref l) (upd H l (.lst ys))) gList := by
  intro L F H S I xs z vs R hd r hg k
  have fin : ∀ (p : Addr) (ys : List Tr) (us : List V), z = .lst ys → RepL K I ys us → (SqL K H p us ∨ SqT K H p us) → ∃ p' ys, [V.ref p] = [.ref p'] ∧ (SqL K H p' ys ∨ SqT K H p' ys) ∧ ∀ l, H l = none → R (.ref l) (upd H l (.lst ys)) := fun p ys us e h q => by
    subst e
    exact ⟨p, us, rfl, q, fun l nl => k _ _ _ (hd.imm nl) (upd_sub (hd.freeI nl)) ⟨l, us, rfl, upd_same, h.mono (upd_sub (hd.freeI nl))⟩⟩
  unfold gList at hg
  split at hg
  · rename_i ys e0
    obtain ⟨x, rfl, e⟩ := map1 e0
    obtain ⟨v, rfl, r1⟩ := RepL.one r
    obtain ⟨a, us, rfl, h1, h2⟩ := vw_lst hd r1 e
    exact fin a ys us hg h2 (.inl (.inl (.inl h1)))
  · rename_i ys e0
    obtain ⟨x, rfl, e⟩ := map1 e0
    obtain ⟨v, rfl, r1⟩ := RepL.one r
    obtain ⟨a, rfl, h1⟩ := vw_scr hd r1 e
    exact fin a _ _ hg (RepL.ints ys) (.inl h1)
  · rename_i ys e0
    obtain ⟨x, rfl, e⟩ := map1 e0
    obtain ⟨v, rfl, r1⟩ := RepL.one r
    obtain ⟨a, us, rfl, h1, h2⟩ := vw_tup hd r1 e
    exact fin a ys us hg h2 (.inr h1)
  · exact hg.elim
def gTuple (xs : List Tr) (z : Tr) : Prop := match xs with
  | [.lst ys] => z = .tup ys
  | [.tup ys] => z = .tup ys
  | _ => False
theorem c_tuple : CallT K (fun xs H Q => ∃ p ys, xs = [.ref p] ∧ ((SqL K H p ys ∧ ∀ l, H l = none → Q (.ref l) (upd H l (.tup ys))) ∨ (SqT K H p ys ∧ Q (.ref p) H))) gTuple := by
  intro L F H S I xs z vs R hd r hg k
  unfold gTuple at hg
  split at hg
  · rename_i ys e0
    obtain ⟨x, rfl, e⟩ := map1 e0
    obtain ⟨v, rfl, r1⟩ := RepL.one r
    obtain ⟨a, us, rfl, h1, h2⟩ := vw_lst hd r1 e
    subst hg
    exact ⟨a, us, rfl, .inl ⟨.inl (.inl h1), fun l nl => k _ _ _ (hd.imm nl) (upd_sub (hd.freeI nl)) ⟨l, us, rfl, .inl (.inl upd_same), h2.mono (upd_sub (hd.freeI nl))⟩⟩⟩
  · rename_i ys e0
    obtain ⟨x, rfl, e⟩ := map1 e0
    obtain ⟨v, rfl, r1⟩ := RepL.one r
    obtain ⟨a, us, e1, h1, h2⟩ := vw_tup hd r1 e
    subst e1
    subst hg
    refine ⟨a, us, rfl, .inr ⟨h1, k _ H I hd (Same.refl _) ?_⟩⟩
    rcases vw_cases S x with ⟨e1, _⟩ | ⟨b, c, rfl, ea, e1⟩
    · rw [e1] at e; subst e; exact r1
    · obtain ⟨_, _, o, _, q⟩ := hd.cel b _ ea
      rw [e1] at e; subst e; exact q.elim
  · exact hg.elim
/-! ### isinstance -/
/-- what an own class must have that its instances are looked at -/
structure ClsI (K : PySem.W.Frag) (C : Addr) : Prop where
  cl : Cls K C
  ha : PySem.W.findIn K (.ref C) "__class__" = some (some (.builtin "object.__class__"))
  hn : PySem.W.specialIn K (.builtin "object.__class__") "__get__" = some (some (.builtin "getset_descriptor.__get__"))
  ht : PySem.W.takesIn K (.builtin "object.__class__") = some true
  hm : PySem.W.mroIn K C (.type "object") = some true
def tyT (K : PySem.W.Frag) (x : Tr) (t : Value) : Prop := match x with
  | .non => t = .type "NoneType"
  | .bl _ => t = .type "bool"
  | .int _ => t = .type "int"
  | .str _ => t = .type "str"
  | .lst _ => t = .type "list"
  | .scr _ => t = .type "list"
  | .tup _ => t = .type "tuple"
  | .dic _ _ => t = .type "dict"
  | .ins C _ _ => ClsI K C ∧ t = .ref C
  | _ => False
def clsT (c : Tr) (u : Value) : Prop := match c with
  | .ty n => u = .type n
  | .ref C => u = .ref C
  | _ => False
theorem sqL_ty {H : Hp} {a : Addr} {vs : List V} (h : SqL K H a vs) : TyX K H (.ref a) (.type "list") := by
  rcases h with (h | ⟨o, h⟩) | ⟨o, its, n, h1, h2, _⟩
  · exact .base (.lst h)
  · exact .base (.frz h)
  · exact .kList h1 h2
theorem sqT_ty {H : Hp} {a : Addr} {vs : List V} (h : SqT K H a vs) : TyX K H (.ref a) (.type "tuple") := by
  rcases h with (h | ⟨o, h⟩) | ⟨o, its, n, h1, h2, _⟩
  · exact .base (.tup h)
  · exact .fTuple h
  · exact .kTuple h1 h2
theorem tyT_ty {L : Lk} {F H I : Hp} {S : Sto} {x : Tr} {v : V} {t : Value} (hd : Hd K L F H S I) (r : Rep K I x v) (e : tyT K (vw S x) t) : TyX K H v t := by
  unfold tyT at e
  split at e
  · rename_i z; cases vw_eq_non hd r z; subst e; exact .base .non
  · rename_i z; cases vw_eq_bl hd r z; subst e; exact .base (.bl _)
  · rename_i z; cases vw_eq_int hd r z; subst e; exact .base (.int _)
  · rename_i z; cases vw_eq_str hd r z; subst e; exact .base (.str _)
  · rename_i z; obtain ⟨a, vs, rfl, h1, _⟩ := vw_lst hd r z; subst e; exact .base (.lst h1)
  · rename_i z; obtain ⟨a, rfl, h1⟩ := vw_scr hd r z; subst e; exact sqL_ty h1
  · rename_i z; obtain ⟨a, vs, rfl, h1, _⟩ := vw_tup hd r z; subst e; exact sqT_ty h1
  · rename_i z
    obtain ⟨a, vs, rfl, h1, _⟩ := vw_dic hd r z
    subst e
    rcases h1 with h1 | ⟨o, h1⟩
    · exact .base (.dK h1)
    · exact .fDict h1
  · rename_i z
    obtain ⟨a, dx, vs, rfl, h1, _⟩ := vw_ins hd r z
    obtain ⟨c, rfl⟩ := e
    exact .base (.ins h1 c.cl c.ha c.hn c.ht c.hm)
  · exact e.elim
theorem clsT_cls {L : Lk} {F H I : Hp} {S : Sto} {x : Tr} {v : V} {u : Value} (hd : Hd K L F H S I) (r : Rep K I x v) (e : clsT (vw S x) u) : ClsV v u := by
  unfold clsT at e
  split at e
  · rename_i n z; cases vw_eq_ty hd r z; subst e; exact .ty n
  · rename_i n z; cases vw_eq_ref hd r z; subst e; exact .own n
  · exact e.elim
/-- isinstance(x, c) -/
def gIsi (K : PySem.W.Frag) (xs : List Tr) (z : Tr) : Prop := match xs with
  | [x, c] => ∃ t u b, tyT K x t ∧ clsT c u ∧ PySem.W.kitOne K t u = some b ∧ z = .bl b
  | _ => False
theorem c_isi : CallT K (rIsi K) (gIsi K) := by
  intro L F H S I xs z vs R hd r hg k
  unfold gIsi at hg
  split at hg
  · rename_i x0 c e
    obtain ⟨x, y, rfl, e1, e2⟩ := map2 e
    obtain ⟨v, w, rfl, r1, r2⟩ := RepL.two r
    obtain ⟨t, u, b, h1, h2, h3, rfl⟩ := hg
    rw [← e1] at h1
    rw [← e2] at h2
    exact ⟨v, w, t, u, b, rfl, clsT_cls hd r2 h2, tyT_ty hd r1 h1, h3, k _ H I hd (Same.refl _) rfl⟩
  · exact hg.elim
/-- isinstance(x, (c, d)) -/
def uIsi2 (K : PySem.W.Frag) (u w : Value) (te : UE) : UE := fun ρ S Q X => te ρ S (fun x S1 => ∃ t b e, tyT K (vw S1 x) t ∧ PySem.W.kitOne K t u = some b ∧ PySem.W.kitOne K t w = some e ∧ Q (.bl (b || e)) S1) X
end
end KQ
namespace KQ
open PySem PySem.Spec PyProof.Rows L2 TL KB
/-! ### range, texts, enumerate -/
section
variable {X : Cx} {W : WX} {tg e : Expr} {te : UE} {ta : UA} {p pos : Pos}
def rngT (lo : Int) : Nat → List Tr
  | 0 => []
  | n + 1 => .int lo :: rngT (lo + 1) n
theorem rngT_len : ∀ (n : Nat) (lo : Int), (rngT lo n).length = n
  | 0, _ => rfl
  | n + 1, lo => by show (rngT (lo + 1) n).length + 1 = _; rw [rngT_len n]
theorem rngT_get : ∀ (n : Nat) (lo : Int) (i : Nat), i < n → (rngT lo n)[i]? = some (.int (lo + i))
  | 0, _, _, h => absurd h (Nat.not_lt_zero _)
  | n + 1, lo, 0, _ => by show some (Tr.int lo) = some (.int (lo + ((0 : Nat) : Int))); rw [Int.natCast_zero, Int.add_zero]
  | n + 1, lo, i + 1, h => by
    show (rngT (lo + 1) n)[i]? = _
    rw [rngT_get n (lo + 1) i (by omega)]
    congr 2
    omega
def uRng1 (ta : UA) : UI := fun ρ S R X => ta ρ S (fun xs S1 => ∃ j, xs = [.int j] ∧ (-(2 ^ 62) ≤ j ∧ j < 2 ^ 62) ∧ R ⟨rngT 0 j.toNat, fun _ => True⟩ S1) X
def uRng2 (ta : UA) : UI := fun ρ S R X => ta ρ S (fun xs S1 => ∃ i j, xs = [.int i, .int j] ∧ (-(2 ^ 62) ≤ i ∧ i < 2 ^ 62 ∧ -(2 ^ 62) ≤ j ∧ j < 2 ^ 62) ∧ R ⟨rngT i (j - i).toNat, fun _ => True⟩ S1) X
theorem it_rng {K : PySem.W.Frag} {L : Lk} {I : Hp} (lo : Int) (n : Nat) : ItRep K L I (Itr lo n) ⟨rngT lo n, fun _ => True⟩ where
  go := fun F i H S I' _ _ _ h => by show i < n; rw [← rngT_len n lo]; exact h
  stop := fun F i H S I' _ _ _ h => by show n ≤ i; rw [← rngT_len n lo]; exact Nat.le_of_eq h.symm
  yld := fun F i H S I' v H' x hd _ _ e y => by
    obtain ⟨rfl, rfl⟩ := y
    have hi : i < n := by
      by_cases z : i < n
      · exact z
      · rw [List.getElem?_eq_none (by rw [rngT_len]; omega)] at e; cases e
    rw [rngT_get n lo i hi] at e
    cases e
    exact ⟨I', hd, Same.refl _, rfl⟩
theorem i_rng1 {a : Expr} (hg : Gl X "range") (hm : X.mg "range" = none) (ha : TPA X W [a] ta) (hs : starEach [a] X.env = [(false, eval a X.env)] := by rfl) : TPI X W tg (.Call (.Name "range" p) [a] [] pos) (uRng1 ta) :=
  ⟨wkI (pi_range1 hg hm ha.pe hs) fun σ H R ⟨L, F, S, I, ρ, hd, sl, h⟩ => lA_then ha.mono hd sl h (fun _ _ _ _ h => h) fun xs S1 vs H1 I1 ⟨j, e, c, q⟩ hd1 s1 sl1 r => by
    subst e
    obtain ⟨v, rfl, r1⟩ := RepL.one r
    cases r1
    exact ⟨j, rfl, c.1, c.2, q _ H1 I1 hd1 s1 (it_rng 0 _)⟩, fun ρ S Q Q' X X' hQ hX h => ha.mono _ _ _ _ _ _ (fun xs S1 ⟨j, e, c, q⟩ => ⟨j, e, c, hQ _ _ q⟩) hX h⟩
def sgnT (c : Nat) : Tr := .str ⟨#[c]⟩
def uStrI (te : UE) : UI := fun ρ S R X => te ρ S (fun x S1 => ∃ z, vw S1 x = .str z ∧ R ⟨z.cps.toList.map sgnT, fun _ => True⟩ S1) X
def enumT : Nat → List Tr → List Tr
  | _, [] => []
  | n, x :: xs => .tup [.int n, x] :: enumT (n + 1) xs
/-- enumerate(x), x a list -/
def uEnum (ta : UA) : UI := fun ρ S R X => ta ρ S (fun ys S1 => ∃ x xs, ys = [x] ∧ asL (vw S1 x) = some xs ∧ R ⟨enumT 0 xs, fun S' => vw S' x = vw S1 x⟩ S1) X
end
/-! ### fields -/
def fget (f : Str) : List Str → List Tr → Option Tr
  | g :: gs, x :: xs => if f = g then some x else fget f gs xs
  | _, _ => none
theorem fget_lk {K : PySem.W.Frag} {I : Hp} {f : Str} : ∀ {fs : List Str} {xs : List Tr} {vs : List V} {x : Tr}, RepL K I xs vs → fget f fs xs = some x → ∃ v, (fs.zip vs).lookup f = some v ∧ Rep K I x v
  | [], _, _, _, _, e => by simp [fget] at e
  | _ :: _, [], _, _, _, e => by simp [fget] at e
  | g :: gs, y :: xs, vs, x, r, e => by
    obtain ⟨v, ws, rfl, r1, r2⟩ := r
    by_cases h : f = g
    · subst h
      rw [fget, if_pos rfl] at e
      cases e
      exact ⟨v, by simp [List.lookup], r1⟩
    · rw [fget, if_neg h] at e
      obtain ⟨w, e1, r3⟩ := fget_lk r2 e
      refine ⟨w, ?_, r3⟩
      have hb : (f == g) = false := by simpa using h
      rw [List.zip_cons_cons, List.lookup_cons, hb]
      exact e1
/-- the class at C has no attribute f of its own -/
structure ClsF (K : PySem.W.Frag) (C : Addr) (f : Str) : Prop where
  cl : Cls K C
  no : NoAttr K C f
def uFld (K : PySem.W.Frag) (f : Str) (te : UE) : UE := fun ρ S Q X => te ρ S (fun x S1 => ∃ C fs xs y, vw S1 x = .ins C fs xs ∧ ClsF K C f ∧ fget f fs xs = some y ∧ Q y S1) X
/-- a new value of a field: the names, the values -/
def fputN (f : Str) : List Str → List Str
  | [] => [f]
  | g :: gs => if g = f then g :: gs else g :: fputN f gs
def fputX (f : Str) (y : Tr) : List Str → List Tr → List Tr
  | g :: gs, x :: xs => if g = f then y :: xs else x :: fputX f y gs xs
  | _, _ => [y]
section
variable {X : Cx} {W : WX} {o e : Expr} {te to : UE} {pos p' : Pos} {f : Str}
theorem mono_fld {K : PySem.W.Frag} (m : MonoE te) : MonoE (uFld K f te) := fun ρ S Q Q' X X' hQ hX h => m _ _ _ _ _ _ (fun x S1 ⟨C, fs, xs, y, e, c, g, q⟩ => ⟨C, fs, xs, y, e, c, g, hQ _ _ q⟩) hX h
theorem e_fld (he : TPE X W e te) (hb : attributeBase e f X.env (eval e X.env) = eval e X.env) : TPE X W (.Attribute e f pos) (uFld X.K f te) :=
  ⟨wkE (pe_fld he.pe hb) fun σ H R ⟨L, F, S, I, ρ, hd, sl, h⟩ => lE_then he.mono hd sl h (fun _ _ _ _ h => h) fun x S1 v H1 I1 ⟨C, fs, xs, y, e, c, g, q⟩ hd1 s1 sl1 r => by
    obtain ⟨a, dx, vs, rfl, h1, hl, h2⟩ := vw_ins hd1 r e
    obtain ⟨w, e1, r1⟩ := fget_lk h2 g
    exact ⟨a, C, dx, _, w, rfl, h1, c.cl, c.no, e1, q w H1 I1 hd1 s1 r1⟩, mono_fld he.mono⟩
theorem fput_rep {K : PySem.W.Frag} {I : Hp} {y : Tr} {w : V} (ry : Rep K I y w) : ∀ {fs : List Str} {xs : List Tr} {vs : List V}, fs.length = xs.length → RepL K I xs vs → ∃ ws, putF f w (fs.zip vs) = (fputN f fs).zip ws ∧ (fputN f fs).length = (fputX f y fs xs).length ∧ RepL K I (fputX f y fs xs) ws
  | [], [], vs, _, r => by cases r; exact ⟨[w], rfl, rfl, .cons ry rfl⟩
  | [], _ :: _, _, e, _ => nomatch e
  | _ :: _, [], _, e, _ => nomatch e
  | g :: gs, x :: xs, vs, e, r => by
    obtain ⟨v, us, rfl, r1, r2⟩ := r
    have el : gs.length = xs.length := by simpa using e
    by_cases h : g = f
    · subst h
      refine ⟨w :: us, by simp [putF, fputN], by simp [fputN, fputX, el], ?_⟩
      simp only [fputX, if_true]
      exact .cons ry r2
    · obtain ⟨ws, h1, h2, h3⟩ := fput_rep ry el r2
      refine ⟨v :: ws, ?_, by simp [fputN, fputX, h, h2], ?_⟩
      · simp [putF, fputN, h, h1]
      · simp only [fputX, if_neg h]
        exact .cons r1 h3
/-- o.f = e, o a cell -/
def uSFld (K : PySem.W.Frag) (f : Str) (to te : UE) : US := fun D X ρ S => te ρ S (fun y S1 => to ρ S1 (fun x S2 => ∃ a C fs xs, x = .ref a ∧ S2 a = some (.ins C fs xs) ∧ ClsF K C f ∧ fs.length < 1000 ∧ D.nx ρ (put S2 a (.ins C (fputN f fs) (fputX f y fs xs)))) (atR X ρ)) (atR X ρ)
theorem s_fld (ho : TPE X W o to) (he : TPE X W e te) (hs : swapsWith e (some (.Attribute o f p')) pos.line X.env = pure false) : TPS X W (.Assign [.Attribute o f p'] e pos) (uSFld X.K f to te) :=
  ⟨wkS (ps_fld ho.pe he.pe hs) fun D σ H ⟨L, F, S, I, ρ, hd, sl, h⟩ => lE_then he.mono hd sl h (dnXS_at sl) fun y S1 w H1 I1 q hd1 s1 sl1 ry =>
    lE_then ho.mono hd1 sl1 q (fun c f x S' z => dnXS_at sl1 _ _ _ _ (dnXS_up s1 _ _ _ _ _ z)) fun x S2 v H2 I2 ⟨a, C, fs, xs, e, ea, c, hl, q⟩ hd2 s2 sl2 rx => by
      subst e
      cases rx
      obtain ⟨_, _, o, ho, dx, vs, rfl, el, rl⟩ := hd2.cel a _ ea
      obtain ⟨ws, h1, h2, h3⟩ := fput_rep (f := f) (ry.mono s2) el rl
      refine ⟨a, C, dx, _, rfl, ho, c.cl, c.no, by rw [List.length_zip]; omega, ?_⟩
      rw [h1]
      exact q σ _ I2 (hd2.mut ea ⟨dx, ws, rfl, h2, h3⟩) (s1.trans s2) sl2, fun D D' X X' ρ S hD hX h => he.mono _ _ _ _ _ _ (fun y S1 q => ho.mono _ _ _ _ _ _ (fun x S2 ⟨a, C, fs, xs, e, ea, c, hl, q⟩ => ⟨a, C, fs, xs, e, ea, c, hl, hD.1 _ _ q⟩) (fun _ _ _ _ z => hX _ _ _ _ _ z) q) (fun _ _ _ _ z => hX _ _ _ _ _ z) h⟩
/-! ### d[k] = e -/
def kputN (k : Key) (ks : List Key) : List Key := if hasK k ks = true then ks else ks ++ [k]
def kmap (k : Key) (y : Tr) : List Key → List Tr → List Tr
  | j :: js, x :: xs => (if j = k then y else x) :: kmap k y js xs
  | _, xs => xs
def kputX (k : Key) (y : Tr) (ks : List Key) (xs : List Tr) : List Tr := if hasK k ks = true then kmap k y ks xs else xs ++ [y]
variable {i : Expr} {ti : UE}
def uDPut (to ti te : UE) : US := fun D X ρ S => te ρ S (fun y S1 => to ρ S1 (fun x S2 => ti ρ S2 (fun j S3 => ∃ a ks xs k, x = .ref a ∧ S3 a = some (.dic ks xs) ∧ keyT (vw S3 j) = some k ∧ ks.length < sizeLine ∧ D.nx ρ (put S3 a (.dic (kputN k ks) (kputX k y ks xs)))) (atR X ρ)) (atR X ρ)) (atR X ρ)
/-- xs[i] = e, xs a cell -/
def uLPut (to ti te : UE) : US := fun D X ρ S => te ρ S (fun y S1 => to ρ S1 (fun x S2 => ti ρ S2 (fun j S3 => ∃ a xs n k, x = .ref a ∧ S3 a = some (.lst xs) ∧ vw S3 j = .int n ∧ ixN xs.length n = some k ∧ D.nx ρ (put S3 a (.lst (xs.set k y)))) (atR X ρ)) (atR X ρ)) (atR X ρ)
theorem s_lput (ho : TPE X W o to) (hi : TPE X W i ti) (he : TPE X W e te) (ha : ∀ v, assign (.Subscript o i p') X.env v = (do
      let ov ← holding [v] (eval o X.env)
      let iv ← holding [v, ov] (eval i X.env)
      standAt p'
      holding [v, ov, iv] (setItem ov iv v)
      release [v, ov, iv] []) := by intro _; rfl) (hs : swapsWithSole [.Subscript o i p'] e pos.line X.env = pure false := by rfl) (hw : swappedStores [.Subscript o i p'] e X.env = pure none := by rfl)
    (h1 : (assignEach [.Subscript o i p'] X.env).map (·.2) = [assign (.Subscript o i p') X.env] := by rfl) : TPS X W (.Assign [.Subscript o i p'] e pos) (uLPut to ti te) :=
  ⟨wkS (ps_asg he.pe (pg_sub ho.pe hi.pe set_list ha) hs hw h1) fun D σ H ⟨L, F, S, I, ρ, hd, sl, h⟩ => lE_then he.mono hd sl h (dnXS_at sl) fun y S1 w H1 I1 q hd1 s1 sl1 ry =>
    lE_then ho.mono hd1 sl1 q (fun c f x S' z => dnXS_at sl1 _ _ _ _ (dnXS_up s1 _ _ _ _ _ z)) fun x S2 v H2 I2 q hd2 s2 sl2 rx =>
    lE_then hi.mono hd2 sl2 q (fun c f x S' z => dnXS_at sl2 _ _ _ _ (dnXS_up (s1.trans s2) _ _ _ _ _ z)) fun j S3 u H3 I3 ⟨a, xs, n, k, e, ea, ek, hl, q9⟩ hd3 s3 sl3 rj => by
      subst e
      cases rx
      cases vw_eq_int hd3 rj ek
      obtain ⟨_, _, o, ho, vs, rfl, rl⟩ := hd3.cel a _ ea
      refine ⟨a, vs, n, k, rfl, rfl, ho, by rw [rl.len]; exact hl, ?_⟩
      exact q9 σ _ I3 (hd3.mut ea ⟨_, rfl, rl.set k (ry.mono (s2.trans s3))⟩) ((s1.trans s2).trans s3) sl3,
    fun D D' X X' ρ S hD hX h => he.mono _ _ _ _ _ _ (fun y S1 q => ho.mono _ _ _ _ _ _ (fun x S2 q => hi.mono _ _ _ _ _ _ (fun j S3 ⟨a, xs, n, k, e, ea, ek, hl, q⟩ => ⟨a, xs, n, k, e, ea, ek, hl, hD.1 _ _ q⟩) (fun _ _ _ _ z => hX _ _ _ _ _ z) q) (fun _ _ _ _ z => hX _ _ _ _ _ z) q) (fun _ _ _ _ z => hX _ _ _ _ _ z) h⟩
end
end KQ
namespace KQ
open PySem PySem.Spec PyProof.Rows L2 TL KB
/-! ### a slot's cells become trees -/
section
variable {X : Cx} {W : WX} {rest : List Stmt} {u : US}
theorem Slots.retree {K : PySem.W.Frag} {I I' : Hp} {σ : L2.St} {ρ : Rho} {i : Nat} {x y : Tr} (h : Slots K I σ ρ) (s : Same I I') (e : ρ[i]? = some (some x)) (k : ∀ v, Rep K I x v → Rep K I' y v) : Slots K I' σ (ρ.set i (some y)) := by
  refine ⟨by rw [List.length_set]; exact h.1, fun j z ez => ?_⟩
  by_cases hj : i = j
  · subst hj
    have hl : i < ρ.length := (List.getElem?_eq_some_iff.mp e).1
    rw [List.getElem?_set_self hl] at ez
    cases ez
    obtain ⟨v, e1, r⟩ := h.2 i x e
    exact ⟨v, e1, k v r⟩
  · rw [List.getElem?_set_ne hj] at ez
    exact (h.mono s).2 j z ez
def uFrz (i : Nat) (u : US) : US := fun D X ρ S => ∃ (x y : Tr) (S' : Sto), ρ[i]? = some (some x) ∧ Frz x S y S' ∧ u D X (ρ.set i (some y)) S'
theorem ss_frz {i : Nat} (h : TPSs X W rest u) : TPSs X W rest (uFrz i u) :=
  ⟨wkSs h.pe fun D σ H ⟨L, F, S, I, ρ, hd, sl, x, y, S', e, ⟨G, r, s, g⟩, q⟩ => lS_then h.mono (hd.thawed g s) (sl.retree (thaw_same hd g) e (r.rep hd g).1) q (dnD_up (thaw_same hd g)) (dnXS_up (thaw_same hd g)),
    fun D D' X X' ρ S hD hX ⟨x, y, S', e, f, q⟩ => ⟨x, y, S', e, f, h.mono _ _ _ _ _ _ hD hX q⟩⟩
end
/-! ### methods of lists and texts -/
section
variable {X : Cx} {W : WX} {o e : Expr} {es : List Expr} {to : UE} {ta : UA} {apos cpos : Pos} {id : String} {name : Str}
def tyOk (T : String) (x : Tr) : Prop := match x with
  | .str _ => T = "str"
  | .lst _ => T = "list"
  | .scr _ => T = "list"
  | _ => False
theorem tyOk_ty {K : PySem.W.Frag} {L : Lk} {F H I : Hp} {S : Sto} {T : String} {x : Tr} {v : V} (hd : Hd K L F H S I) (r : Rep K I x v) (h : tyOk T (vw S x)) : tyV K T v H := by
  unfold tyOk at h
  split at h
  · rename_i z e; cases vw_eq_str hd r e; exact h
  · rename_i z e; obtain ⟨a, vs, rfl, h1, _⟩ := vw_lst hd r e; exact .inl ⟨h, vs, .inl (.inl h1)⟩
  · rename_i z e; obtain ⟨a, rfl, h1⟩ := vw_scr hd r e; exact .inl ⟨h, _, h1⟩
  · exact h.elim
/-- a method that reads -/
def uMt (T : String) (g : Tr → List Tr → Tr → Prop) (to : UE) (ta : UA) : UE := fun ρ S Q X => to ρ S (fun x S1 => tyOk T (vw S1 x) ∧ ta ρ S1 (fun ys S2 => ∃ z, g (vw S2 x) (ys.map (vw S2)) z ∧ Q z S2) X) X
/-- a method that changes a list -/
def uMm (g : Sto → List Tr → List Tr → List Tr → Tr → Prop) (to : UE) (ta : UA) : UE := fun ρ S Q X => to ρ S (fun x S1 => tyOk "list" (vw S1 x) ∧ ta ρ S1 (fun ys S2 => ∃ a xs xs' z, x = .ref a ∧ S2 a = some (.lst xs) ∧ g S2 xs ys xs' z ∧ Q z (put S2 a (.lst xs'))) X) X
def MmT (K : PySem.W.Frag) (r : V → List V → Hp → VK → Prop) (g : Sto → List Tr → List Tr → List Tr → Tr → Prop) : Prop := ∀ {L : Lk} {F H : Hp} {S : Sto} {I : Hp} {a : Addr} {xs ys xs' : List Tr} {z : Tr} {vs : List V} {R : VK}, Hd K L F H S I → S a = some (.lst xs) → RepL K I ys vs → g S xs ys xs' z →
  (∀ v' H', Hd K L F H' (put S a (.lst xs')) I → Rep K I z v' → R v' H') → r (.ref a) vs H R
theorem mono_mm {g : Sto → List Tr → List Tr → List Tr → Tr → Prop} (mo : MonoE to) (ma : MonoA ta) : MonoE (uMm g to ta) := fun ρ S Q Q' X X' hQ hX h => mo _ _ _ _ _ _ (fun x S1 ⟨c, q⟩ => ⟨c, ma _ _ _ _ _ _ (fun ys S2 ⟨a, xs, xs', z, e, ea, hg, q⟩ => ⟨a, xs, xs', z, e, ea, hg, hQ _ _ q⟩) hX q⟩) hX h
theorem e_mm {r : V → List V → Hp → VK → Prop} {g : Sto → List Tr → List Tr → List Tr → Tr → Prop} (s : MmT X.K r g) (ho : TPE X W o to) (ha : TPA X W (e :: es) ta)
    (hb : PE X o (lE X.K W to) → PA X (e :: es) (lA X.K W ta) → PE X (.Call (.Attribute o name apos) (e :: es) [] cpos) (tBM X.K "list" r (lE X.K W to) (lA X.K W ta))) : TPE X W (.Call (.Attribute o name apos) (e :: es) [] cpos) (uMm g to ta) :=
  ⟨wkE (hb ho.pe ha.pe) fun σ H R ⟨L, F, S, I, ρ, hd, sl, h⟩ => lE_then ho.mono hd sl h (fun _ _ _ _ h => h) fun x S1 v H1 I1 ⟨c, q⟩ hd1 s1 sl1 rx => ⟨tyOk_ty hd1 rx c, lA_then ha.mono hd1 sl1 q (dnX_up s1) fun ys S2 vs H2 I2 ⟨a, xs, xs', z, e, ea, hg, q9⟩ hd2 s2 sl2 ry => by
    subst e
    cases rx
    exact s hd2 ea ry hg fun v' H' hd' r' => q9 v' H' I2 hd' (s1.trans s2) r'⟩, mono_mm ho.mono ha.mono⟩
theorem e_mm0 {r : V → List V → Hp → VK → Prop} {g : Sto → List Tr → List Tr → List Tr → Tr → Prop} (s : MmT X.K r g) (ho : TPE X W o to) (hb : PE X o (lE X.K W to) → PE X (.Call (.Attribute o name apos) [] [] cpos) (tBM0 X.K "list" r (lE X.K W to))) : TPE X W (.Call (.Attribute o name apos) [] [] cpos) (uMm g to uNil) :=
  ⟨wkE (hb ho.pe) fun σ H R ⟨L, F, S, I, ρ, hd, sl, h⟩ => lE_then ho.mono hd sl h (fun _ _ _ _ h => h) fun x S1 v H1 I1 ⟨c, a, xs, xs', z, e, ea, hg, q⟩ hd1 s1 sl1 rx => ⟨tyOk_ty hd1 rx c, by
    subst e
    cases rx
    exact s hd1 ea (ys := []) rfl hg fun v' H' hd' r' => q v' H' I1 hd' s1 r'⟩, mono_mm ho.mono (a_nil (X := X) (W := W)).mono⟩
end
section
variable {K : PySem.W.Frag}
def gAppend (S : Sto) (xs ys xs' : List Tr) (z : Tr) : Prop := match ys with
  | [y] => xs.length < sizeLine ∧ xs' = xs ++ [y] ∧ z = .non
  | _ => False
theorem m_append : MmT K rAppend gAppend := by
  intro L F H S I a xs ys xs' z vs R hd ea ry hg k
  unfold gAppend at hg
  split at hg
  · rename_i y
    obtain ⟨c, rfl, rfl⟩ := hg
    obtain ⟨v, rfl, r1⟩ := RepL.one ry
    obtain ⟨_, _, o, ho, us, rfl, rl⟩ := hd.cel a _ ea
    exact ⟨a, us, v, rfl, rfl, ho, by rw [rl.len]; exact c, k _ _ (hd.mut ea ⟨_, rfl, rl.app (.cons r1 rfl)⟩) rfl⟩
  · exact hg.elim
def gExtend (S : Sto) (xs ys xs' : List Tr) (z : Tr) : Prop := match ys with
  | [y] => ∃ zs, vw S y = .lst zs ∧ xs.length + zs.length ≤ sizeLine ∧ xs' = xs ++ zs ∧ z = .non
  | _ => False
theorem m_extend : MmT K rExtend gExtend := by
  intro L F H S I a xs ys xs' z vs R hd ea ry hg k
  unfold gExtend at hg
  split at hg
  · rename_i y
    obtain ⟨zs, e, c, rfl, rfl⟩ := hg
    obtain ⟨v, rfl, r1⟩ := RepL.one ry
    obtain ⟨b, ws, rfl, h1, h2⟩ := vw_lst hd r1 e
    obtain ⟨_, _, o, ho, us, rfl, rl⟩ := hd.cel a _ ea
    exact ⟨a, b, us, ws, rfl, rfl, ho, h1, by rw [rl.len, h2.len]; exact c, k _ _ (hd.mut ea ⟨_, rfl, rl.app h2⟩) rfl⟩
  · exact hg.elim
def gInsert (S : Sto) (xs ys xs' : List Tr) (z : Tr) : Prop := match ys with
  | [.int i, y] => xs.length < sizeLine ∧ 0 ≤ i ∧ i < 2 ^ 63 ∧ xs' = xs.take i.toNat ++ [y] ++ xs.drop i.toNat ∧ z = .non
  | _ => False
def gPop (S : Sto) (xs ys xs' : List Tr) (z : Tr) : Prop := ys = [] ∧ xs[xs.length - 1]? = some z ∧ xs' = xs.dropLast
theorem RepL.dropLast {I : Hp} {xs : List Tr} {vs : List V} (r : RepL K I xs vs) : RepL K I xs.dropLast vs.dropLast := by
  rw [List.dropLast_eq_take, List.dropLast_eq_take, r.len]
  exact r.take _
/-- texts -/
def gJoin (x : Tr) (ys : List Tr) (z : Tr) : Prop := match x, ys with
  | .str a, [.lst zs] => ∃ ts : List Str, zs = ts.map Tr.str ∧ (ts.map (·.length)).sum + ts.length * a.length ≤ 16777216 ∧ z = .str (Txt.join a ts)
  | .str a, [.tup zs] => ∃ ts : List Str, zs = ts.map Tr.str ∧ (ts.map (·.length)).sum + ts.length * a.length ≤ 16777216 ∧ z = .str (Txt.join a ts)
  | _, _ => False
def gIsdigit (x : Tr) (ys : List Tr) (z : Tr) : Prop := match x, ys with
  | .str a, [] => z = .bl (Txt.isdigit a)
  | _, _ => False
def gRmp (x : Tr) (ys : List Tr) (z : Tr) : Prop := match x, ys with
  | .str a, [.str b] => a.length ≤ sizeLine ∧ z = .str (Txt.removeprefix a b)
  | _, _ => False
end
/-! ### dicts walked under a lock -/
section
variable {X : Cx} {pos : Pos}
def srcV (i : Nat) : Rho → Sto → List Key → List Tr → Prop := fun ρ S ks xs => ρ[i]? = some (some (.dic ks xs))
def srcF (K : PySem.W.Frag) (i : Nat) (f : Str) : Rho → Sto → List Key → List Tr → Prop := fun ρ S ks xs => ∃ (x : Tr) (C : Addr) (fs : List Str) (ys : List Tr), ρ[i]? = some (some x) ∧ vw S x = .ins C fs ys ∧ ClsF K C f ∧ fget f fs ys = some (.dic ks xs)
/-- what is walked -/
inductive DK where
  | keys | vals | items
def DK.list : DK → List Key → List Tr → List Tr
  | .keys, k :: ks, x :: xs => (match k with | .inl n => .int n | .inr z => .str z) :: DK.list .keys ks xs
  | .vals, k :: ks, x :: xs => x :: DK.list .vals ks xs
  | .items, k :: ks, x :: xs => .tup [(match k with | .inl n => .int n | .inr z => .str z), x] :: DK.list .items ks xs
  | _, _, _ => []
def kT : Key → Tr
  | .inl n => .int n
  | .inr z => .str z
def DK.it : DK → Addr → Obj → List (Key × V) → It
  | .keys => Itk
  | .vals => Itd
  | .items => Iti
/-- the walk of a dict, as the layer below reads it -/
def DK.walk (w : DK) (td : TE) : TI := fun σ H R => td σ H fun x H1 => ∃ d o kvs, x = .ref d ∧ H1 d = some (.frz o (.dK kvs)) ∧ R (w.it d o kvs) H1
def uForD (w : DK) (src : Rho → Sto → List Key → List Tr → Prop) (p : Pat) (tb : US) : US := fun D X ρ S => ∃ ks xs, src ρ S ks xs ∧ uLoop (fun _ => True) p tb D X (DK.list w ks xs) ρ S
/-! a comprehension over a dict -/
def uLcD (w : DK) (src : Rho → Sto → List Key → List Tr → Prop) (p : Pat) (tt : UT) (te : UE) (vs : List Nat) : UE := fun ρ S Q X => ∃ ks xs, src ρ S ks xs ∧ uLcL (fun _ => True) p tt te (wipeR ρ vs) Q (DK.list w ks xs) [] S
end
end KQ
namespace KQ
open PySem PySem.Spec PyProof.Rows L2 TL KB
/-! ### own methods -/
structure MthT (P : Program) (w : World) (K : PySem.W.Frag) (mg : Str → Option Value) (base : Heap) (k : Nat) (C : Addr) (m : Str) (t : TSp) : Prop where
  ex : ∃ (f : Addr) (fd : FuncData) (ps : List Str), Meth K C m f ∧ Binds K fd ps [] ∧ FnOk P w K mg base (L2N.CX P w) k f fd ps (lSp K t)
  cl : Cls K C
  mono : MonoSp t
theorem fget_none {f : Str} : ∀ {fs : List Str} {xs : List Tr} {vs : List V}, fs.length = xs.length → vs.length = xs.length → fget f fs xs = none → (fs.zip vs).lookup f = none
  | [], _, _, _, _, _ => rfl
  | _ :: _, [], _, e, _, _ => nomatch e
  | _ :: _, _ :: _, [], _, e, _ => nomatch e
  | g :: gs, x :: xs, v :: vs, e1, e2, e => by
    by_cases h : f = g
    · rw [fget, if_pos h] at e; cases e
    · rw [fget, if_neg h] at e
      have hb : (f == g) = false := by simpa using h
      rw [List.zip_cons_cons, List.lookup_cons, hb]
      exact fget_none (by simpa using e1) (by simpa using e2) e
def uMeth (m : Str) (ms : Addr → TSp → Prop) (to : UE) (ta : UA) : UE := fun ρ S Q X => to ρ S (fun x S1 => ∃ C fs xs t, vw S1 x = .ins C fs xs ∧ ms C t ∧ fget m fs xs = none ∧ ta ρ S1 (fun ys S2 => t (x :: ys) S2 Q X) X) X
section
variable {X : Cx} {W : WX} {k : Nat} {m : Str} {ms : Addr → TSp → Prop} {o e : Expr} {es : List Expr} {to : UE} {ta : UA} {apos pos : Pos}
theorem mono_meth (hM : ∀ C t, ms C t → MonoSp t) (mo : MonoE to) (ma : MonoA ta) : MonoE (uMeth m ms to ta) := fun ρ S Q Q' X X' hQ hX h => mo _ _ _ _ _ _ (fun x S1 ⟨C, fs, xs, t, e, c, n, q⟩ => ⟨C, fs, xs, t, e, c, n, ma _ _ _ _ _ _ (fun ys S2 q => hM C t c _ _ _ _ _ _ hQ hX q) hX q⟩) hX h
theorem e_meth0 {pl : Sem Bool} (hM : ∀ C t, ms C t → MthT X.prog X.w X.K X.mg X.base k C m t) (hr : Room k X.A) (tk : L2N.Takes X W) (ho : TPE X W o to)
    (ht : eval (.Call (.Attribute o m apos) [] [] pos) X.env = (do
      let ov ← eval o X.env
      standAt apos.atName
      let (f, first) ← holding [ov] (getMethod ov m pl)
      callWith pos f first (backTo pos (starEach [] X.env)) (backToKw pos (keywordEach [] X.env))) := by rfl) : TPE X W (.Call (.Attribute o m apos) [] [] pos) (uMeth m ms to uNil) := by
  refine ⟨⟨fun pins s σ H Q I h => ?_⟩, mono_meth (fun C t c => (hM C t c).mono) ho.mono (a_nil (X := X) (W := W)).mono⟩
  obtain ⟨L, F, S, I0, ρ, hd, sl, h⟩ := h
  have step : lE X.K W to σ H (fun x H1 => ∃ a C dx fs t, x = .ref a ∧ H1 a = some (.ins C dx fs) ∧ fs.lookup m = none ∧ ms C t ∧ lSp X.K t [.ref a] H1 Q (WE W σ)) :=
    lE_then ho.mono hd sl h (fun _ _ _ _ h => h) fun x S1 v H1 I1 ⟨C, fs, xs, t, e, c, n, q⟩ hd1 s1 sl1 r => by
      obtain ⟨a, dx, vs, rfl, h1, hl, h2⟩ := vw_ins hd1 r e
      exact ⟨a, C, dx, _, t, rfl, h1, fget_none hl h2.len n, c, L, F, S1, I1, [x], hd1, .cons r rfl, (hM C t c).mono _ _ _ _ _ _ (dnV_up s1) (dnX_up s1) q⟩
  refine PySem.W.methodCall_KW (pl := pl) (thn (ho.pe.run pins s σ H _ I step) fun u s1 ⟨x, H1, I1, rx, a, C, dx, fs, t, ex, ea, l, c, q⟩ => ?_) ht
  subst ex
  cases rx
  obtain ⟨⟨f, fd, ps, M, b, Fn⟩, cl, _⟩ := hM C t c
  exact getmeth_ok I1 ea cl M l (PySem.W.callWith_K0 (first := [.ref a]) I1.kIn M.kp (run_fnS (us := [.ref a]) (vs := [.ref a]) (E := WE W) Fn hr b (L2N.passAt tk σ) I1 (.cons rfl .nil) q))
end
theorem dnX_closed {K : PySem.W.Frag} {L : Lk} {F I : Hp} {W : WX} {σ : L2.St} : ClosedX (dnX K L F I W σ) := fun c fs ys S S' sb z d H' I' hd' s' ⟨vs, h1, h2, h3, h4, h5, h6⟩ => z d H' I' (hd'.fewer sb) s' ⟨vs, h1, h2, h3, h4, sb.noneAt h5, h6⟩
/-! ### a class called -/
structure NewT (P : Program) (w : World) (K : PySem.W.Frag) (mg : Str → Option Value) (base : Heap) (k : Nat) (x : Str) (C : Addr) (t : TSp) : Prop where
  ex : ∃ (f : Addr) (fd : FuncData) (ps : List Str) (dts : List Tr) (tI : TSp) (ds : List Value) (dvs : List V), Mk K C f ∧ mg x = some (.ref C) ∧ Binds K fd ps ds ∧ Vals dvs ds ∧ (∀ I, RepL K I dts dvs) ∧ FnOk P w K mg base (L2N.CX P w) k f fd ps (lSp K tI) ∧ MonoSp tI ∧
    ∀ xs S Q X, Closed Q → ClosedX X → t xs S Q X → ∀ a, S a = none → tI (.ref a :: (xs ++ dts)) (put S a (.ins C [] [])) (fun v S2 => v = .non ∧ Q (.ref a) S2) X
  mono : MonoSp t
section
variable {X : Cx} {W : WX} {k : Nat} {x : Str} {C : Addr} {t : TSp} {e : Expr} {es : List Expr} {ta : UA} {p pos : Pos}
theorem run_new (N : NewT X.prog X.w X.K X.mg X.base k x C t) (hr : Room (k + 1) X.A) (tk : L2N.Takes X W) {pins : List (Addr × Obj)} {σ : L2.St} {H : Hp} {s : Shared} {Q : VK} {us : List Value} {vs : List V} (I : Inv X pins σ H s) (r : Vals vs us)
    (h : lSp X.K t vs H Q (WE W σ)) : wpAny (model X.prog X.w) X.A (call (.ref C) us) (EP X pins σ Q) X.xe s := by
  obtain ⟨⟨f, fd, ps, dts, tI, ds, dvs, M, g, b, vd, rd, Fn, mI, w⟩, _⟩ := N
  obtain ⟨L, F, S, I0, xs, hd, rx, q⟩ := h
  have n1 : H (s.heap.objs.size + 1) = none := I.hok.fresh (Nat.le_succ _)
  have n2 : H s.heap.objs.size = none := I.hok.fresh (Nat.le_refl _)
  have ne : s.heap.objs.size ≠ s.heap.objs.size + 1 := Nat.ne_of_lt (Nat.lt_succ_self _)
  have hd1 : Hd X.K L F (upd H s.heap.objs.size (.own (s.heap.objs.size + 1))) S I0 := hd.un n2
  have n3 : upd H s.heap.objs.size (.own (s.heap.objs.size + 1)) (s.heap.objs.size + 1) = none := by rw [upd_ne ne.symm]; exact n1
  have hd2 := hd1.cell (c := .ins C [] []) (o := .ins C s.heap.objs.size []) n3 ⟨_, [], rfl, rfl, rfl⟩
  have q1 := w xs S _ _ dnV_closed dnX_closed q (s.heap.objs.size + 1) (hd.freeS n1)
  have hq : lSp X.K tI (.ref (s.heap.objs.size + 1) :: (vs ++ dvs)) (upd (upd H s.heap.objs.size (.own (s.heap.objs.size + 1))) (s.heap.objs.size + 1) (.ins C s.heap.objs.size [])) (fun v H2 => v = .non ∧ Q (.ref (s.heap.objs.size + 1)) H2) (WE W σ) :=
    ⟨L, F, _, I0, .ref (s.heap.objs.size + 1) :: (xs ++ dts), hd2, .cons rfl (rx.app (rd I0)), mI _ _ _ _ _ _ (fun y S2 ⟨e, z⟩ v H' I' h1 h2 h3 => by subst e; cases h3; exact ⟨rfl, z _ H' I' h1 h2 rfl⟩) (fun _ _ _ _ z => z) q1⟩
  have I2 := Inv.made (C := C) I
  have r2 : Vals (V.ref (s.heap.objs.size + 1) :: (vs ++ dvs)) (Value.ref (s.heap.objs.size + 1) :: (us ++ ds)) := .cons rfl (r.append vd)
  have hl : (Value.ref (s.heap.objs.size + 1) :: us ++ ds).length = ps.length := by
    have e := r2.length
    rw [Fn.len _ _ _ _ hq] at e
    exact e.symm
  refine wpAny_call (make_map (f := f) I.kIn M.makes M.init (beq_iff_eq.mp M.fn) (codeAny_mono (Fn.run _ X.stack _ _ ⟨Value.ref (s.heap.objs.size + 1) :: us, []⟩ _ _ _ (WE W σ) (hr.make C us []) (I2.env0.make C us []) (b _ (Value.ref (s.heap.objs.size + 1) :: us) I2.kIn hl) r2 hq) fun r s' hq' => ?_))
  cases r with
  | error e => exact L2N.passAt tk σ pins _ _ e s' I2 hq'
  | ok fl =>
    cases fl with
    | ret u =>
      obtain ⟨v, H', I3, rv, ev, q3⟩ := I2.after hq'
      subst ev
      exact ⟨rv, ⟨V.ref (s.heap.objs.size + 1), H', I3, rfl, q3⟩⟩
    | next => exact hq'.elim
    | brk => exact hq'.elim
    | cont => exact hq'.elim
theorem e_new (N : NewT X.prog X.w X.K X.mg X.base k x C t) (hr : Room (k + 1) X.A) (hg : Gl X x) (tk : L2N.Takes X W) (ha : TPA X W (e :: es) ta) (hdb : (x == ("__debug__" : Str)) = false := by decide)
    (he : starEach (e :: es) X.env = (false, eval e X.env) :: starEach es X.env := by rfl) (hpl : (backTo pos (starEach es X.env)).any (·.1) = false := by rfl) : TPE X W (.Call (.Name x p) (e :: es) [] pos) (uCall t ta) := by
  refine ⟨⟨fun pins s σ H Q I h => ?_⟩, mono_call N.mono ha.mono⟩
  have h' := lCall (X := X) (W := W) N.mono ha.mono σ H Q h
  obtain ⟨⟨f, fd, ps, dts, tI, ds, dvs, M, g, _⟩, _⟩ := id N
  refine wpAny_Call_Name_kw (ld_glob I hg g ?_ hdb)
  exact PySem.W.callWith_K (h₀ := X.base) I.ok.mod.kin M.kp (thn (ha.pe.run pos pins s σ H _ I h') fun us s1 ⟨vs, H1, I1, r, q⟩ => ⟨I1.kIn, run_new N hr tk I1 r q⟩) he hpl
end
/-! ### defs and methods by their bodies -/
section
variable {P : Program} {w : World} {K : PySem.W.Frag} {mg : Str → Option Value} {base : Heap}
/-- a body that keeps a promise: qual the def's long name -/
structure BodyT (P : Program) (w : World) (K : PySem.W.Frag) (mg : Str → Option Value) (base : Heap) (k : Nat) (qual : Str) (st : Stmt) (N : List Str) (us : US) : Prop where
  ex : ∀ (f : Addr) (cdv : Value) (A : Around) (outer : List Env) (s : Shared) (H : Hp) (E : XK), Room k (A.deeper (envOfC qual (defScope st) s.heap.objs.size f cdv)) → L2N.Takes (cxOf (L2N.CX P w) P w K mg base N qual (defScope st) f cdv A outer s H E) (fun cls d _ H => E cls d H) →
      PassesOwn (model P w) (cxOf (L2N.CX P w) P w K mg base N qual (defScope st) f cdv A outer s H E).A (cxOf (L2N.CX P w) P w K mg base N qual (defScope st) f cdv A outer s H E).env (cxOf (L2N.CX P w) P w K mg base N qual (defScope st) f cdv A outer s H E).xe →
      TPSs (cxOf (L2N.CX P w) P w K mg base N qual (defScope st) f cdv A outer s H E) (fun cls d _ H => E cls d H) (defBody st) us
theorem fnD_ok {x qual : Str} {st : Stmt} {dvs : List V} {kws : List (Str × V)} {f : Addr} {fd : FuncData} {N ps : List Str} {k : Nat} {tsp : TSp} {us : US} (D : FunD K x qual (defArgs st) (defBody st) (defScope st) dvs kws f fd) (S : FnScope N ps (defScope st))
    (len : ∀ xs S Q X, tsp xs S Q X → xs.length = ps.length) (body : BodyT P w K mg base k qual st N us)
    (h : ∀ xs S Q X, Closed Q → ClosedX X → tsp xs S Q X → us (endU Q) (endX X) (startT N xs) S) : FnOk P w K mg base (L2N.CX P w) (k + 1) f fd ps (lSp K tsp) := by
  refine D.ok S (fun vs H Q E ⟨_, _, _, _, xs, _, r, q⟩ => by rw [r.len]; exact len _ _ _ _ q) fun cdv A outer s H vs Q E hr ⟨L, F, S0, I, xs, hd, r, q⟩ => ?_
  have B := body.ex f cdv A outer s H E hr (L2N.takes_of rfl rfl rfl rfl) (passes_of rfl)
  exact ⟨_, B.pe, body_ok (st := st) (tsp := tsp) (X := cxOf (L2N.CX P w) P w K mg base N qual (defScope st) f cdv A outer s H E) B.mono hd r (h xs S0 _ _ dnV_closed (fun c fs ys S S' sb z d H' I' hd' s' ⟨vs, h1, h2, h3, h4, h5, h6⟩ => z d H' I' (hd'.fewer sb) s' ⟨vs, h1, h2, h3, h4, sb.noneAt h5, h6⟩) q)⟩
/-- a method without defaults -/
theorem DefM.mth {C : Addr} {m qual : Str} {st : Stmt} {N ps : List Str} {k : Nat} {tsp : TSp} {us : US} (D : DefM K C m qual st []) (cl : Cls K C) (S : FnScope N ps (defScope st))
    (hb : ∀ (kV doc pm : Value) (an : Option Addr) (cdv ct : Value) (us : List Value), us.length = ps.length → bindArgs (PySem.W.fnOf m qual (defArgs st) (defBody st) (defScope st) .none kV doc pm an cdv ct) ⟨us, []⟩ = pure (ps.zip us))
    (len : ∀ xs S Q X, tsp xs S Q X → xs.length = ps.length) (mono : MonoSp tsp) (body : BodyT P w K mg base k qual st N us)
    (h : ∀ xs S Q X, Closed Q → ClosedX X → tsp xs S Q X → us (endU Q) (endX X) (startT N xs) S) : MthT P w K mg base (k + 1) C m tsp := by
  obtain ⟨f, fd, F, h1, h2⟩ := D.ex
  exact ⟨⟨f, fd, ps, ⟨h1, h2, F.kp⟩, F.bindsN hb, fnD_ok F S len body h⟩, cl, mono⟩
theorem DefM.mthBot {C : Addr} {m qual : Str} {st : Stmt} {ps : List Str} {k : Nat} {tsp : TSp} (D : DefM K C m qual st []) (cl : Cls K C)
    (hb : ∀ (kV doc pm : Value) (an : Option Addr) (cdv ct : Value) (us : List Value), us.length = ps.length → bindArgs (PySem.W.fnOf m qual (defArgs st) (defBody st) (defScope st) .none kV doc pm an cdv ct) ⟨us, []⟩ = pure (ps.zip us))
    (h : ∀ xs S Q X, ¬ tsp xs S Q X) : MthT P w K mg base k C m tsp := by
  obtain ⟨f, fd, F, h1, h2⟩ := D.ex
  exact ⟨⟨f, fd, ps, ⟨h1, h2, F.kp⟩, F.bindsN hb, ⟨fun vs H Q E ⟨_, _, _, _, xs, _, r, q⟩ => (h _ _ _ _ q).elim, fun _ _ _ _ _ _ _ _ _ _ _ _ _ ⟨_, _, _, _, xs, _, r, q⟩ => (h _ _ _ _ q).elim⟩⟩, cl, fun xs S Q Q' X X' _ _ q => (h _ _ _ _ q).elim⟩
/-- a class by its __init__ without defaults -/
theorem DefM.newT {C : Addr} {x qual : Str} {st : Stmt} {N ps : List Str} {k : Nat} {tI t : TSp} {us : US} (D : DefM K C "__init__" qual st []) (hmk : PySem.W.makesIn K C = true) (hkp : PySem.W.keepIn K (.ref C) = true) (g : mg x = some (.ref C)) (S : FnScope N ps (defScope st))
    (hb : ∀ (kV doc pm : Value) (an : Option Addr) (cdv ct : Value) (us : List Value), us.length = ps.length → bindArgs (PySem.W.fnOf "__init__" qual (defArgs st) (defBody st) (defScope st) .none kV doc pm an cdv ct) ⟨us, []⟩ = pure (ps.zip us))
    (len : ∀ xs S Q X, tI xs S Q X → xs.length = ps.length) (mI : MonoSp tI) (mono : MonoSp t) (body : BodyT P w K mg base k qual st N us)
    (h : ∀ xs S Q X, Closed Q → ClosedX X → tI xs S Q X → us (endU Q) (endX X) (startT N xs) S)
    (hw : ∀ xs S Q X, Closed Q → ClosedX X → t xs S Q X → ∀ a, S a = none → tI (.ref a :: xs) (put S a (.ins C [] [])) (fun v S2 => v = .non ∧ Q (.ref a) S2) X) : NewT P w K mg base (k + 1) x C t := by
  obtain ⟨f, fd, F, h1, h2⟩ := D.ex
  exact ⟨⟨f, fd, ps, [], tI, [], [], ⟨hmk, h1, h2, hkp⟩, g, F.bindsN hb, .nil, fun _ => rfl, fnD_ok F S len body h, mI, fun xs S Q X c cx q a n => by rw [List.append_nil]; exact hw xs S Q X c cx q a n⟩, mono⟩
end
/-! ### names of the module, types -/
section
variable {X : Cx} {W : WX} {pos : Pos}
theorem e_ty {x : Str} {T : String} (hg : Gl X x) (hm : X.mg x = none) (hv : bootBuiltins x = some (.type T)) (hn : x ≠ "__name__" := by decide) (hdb : (x == ("__debug__" : Str)) = false := by decide) : TPE X W (.Name x pos) (uC (.ty T)) :=
  e_const (pe_bltn (v := .ty T) hg hm hv rfl hn hdb) fun _ => rfl
/-- {} that will change -/
def uDNew : UE := fun _ S Q _ => ∀ p, S p = none → Q (.ref p) (put S p (.dic [] []))
end
end KQ
namespace KQ
open PySem PySem.Spec PyProof.Rows L2 TL KB
section
variable {K : PySem.W.Frag} {X : Cx} {W : WX}
/-- o.f += e, o a cell, whole numbers -/
def uFldAug (K : PySem.W.Frag) (f : Str) (g : Int → Int → Int) (to te : UE) : US := fun D X ρ S => to ρ S (fun x S1 => ∃ a C fs xs i, x = .ref a ∧ S1 a = some (.ins C fs xs) ∧ ClsF K C f ∧ fget f fs xs = some (.int i) ∧ te ρ S1 (fun y S2 => ∃ fs2 xs2 j, vw S2 y = .int j ∧ S2 a = some (.ins C fs2 xs2) ∧ fs2.length < 1000 ∧ D.nx ρ (put S2 a (.ins C (fputN f fs2) (fputX f (.int (g i j)) fs2 xs2)))) (atR X ρ)) (atR X ρ)
/-! ### dict displays -/
def uPairs : List (UE × UE) → Rho → Sto → (List (Tr × Tr) → Sto → Prop) → QX → Prop
  | [], _, S, Q, _ => Q [] S
  | (a, b) :: r, ρ, S, Q, X => a ρ S (fun x S1 => b ρ S1 (fun y S2 => uPairs r ρ S2 (fun ps S3 => Q ((x, y) :: ps) S3) X) X) X
def keysOf : List (Tr × Tr) → Option (List Key)
  | [] => some []
  | (k, _) :: r => match keyT k, keysOf r with
    | some k, some ks => some (k :: ks)
    | _, _ => none
/-- a display that will change -/
def uDisp (trs : List (UE × UE)) : UE := fun ρ S Q X => uPairs trs ρ S (fun ps S2 => ∃ ks, keysOf ps = some ks ∧ ks.Nodup ∧ ks.length ≤ 15 ∧ ∀ p, S2 p = none → Q (.ref p) (put S2 p (.dic ks (ps.map (·.2))))) X
/-! ### lists of truths -/
def blsOf : List Tr → Option (List Bool)
  | [] => some []
  | .bl b :: r => (blsOf r).map (b :: ·)
  | _ => none
def gAll (f : List Bool → Bool) (xs : List Tr) (z : Tr) : Prop := match xs with
  | [.lst ys] => ∃ bs, blsOf ys = some bs ∧ z = .bl (f bs)
  | _ => False
/-! ### levels -/
theorem CalleeT.lift {P : Program} {w : World} {mg : Str → Option Value} {base : Heap} {j k : Nat} {x : Str} {ps : List Str} {t : TSp} (C : CalleeT P w K mg base j x ps t) (h : j ≤ k) : CalleeT P w K mg base k x ps t := by
  obtain ⟨⟨f, fd, g, kp, b, F, lk⟩, m⟩ := C
  exact ⟨⟨f, fd, g, kp, b, F.mono h, lk⟩, m⟩
theorem MthT.lift {P : Program} {w : World} {mg : Str → Option Value} {base : Heap} {j k : Nat} {C : Addr} {x : Str} {t : TSp} (M : MthT P w K mg base j C x t) (h : j ≤ k) : MthT P w K mg base k C x t := by
  obtain ⟨⟨f, fd, ps, a, b, F⟩, c, m⟩ := M
  exact ⟨⟨f, fd, ps, a, b, F.mono h⟩, c, m⟩
theorem NewT.lift {P : Program} {w : World} {mg : Str → Option Value} {base : Heap} {j k : Nat} {C : Addr} {x : Str} {t : TSp} (N : NewT P w K mg base j x C t) (h : j ≤ k) : NewT P w K mg base k x C t := by
  obtain ⟨⟨f, fd, ps, dts, tI, ds, dvs, a, b, c, d, e, F, r⟩, m⟩ := N
  exact ⟨⟨f, fd, ps, dts, tI, ds, dvs, a, b, c, d, e, F.mono h, r⟩, m⟩
end
end KQ
namespace KQ
open PySem PySem.Spec PyProof.Rows L2 TL KB
/-! ### the rules that speak of the frame's part, with that part named -/
section
variable {X : Cx} {W : WX} {K : PySem.W.Frag} {e o : Expr} {te to : UE} {f : Str} {pos p' : Pos}
theorem e_fldK (hk : X.K = K) (he : TPE X W e te) (hb : attributeBase e f X.env (eval e X.env) = eval e X.env) : TPE X W (.Attribute e f pos) (uFld K f te) := by
  subst hk; exact e_fld he hb
theorem s_fldK (hk : X.K = K) (ho : TPE X W o to) (he : TPE X W e te) (hs : swapsWith e (some (.Attribute o f p')) pos.line X.env = pure false) : TPS X W (.Assign [.Attribute o f p'] e pos) (uSFld K f to te) := by
  subst hk; exact s_fld ho he hs
/-- isinstance(x, c), c a class of the program -/
def uIsi1 (K : PySem.W.Frag) (u : Value) (te : UE) : UE := fun ρ S Q X => te ρ S (fun x S1 => ∃ t b, tyT K (vw S1 x) t ∧ PySem.W.kitOne K t u = some b ∧ Q (.bl b) S1) X
theorem e_isi1K {c : Expr} {v1 : V} {u : Value} {p : Pos} (hk : X.K = K) (hg : Gl X "isinstance") (hm : X.mg "isinstance" = none) (he : TPE X W e te) (hc : PE X c (tC v1)) (h1 : ClsV v1 u)
    (s3 : starEach (e :: [c]) X.env = (false, eval e X.env) :: starEach [c] X.env := by rfl) (s4 : starEach [c] X.env = (false, eval c X.env) :: starEach [] X.env := by rfl)
    (hpl : (backTo pos (starEach [c] X.env)).any (·.1) = false := by rfl) : TPE X W (.Call (.Name "isinstance" p) [e, c] [] pos) (uIsi1 K u te) := by
  subst hk
  exact ⟨wkE (pe_callB call_isi hg hm boot_isinstance (pa_cons he.pe (pa_cons hc pa_nil s4) s3) (he := s3) (hpl := hpl)) fun σ H R ⟨L, F, S, I, ρ, hd, sl, h⟩ =>
    lE_then he.mono hd sl h (fun _ _ _ _ h => h) fun x S1 v H1 I1 ⟨t, b, h3, h4, q⟩ hd1 s1 sl1 r => ⟨v, v1, t, u, b, rfl, h1, tyT_ty hd1 r h3, h4, q _ _ _ hd1 s1 rfl⟩,
    fun ρ S Q Q' X X' hQ hX h => he.mono _ _ _ _ _ _ (fun x S1 ⟨t, b, h3, h4, q⟩ => ⟨t, b, h3, h4, hQ _ _ q⟩) hX h⟩
end
/-! ### operators of a class's own -/
/-- x op y, both of one class -/
def uOBin (ms : Addr → TSp → Prop) (ta tb : UE) : UE := fun ρ S Q X => ta ρ S (fun x S1 => tb ρ S1 (fun y S2 => ∃ C fs xs gs zs t, vw S2 x = .ins C fs xs ∧ vw S2 y = .ins C gs zs ∧ ms C t ∧ t [x, y] S2 Q X) X) X
/-- x[y], x of a class with a __getitem__ -/
def uOIx (ms : Addr → TSp → Prop) (ta tb : UE) : UE := fun ρ S Q X => ta ρ S (fun x S1 => tb ρ S1 (fun y S2 => ∃ C fs xs t, vw S2 x = .ins C fs xs ∧ ms C t ∧ t [x, y] S2 Q X) X) X
section
variable {X : Cx} {W : WX} {k : Nat} {ms : Addr → TSp → Prop} {a b : Expr} {ta tb : UE} {pos : Pos}
end
section
variable {X : Cx} {W : WX} {k : Nat} {ms : Addr → TSp → Prop} {a b : Expr} {ta tb : UE} {pos : Pos}
end
/-- x in y, x not in y (n), y of a class with a __contains__ that answers True or False -/
def uOIn (n : Bool) (ms : Addr → TSp → Prop) (ta tb : UE) : UE := fun ρ S Q X => ta ρ S (fun x S1 => tb ρ S1 (fun y S2 => ∃ C fs xs t, vw S2 y = .ins C fs xs ∧ ms C t ∧ t [y, x] S2 (fun z S3 => ∃ b, z = .bl b ∧ Q (.bl (n ^^ b)) S3) X) X) X
section
variable {X : Cx} {W : WX} {k : Nat} {ms : Addr → TSp → Prop} {a b : Expr} {ta tb : UE} {pos : Pos}
end
/-- len(x), x of a class with a __len__ -/
def uOLen (ms : Addr → TSp → Prop) (ta : UE) : UE := fun ρ S Q X => ta ρ S (fun x S1 => ∃ C fs xs t, vw S1 x = .ins C fs xs ∧ ms C t ∧ t [x] S1 (fun z S2 => ∃ n : Int, z = .int n ∧ 0 ≤ n ∧ n < 9223372036854775808 ∧ Q (.int n) S2) X) X
end KQ
namespace KQ
open PySem PySem.Spec PyProof.Rows L2 TL KB
/-! ### try with clauses that have a name or none -/
abbrev Sut := Addr → Value → Option Addr → TS
inductive HdM (X : Cx) : List ExceptHandler → List (Value × Option Nat × Sut) → Prop
  | nil : HdM X [] []
  | only {x : Str} {c : Value} {u : Sut} {b : Stmt} {bs : List Stmt} {p1 p2 : Pos} {hs : List ExceptHandler} {l : List (Value × Option Nat × Sut)} (nm : Names X x c)
      (su : ∀ (e : Addr) (o : Obj) (k : Value) (d : Option Addr) (pn : List (Addr × Obj)), L2N.Zn k d o → (∃ fs, o.data = .fields fs) → PSs (X.suite e ((e, o) :: pn)) (b :: bs) (u e k d)) (r : HdM X hs l) :
      HdM X (.ExceptHandler (some (.Name x p1)) none (b :: bs) p2 :: hs) ((c, none, u) :: l)
  | named {x n : Str} {i : Nat} {c : Value} {u : Sut} {b : Stmt} {bs : List Stmt} {p1 p2 : Pos} {hs : List ExceptHandler} {l : List (Value × Option Nat × Sut)} (nd : X.N.Nodup) (at_ : X.N[i]? = some n) (lc : X.env.kindOf n = some .local) (nm : Names X x c)
      (su : ∀ (e : Addr) (o : Obj) (k : Value) (d : Option Addr) (pn : List (Addr × Obj)), L2N.Zn k d o → (∃ fs, o.data = .fields fs) → PSs (X.suite e ((e, o) :: pn)) (b :: bs) (u e k d)) (r : HdM X hs l) :
      HdM X (.ExceptHandler (some (.Name x p1)) (some n) (b :: bs) p2 :: hs) ((c, some i, u) :: l)
/-! ### the same over trees -/
def XS0 : XS := fun _ _ _ _ _ => False
/-- what a suite reads, by the exception, its dict, its class -/
abbrev SuU := Addr → Addr → Value → US
def clrU (i : Nat) (D : UEnds) : UEnds := { nx := fun ρ S => D.nx (ρ.set i none) S, rt := D.rt, bk := fun ρ S => D.bk (ρ.set i none) S, ct := fun ρ S => D.ct (ρ.set i none) S }
/-- what the clauses wish of an exception -/
def hX (K : PySem.W.Frag) (D : UEnds) (X : XS) : List (Value × Option Nat × SuU) → XS
  | [] => X
  | (c, none, u) :: r => fun k fs xs ρ S => ∃ y, PySem.W.exmOne K k c = some y ∧ (y = true → ∀ e d, u e d k D XS0 ρ S) ∧ (y = false → hX K D X r k fs xs ρ S)
  | (c, some i, u) :: r => fun k fs xs ρ S => ∃ y, PySem.W.exmOne K k c = some y ∧ (y = true → ∀ e d, u e d k (clrU i D) XS0 (ρ.set i (some (.exc e d k fs xs))) S) ∧ (y = false → hX K D X r k fs xs ρ S)
def uTry (K : PySem.W.Frag) (tb : US) (l : List (Value × Option Nat × SuU)) : US := fun D X ρ S => tb D (hX K D X l) ρ S
inductive HdT (X : Cx) : List ExceptHandler → List (Value × Option Nat × SuU) → Prop
  | nil : HdT X [] []
  | only {x : Str} {c : Value} {u : SuU} {b : Stmt} {bs : List Stmt} {p1 p2 : Pos} {hs : List ExceptHandler} {l : List (Value × Option Nat × SuU)} (nm : Names X x c)
      (su : ∀ (e d : Addr) (o : Obj) (k : Value) (pn : List (Addr × Obj)), L2N.Zn k (some d) o → (∃ fs, o.data = .fields fs) → TPSs (X.suite e ((e, o) :: pn)) W0 (b :: bs) (u e d k)) (r : HdT X hs l) :
      HdT X (.ExceptHandler (some (.Name x p1)) none (b :: bs) p2 :: hs) ((c, none, u) :: l)
  | named {x n : Str} {i : Nat} {c : Value} {u : SuU} {b : Stmt} {bs : List Stmt} {p1 p2 : Pos} {hs : List ExceptHandler} {l : List (Value × Option Nat × SuU)} (nd : X.N.Nodup) (at_ : X.N[i]? = some n) (lc : X.env.kindOf n = some .local) (nm : Names X x c)
      (su : ∀ (e d : Addr) (o : Obj) (k : Value) (pn : List (Addr × Obj)), L2N.Zn k (some d) o → (∃ fs, o.data = .fields fs) → TPSs (X.suite e ((e, o) :: pn)) W0 (b :: bs) (u e d k)) (r : HdT X hs l) :
      HdT X (.ExceptHandler (some (.Name x p1)) (some n) (b :: bs) p2 :: hs) ((c, some i, u) :: l)
def lowS (K : PySem.W.Frag) (u : SuU) : Sut := fun e k d D σ H => ∃ dd, d = some dd ∧ lS K W0 (u e dd k) D σ H
def liftH (K : PySem.W.Frag) : List (Value × Option Nat × SuU) → List (Value × Option Nat × Sut)
  | [] => []
  | (c, i, u) :: r => (c, i, lowS K u) :: liftH K r
theorem lowS_ok {X : Cx} {u : SuU} {sts : List Stmt} {e : Addr} {o : Obj} {k : Value} {d : Option Addr} {pn : List (Addr × Obj)} (su : ∀ d, L2N.Zn k (some d) o → TPSs (X.suite e ((e, o) :: pn)) W0 sts (u e d k)) (z : L2N.Zn k d o) : PSs (X.suite e ((e, o) :: pn)) sts (lowS X.K u e k d) :=
  ⟨fun pins s σ H D I ⟨dd, ed, q⟩ => by subst ed; exact (su dd z).pe.run pins s σ H D I q⟩
theorem HdT.low {X : Cx} {hs : List ExceptHandler} {l : List (Value × Option Nat × SuU)} (h : HdT X hs l) : HdM X hs (liftH X.K l) := by
  induction h with
  | nil => exact .nil
  | only nm su r ih => exact .only nm (fun e o k d pn z f => lowS_ok (fun dd z => su e dd o k pn z f) z) ih
  | named nd at_ lc nm su r ih => exact .named nd at_ lc nm (fun e o k d pn z f => lowS_ok (fun dd z => su e dd o k pn z f) z) ih
inductive MonoH : List (Value × Option Nat × SuU) → Prop
  | nil : MonoH []
  | cons {c : Value} {i : Option Nat} {u : SuU} {r : List (Value × Option Nat × SuU)} (m : ∀ e d k, MonoS (u e d k)) (h : MonoH r) : MonoH ((c, i, u) :: r)
theorem HdT.mono {X : Cx} {hs : List ExceptHandler} {l : List (Value × Option Nat × SuU)} (h : HdT X hs l) : MonoH l := by
  induction h with
  | nil => exact .nil
  | only nm su r ih => exact .cons (fun e d k => (su e d ⟨k, some d, .fields #[.none, .none, .none], #[]⟩ k [] ⟨rfl, rfl, fun vs e => by cases e; rfl⟩ ⟨_, rfl⟩).mono) ih
  | named nd at_ lc nm su r ih => exact .cons (fun e d k => (su e d ⟨k, some d, .fields #[.none, .none, .none], #[]⟩ k [] ⟨rfl, rfl, fun vs e => by cases e; rfl⟩ ⟨_, rfl⟩).mono) ih
/-! ### e.f and isinstance(e, C) in a suite -/
/-- e.f, e what the suite holds -/
def uXf (K : PySem.W.Frag) (e d : Addr) (k : Value) (f : Str) (te : UE) : UE := fun ρ S Q X => te ρ S (fun x S1 => ∃ C fs xs y, x = .exc e d k fs xs ∧ k = .ref C ∧ ExcC K C ∧ PySem.W.findIn K (.ref C) f = some none ∧ fget f fs xs = some y ∧ Q y S1) X
def uIsE (K : PySem.W.Frag) (e d : Addr) (k u : Value) (te : UE) : UE := fun ρ S Q X => te ρ S (fun x S1 => ∃ C fs xs b, x = .exc e d k fs xs ∧ k = .ref C ∧ ExcC K C ∧ PySem.W.kitOne K (.ref C) u = some b ∧ Q (.bl b) S1) X
section
variable {X : Cx} {K : PySem.W.Frag} {e d : Addr} {o : Obj} {k : Value} {pn : List (Addr × Obj)} {a : Expr} {te : UE} {f : Str} {pos : Pos}
end
/-! ### raise C(e, ..), C a class of the program -/
/-- what C's own __init__ keeps, C's fields as its parameters stand -/
def spX (C : Addr) (fs : List Str) : Sp := fun vs H Q _ => ∃ (a : Addr) (ws : List V), vs = .ref a :: ws ∧ ws.length = fs.length ∧ H a = some (exo a C none) ∧ ∀ d, H d = none → d ≠ a → Q .non (upd (upd H d (exd d (fs.zip ws))) a (exo a C (some d)))
structure ExcT (P : Program) (w : World) (K : PySem.W.Frag) (mg : Str → Option Value) (base : Heap) (k : Nat) (x : Str) (C : Addr) (fs : List Str) : Prop where
  ex : ∃ (CX : CXT) (f : Addr) (fd : FuncData) (ps : List Str), OexC K C ∧ mg x = some (.ref C) ∧ PySem.W.findIn K (.ref C) "__init__" = some (some (.ref f)) ∧ PySem.W.typeIn K (.ref f) = some (.type "function") ∧ Binds K fd ps [] ∧ FnOk P w K mg base CX k f fd ps (spX C fs) ∧ (∀ X : Cx, Passes CX X (fun _ _ _ => False))
  few : fs.length ≤ 1000
def uRaise (C : Addr) (fs : List Str) (ta : UA) : US := fun D X ρ S => ta ρ S (fun xs S1 => xs.length = fs.length ∧ X (.ref C) fs xs ρ S1) (atR X ρ)
theorem upd_made {H : Hp} {a d : Addr} {o1 o2 u x : HO} (na : H a = none) (nda : d ≠ a) : upd (del (upd (upd (upd H a o1) d u) a o2) a) d x = upd H d x := by
  funext b
  by_cases h : b = d
  · subst h; rw [upd_same, upd_same]
  · rw [upd_ne h, upd_ne h]
    by_cases h2 : b = a
    · subst h2; rw [del_same, na]
    · rw [del_ne h2, upd_ne h2, upd_ne h, upd_ne h2]
/-- C(e, ..) of an own exception class: its context is None -/
theorem pmk_oexN {X : Cx} {e : Expr} {es : List Expr} {ta : TA} {pos p : Pos} {CX : CXT} {x : Str} {C fI : Addr} {k : Nat} {fd : FuncData} {ps : List Str} {sp : Sp} {ds : List Value} {dvs : List V} (T : OexC X.K C) (iC : PySem.W.findIn X.K (.ref C) "__init__" = some (some (.ref fI))) (tI : PySem.W.typeIn X.K (.ref fI) = some (.type "function"))
    (F1 : FnOk X.prog X.w X.K X.mg X.base CX k fI fd ps sp) (hr : Room (k + 1) X.A) (hb : Binds X.K fd ps ds) (hd : Vals dvs ds) (hx : Passes CX X (fun _ _ _ => False)) (hg : Gl X x) (hm : X.mg x = some (.ref C)) (ha : PA X (e :: es) ta)
    (hdb : (x == ("__debug__" : Str)) = false := by decide) (he : starEach (e :: es) X.env = (false, eval e X.env) :: starEach es X.env := by rfl) (hpl : (backTo pos (starEach es X.env)).any (·.1) = false := by rfl) :
    L2N.PMk X (.Call (.Name x p) (e :: es) [] pos) (tMkO C sp dvs ta) := by
  intro pins s σ H Q I h
  obtain ⟨nm, q, N, bs, bm, sn, sub, ab, col, dd, k0, k1, k2, k3, k5, hC, hbm⟩ := T.cls
  refine wpAny_Call_Name_kw (ld_glob I hg hm ?_ hdb)
  refine PySem.W.callWith_K (h₀ := X.base) I.ok.mod.kin T.kC (thn (ha.run pos pins s σ H _ I h) fun us s1 ⟨vs, H1, I1, r1, hz, q1⟩ => ⟨I1.kIn, ?_⟩) he hpl
  show wpAny _ _ (call (.ref C) us) _ _ _
  obtain ⟨hp, g, dr, tk, os⟩ := s1
  have hsz : hp.objs.size ≤ hp.objs.size + 1 := Nat.le_succ _
  have hn : H1 (hp.objs.size + 1) = none := I1.hok.fresh hsz
  have hq := q1 (hp.objs.size + 1) hn
  have kk : ∀ b o, hp.get? b = some o → ((hp.push (PySem.W.kdv_tup us)).push (PySem.HandSPX.excO C hp.objs.size)).get? b = some o := fun b o e => Heap.get?_push_of_some _ (Heap.get?_push_of_some _ e)
  have hget : ((hp.push (PySem.W.kdv_tup us)).push (PySem.HandSPX.excO C hp.objs.size)).get? (hp.objs.size + 1) = some (PySem.HandSPX.excO C hp.objs.size) := by heap_get
  have I2 : Inv X pins σ (upd H1 (hp.objs.size + 1) (exo (hp.objs.size + 1) C none)) ⟨(hp.push (PySem.W.kdv_tup us)).push (PySem.HandSPX.excO C hp.objs.size), g, dr, tk, os⟩ :=
    I1.laid (t' := tk) (a := hp.objs.size + 1) (o := exo (hp.objs.size + 1) C none) (h' := (hp.push (PySem.W.kdv_tup us)).push (PySem.HandSPX.excO C hp.objs.size)) kk hsz (exo_ok hget)
  have r2 : Vals (V.ref (hp.objs.size + 1) :: (vs ++ dvs)) (Value.ref (hp.objs.size + 1) :: (us ++ ds)) := .cons rfl (r1.append hd)
  have hl : (Value.ref (hp.objs.size + 1) :: us ++ ds).length = ps.length := by
    have e := r2.length
    rw [F1.len _ _ _ _ hq] at e
    exact e.symm
  have hus : us.length ≤ sizeLine := by
    rw [← Paired.length r1, sizeLine_eq]
    omega
  refine wpAny_call (PySem.HandSPX.call_own F.excBase_ValueError (fun Y => PySem.HandSPX.refsVE_contains Y bm hbm) (I1.kIn _ _ hC) (PySem.W.looks_findIn I1.kIn iC) (fun self => PySem.W.bind_fn I1.kIn self tI) hus
    (codeAny_mono (F1.run _ X.stack _ _ ⟨Value.ref (hp.objs.size + 1) :: us, []⟩ (Value.ref (hp.objs.size + 1) :: (us ++ ds)) _ _ (fun _ _ _ => False) (hr.make C us []) (I2.env0.make C us []) (hb _ (Value.ref (hp.objs.size + 1) :: us) I2.kIn hl) r2 hq) fun r s' hq' => ?_))
  cases r with
  | error er => exact hx pins σ _ _ er s' I2 hq'
  | ok fl =>
    cases fl with
    | ret u =>
      obtain ⟨v, H2, os2, bare2, un2, hok2, rv, ev, d, fs, ea, ed, hd1, q2⟩ := hq'
      subst ev
      obtain ⟨h2, g2, d2, t2, os'⟩ := s'
      obtain ⟨t0, G, J, kG, ge, hoe, na⟩ := mk_end0 (d2 := d2) (t2 := t2) I1 hsz kk un2 hok2 os2 bare2 ea ed hd1
      exact ⟨rv, _, _, _, ⟨G, g2, d2, t2, os'⟩, _, .ref C, some d, rfl, J, kG, ge, hoe, ⟨rfl, rfl, fun vs e => by cases e; rfl⟩, rfl, rfl, na, rfl, bare2, raises_own T.exC T.tyC, q2⟩
    | next => exact False.elim hq'
    | brk => exact False.elim hq'
    | cont => exact False.elim hq'
theorem s_raise {X : Cx} {W : WX} {k : Nat} {x : Str} {C : Addr} {fs : List Str} {e : Expr} {es : List Expr} {ta : UA} {p pos1 pos : Pos} (E : ExcT X.prog X.w X.K X.mg X.base k x C fs) (hc : X.calm = true) (hr : Room (k + 1) X.A) (hg : Gl X x) (tk : L2N.Takes X W) (ha : TPA X W (e :: es) ta)
    (hdb : (x == ("__debug__" : Str)) = false := by decide) (he : starEach (e :: es) X.env = (false, eval e X.env) :: starEach es X.env := by rfl) (hpl : (backTo pos1 (starEach es X.env)).any (·.1) = false := by rfl) :
    TPS X W (.Raise (some (.Call (.Name x p) (e :: es) [] pos1)) none pos) (uRaise C fs ta) := by
  obtain ⟨⟨CX, f, fd, ps, T, hm, h1, h2, b, Fn, px⟩, few⟩ := E
  refine ⟨wkS (L2N.ps_raise hc tk (pmk_oexN T h1 h2 Fn hr b .nil (px X) hg hm ha.pe hdb he hpl)) fun D σ H ⟨L, F, S, I, ρ, hd, sl, h⟩ => ?_, fun D D' X1 X2 ρ S hD hXX h => ha.mono _ _ _ _ _ _ (fun xs S1 q => ⟨q.1, hXX _ _ _ _ _ q.2⟩) (fun c gs ys S1 q => hXX _ _ _ _ _ q) h⟩
  refine lA_then ha.mono hd sl h (dnXS_at sl) fun ys S1 vs H1 I1 ⟨len, q⟩ hd1 s1 sl1 r => ⟨by rw [r.len, len]; exact few, fun a na => ?_⟩
  refine ⟨a, vs, by rw [List.append_nil], by rw [r.len, len], upd_same, fun d nd nda => ⟨rfl, d, fs.zip vs, upd_same, by rw [upd_ne nda, upd_same], ?_, ?_⟩⟩
  · rw [upd_ne nda] at nd; exact nd
  · rw [upd_ne nda] at nd
    rw [upd_made na nda]
    exact q d σ _ I1 (hd1.un nd) s1 sl1 ⟨vs, upd_same, len.symm, r, hd1.freeI nd, hd1.freeS nd, hd1.freeF nd⟩
theorem exd_eq {d : Addr} {fs gs : List (Str × V)} (h : ∀ f, fs.lookup f = gs.lookup f) : exd d fs = exd d gs := by
  unfold exd
  congr 1
  funext hp
  simp only [h]
theorem upd_upd {H : Hp} {a : Addr} {o u : HO} : upd (upd H a o) a u = upd H a u := by
  funext b
  by_cases h : b = a
  · subst h; rw [upd_same, upd_same]
  · rw [upd_ne h, upd_ne h, upd_ne h]
theorem upd_comm {H : Hp} {a b : Addr} {o u : HO} (h : a ≠ b) : upd (upd H a o) b u = upd (upd H b u) a o := by
  funext c
  by_cases h1 : c = b
  · subst h1; rw [upd_same, upd_ne h.symm, upd_same]
  · rw [upd_ne h1]
    by_cases h2 : c = a
    · subst h2; rw [upd_same, upd_same]
    · rw [upd_ne h2, upd_ne h2, upd_ne h1]
/-- self.f = y, self.g = z, .. -/
def tInit (K : PySem.W.Frag) : Nat → List Str → TS
  | _, [] => fun D σ H => D.nx σ H
  | i, [f] => tOst K f (tVar 0) (tVar i)
  | i, f :: g :: r => tSeq (tOst K f (tVar 0) (tVar i)) (tInit K (i + 1) (g :: r))
theorem tInit_more {K : PySem.W.Frag} {C a d : Addr} {D : L2.Ends} {σ : L2.St} {v0 : V} (e0 : σ[0]? = some (some v0)) (ev : v0 = .ref a) (O : OexC K C) : ∀ (fs : List Str) (i : Nat) (ws : List V) (H : Hp) (us : List (Str × V)), fs ≠ [] → ws.length = fs.length → (∀ j w, ws[j]? = some w → σ[i + j]? = some (some w)) → (∀ f ∈ fs, PySem.W.findIn K (.ref C) f = some none) → us.length + fs.length ≤ 900 → H a = some (exo a C (some d)) → H d = some (exd d us) → d ≠ a →
    D.nx σ (upd H d (exd d ((fs.zip ws).reverse ++ us))) → tInit K i fs D σ H
  | [], _, _, _, _, n, _, _, _, _, _, _, _, _ => (n rfl).elim
  | [f], i, ws, H, us, _, l, g, no, fw, ha, hd, nda, q => by
    match ws, l with
    | [y], _ =>
      subst ev
      exact ⟨y, g 0 y rfl, .ref a, e0, a, C, rfl, O, no f (by simp), .inr ⟨d, us, ha, hd, by simp at fw; omega, q⟩⟩
  | f :: f2 :: r, i, ws, H, us, _, l, g, no, fw, ha, hd, nda, q => by
    match ws, l with
    | y :: ws, l =>
      refine ⟨y, g 0 y rfl, v0, e0, a, C, ev, O, no f (by simp), .inr ⟨d, us, ha, hd, by simp at fw; omega, ?_⟩⟩
      refine tInit_more e0 ev O (f2 :: r) (i + 1) ws _ ((f, y) :: us) (by simp) (by simpa using l) (fun j w h => by have := g (j + 1) w (by simpa using h); rwa [show i + (j + 1) = i + 1 + j by omega] at this) (fun x hx => no x (List.mem_cons_of_mem _ hx)) (by simp at fw ⊢; omega) (by rw [upd_ne nda.symm]; exact ha) upd_same nda ?_
      rw [upd_upd]
      have e : ((f2 :: r).zip ws).reverse ++ (f, y) :: us = ((f :: f2 :: r).zip (y :: ws)).reverse ++ us := by simp
      rw [e]; exact q
theorem zip_rev_lookup {fs : List Str} {ws : List V} (nd : fs.Nodup) (f : Str) : (fs.zip ws).reverse.lookup f = (fs.zip ws).lookup f := by
  induction fs generalizing ws with
  | nil => rfl
  | cons g r ih =>
    cases ws with
    | nil => rfl
    | cons w ws =>
      obtain ⟨h1, h2⟩ := List.nodup_cons.mp nd
      rw [List.zip_cons_cons, List.reverse_cons, List.lookup_append, ih h2]
      by_cases h : f = g
      · subst h
        have : (r.zip ws).lookup f = none := by
          rw [List.lookup_eq_none_iff]
          intro p hp
          have := List.of_mem_zip hp
          exact by
            rw [bne_iff_ne]
            intro z
            exact h1 (z ▸ this.1)
        rw [this]
        simp [List.lookup]
      · have : (f == g) = false := by simpa using h
        simp only [List.lookup, this]
        cases (r.zip ws).lookup f <;> rfl
/-- a class with `def __init__(self, y, ..): self.f = y; ..` -/
theorem DefM.excT {P : Program} {w : World} {K : PySem.W.Frag} {mg : Str → Option Value} {base : Heap} {C : Addr} {x qual : Str} {fs : List Str} {st : Stmt} {N ps : List Str} {k : Nat} (D : DefM K C "__init__" qual st []) (O : OexC K C) (g : mg x = some (.ref C)) (no : ∀ f ∈ fs, PySem.W.findIn K (.ref C) f = some none) (S : FnScope N ps (defScope st))
    (hb : ∀ (kV doc pm : Value) (an : Option Addr) (cdv ct : Value) (us : List Value), us.length = ps.length → bindArgs (PySem.W.fnOf "__init__" qual (defArgs st) (defBody st) (defScope st) .none kV doc pm an cdv ct) ⟨us, []⟩ = pure (ps.zip us)) (hl : ps.length = fs.length + 1) (nd : fs.Nodup) (h0 : fs ≠ []) (few : fs.length ≤ 100)
    (hN : ∀ (v : V) (us : List V), us.length = fs.length → ∀ (j : Nat) (u : V), (v :: us)[j]? = some u → (start N (v :: us))[j]? = some (some u))
    (body : ∀ (f : Addr) (cdv : Value) (A : Around) (outer : List Env) (s : Shared) (H : Hp) (E : XK), PSs (cxOf CX0 P w K mg base N qual (defScope st) f cdv A outer s H E).nox (defBody st) (tInit K 1 fs)) : ExcT P w K mg base (k + 1) x C fs := by
  obtain ⟨f, fd, F, h1, h2⟩ := D.ex
  refine ⟨⟨CX0, f, fd, ps, O, g, h1, beq_iff_eq.mp h2, F.bindsN hb, F.ok S (fun vs H Q E ⟨a, ws, e, l, _⟩ => by rw [e, hl]; exact congrArg (· + 1) l) fun cdv A outer s H vs Q E hr ⟨a, ws, e, l, ha, q⟩ => ⟨_, (body f cdv A outer s H E).nox, ?_⟩, fun X => pass0⟩, by omega⟩
  subst e
  have e0 : (start N (.ref a :: ws))[0]? = some (some (.ref a)) := hN _ ws l 0 _ rfl
  match fs, ws, l, h0 with
  | [f1], [y], _, _ => exact ⟨y, hN _ [y] rfl 1 y rfl, .ref a, e0, a, C, rfl, O, no f1 (by simp), .inl ⟨ha, fun d nd nda => q d nd nda⟩⟩
  | f1 :: f2 :: r, y :: ws, l, _ =>
    refine ⟨y, hN _ (y :: ws) l 1 y rfl, .ref a, e0, a, C, rfl, O, no f1 (by simp), .inl ⟨ha, fun d hd nda => ?_⟩⟩
    refine tInit_more (v0 := .ref a) e0 rfl O (f2 :: r) 2 ws _ [(f1, y)] (by simp) (by simpa using l) (fun j w h => hN _ (y :: ws) l (2 + j) w (by rw [show 2 + j = j + 1 + 1 by omega]; simpa using h)) (fun x hx => no x (List.mem_cons_of_mem _ hx)) (by simp at few ⊢; omega) upd_same (by rw [upd_ne nda, upd_same]) nda ?_
    have e : ((f2 :: r).zip ws).reverse ++ [(f1, y)] = ((f1 :: f2 :: r).zip (y :: ws)).reverse := by simp
    rw [e, upd_comm nda, upd_upd, upd_comm nda.symm, exd_eq (gs := (f1 :: f2 :: r).zip (y :: ws)) (zip_rev_lookup nd)]
    exact q d hd nda
theorem start_at {N : List Str} {vs : List V} {j : Nat} {u : V} (h : vs[j]? = some u) : (start N vs)[j]? = some (some u) := by
  unfold L2.start
  have hj : j < vs.length := (List.getElem?_eq_some_iff.mp h).1
  rw [List.getElem?_append_left (by simpa using hj), List.getElem?_map, h]
  rfl
theorem ExcT.lift {P : Program} {w : World} {K : PySem.W.Frag} {mg : Str → Option Value} {base : Heap} {j k : Nat} {x : Str} {C : Addr} {fs : List Str} (E : ExcT P w K mg base j x C fs) (h : j ≤ k) : ExcT P w K mg base k x C fs := by
  obtain ⟨⟨CX, f, fd, ps, T, hm, h1, h2, b, Fn, px⟩, few⟩ := E
  exact ⟨⟨CX, f, fd, ps, T, hm, h1, h2, b, Fn.mono h, px⟩, few⟩
/-- what is known of an exception class -/
structure XTop (mg : Str → Option Value) (x : Str) (C : Addr) : Prop where
  mg : mg x = some (.ref C)
end KQ
namespace KQ
open PySem PySem.Spec PyProof.Rows L2 TL KB
/-! ### calls with keywords -/
/-- constants as defaults -/
def cV : Tr → V
  | .bl b => .bl b
  | .int n => .int n
  | .str z => .str z
  | _ => .non
def kwV (kws : List (Str × Tr)) : List (Str × V) := kws.map fun q => (q.1, cV q.2)
/-- the parameters' values: of the written ones (0), the lacking ones (1), the keywords (2), by place -/
def pick {α : Type} (l : List (Nat × Nat)) (us mv ws : List α) : List α := l.filterMap fun p => if p.1 = 0 then us[p.2]? else if p.1 = 1 then mv[p.2]? else ws[p.2]?
theorem pick_0 {α : Type} {i : Nat} {l : List (Nat × Nat)} {us mv ws : List α} {x : α} (h : us[i]? = some x) : pick ((0, i) :: l) us mv ws = x :: pick l us mv ws := by
  unfold pick; rw [List.filterMap_cons]; simp only [if_true, h]
theorem pick_1 {α : Type} {i : Nat} {l : List (Nat × Nat)} {us mv ws : List α} {x : α} (h : mv[i]? = some x) : pick ((1, i) :: l) us mv ws = x :: pick l us mv ws := by
  unfold pick; rw [List.filterMap_cons]; simp [h]
theorem pick_2 {α : Type} {i : Nat} {l : List (Nat × Nat)} {us mv ws : List α} {x : α} (h : ws[i]? = some x) : pick ((2, i) :: l) us mv ws = x :: pick l us mv ws := by
  unfold pick; rw [List.filterMap_cons]; simp [h]
/-- a def with keyword-only parameters, as the top leaves it -/
structure DefK (K : PySem.W.Frag) (mg : Str → Option Value) (x : Str) (st : Stmt) (kws : List (Str × Tr)) : Prop where
  ex : ∃ (f : Addr) (fd : FuncData), FunD K x x (defArgs st) (defBody st) (defScope st) [] (kwV kws) f fd ∧ mg x = some (.ref f)
structure CalleeD (P : Program) (w : World) (K : PySem.W.Frag) (mg : Str → Option Value) (base : Heap) (k : Nat) (x : Str) (st : Stmt) (kws : List (Str × Tr)) (ps : List Str) (t : TSp) : Prop where
  ex : ∃ (f : Addr) (fd : FuncData), FunD K x x (defArgs st) (defBody st) (defScope st) [] (kwV kws) f fd ∧ mg x = some (.ref f) ∧ FnOk P w K mg base (L2N.CX P w) k f fd ps (lSp K t)
  mono : MonoSp t
section
variable {P : Program} {w : World} {K : PySem.W.Frag} {mg : Str → Option Value} {base : Heap} {x : Str} {st : Stmt} {kws : List (Str × Tr)} {ps : List Str} {t : TSp}
theorem CalleeD.lift {j k : Nat} (C : CalleeD P w K mg base j x st kws ps t) (h : j ≤ k) : CalleeD P w K mg base k x st kws ps t := by
  obtain ⟨⟨f, fd, F, g, O⟩, m⟩ := C
  exact ⟨⟨f, fd, F, g, O.mono h⟩, m⟩
theorem DefK.ok {N : List Str} {k : Nat} {us : US} (D : DefK K mg x st kws) (S : FnScope N ps (defScope st))
    (len : ∀ xs S Q X, t xs S Q X → xs.length = ps.length) (mono : MonoSp t) (body : BodyT P w K mg base k x st N us)
    (h : ∀ xs S Q X, Closed Q → ClosedX X → t xs S Q X → us (endU Q) (endX X) (startT N xs) S) : CalleeD P w K mg base (k + 1) x st kws ps t := by
  obtain ⟨f, fd, F, g⟩ := D.ex
  exact ⟨⟨f, fd, F, g, fnD_ok F S len body h⟩, mono⟩
end
section
variable {X : Cx} {W : WX} {e : Expr} {es : List Expr} {te : UE} {ta tk : UA} {nm : Option Str} {kpos p pos : Pos} {kl : List Keyword}
abbrev Pks := List (Nat × Nat)
def uCallK (n m : Nat) (l : Pks) (ms : List Tr) (tsp : TSp) (ta tk : UA) : UE := fun ρ S Q X => ta ρ S (fun xs S1 => tk ρ S1 (fun zs S2 => xs.length = n ∧ zs.length = m ∧ tsp (pick l xs ms zs) S2 Q X) X) X
end
end KQ
namespace KQ
open PySem PySem.Spec PyProof.Rows L2 TL KB ClX
/-! ### plain defs called by names -/
section
variable {X : Cx} {W : WX} {e : Expr} {es : List Expr} {te : UE} {ta tk : UA} {nm : Option Str} {kpos p pos : Pos} {kl : List Keyword}
end
/-! ### a constant of a class: C.f -/
def uCv (C : Addr) (t : Tr) (te : UE) : UE := fun ρ S Q X => te ρ S (fun x S1 => x = .ref C ∧ Q t S1) X
/-! ### strip -/
def gStrip (x : Tr) (ys : List Tr) (z : Tr) : Prop := match x, ys with
  | .str a, [] => a.length ≤ sizeLine ∧ z = .str (Txt.strip a)
  | _, _ => False
/-! ### upper -/
def gUpper (x : Tr) (ys : List Tr) (z : Tr) : Prop := match x, ys with
  | .str a, [] => a.length ≤ 5592405 ∧ z = .str (Txt.upper a)
  | _, _ => False
/-! ### a list repeated -/
def gRep (x y z : Tr) : Prop := match x, y with
  | .lst xs, .int k => -(2 ^ 63) ≤ k ∧ k < 2 ^ 63 ∧ xs.length * k.toNat ≤ sizeLine ∧ z = .lst (List.replicate k.toNat xs).flatten
  | _, _ => False
/-! ### x, y, .. = a list -/
def uAsgL (ps : List Pat) (te : UE) : US := fun D X ρ S => te ρ S (fun x S1 => ∃ xs, asL (vw S1 x) = some xs ∧ ∃ ρ2, patsR ps xs ρ = some ρ2 ∧ D.nx ρ2 S1) (atR X ρ)
/-! ### x, y, z = e1, e2, e3 -/
def uPar3 (i j l : Nat) (ta : UA) : US := fun D X ρ S => ta ρ S (fun xs S1 => ∃ x y z, xs = [x, y, z] ∧ D.nx (((ρ.set i (some x)).set j (some y)).set l (some z)) S1) (atR X ρ)
end KQ
namespace KQ
open PySem PySem.Spec PyProof.Rows L2 TL KB
/-! ### a list comprehension whose step may raise (the hand layer has none) -/
section
variable {M : Model} {A : Around} {E : Value → Shared → Prop} {s : Shared} {env : Env}
end
section
variable {M : Model} {A : Around} {E : Value → Shared → Prop} {s : Shared} {Z : Obj → Prop} {base : Heap} {env : Env} {outer l : List Env} {L e : Addr}
end
section
variable {X : Cx} {pins : List (Addr × Obj)} {σ : L2.St} {H : Hp}
end
section
variable {X : Cx}
end
section
variable {X : Cx}
end
/-! ### the same over trees -/
def uLcXL (ok : Sto → Prop) (p : Pat) (tt : UT) (te : UE) (ρ : Rho) (Q : QV) (X : QX) : List Tr → List Tr → Sto → Prop
  | [], acc, S => ok S ∧ Q (.lst acc) S
  | x :: xs, acc, S => ok S ∧ ∃ ρ2, patR p x ρ = some ρ2 ∧ tt ρ2 S (fun b S3 => if b = true then te ρ2 S3 (fun y S4 => acc.length < sizeLine ∧ uLcXL ok p tt te ρ Q X xs (acc ++ [y]) S4) X else uLcXL ok p tt te ρ Q X xs acc S3) X0
def uLcX (ui : UI) (p : Pat) (tt : UT) (te : UE) (vs : List Nat) : UE := fun ρ S Q X => ui ρ S (fun wk S1 => uLcXL wk.ok p tt te (wipeR ρ vs) Q X wk.xs [] S1) X
section
variable {X : Cx} {W : WX}
end
end KQ
namespace KQ
open PySem PySem.Spec PyProof.Rows L2 TL KB
/-! ### classes whose __init__ has keyword-only parameters: C(k = v, ..) -/
structure NewD (P : Program) (w : World) (K : PySem.W.Frag) (mg : Str → Option Value) (base : Heap) (k : Nat) (x : Str) (C : Addr) (qual : Str) (st : Stmt) (kws : List (Str × Tr)) (ps : List Str) (t : TSp) : Prop where
  ex : ∃ (f : Addr) (fd : FuncData) (tI : TSp), Mk K C f ∧ mg x = some (.ref C) ∧ FunD K "__init__" qual (defArgs st) (defBody st) (defScope st) [] (kwV kws) f fd ∧ FnOk P w K mg base (L2N.CX P w) k f fd ps (lSp K tI) ∧ MonoSp tI ∧
    ∀ xs S Q X, Closed Q → ClosedX X → t xs S Q X → ∀ a, S a = none → tI (.ref a :: xs) (put S a (.ins C [] [])) (fun v S2 => v = .non ∧ Q (.ref a) S2) X
  mono : MonoSp t
section
variable {P : Program} {w : World} {K : PySem.W.Frag} {mg : Str → Option Value} {base : Heap} {x qual : Str} {C : Addr} {st : Stmt} {kws : List (Str × Tr)} {ps : List Str} {t : TSp}
theorem NewD.lift {j k : Nat} (N : NewD P w K mg base j x C qual st kws ps t) (h : j ≤ k) : NewD P w K mg base k x C qual st kws ps t := by
  obtain ⟨⟨f, fd, tI, M, g, F, O, mI, q⟩, m⟩ := N
  exact ⟨⟨f, fd, tI, M, g, F, O.mono h, mI, q⟩, m⟩
end
def uNewK (m : Nat) (l : Pks) (ms : List Tr) (tsp : TSp) (tk : UA) : UE := fun ρ S Q X => tk ρ S (fun zs S2 => zs.length = m ∧ tsp (pick l [] ms zs) S2 Q X) X
section
variable {X : Cx} {W : WX} {k : Nat} {x qual : Str} {C : Addr} {st : Stmt} {kws : List (Str × Tr)} {ps ks : List Str} {ms : List (Str × Tr)} {l : Pks} {t : TSp} {kl : List Keyword} {tk : UA} {p pos : Pos}
end
end KQ
namespace KQ
open PySem PySem.Spec PyProof.Rows L2 TL KB
/-! ### == and != by an own __eq__ -/
section
variable {prog : Program} {w : World} {A : Around} {E : Value → Shared → Prop} {s : Shared} {K : PySem.W.Frag} {x C L f : Addr} {h₀ : Heap} {m : Str → Option Value} {ox : Obj} {od : Option Obj} {b tb : Value}
end
/-- x == y, x != y (n), x of a class with an own __eq__ that answers True or False -/
def uOEq (K : PySem.W.Frag) (n : Bool) (ms : Addr → TSp → Prop) (ta tb : UE) : UE := fun ρ S Q X => ta ρ S (fun x S1 => tb ρ S1 (fun y S2 => ∃ C fs xs t u, vw S2 x = .ins C fs xs ∧ ms C t ∧ tyT K (vw S2 y) u ∧ PySem.W.notFirst K C u = true ∧ t [x, y] S2 (fun z S3 => ∃ b, z = .bl b ∧ Q (.bl (n ^^ b)) S3) X) X) X
section
variable {X : Cx} {W : WX} {k : Nat} {ms : Addr → TSp → Prop} {a b : Expr} {ta tb : UE} {pos : Pos} {K : PySem.W.Frag}
end
end KQ
namespace KQ
open PySem PySem.Spec PyProof.Rows L2 TL KB
/-! ### str(None), str(True), list(a dict), x[::-1], list(x) that will change -/
section
variable {X : Cx} {W : WX} {K : PySem.W.Frag}
def rStr4 : List V → Hp → VK → Prop := fun vs H Q => KB.rStrA vs H Q ∨ (∃ b, vs = [.bl b] ∧ Q (.str (if b then Str.ofString "True" else Str.ofString "False")) H) ∨ (vs = [.non] ∧ Q (.str "None") H)
theorem str4 : CallR X (.type "str") rStr4 := by
  intro pins s σ H xs us Q I r h
  rcases h with h | ⟨b, rfl, q⟩ | ⟨rfl, q⟩
  · exact KB.str_any pins s σ H xs us Q I r h
  · obtain ⟨u, rfl, r1⟩ := vals1 r
    cases r1
    exact PySem.P.str_of_bool ⟨.str _, H, I.tok _, ⟨_, rfl⟩, q⟩
  · obtain ⟨u, rfl, r1⟩ := vals1 r
    cases r1
    exact PySem.P.str_of_none ⟨.str _, H, I.tok _, ⟨_, rfl⟩, q⟩
def gStr4 (xs : List Tr) (z : Tr) : Prop := match xs with
  | [.int i] => i.natAbs.log2 < 1920 ∧ z = .str (Str.ofString (toString i))
  | [.str a] => z = .str a
  | [.bl b] => z = .str (if b then Str.ofString "True" else Str.ofString "False")
  | [.non] => z = .str "None"
  | _ => False
theorem c_str4 : CallT K rStr4 gStr4 := by
  intro L F H S I xs z vs R hd r hg k
  unfold gStr4 at hg
  split at hg
  · rename_i i e0
    obtain ⟨x, rfl, e⟩ := map1 e0
    obtain ⟨v, rfl, r1⟩ := RepL.one r
    cases vw_eq_int hd r1 e
    obtain ⟨c, rfl⟩ := hg
    exact .inl (.inl ⟨i, rfl, c, k _ H I hd (Same.refl _) rfl⟩)
  · rename_i i e0
    obtain ⟨x, rfl, e⟩ := map1 e0
    obtain ⟨v, rfl, r1⟩ := RepL.one r
    cases vw_eq_str hd r1 e
    subst hg
    exact .inl (.inr ⟨i, rfl, k _ H I hd (Same.refl _) rfl⟩)
  · rename_i i e0
    obtain ⟨x, rfl, e⟩ := map1 e0
    obtain ⟨v, rfl, r1⟩ := RepL.one r
    cases vw_eq_bl hd r1 e
    subst hg
    exact .inr (.inl ⟨i, rfl, k _ H I hd (Same.refl _) rfl⟩)
  · rename_i e0
    obtain ⟨x, rfl, e⟩ := map1 e0
    obtain ⟨v, rfl, r1⟩ := RepL.one r
    cases vw_eq_non hd r1 e
    subst hg
    exact .inr (.inr ⟨rfl, k _ H I hd (Same.refl _) rfl⟩)
  · exact hg.elim
theorem call_list_rd (hc : X.calm = true) : CallR X (.type "list") (fun xs H Q => ∃ p kvs, xs = [.ref p] ∧ Rd H p (.dK kvs) ∧ ∀ q, H q = none → Q (.ref q) (upd H q (.lst (kvs.map fun kv => kV kv.1)))) := by
  intro pins s σ H xs us Q I r h
  obtain ⟨p, kvs, e, hk, q⟩ := h
  subst e
  obtain ⟨u, eu, rx⟩ := vals1 r
  subst eu
  obtain rfl : u = Value.ref p := rx
  have ok : ObjOk X.prog X.w H s.heap p (.dK kvs) := by
    rcases hk with hk | ⟨od, hk⟩
    · exact I.hok p _ hk
    · exact (I.hok p _ hk).2
  obtain ⟨z, lo, vs, rk, hd⟩ := ok
  obtain ⟨ep, hat⟩ := hd.dictAt
  have hl : kvs.length = vs.length := Paired.length rk
  refine PySem.W.kdl_call (PySem.W.kdl_dict (knd := mixKind X.prog X.w) (kvs := vs) (ep := ep) lo) (I.ok.hd hc) hat (by rw [← hl]; exact z) fun h' tk acc' c' hkeep hS hacc => ?_
  refine ⟨.ref s.heap.objs.size, upd H s.heap.objs.size (.lst (kvs.map fun kv => kV kv.1)), I.laid hkeep (Nat.le_refl _) (show ObjOk X.prog X.w _ _ _ (.lst (kvs.map fun kv => kV kv.1)) from ⟨?_, acc'.toList, c', ?_, ?_⟩), rfl, q _ (I.hok.fresh (Nat.le_refl _))⟩
  · rw [List.length_map]; exact z
  · have el : acc'.toList.length = acc'.size := by simp
    refine vals_of_at (by rw [List.length_map, el, hacc.1, hl]) fun j x w h1 h2 => ?_
    obtain ⟨k, y, hky, hi⟩ := hacc.2 j w (by rw [← Array.getElem?_toList]; exact h2)
    have e1 : (kvs.map (·.1))[j]? = some k := by
      rw [KV.keys rk, List.getElem?_map, hky] <;> rfl
    have e2 : (kvs.map fun kv => kV kv.1)[j]? = some (kV k) := by
      have e3 : (kvs.map fun kv => kV kv.1) = (kvs.map (·.1)).map kV := by rw [List.map_map] <;> rfl
      rw [e3, List.getElem?_map, e1] <;> rfl
    rw [e2] at h1
    cases h1
    exact keyIs_rel hi
  · rw [Array.toArray_toList]; exact hS
def rList3 (K : PySem.W.Frag) : List V → Hp → VK → Prop := fun xs H Q => (∃ p ys, xs = [.ref p] ∧ (SqL K H p ys ∨ SqT K H p ys) ∧ ∀ l, H l = none → Q (.ref l) (upd H l (.lst ys))) ∨ (∃ p kvs, xs = [.ref p] ∧ Rd H p (.dK kvs) ∧ ∀ q, H q = none → Q (.ref q) (upd H q (.lst (kvs.map fun kv => kV kv.1))))
theorem list3 (hc : X.calm = true) : CallR X (.type "list") (rList3 X.K) := KB.CallR.or call_list_of (call_list_rd hc)
/-- what list(x) is made of -/
def seqOf : Tr → Option (List Tr)
  | .lst ys => some ys
  | .scr ns => some (ns.map Tr.int)
  | .tup ys => some ys
  | .dic ks _ => some (ks.map kT)
  | _ => none
def gList3 (xs : List Tr) (z : Tr) : Prop := match xs with
  | [x] => ∃ ys, seqOf x = some ys ∧ z = .lst ys
  | _ => False
theorem rep_keys {I : Hp} : ∀ {ks : List Key} {vs : List V}, ks.length = vs.length → RepL K I (ks.map kT) ((ks.zip vs).map fun kv => kV kv.1)
  | [], [], _ => rfl
  | k :: ks, v :: vs, h => by
    refine ⟨kV k, _, rfl, ?_, rep_keys (by simpa using h)⟩
    cases k <;> rfl
theorem seq_run {L : Lk} {F H : Hp} {S : Sto} {I : Hp} {x : Tr} {v : V} {ys : List Tr} {R : VK} (hd : Hd K L F H S I) (r : Rep K I x v) (e : seqOf (vw S x) = some ys) (h : ∀ us l, RepL K I ys us → H l = none → R (.ref l) (upd H l (.lst us))) : rList3 K [v] H R := by
  cases z : vw S x with
  | lst zs =>
    rw [z] at e; cases e
    obtain ⟨a, us, rfl, h1, h2⟩ := vw_lst hd r z
    exact .inl ⟨a, us, rfl, .inl (.inl (.inl h1)), fun l nl => h us l h2 nl⟩
  | scr ns =>
    rw [z] at e; cases e
    obtain ⟨a, rfl, h1⟩ := vw_scr hd r z
    exact .inl ⟨a, _, rfl, .inl h1, fun l nl => h _ l (RepL.ints ns) nl⟩
  | tup zs =>
    rw [z] at e; cases e
    obtain ⟨a, us, rfl, h1, h2⟩ := vw_tup hd r z
    exact .inl ⟨a, us, rfl, .inr h1, fun l nl => h us l h2 nl⟩
  | dic ks zs =>
    rw [z] at e; cases e
    obtain ⟨a, vs, rfl, h1, h2, h3⟩ := vw_dic hd r z
    exact .inr ⟨a, _, rfl, h1, fun l nl => h _ l (rep_keys (by rw [h3.len]; exact h2)) nl⟩
  | _ => rw [z] at e; cases e
theorem c_list3 : CallT K (rList3 K) gList3 := by
  intro L F H S I xs z vs R hd r hg k
  unfold gList3 at hg
  split at hg
  · rename_i y e0
    obtain ⟨x, rfl, e⟩ := map1 e0
    obtain ⟨v, rfl, r1⟩ := RepL.one r
    obtain ⟨ys, e1, rfl⟩ := hg
    exact seq_run hd r1 (by rw [e]; exact e1) fun us l h2 nl => k _ _ _ (hd.imm nl) (upd_sub (hd.freeI nl)) ⟨l, us, rfl, upd_same, h2.mono (upd_sub (hd.freeI nl))⟩
  · exact hg.elim
def uListC (te : UE) : UE := fun ρ S Q X => te ρ S (fun x S1 => ∃ ys, seqOf (vw S1 x) = some ys ∧ ∀ p, S1 p = none → Q (.ref p) (put S1 p (.lst ys))) X
def uRev (te : UE) : UE := fun ρ S Q X => te ρ S (fun x S1 => ∃ xs, asL (vw S1 x) = some xs ∧ Q (.lst xs.reverse) S1) X
/-- a constant of the module, by its tree -/
theorem e_gt {x : Str} {tr : Tr} {pos : Pos} (hg : Gl X x) (h : ∃ v u, X.mg x = some u ∧ RelV v u ∧ ∀ I, Rep X.K I tr v) (hd : (x == ("__debug__" : Str)) = false := by decide) : TPE X W (.Name x pos) (uC tr) := by
  obtain ⟨v, u, g, r, q⟩ := h
  exact e_const (pe_glob (v := v) hg g r hd) q
theorem tup_rep {a : Addr} {d : Option Addr} {n : Nat} {sl : Array (Option Value)} {us : List Value} {vs : List V} {xs : List Tr} (h : K.lookup a = some ⟨.type "tuple", d, .seq us.toArray n, sl⟩) (r : Vals vs us) (q : ∀ I, RepL K I xs vs) (l : us.toArray.size ≤ sizeLine) (I : Hp) : Rep K I (.tup xs) (.ref a) :=
  ⟨a, vs, rfl, .inr ⟨_, us.toArray, n, h, rfl, rfl, l, by simpa using r⟩, q I⟩
/-- x.pop(i) -/
def gPopAt (S : Sto) (xs ys xs' : List Tr) (z : Tr) : Prop := ∃ i : Int, ys = [.int i] ∧ 0 ≤ i ∧ i < 2 ^ 63 ∧ xs[i.toNat]? = some z ∧ xs' = xs.eraseIdx i.toNat
/-! ### x == [], x != [] (n), whatever x holds -/
def gNil (n : Bool) (x y z : Tr) : Prop := y = .lst [] ∧ ∃ xs, asL x = some xs ∧ z = .bl (n ^^ xs.isEmpty)
/-! ### text * int -/
def rMl2 : R2 := fun x y H Q => KB.rMl x y H Q ∨ ∃ z n, x = .str z ∧ y = .int n ∧ MulOk z n ∧ Q (.str (Txt.mul z n)) H
theorem ml2_op : OpR X (binaryOp .Mult) rMl2 := by
  refine OpR.or KB.ml_any ?_
  intro pins s σ H x y v u Q I rx ry h
  obtain ⟨z, n, rfl, rfl, hz, q⟩ := h
  obtain ⟨t, rfl⟩ := rx
  obtain ⟨t', rfl⟩ := ry
  exact SB.mul hz fun t' k => ⟨.str (Txt.mul z n), H, I.tok _, ⟨_, rfl⟩, q⟩
def gMul2 (x y z : Tr) : Prop := match x, y with
  | .str a, .int n => MulOk a n ∧ z = .str (Txt.mul a n)
  | x, y => gMul x y z
theorem o_mul2 : OpT K rMl2 gMul2 := by
  intro L F H S I x y z v w R hd rx ry hg k
  unfold gMul2 at hg
  split at hg
  · rename_i a n e1 e2
    cases vw_eq_str hd rx e1
    cases vw_eq_int hd ry e2
    obtain ⟨c, rfl⟩ := hg
    exact .inr ⟨a, n, rfl, rfl, c, k _ H I hd (Same.refl _) rfl⟩
  · exact .inl (o_mul hd rx ry hg k)
theorem foldl_app (n : Nat) (x a : Array Nat) : ((List.replicate n x).foldl (· ++ ·) a).size = a.size + n * x.size ∧ ∀ c ∈ (List.replicate n x).foldl (· ++ ·) a, c ∈ a ∨ c ∈ x := by
  induction n generalizing a with
  | zero => exact ⟨by simp, fun c h => .inl h⟩
  | succ n ih =>
    rw [List.replicate_succ, List.foldl_cons]
    obtain ⟨h1, h2⟩ := ih (a ++ x)
    refine ⟨by rw [h1, Array.size_append, Nat.succ_mul]; omega, fun c h => ?_⟩
    rcases h2 c h with h | h
    · rcases Array.mem_append.mp h with h | h
      · exact .inl h
      · exact .inr h
    · exact .inr h
theorem tmul_len {z : Str} {n : Int} (h : 1 ≤ n) : (Txt.mul z n).length = n.toNat * z.length := by
  unfold Txt.mul
  rw [if_neg (by omega)]
  split
  · rename_i e
    rcases Bool.or_eq_true _ _ |>.mp e with e | e
    · have : n = 1 := by simpa using e
      subst this; simp
    · have : z.length = 0 := by simpa using e
      rw [this]; simp
  · have := (foldl_app n.toNat z.cps #[]).1
    simpa [Str.length] using this
theorem tmul_pr {z : Str} {n : Int} (h : KB.Pr z) : KB.Pr (Txt.mul z n) := by
  unfold Txt.mul
  split
  · intro c hc; simp [Str.empty] at hc
  · split
    · exact h
    · intro c hc
      rcases (foldl_app n.toNat z.cps #[]).2 c (by simpa [tl] using hc) with h1 | h1
      · simp at h1
      · exact h c (by simpa [tl] using h1)
end
end KQ
/-! ### enumerate(a tuple) -/
namespace KQ
open PySem PySem.Spec PyProof.Rows L2 TL KB
/-- enumerate(x), x a list or a tuple -/
def uEnum2 (ta : UA) : UI := fun ρ S R X => ta ρ S (fun ys S1 => ∃ x xs, ys = [x] ∧ (asL (vw S1 x) = some xs ∨ vw S1 x = .tup xs) ∧ R ⟨enumT 0 xs, fun S' => vw S' x = vw S1 x⟩ S1) X
end KQ
namespace KQ
open PySem PySem.Spec PyProof.Rows L2 TL KB
/-! ### zip of two lists or of two tuples -/
def zipT (xs ys : List Tr) : List Tr := List.zipWith (fun x y => Tr.tup [x, y]) xs ys
def uZip (ta : UA) : UI := fun ρ S R X => ta ρ S (fun us S1 => ∃ x y xs ys, us = [x, y] ∧ ((asL (vw S1 x) = some xs ∧ asL (vw S1 y) = some ys) ∨ (vw S1 x = .tup xs ∧ vw S1 y = .tup ys)) ∧ R ⟨zipT xs ys, fun S' => vw S' x = vw S1 x ∧ vw S' y = vw S1 y⟩ S1) X
end KQ
namespace KQ
open PySem PySem.Spec PyProof.Rows L2 TL KB
/-! ### f'{x:<16}' and f'{n:>8,}' -/
def padR (x : PySem.Str) (n : Nat) : PySem.Str := x ++ ⟨(List.replicate (n - x.length) 32).toArray⟩
def digs (a : Int) : List Nat := (Nat.toDigits 10 a.natAbs).map Char.toNat
def grp (ds : List Nat) : List Nat := groupsFromRight' 3 44 (ds.length + 1) ds.reverse 0 []
def numT (a : Int) : PySem.Str := ⟨(List.replicate (8 - (grp (digs a)).length) 32 ++ grp (digs a)).toArray⟩
/-! ### groups of three, from the left -/
/-! ### f-strings over trees -/
section
variable {X : Cx} {W : WX} {K : PySem.W.Frag}
def gFmtS (x z : Tr) : Prop := ∃ y : PySem.Str, x = .str y ∧ y.length ≤ 1000 ∧ z = .str (padR y 16)
def gFmtN (x z : Tr) : Prop := ∃ i : Int, x = .int i ∧ 0 ≤ i ∧ i.natAbs.log2 < 1920 ∧ (numT i).length ≤ sizeLine ∧ z = .str (numT i)
def gFmt (x z : Tr) : Prop := (∃ y : PySem.Str, x = .str y ∧ y.length ≤ sizeLine ∧ z = .str y) ∨ ∃ i : Int, x = .int i ∧ i.natAbs.log2 < 1920 ∧ z = .str (toString i)
/-- list + list, the new list will change -/
def uAddC (ta tb : UE) : UE := fun ρ S Q X => ta ρ S (fun x S1 => tb ρ S1 (fun y S2 => ∃ xs ys, vw S2 x = .lst xs ∧ vw S2 y = .lst ys ∧ xs.length + ys.length ≤ sizeLine ∧ ∀ p, S2 p = none → Q (.ref p) (put S2 p (.lst (xs ++ ys)))) X) X
/-- the parts -/
inductive TPJ (X : Cx) (W : WX) : List Expr → List UE → Prop where
  | nil : TPJ X W [] []
  | cons {e : Expr} {t : UE} {es : List Expr} {ts : List UE} (h : TPE X W e t) (r : TPJ X W es ts) : TPJ X W (e :: es) (t :: ts)
def uJs : List UE → PySem.Str → Rho → Sto → (PySem.Str → Sto → Prop) → QX → Prop
  | [], acc, _, S, Q, _ => Q acc S
  | t :: ts, acc, ρ, S, Q, X => t ρ S (fun x S1 => ∃ y : PySem.Str, x = .str y ∧ (acc ++ y).length ≤ sizeLine ∧ uJs ts (acc ++ y) ρ S1 Q X) X
def uFs (ts : List UE) : UE := fun ρ S Q X => uJs ts Str.empty ρ S (fun z S1 => Q (.str z) S1) X
theorem TPJ.mono {es : List Expr} {ts : List UE} (h : TPJ X W es ts) : ∀ t ∈ ts, MonoE t := by
  induction h with
  | nil => exact fun _ h => nomatch h
  | cons h r ih =>
    intro t ht
    rcases List.mem_cons.mp ht with rfl | ht
    · exact h.mono
    · exact ih t ht
end
end KQ
namespace KQ
open PySem PySem.Spec PyProof.Rows L2 TL KB
/-! ### x op y of two unlike classes -/
section
open PySem.W
variable {prog : Program} {w : World} {A : Around} {E : Value → Shared → Prop} {s : Shared} {K : Frag} {x C D L f g : Addr} {h₀ : Heap} {m : Str → Option Value} {ox : Obj} {od : Option Obj}
theorem bin_unlike {op : Operator} {b : Value} {Q : Value → Shared → Prop} (F : Fr h₀ L s.heap m) (X₀ : K.In h₀) (I : InstAt s.heap x ox C od) (hb : Looks (model prog w) s.heap (typeOf b) (.ref D)) (hne : C ≠ D) (hc : selfFirst K C = true) (hd : selfFirst K D = true)
    (hs : findIn K (.ref C) (PySem.dunder op.info.2) = some (some (.ref f))) (hf : isFn K (.ref f) = true) (hr : findIn K (.ref C) (dunderR op.info.2) = some none)
    (hs2 : findIn K (.ref D) (PySem.dunder op.info.2) = some (some (.ref g))) (hr2 : findIn K (.ref D) (dunderR op.info.2) = some none) (hsub : subIn K (.ref D) (.ref C) = some false)
    (h : wpAny (model prog w) A (call (.ref f) [.ref x, b]) (PySem.W.CmpBack Q) E s) : wpAny (model prog w) A (binaryOp op (.ref x) b) Q E s := by
  have X := X₀.keeps F.keep
  obtain ⟨cd, rest, hcd, hm⟩ := ksp_first hc
  obtain ⟨cd2, rest2, hcd2, hm2⟩ := ksp_first hd
  rcases hi : op.info with ⟨sym, nm'⟩
  rw [hi] at hs hr hs2 hr2
  dsimp only at hs hr hs2 hr2
  have one := ksp_try X I hs hf h
  obtain ⟨hh, gg, d, tt, os⟩ := s
  have L1 : Looks (model prog w) hh (typeOf (.ref x)) (.ref C) := I.type
  have L2 : Looks (model prog w) hh (typeOf b) (.ref D) := hb
  have L3 : Looks (model prog w) hh (fillsNumberSlot (.ref C) nm') true := fills_K X hcd hm hs
  have L4 : Looks (model prog w) hh (fillsNumberSlot (.ref D) nm') true := fills_K X hcd2 hm2 hs2
  have L5 : Looks (model prog w) hh (isSubtype (.ref D) (.ref C)) false := looks_subIn X hsub
  have L6 : Looks (model prog w) hh (numberSlotInPython (.ref C) nm') true := ksp_inPy X hs hr (.inl rfl)
  have L7 : Looks (model prog w) hh (numberSlotInPython (.ref D) nm') true := ksp_inPy X hs2 hr2 (.inl rfl)
  have hne' : (Value.ref C == Value.ref D) = false := Bool.eq_false_iff.mpr fun q => by cases beq_iff_eq.mp q; exact hne rfl
  simp only [binaryOp, hi]
  refine wpAny_holding (wpAny_bind ?_)
  unfold binaryOp1
  refine wpAny_bind (L1.at (wpAny_bind (L2.at (wpAny_bind (L3.at ?_)))))
  simp only [hne', Bool.false_eq_true, if_false]
  ksp_lk
  refine wpAny_mono one (fun r s' hr' => ?_) fun _ _ e => e
  obtain ⟨v, rfl, hq⟩ := hr'
  ksp_lk
  exact hq
end
/-- what a class must have for op, beside the method -/
structure OwnBin (K : PySem.W.Frag) (op : Operator) (C D : Addr) : Prop where
  sf : PySem.W.selfFirst K C = true
  sd : PySem.W.selfFirst K D = true
  ne : C ≠ D → PySem.W.findIn K (.ref C) (dunderR op.info.2) = some none ∧ (∃ g, PySem.W.findIn K (.ref D) (PySem.dunder op.info.2) = some (some (.ref g))) ∧ PySem.W.findIn K (.ref D) (dunderR op.info.2) = some none ∧ PySem.W.subIn K (.ref D) (.ref C) = some false
/-- x op y, each of a class of its own -/
def uOBin2 (K : PySem.W.Frag) (op : Operator) (ms : Addr → TSp → Prop) (ta tb : UE) : UE := fun ρ S Q X => ta ρ S (fun x S1 => tb ρ S1 (fun y S2 => ∃ C D fs xs gs zs t, vw S2 x = .ins C fs xs ∧ vw S2 y = .ins D gs zs ∧ OwnBin K op C D ∧ ms C t ∧ t [x, y] S2 Q X) X) X
section
variable {X : Cx} {W : WX} {K : PySem.W.Frag} {k : Nat} {ms : Addr → TSp → Prop} {a b : Expr} {ta tb : UE} {pos : Pos}
theorem e_obin2 {op : Operator} (hk : X.K = K) (hM : ∀ C t, ms C t → MthT X.prog X.w X.K X.mg X.base k C (PySem.dunder op.info.2) t) (hr : Room k X.A) (tk : L2N.Takes X W) (ha : TPE X W a ta) (hb : TPE X W b tb) : TPE X W (.BinOp a op b pos) (uOBin2 K op ms ta tb) := by
  subst hk
  refine ⟨⟨fun pins s σ H Q I h => ?_⟩, fun ρ S Q Q' X X' hQ hX h => ha.mono _ _ _ _ _ _ (fun x S1 q => hb.mono _ _ _ _ _ _ (fun y S2 ⟨C, D, fs, xs, gs, zs, t, e1, e2, o, c, q⟩ => ⟨C, D, fs, xs, gs, zs, t, e1, e2, o, c, (hM C t c).mono _ _ _ _ _ _ hQ hX q⟩) hX q) hX h⟩
  obtain ⟨L, F, S, I0, ρ, hd, sl, h⟩ := h
  have step : lE X.K W ta σ H (fun x H1 => lE X.K W tb σ H1 (fun y H2 => ∃ p q C D dx dy fs gs t, x = .ref p ∧ y = .ref q ∧ H2 p = some (.ins C dx fs) ∧ H2 q = some (.ins D dy gs) ∧ OwnBin X.K op C D ∧ ms C t ∧ lSp X.K t [.ref p, .ref q] H2 Q (WE W σ))) :=
    lE_then ha.mono hd sl h (fun _ _ _ _ h => h) fun x S1 v H1 I1 q hd1 s1 sl1 r =>
      lE_then hb.mono hd1 sl1 q (dnX_up s1) fun y S2 u H2 I2 ⟨C, D, fs, xs, gs, zs, t, e1, e2, o, c, q⟩ hd2 s2 sl2 ry => by
        obtain ⟨p, dx, vs, rfl, h1, hl, h2⟩ := vw_ins hd2 (r.mono s2) e1
        obtain ⟨p2, dy, us, rfl, h3, hl2, h4⟩ := vw_ins hd2 ry e2
        exact ⟨p, p2, C, D, dx, dy, _, _, t, rfl, rfl, h1, h3, o, c, L, F, S2, I2, [x, y], hd2, .cons (r.mono s2) (.cons ry rfl), (hM C t c).mono _ _ _ _ _ _ (dnV_up (s1.trans s2)) (dnX_up (s1.trans s2)) q⟩
  refine wpAny_BinOp (binT ha.pe hb.pe I step fun v u s2 x y H2 I2 rx ry ⟨p, q, C, D, dx, dy, fs, gs, t, ex, ey, h1, h3, o, c, w⟩ => ?_)
  subst ex ey
  cases rx
  cases ry
  obtain ⟨⟨f, fd, ps, M, bd, Fn⟩, cl, _⟩ := hM C t c
  obtain ⟨mA, J, _⟩ := ins_get I2.hok h1
  obtain ⟨mB, J', _⟩ := ins_get I2.hok h3
  obtain ⟨od, J, _⟩ := J.look
  obtain ⟨od', J', _⟩ := J'.look
  obtain ⟨m, hF⟩ := I2.fr
  have run := wpAny_mono (run_fnS (us := [.ref p, .ref q]) (vs := [.ref p, .ref q]) (E := WE W) Fn hr bd (L2N.passAt tk σ) I2 (.cons rfl (.cons rfl .nil)) w) (fun w s' (z : EP X pins σ Q w s') => (by
    obtain ⟨z', H', I', rz, qz⟩ := z
    exact SlX.cmpback rz ⟨z', H', I', rz, qz⟩ : PySem.W.CmpBack (EP X pins σ Q) w s')) fun _ _ x => x
  by_cases hcd : C = D
  · subst hcd
    exact PySem.W.binop_K hF I2.ok.mod.kin J J'.type o.sf M.at_ M.fn run
  · obtain ⟨r1, ⟨g, r2⟩, r3, r4⟩ := o.ne hcd
    exact bin_unlike hF I2.ok.mod.kin J J'.type hcd o.sf o.sd M.at_ M.fn r1 r2 r3 r4 run
end
/-! ### ~x -/
def uOInv (ms : Addr → TSp → Prop) (ta : UE) : UE := fun ρ S Q X => ta ρ S (fun x S1 => ∃ C fs xs t, vw S1 x = .ins C fs xs ∧ ms C t ∧ t [x] S1 Q X) X
section
variable {X : Cx} {W : WX} {k : Nat} {ms : Addr → TSp → Prop} {a e : Expr} {es : List Expr} {ta tf : UE} {tr : UA} {p pos : Pos} {x : Str}
theorem e_oinv (hM : ∀ C t, ms C t → MthT X.prog X.w X.K X.mg X.base k C "__invert__" t) (hr : Room k X.A) (tk : L2N.Takes X W) (ha : TPE X W a ta) : TPE X W (.UnaryOp .Invert a pos) (uOInv ms ta) := by
  refine ⟨⟨fun pins s σ H Q I h => ?_⟩, fun ρ S Q Q' X X' hQ hX h => ha.mono _ _ _ _ _ _ (fun x S1 ⟨C, fs, xs, t, e1, c, q⟩ => ⟨C, fs, xs, t, e1, c, (hM C t c).mono _ _ _ _ _ _ hQ hX q⟩) hX h⟩
  obtain ⟨L, F, S, I0, ρ, hd, sl, h⟩ := h
  have step : lE X.K W ta σ H (fun x H1 => ∃ p C dx fs t, x = .ref p ∧ H1 p = some (.ins C dx fs) ∧ ms C t ∧ lSp X.K t [.ref p] H1 Q (WE W σ)) :=
    lE_then ha.mono hd sl h (fun _ _ _ _ h => h) fun x S1 v H1 I1 ⟨C, fs, xs, t, e1, c, q⟩ hd1 s1 sl1 r => by
      obtain ⟨p, dx, vs, rfl, h1, hl, h2⟩ := vw_ins hd1 r e1
      exact ⟨p, C, dx, _, t, rfl, h1, c, L, F, S1, I1, [x], hd1, .cons r rfl, (hM C t c).mono _ _ _ _ _ _ (dnV_up s1) (dnX_up s1) q⟩
  refine UnaryOp_ (thn (ha.pe.run pins s σ H _ I step) fun u s1 ⟨y, H1, I1, ry, p, C, dx, fs, t, ey, h1, c, w⟩ => ?_)
  subst ey
  cases ry
  obtain ⟨⟨f, fd, ps, M, bd, Fn⟩, cl, _⟩ := hM C t c
  obtain ⟨mA, J, _⟩ := ins_get I1.hok h1
  obtain ⟨od, J, _⟩ := J.look
  obtain ⟨m, hF⟩ := I1.fr
  exact PySem.W.ksp_inv hF I1.ok.mod.kin J M.at_ M.fn (run_fnS (us := [.ref p]) (vs := [.ref p]) (E := WE W) Fn hr bd (L2N.passAt tk σ) I1 (.cons rfl .nil) w)
/-! ### an object called -/
def uCallO (ms : Addr → TSp → Prop) (tf : UE) (ta : UA) : UE := fun ρ S Q X => tf ρ S (fun x S1 => (∃ C fs xs, vw S1 x = .ins C fs xs) ∧ ta ρ S1 (fun ys S2 => ∃ C gs zs t, vw S2 x = .ins C gs zs ∧ ms C t ∧ t (x :: ys) S2 Q X) X) X
end
/-! ### index and count of flat items, reverse, clear -/
section
variable {K : PySem.W.Frag}
theorem RepL.reverse {I : Hp} : ∀ {xs : List Tr} {vs : List V}, RepL K I xs vs → RepL K I xs.reverse vs.reverse
  | [], _, h => by cases h; exact rfl
  | x :: xs, _, h => by
    obtain ⟨v, ws, rfl, h1, h2⟩ := h
    rw [List.reverse_cons, List.reverse_cons]
    exact h2.reverse.app (.cons h1 rfl)
def gClear (S : Sto) (xs ys xs' : List Tr) (z : Tr) : Prop := ys = [] ∧ xs' = [] ∧ z = .non
theorem m_clear : MmT K rClear gClear := by
  intro L F H S I a xs ys xs' z vs R hd ea ry hg k
  obtain ⟨rfl, rfl, rfl⟩ := hg
  cases ry
  obtain ⟨_, _, o, ho, us, rfl, rl⟩ := hd.cel a _ ea
  exact ⟨a, us, rfl, rfl, ho, k _ _ (hd.mut ea ⟨_, rfl, rfl⟩) rfl⟩
end
/-! ### an __init__ that only keeps its parameters -/
def plN (C : Addr) (fs : List Str) : TSp := fun xs S Q X => xs.length = fs.length ∧ Q (.ins C fs xs) S
theorem q_plN {C : Addr} {fs : List Str} {xs : List Tr} {S : Sto} {Q : QV} {X : QX} : plN C fs xs S Q X = (xs.length = fs.length ∧ Q (.ins C fs xs) S) := propext Iff.rfl
def plI1 (C : Addr) (fs : List Str) : TSp := fun xs S Q X => ∃ (a : Addr) (x0 : Tr), xs = [.ref a, x0] ∧ S a = some (.ins C [] []) ∧ Q .non (put S a (.ins C fs [x0]))
def plI2 (C : Addr) (fs : List Str) : TSp := fun xs S Q X => ∃ (a : Addr) (x0 x1 : Tr), xs = [.ref a, x0, x1] ∧ S a = some (.ins C [] []) ∧ Q .non (put S a (.ins C fs [x0, x1]))
end KQ
namespace KQ
open PySem PySem.Spec PyProof.Rows L2 TL KB
/-! ### a stable sort -/
section
variable {α β : Type} {lt : α → α → Bool}
def insS (lt : α → α → Bool) (x : α) : List α → List α
  | [] => [x]
  | y :: ys => if lt y x = true then y :: insS lt x ys else x :: y :: ys
def isort (lt : α → α → Bool) : List α → List α
  | [] => []
  | x :: xs => insS lt x (isort lt xs)
theorem insS_perm (x : α) : ∀ l, (insS lt x l).Perm (x :: l)
  | [] => List.Perm.refl _
  | y :: ys => by
    unfold insS
    split
    · exact ((insS_perm x ys).cons y).trans (List.Perm.swap x y ys)
    · exact List.Perm.refl _
theorem isort_perm : ∀ l : List α, (isort lt l).Perm l
  | [] => List.Perm.refl _
  | x :: xs => (insS_perm x _).trans ((isort_perm xs).cons x)
theorem insS_srtd (O : SrtO.Swo lt) (x : α) : ∀ l, SrtO.Srtd lt l → SrtO.Srtd lt (insS lt x l)
  | [], _ => List.pairwise_singleton _ _
  | y :: ys, h => by
    have h' := List.pairwise_cons.mp h
    unfold insS
    split
    · rename_i e
      refine List.pairwise_cons.mpr ⟨fun z hz => ?_, insS_srtd O x ys h'.2⟩
      rcases List.mem_cons.mp ((insS_perm x ys).mem_iff.mp hz) with rfl | hz
      · exact O.asym _ _ e
      · exact h'.1 z hz
    · rename_i e
      have e : lt y x = false := by simpa using e
      refine List.pairwise_cons.mpr ⟨fun z hz => ?_, h⟩
      rcases List.mem_cons.mp hz with rfl | hz
      · exact e
      · exact O.tr _ _ _ e (h'.1 z hz)
theorem isort_srtd (O : SrtO.Swo lt) : ∀ l : List α, SrtO.Srtd lt (isort lt l)
  | [] => List.Pairwise.nil
  | x :: xs => insS_srtd O x _ (isort_srtd O xs)
end
/-- texts by their signs -/
def ltS (a b : Str) : Bool := decide (a.cps.toList < b.cps.toList)
theorem swoS : SrtO.Swo ltS where
  asym := fun x y h => decide_eq_false (fun q => List.lt_asymm (of_decide_eq_true h) q)
  tr := fun x y z h1 h2 => decide_eq_false (fun q => by
    have a := of_decide_eq_false h1
    have b := of_decide_eq_false h2
    exact absurd q (List.not_lt.mpr (List.le_trans (List.not_lt.mp a) (List.not_lt.mp b))))
/-! ### lambdas -/
/-- a maker's table of code objects, all of them of the name q -/
def codT (q : Str) : Tr := .sem fun I _ o => ∃ ps : Array Value, o = .tbl ps ∧ TriplesOk ps.toList ∧ ∀ (pos : Pos) (cv : Value), codeAmong pos ps.toList = some cv → ∃ c, cv = .ref c ∧ I c = some (LamX.CodeO c q)
section
variable {X : Cx} {pins : List (Addr × Obj)} {σ : L2.St} {H I0 F : Hp} {L : Lk} {S : Sto} {s : Shared}
end
end KQ
namespace KQ
open PySem PySem.Spec PyProof.Rows L2 TL KB
/-! ### sorted(xs, key=a lambda that gives texts) -/
section
variable {prog : Program} {w : World} {A : Around} {E : Value → Shared → Prop} {s : Shared} {kS D : Addr} {keys : Array Value} {vs : List Value} {e e1 : Nat} {P : PySem.Fin → Shared → Prop}
end
end KQ
namespace KQ
open PySem PySem.Spec PyProof.Rows L2 TL KB
def ltT (key : Tr → Str) (x y : Tr) : Bool := ltS (key x) (key y)
section
variable {X : Cx} {W : WX}
end
end KQ
namespace KQ
open PySem PySem.Spec PyProof.Rows L2 TL KB
/-! ### a method that makes lambdas: its code object at c, the table of it at t -/
section
variable {P : Program} {w : World} {K : PySem.W.Frag} {mg : Str → Option Value} {base : Heap}
end
/-! ### sorted by a lambda -/
section
variable {X : Cx} {W : WX}
def uSrt (P : Addr) (q : Str) (tl tb : UE) : UE := fun ρ S Q X => tl ρ S (fun x S1 => S1 P = some (codT q) ∧ ∃ (xs : List Tr) (key : Tr → Str), vw S1 x = .lst xs ∧ xs.length ≤ 100000 ∧ (∀ y ∈ xs, tb [some y] S1 (fun z S2 => z = .str (key y) ∧ S2 = S1) X0) ∧ Q (.lst (isort (ltT key) xs)) S1) X
/-! ### texts compared -/
def gLeS (x y z : Tr) : Prop := match x, y with
  | .str i, .str j => z = .bl (!ltS j i)
  | _, _ => False
/-! ### sets of texts and integers -/
def uSet0 (P : Program) (w : World) : UE := fun _ S Q _ => ∀ p, S p = none → Q (.ref p) (put S p (.opq (SetK P w p (fun _ => false) 0)))
def uSAdd (P : Program) (w : World) (to ta : UE) : UE := fun ρ S Q X => to ρ S (fun x S1 => (∃ p f n, x = .ref p ∧ S1 p = some (.opq (SetK P w p f n))) ∧ ta ρ S1 (fun y S2 => ∃ p k f n, x = .ref p ∧ y = kT k ∧ S2 p = some (.opq (SetK P w p f n)) ∧ n + 1 < scanBound ∧ Q .non (put S2 p (.opq (SetK P w p (fun j => f j || decide (j = k)) (if f k = true then n else n + 1))))) X) X
def uSIn (P : Program) (w : World) (ta tb : UE) : UE := fun ρ S Q X => ta ρ S (fun x S1 => tb ρ S1 (fun y S2 => ∃ p k f n, y = .ref p ∧ x = kT k ∧ S2 p = some (.opq (SetK P w p f n)) ∧ Q (.bl (f k)) S2) X) X
end
end KQ
namespace KQ
open PySem PySem.Spec PyProof.Rows L2 TL KB
/-! ### sorted(rows), rows tuples that begin with a text and an integer, no two alike in both -/
def lexS (p q : Str × Int) : Bool := if p.1 = q.1 then decide (p.2 < q.2) else ltS p.1 q.1
def IsRow (h : Heap) (v : Value) (x : Str) (y : Int) : Prop := ∃ a o t u rest n, v = .ref a ∧ h.get? a = some o ∧ o.cls = .type "tuple" ∧ o.data = .seq (List.toArray (.str x t :: .int y u :: rest)) n
theorem IsRow.keeps {h h' : Heap} {v : Value} {x : Str} {y : Int} (p : IsRow h v x y) (k : ∀ b o, h.get? b = some o → o.cls = .type "tuple" → h'.get? b = some o) : IsRow h' v x y := by
  obtain ⟨a, o, t, u, r, n, e, ho, hc, hd⟩ := p
  exact ⟨a, o, t, u, r, n, e, k _ _ ho hc, hc, hd⟩
section
variable {prog : Program} {w : World} {A : Around} {E : Value → Shared → Prop} {s : Shared}
end
/-! ### over trees -/
def rowK : Tr → Str × Int
  | .tup (.str z :: .int n :: _) => (z, n)
  | _ => (Str.ofString "", 0)
def rowT (y : Tr) : Prop := ∃ z n rest, y = .tup (.str z :: .int n :: rest)
def gSortR (xs : List Tr) (z : Tr) : Prop := match xs with
  | [.lst ys] => (∀ y ∈ ys, rowT y) ∧ (ys.map rowK).Nodup ∧ z = .lst (isort (fun a b => lexS (rowK a) (rowK b)) ys)
  | _ => False
/-! ### a < b < c -/
def uChain (g g' : Tr → Tr → Tr → Prop) (ta tb tc : UE) : UE := fun ρ S Q X => ta ρ S (fun x S1 => tb ρ S1 (fun y S2 => ∃ k, g (vw S2 x) (vw S2 y) (.bl k) ∧ if k = true then tc ρ S2 (fun u S3 => ∃ z, g' (vw S3 y) (vw S3 u) z ∧ Q z S3) X else Q (.bl false) S2) X) X
section
variable {X : Cx} {W : WX} {ta tb tc : UE} {a b c : Expr} {pos : Pos}
end
end KQ
namespace KQ
open PySem PySem.Spec PyProof.Rows L2 TL KB
/-! ### a dict of the module, asked by get -/
section
variable {X : Cx} {W : WX} {e f : Expr} {p apos cpos : Pos}
abbrev KvT : Type := List (Str × Tr)
def uKGet (kvs : KvT) (te tf : UE) : UE := fun ρ S Q X => te ρ S (fun x S1 => tf ρ S1 (fun y S2 => ∃ z : Str, x = .str z ∧ Q ((kvs.lookup z).getD y) S2) X) X
end
end KQ
namespace KQ
open PySem PySem.Spec PyProof.Rows L2 TL KB
/-! ### exceptions raised while another one is handled: their context is no longer None -/
/-! ### raise C(..) from the handled one -/
/-! ### a try whose one clause raises -/
section
variable {X : Cx} {pins : List (Addr × Obj)} {σ : L2.St} {H : Hp} {s : Shared}
end
/-! ### an own exception made while another one is handled -/
structure ExcH (P : Program) (w : World) (K : PySem.W.Frag) (mg : Str → Option Value) (base : Heap) (k : Nat) (x : Str) (C : Addr) (fs : List Str) : Prop where
  ex : ∃ (CX : CXT) (f : Addr) (fd : FuncData) (ps : List Str), OexC K C ∧ mg x = some (.ref C) ∧ PySem.W.findIn K (.ref C) "__init__" = some (some (.ref f)) ∧ PySem.W.typeIn K (.ref f) = some (.type "function") ∧ Binds K fd ps [] ∧ L2H.FnH P w K mg base CX k f fd ps (spX C fs) ∧ (∀ X : Cx, Passes CX X (fun _ _ _ => False))
  few : fs.length ≤ 1000
theorem ExcH.lift {P : Program} {w : World} {K : PySem.W.Frag} {mg : Str → Option Value} {base : Heap} {j k : Nat} {x : Str} {C : Addr} {fs : List Str} (E : ExcH P w K mg base j x C fs) (h : j ≤ k) : ExcH P w K mg base k x C fs := by
  obtain ⟨⟨CX, f, fd, ps, T, hm, h1, h2, b, Fn, px⟩, few⟩ := E
  exact ⟨⟨CX, f, fd, ps, T, hm, h1, h2, b, ⟨Fn.len, fun A outer s H args us vs Q E p hr => Fn.run A outer s H args us vs Q E p (hr.mono h)⟩, px⟩, few⟩
/-! ### try: .. except X as n: raise C(..) from n -/
def xFrm (K : PySem.W.Frag) (c : Value) (i : Nat) (C : Addr) (fs : List Str) (ta : Addr → Addr → Value → UA) (X : XS) : XS := fun k gs xs ρ S => ∃ y, PySem.W.exmOne K k c = some y ∧
  (y = true → (∃ B, k = .ref B ∧ ExcC K B) ∧ i < ρ.length ∧ ∀ e d, ta e d k (ρ.set i (some (.exc e d k gs xs))) S (fun ys S2 => ys.length = fs.length ∧ X (.ref C) fs ys (ρ.set i none) S2) X0) ∧ (y = false → X k gs xs ρ S)
def uTryF (K : PySem.W.Frag) (tb : US) (c : Value) (i : Nat) (C : Addr) (fs : List Str) (ta : Addr → Addr → Value → UA) : US := fun D X ρ S => tb D (xFrm K c i C fs ta X) ρ S
/-! ### defs whose exceptions have any context -/
structure MthZ (P : Program) (w : World) (K : PySem.W.Frag) (mg : Str → Option Value) (base : Heap) (k : Nat) (C : Addr) (m : Str) (t : TSp) : Prop where
  ex : ∃ (f : Addr) (fd : FuncData) (ps : List Str), Meth K C m f ∧ Binds K fd ps [] ∧ FnOk P w K mg base (L2.CX P w) k f fd ps (lSp K t)
  cl : Cls K C
  mono : MonoSp t
theorem MthZ.lift {P : Program} {w : World} {K : PySem.W.Frag} {mg : Str → Option Value} {base : Heap} {j k : Nat} {C : Addr} {m : Str} {t : TSp} (M : MthZ P w K mg base j C m t) (h : j ≤ k) : MthZ P w K mg base k C m t := by
  obtain ⟨⟨f, fd, ps, a, b, F⟩, c, d⟩ := M
  exact ⟨⟨f, fd, ps, a, b, F.mono h⟩, c, d⟩
/-- such a method called where its exceptions are caught -/
def uMethZ (b : Bool) (C : Addr) (m : Str) (t : TSp) (to : UE) (ta : UA) : UE := fun ρ S Q X => to ρ S (fun x S1 => ∃ fs xs, vw S1 x = .ins C fs xs ∧ fget m fs xs = none ∧ ta ρ S1 (fun ys S2 => t (x :: ys) S2 Q (if b = true then X else X0)) X) X
/-! ### a try whose body lets out exceptions of any context, all caught -/
inductive HdZ (X : Cx) : List ExceptHandler → List (Value × Option Nat × Sut) → Prop
  | nil : HdZ X [] []
  | only {x : Str} {c : Value} {u : Sut} {b : Stmt} {bs : List Stmt} {p1 p2 : Pos} {hs : List ExceptHandler} {l : List (Value × Option Nat × Sut)} (nm : Names X x c)
      (su : ∀ (e : Addr) (o : Obj) (k : Value) (d : Option Addr) (pn : List (Addr × Obj)), Zc k d o → (∃ fs, o.data = .fields fs) → PSs (X.suite e ((e, o) :: pn)) (b :: bs) (u e k d)) (r : HdZ X hs l) :
      HdZ X (.ExceptHandler (some (.Name x p1)) none (b :: bs) p2 :: hs) ((c, none, u) :: l)
  | named {x n : Str} {i : Nat} {c : Value} {u : Sut} {b : Stmt} {bs : List Stmt} {p1 p2 : Pos} {hs : List ExceptHandler} {l : List (Value × Option Nat × Sut)} (nd : X.N.Nodup) (at_ : X.N[i]? = some n) (lc : X.env.kindOf n = some .local) (nm : Names X x c)
      (su : ∀ (e : Addr) (o : Obj) (k : Value) (d : Option Addr) (pn : List (Addr × Obj)), Zc k d o → (∃ fs, o.data = .fields fs) → PSs (X.suite e ((e, o) :: pn)) (b :: bs) (u e k d)) (r : HdZ X hs l) :
      HdZ X (.ExceptHandler (some (.Name x p1)) (some n) (b :: bs) p2 :: hs) ((c, some i, u) :: l)
inductive HdTZ (X : Cx) : List ExceptHandler → List (Value × Option Nat × SuU) → Prop
  | nil : HdTZ X [] []
  | only {x : Str} {c : Value} {u : SuU} {b : Stmt} {bs : List Stmt} {p1 p2 : Pos} {hs : List ExceptHandler} {l : List (Value × Option Nat × SuU)} (nm : Names X x c)
      (su : ∀ (e d : Addr) (o : Obj) (k : Value) (pn : List (Addr × Obj)), Zc k (some d) o → (∃ fs, o.data = .fields fs) → TPSs (X.suite e ((e, o) :: pn)) W0 (b :: bs) (u e d k)) (r : HdTZ X hs l) :
      HdTZ X (.ExceptHandler (some (.Name x p1)) none (b :: bs) p2 :: hs) ((c, none, u) :: l)
  | named {x n : Str} {i : Nat} {c : Value} {u : SuU} {b : Stmt} {bs : List Stmt} {p1 p2 : Pos} {hs : List ExceptHandler} {l : List (Value × Option Nat × SuU)} (nd : X.N.Nodup) (at_ : X.N[i]? = some n) (lc : X.env.kindOf n = some .local) (nm : Names X x c)
      (su : ∀ (e d : Addr) (o : Obj) (k : Value) (pn : List (Addr × Obj)), Zc k (some d) o → (∃ fs, o.data = .fields fs) → TPSs (X.suite e ((e, o) :: pn)) W0 (b :: bs) (u e d k)) (r : HdTZ X hs l) :
      HdTZ X (.ExceptHandler (some (.Name x p1)) (some n) (b :: bs) p2 :: hs) ((c, some i, u) :: l)
theorem lowZ {X : Cx} {u : SuU} {sts : List Stmt} {e : Addr} {o : Obj} {k : Value} {d : Option Addr} {pn : List (Addr × Obj)} (su : ∀ d, Zc k (some d) o → TPSs (X.suite e ((e, o) :: pn)) W0 sts (u e d k)) (z : Zc k d o) : PSs (X.suite e ((e, o) :: pn)) sts (lowS X.K u e k d) :=
  ⟨fun pins s σ H D I ⟨dd, ed, q⟩ => by subst ed; exact (su dd z).pe.run pins s σ H D I q⟩
theorem HdTZ.low {X : Cx} {hs : List ExceptHandler} {l : List (Value × Option Nat × SuU)} (h : HdTZ X hs l) : HdZ X hs (liftH X.K l) := by
  induction h with
  | nil => exact .nil
  | only nm su r ih => exact .only nm (fun e o k d pn z f => lowZ (fun dd z => su e dd o k pn z f) z) ih
  | named nd at_ lc nm su r ih => exact .named nd at_ lc nm (fun e o k d pn z f => lowZ (fun dd z => su e dd o k pn z f) z) ih
theorem HdTZ.mono {X : Cx} {hs : List ExceptHandler} {l : List (Value × Option Nat × SuU)} (h : HdTZ X hs l) : MonoH l := by
  induction h with
  | nil => exact .nil
  | only nm su r ih => exact .cons (fun e d k => (su e d ⟨k, some d, .fields #[.none, .none, .none], #[]⟩ k [] ⟨rfl, rfl⟩ ⟨_, rfl⟩).mono) ih
  | named nd at_ lc nm su r ih => exact .cons (fun e d k => (su e d ⟨k, some d, .fields #[.none, .none, .none], #[]⟩ k [] ⟨rfl, rfl⟩ ⟨_, rfl⟩).mono) ih
def uTryZ (K : PySem.W.Frag) (tb : US) (l : List (Value × Option Nat × SuU)) : US := fun D _ ρ S => tb D (hX K D XS0 l) ρ S
/-! ### C.m(x, k = v, ..): a method read off its class -/
structure MthU (P : Program) (w : World) (K : PySem.W.Frag) (mg : Str → Option Value) (base : Heap) (k : Nat) (x : Str) (C : Addr) (m qual : Str) (st : Stmt) (kws : List (Str × Tr)) (ps : List Str) (t : TSp) : Prop where
  ex : ∃ (f : Addr) (fd : FuncData) (mc : Value), mg x = some (.ref C) ∧ ClX.CRead K C mc ∧ ClX.CVal K C mc m (.ref f) (.ref f) ∧ FunD K m qual (defArgs st) (defBody st) (defScope st) [] (kwV kws) f fd ∧ FnOk P w K mg base (L2N.CX P w) k f fd ps (lSp K t)
  mono : MonoSp t
theorem MthU.lift {P : Program} {w : World} {K : PySem.W.Frag} {mg : Str → Option Value} {base : Heap} {j k : Nat} {x : Str} {C : Addr} {m qual : Str} {st : Stmt} {kws : List (Str × Tr)} {ps : List Str} {t : TSp} (M : MthU P w K mg base j x C m qual st kws ps t) (h : j ≤ k) : MthU P w K mg base k x C m qual st kws ps t := by
  obtain ⟨⟨f, fd, mc, a, b, c, d, F⟩, e⟩ := M
  exact ⟨⟨f, fd, mc, a, b, c, d, F.mono h⟩, e⟩
/-- what is known of such a method -/
structure DefU (K : PySem.W.Frag) (C : Addr) (m qual : Str) (st : Stmt) (kws : List (Str × Tr)) : Prop where
  ex : ∃ (f : Addr) (fd : FuncData) (mc : Value), ClX.CRead K C mc ∧ ClX.CVal K C mc m (.ref f) (.ref f) ∧ FunD K m qual (defArgs st) (defBody st) (defScope st) [] (kwV kws) f fd
theorem DefU.ok {P : Program} {w : World} {K : PySem.W.Frag} {mg : Str → Option Value} {base : Heap} {x : Str} {C : Addr} {m qual : Str} {st : Stmt} {kws : List (Str × Tr)} {N ps : List Str} {k : Nat} {t : TSp} {us : US} (D : DefU K C m qual st kws) (g : mg x = some (.ref C)) (S : FnScope N ps (defScope st))
    (len : ∀ xs S Q X, t xs S Q X → xs.length = ps.length) (mono : MonoSp t) (body : BodyT P w K mg base k qual st N us)
    (h : ∀ xs S Q X, Closed Q → ClosedX X → t xs S Q X → us (endU Q) (endX X) (startT N xs) S) : MthU P w K mg base (k + 1) x C m qual st kws ps t := by
  obtain ⟨f, fd, mc, a, b, F⟩ := D.ex
  exact ⟨⟨f, fd, mc, g, a, b, F, fnD_ok F S len body h⟩, mono⟩
section
variable {X : Cx} {W : WX} {k n : Nat} {x m qual : Str} {C : Addr} {st : Stmt} {kws : List (Str × Tr)} {ps ks : List Str} {ms : List (Str × Tr)} {l : List (Nat × Nat)} {t : TSp} {e : Expr} {es : List Expr} {kl : List Keyword} {ta tk : UA} {p apos pos : Pos}
end
/-! ### classmethods -/
structure DefC (K : PySem.W.Frag) (C : Addr) (m qual : Str) (st : Stmt) : Prop where
  ex : ∃ (f p : Addr) (fd : FuncData) (mc : Value), ClX.CRead K C mc ∧ ClX.CMet K C mc m p f ∧ FunD K m qual (defArgs st) (defBody st) (defScope st) [] [] f fd
structure MthC (P : Program) (w : World) (K : PySem.W.Frag) (mg : Str → Option Value) (base : Heap) (k : Nat) (x : Str) (C : Addr) (m : Str) (t : TSp) : Prop where
  ex : ∃ (f p : Addr) (mc : Value), mg x = some (.ref C) ∧ ClX.CRead K C mc ∧ ClX.CMet K C mc m p f ∧ FnR P w K mg base (L2N.CX P w) k f (lSp K t)
  mono : MonoSp t
theorem MthC.lift {P : Program} {w : World} {K : PySem.W.Frag} {mg : Str → Option Value} {base : Heap} {j k : Nat} {x : Str} {C : Addr} {m : Str} {t : TSp} (M : MthC P w K mg base j x C m t) (h : j ≤ k) : MthC P w K mg base k x C m t := by
  obtain ⟨⟨f, p, mc, a, b, c, F⟩, e⟩ := M
  exact ⟨⟨f, p, mc, a, b, c, F.mono h⟩, e⟩
theorem DefC.ok {P : Program} {w : World} {K : PySem.W.Frag} {mg : Str → Option Value} {base : Heap} {x : Str} {C : Addr} {m qual : Str} {st : Stmt} {N ps : List Str} {k : Nat} {t : TSp} {us : US} (D : DefC K C m qual st) (g : mg x = some (.ref C)) (S : FnScope N ps (defScope st))
    (hb : ∀ (kV doc pm : Value) (an : Option Addr) (cdv ct : Value) (us : List Value), us.length = ps.length → bindArgs (PySem.W.fnOf m qual (defArgs st) (defBody st) (defScope st) .none kV doc pm an cdv ct) ⟨us, []⟩ = pure (ps.zip us))
    (len : ∀ xs S Q X, t xs S Q X → xs.length = ps.length) (mono : MonoSp t) (body : BodyT P w K mg base k qual st N us)
    (h : ∀ xs S Q X, Closed Q → ClosedX X → t xs S Q X → us (endU Q) (endX X) (startT N xs) S) : MthC P w K mg base (k + 1) x C m t := by
  obtain ⟨f, p, fd, mc, a, b, F⟩ := D.ex
  refine ⟨⟨f, p, mc, g, a, b, ?_⟩, mono⟩
  exact ((fnD_ok (tsp := t) F S len body h).raw (ds := []) (dvs := []) (F.bindsN hb) .nil).imp fun vs H Q E z => by rw [List.append_nil]; exact z
def uCallC (C : Addr) (t : TSp) (ta : UA) : UE := fun ρ S Q X => ta ρ S (fun xs S1 => t (.ref C :: xs) S1 Q X0) X
/-! ### c(k = v, ..), c a local name that holds a class -/
def uNewKL (i : Nat) (C : Addr) (m : Nat) (l : Pks) (ms : List Tr) (tsp : TSp) (tk : UA) : UE := fun ρ S Q X => ρ[i]? = some (some (.ref C)) ∧ tk ρ S (fun zs S2 => zs.length = m ∧ tsp (pick l [] ms zs) S2 Q X) X
end KQ
namespace KQ
open PySem PySem.Spec PyProof.Rows L2 TL KB
/-! ### match on texts -/
abbrev UCs : Type := List (List Str × US)
def uCases : UCs → Str → US
  | [], _ => fun D _ ρ S => D.nx ρ S
  | c :: cs, z => fun D X ρ S => if z ∈ c.1 then c.2 D X ρ S else uCases cs z D X ρ S
def uMatch (te : UE) (cs : UCs) : US := fun D X ρ S => te ρ S (fun x S1 => ∃ z : Str, x = .str z ∧ uCases cs z D X ρ S1) (atR X ρ)
section
variable {X : Cx} {W : WX} {e : Expr} {te : UE} {ub : US} {ms : List MatchCase} {cs : UCs} {b : List Stmt} {p q pos : Pos} {k : Nat}
end
/-! ### while (x := a) op b -/
/-! ### D[k], D a dict of the module -/
def uKIx (kvs : KvT) (te : UE) : UE := fun ρ S Q X => te ρ S (fun x S1 => ∃ (z : Str) (t : Tr), x = .str z ∧ kvs.lookup z = some t ∧ Q t S1) X
/-! ### a written text + e.replace(..).replace(..) -/
def uRep2 (q y z y2 z2 : Str) (te : UE) : UE := fun ρ S Q X => te ρ S (fun x S1 => ∃ s, x = .str s ∧ s.length + (s.length + 1) * z.length ≤ 16777216 ∧ (Txt.replace s y z).length + ((Txt.replace s y z).length + 1) * z2.length ≤ 16777216 ∧ q.length + (Txt.replace (Txt.replace s y z) y2 z2).length ≤ sizeLine ∧ Q (.str (q ++ Txt.replace (Txt.replace s y z) y2 z2)) S1) X
end KQ
namespace KQ
open PySem PySem.Spec PyProof.Rows L2 TL KB
theorem q_uVar {i : Nat} {ρ : Rho} {S : Sto} {Q : QV} {z3 : QX} : uVar i ρ S Q z3 = (∃ x : Tr, ρ[i]? = some (some x) ∧ Q x S) := propext Iff.rfl
theorem q_uC {x : Tr} {z0 : Rho} {S : Sto} {Q : QV} {z3 : QX} : uC x z0 S Q z3 = (Q x S) := propext Iff.rfl
theorem q_u2 {ta tb : UE} {k : Tr → Tr → Sto → QV → QX → Prop} {ρ : Rho} {S : Sto} {Q : QV} {X : QX} : u2 ta tb k ρ S Q X = (ta ρ S (fun x S1 => tb ρ S1 (fun y S2 => k x y S2 Q X) X) X) := propext Iff.rfl
theorem q_uOp {g : Tr → Tr → Tr → Prop} {ta tb : UE} {ρ : Rho} {S : Sto} {Q : QV} {X : QX} : uOp g ta tb ρ S Q X = (ta ρ S (fun x S1 => tb ρ S1 (fun y S2 => ∃ z, g (vw S2 x) (vw S2 y) z ∧ Q z S2) X) X) := propext Iff.rfl
theorem q_uUn {g : Tr → Tr → Prop} {ta : UE} {ρ : Rho} {S : Sto} {Q : QV} {X : QX} : uUn g ta ρ S Q X = (ta ρ S (fun x S1 => ∃ z, g (vw S1 x) z ∧ Q z S1) X) := propext Iff.rfl
theorem q_uB {te : UE} {ρ : Rho} {S : Sto} {Q : QB} {X : QX} : uB te ρ S Q X = (te ρ S (fun x S1 => ∃ k, x = .bl k ∧ Q k S1) X) := propext Iff.rfl
theorem q_uAnd {t u : UT} {ρ : Rho} {S : Sto} {Q : QB} {X : QX} : uAnd t u ρ S Q X = (t ρ S (fun c S1 => if c = true then u ρ S1 Q X else Q false S1) X) := propext Iff.rfl
theorem q_uOr {t u : UT} {ρ : Rho} {S : Sto} {Q : QB} {X : QX} : uOr t u ρ S Q X = (t ρ S (fun c S1 => if c = true then Q true S1 else u ρ S1 Q X) X) := propext Iff.rfl
theorem q_uNot {t : UT} {ρ : Rho} {S : Sto} {Q : QB} {X : QX} : uNot t ρ S Q X = (t ρ S (fun c S1 => Q (!c) S1) X) := propext Iff.rfl
theorem q_uAndV {ta tb : UE} {ρ : Rho} {S : Sto} {Q : QV} {X : QX} : uAndV ta tb ρ S Q X = (ta ρ S (fun x S1 => ∃ c, x = .bl c ∧ if c = true then tb ρ S1 Q X else Q (.bl false) S1) X) := propext Iff.rfl
theorem q_uOrV {ta tb : UE} {ρ : Rho} {S : Sto} {Q : QV} {X : QX} : uOrV ta tb ρ S Q X = (ta ρ S (fun x S1 => ∃ c, x = .bl c ∧ if c = true then Q (.bl true) S1 else tb ρ S1 Q X) X) := propext Iff.rfl
theorem q_uNotV {ta : UE} {ρ : Rho} {S : Sto} {Q : QV} {X : QX} : uNotV ta ρ S Q X = (ta ρ S (fun x S1 => ∃ c, x = .bl c ∧ Q (.bl (!c)) S1) X) := propext Iff.rfl
theorem q_uIf {t : UT} {ta tb : UE} {ρ : Rho} {S : Sto} {Q : QV} {X : QX} : uIf t ta tb ρ S Q X = (t ρ S (fun c S1 => if c = true then ta ρ S1 Q X else tb ρ S1 Q X) X) := propext Iff.rfl
theorem q_uNil  {z0 : Rho} {S : Sto} {Q : QL} {z3 : QX} : uNil  z0 S Q z3 = (Q [] S) := propext Iff.rfl
theorem q_uCons {ta : UE} {tr : UA} {ρ : Rho} {S : Sto} {Q : QL} {X : QX} : uCons ta tr ρ S Q X = (ta ρ S (fun x S1 => tr ρ S1 (fun xs S2 => Q (x :: xs) S2) X) X) := propext Iff.rfl
theorem q_uTup {t : UA} {ρ : Rho} {S : Sto} {Q : QV} {X : QX} : uTup t ρ S Q X = (t ρ S (fun xs S1 => xs.length ≤ sizeLine ∧ Q (.tup xs) S1) X) := propext Iff.rfl
theorem q_uLst {t : UA} {ρ : Rho} {S : Sto} {Q : QV} {X : QX} : uLst t ρ S Q X = (t ρ S (fun xs S1 => xs.length ≤ sizeLine ∧ Q (.lst xs) S1) X) := propext Iff.rfl
theorem q_uLstC {t : UA} {ρ : Rho} {S : Sto} {Q : QV} {X : QX} : uLstC t ρ S Q X = (t ρ S (fun xs S1 => xs.length ≤ sizeLine ∧ ∀ p, S1 p = none → Q (.ref p) (put S1 p (.lst xs))) X) := propext Iff.rfl
theorem q_uCb {g : List Tr → Tr → Prop} {t : UA} {ρ : Rho} {S : Sto} {Q : QV} {X : QX} : uCb g t ρ S Q X = (t ρ S (fun xs S1 => ∃ z, g (xs.map (vw S1)) z ∧ Q z S1) X) := propext Iff.rfl
theorem q_uNext  {D : UEnds} {z1 : XS} {ρ : Rho} {S : Sto} : uNext  D z1 ρ S = (D.nx ρ S) := propext Iff.rfl
theorem q_uSeq {t u : US} {D : UEnds} {X : XS} {ρ : Rho} {S : Sto} : uSeq t u D X ρ S = (t { D with nx := u D X } X ρ S) := propext Iff.rfl
theorem q_uBreak  {D : UEnds} {z1 : XS} {ρ : Rho} {S : Sto} : uBreak  D z1 ρ S = (D.bk ρ S) := propext Iff.rfl
theorem q_uCont  {D : UEnds} {z1 : XS} {ρ : Rho} {S : Sto} : uCont  D z1 ρ S = (D.ct ρ S) := propext Iff.rfl
theorem q_uCut {t u : US} {D : UEnds} {X : XS} {ρ : Rho} {S : Sto} : uCut t u D X ρ S = (∀ p : QS, CutT (u D X) p → t { D with nx := p } X ρ S) := propext Iff.rfl
theorem q_uDrop {te : UE} {D : UEnds} {X : XS} {ρ : Rho} {S : Sto} : uDrop te D X ρ S = (te ρ S (fun _ S1 => D.nx ρ S1) (atR X ρ)) := propext Iff.rfl
theorem q_uRet {te : UE} {D : UEnds} {X : XS} {ρ : Rho} {S : Sto} : uRet te D X ρ S = (te ρ S D.rt (atR X ρ)) := propext Iff.rfl
theorem q_uRetN  {D : UEnds} {z1 : XS} {z2 : Rho} {S : Sto} : uRetN  D z1 z2 S = (D.rt .non S) := propext Iff.rfl
theorem q_uIfS {c : UT} {t u : US} {D : UEnds} {X : XS} {ρ : Rho} {S : Sto} : uIfS c t u D X ρ S = (c ρ S (fun b S1 => if b = true then t D X ρ S1 else u D X ρ S1) (atR X ρ)) := propext Iff.rfl
theorem q_uNever  {z0 : UEnds} {z1 : XS} {z2 : Rho} {z3 : Sto} : uNever  z0 z1 z2 z3 = (False) := propext Iff.rfl
theorem q_uSet {i : Nat} {te : UE} {D : UEnds} {X : XS} {ρ : Rho} {S : Sto} : uSet i te D X ρ S = (te ρ S (fun x S1 => D.nx (ρ.set i (some x)) S1) (atR X ρ)) := propext Iff.rfl
theorem q_uAsg {p : Pat} {te : UE} {D : UEnds} {X : XS} {ρ : Rho} {S : Sto} : uAsg p te D X ρ S = (te ρ S (fun x S1 => ∃ ρ2, patR p x ρ = some ρ2 ∧ D.nx ρ2 S1) (atR X ρ)) := propext Iff.rfl
theorem q_uPar {i j : Nat} {ta : UA} {D : UEnds} {X : XS} {ρ : Rho} {S : Sto} : uPar i j ta D X ρ S = (ta ρ S (fun xs S1 => ∃ x y, xs = [x, y] ∧ D.nx ((ρ.set i (some x)).set j (some y)) S1) (atR X ρ)) := propext Iff.rfl
theorem q_uAug {i : Nat} {g : Tr → Tr → Tr → Prop} {te : UE} {D : UEnds} {X : XS} {ρ : Rho} {S : Sto} : uAug i g te D X ρ S = (∃ x : Tr, ρ[i]? = some (some x) ∧ te ρ S (fun y S1 => ∃ z, g (vw S1 x) (vw S1 y) z ∧ D.nx (ρ.set i (some z)) S1) (atR X ρ)) := propext Iff.rfl
theorem q_uFor {ui : UI} {p : Pat} {tb : US} {D : UEnds} {X : XS} {ρ : Rho} {S : Sto} : uFor ui p tb D X ρ S = (ui ρ S (fun wk S1 => uLoop wk.ok p tb D X wk.xs ρ S1) (atR X ρ)) := propext Iff.rfl
theorem q_uSeqI {te : UE} {ρ : Rho} {S : Sto} {R : Walk → Sto → Prop} {X : QX} : uSeqI te ρ S R X = (te ρ S (fun x S1 => ∃ xs, (asL (vw S1 x) = some xs ∨ vw S1 x = .tup xs) ∧ R ⟨xs, fun S' => vw S' x = vw S1 x⟩ S1) X) := propext Iff.rfl
theorem q_uCall {tsp : TSp} {t : UA} {ρ : Rho} {S : Sto} {Q : QV} {X : QX} : uCall tsp t ρ S Q X = (t ρ S (fun xs S1 => tsp xs S1 Q X) X) := propext Iff.rfl
theorem q_uYes  {z0 : Rho} {S : Sto} {Q : QB} {z3 : QX} : uYes  z0 S Q z3 = (Q true S) := propext Iff.rfl
theorem q_uLc {ui : UI} {p : Pat} {tt : UT} {te : UE} {vs : List Nat} {ρ : Rho} {S : Sto} {Q : QV} {X : QX} : uLc ui p tt te vs ρ S Q X = (ui ρ S (fun wk S1 => uLcL wk.ok p tt te (wipeR ρ vs) Q wk.xs [] S1) X) := propext Iff.rfl
theorem q_uLcC {ui : UI} {p : Pat} {tt : UT} {te : UE} {vs : List Nat} {ρ : Rho} {S : Sto} {Q : QV} {X : QX} : uLcC ui p tt te vs ρ S Q X = (ui ρ S (fun wk S1 => uLcL wk.ok p tt te (wipeR ρ vs) (qCell Q) wk.xs [] S1) X) := propext Iff.rfl
theorem q_uPart {te : UE} {ρ : Rho} {S : Sto} {Q : Option Int → Sto → Prop} {X : QX} : uPart te ρ S Q X = (te ρ S (fun x S1 => ∃ i, vw S1 x = .int i ∧ Q (some i) S1) X) := propext Iff.rfl
theorem q_uNoPart  {ρ : Rho} {S : Sto} {Q : Option Int → Sto → Prop} {X : QX} : uNoPart  ρ S Q X = (Q none S) := propext Iff.rfl
theorem q_uSl {te : UE} {tl th : Rho → Sto → (Option Int → Sto → Prop) → QX → Prop} {ρ : Rho} {S : Sto} {Q : QV} {X : QX} : uSl te tl th ρ S Q X = (te ρ S (fun x S1 => tl ρ S1 (fun l S2 => th ρ S2 (fun u S3 => ∃ z, gSl (vw S3 x) l u z ∧ Q z S3) X) X) X) := propext Iff.rfl
theorem q_uIsi2 {K : PySem.W.Frag} {u w : Value} {te : UE} {ρ : Rho} {S : Sto} {Q : QV} {X : QX} : uIsi2 K u w te ρ S Q X = (te ρ S (fun x S1 => ∃ t b e, tyT K (vw S1 x) t ∧ PySem.W.kitOne K t u = some b ∧ PySem.W.kitOne K t w = some e ∧ Q (.bl (b || e)) S1) X) := propext Iff.rfl
theorem q_uRng1 {ta : UA} {ρ : Rho} {S : Sto} {R : Walk → Sto → Prop} {X : QX} : uRng1 ta ρ S R X = (ta ρ S (fun xs S1 => ∃ j, xs = [.int j] ∧ (-(2 ^ 62) ≤ j ∧ j < 2 ^ 62) ∧ R ⟨rngT 0 j.toNat, fun _ => True⟩ S1) X) := propext Iff.rfl
theorem q_uRng2 {ta : UA} {ρ : Rho} {S : Sto} {R : Walk → Sto → Prop} {X : QX} : uRng2 ta ρ S R X = (ta ρ S (fun xs S1 => ∃ i j, xs = [.int i, .int j] ∧ (-(2 ^ 62) ≤ i ∧ i < 2 ^ 62 ∧ -(2 ^ 62) ≤ j ∧ j < 2 ^ 62) ∧ R ⟨rngT i (j - i).toNat, fun _ => True⟩ S1) X) := propext Iff.rfl
theorem q_uStrI {te : UE} {ρ : Rho} {S : Sto} {R : Walk → Sto → Prop} {X : QX} : uStrI te ρ S R X = (te ρ S (fun x S1 => ∃ z, vw S1 x = .str z ∧ R ⟨z.cps.toList.map sgnT, fun _ => True⟩ S1) X) := propext Iff.rfl
theorem q_uEnum {ta : UA} {ρ : Rho} {S : Sto} {R : Walk → Sto → Prop} {X : QX} : uEnum ta ρ S R X = (ta ρ S (fun ys S1 => ∃ x xs, ys = [x] ∧ asL (vw S1 x) = some xs ∧ R ⟨enumT 0 xs, fun S' => vw S' x = vw S1 x⟩ S1) X) := propext Iff.rfl
theorem q_uFld {K : PySem.W.Frag} {f : Str} {te : UE} {ρ : Rho} {S : Sto} {Q : QV} {X : QX} : uFld K f te ρ S Q X = (te ρ S (fun x S1 => ∃ C fs xs y, vw S1 x = .ins C fs xs ∧ ClsF K C f ∧ fget f fs xs = some y ∧ Q y S1) X) := propext Iff.rfl
theorem q_uSFld {K : PySem.W.Frag} {f : Str} {to te : UE} {D : UEnds} {X : XS} {ρ : Rho} {S : Sto} : uSFld K f to te D X ρ S = (te ρ S (fun y S1 => to ρ S1 (fun x S2 => ∃ a C fs xs, x = .ref a ∧ S2 a = some (.ins C fs xs) ∧ ClsF K C f ∧ fs.length < 1000 ∧ D.nx ρ (put S2 a (.ins C (fputN f fs) (fputX f y fs xs)))) (atR X ρ)) (atR X ρ)) := propext Iff.rfl
theorem q_uDPut {to ti te : UE} {D : UEnds} {X : XS} {ρ : Rho} {S : Sto} : uDPut to ti te D X ρ S = (te ρ S (fun y S1 => to ρ S1 (fun x S2 => ti ρ S2 (fun j S3 => ∃ a ks xs k, x = .ref a ∧ S3 a = some (.dic ks xs) ∧ keyT (vw S3 j) = some k ∧ ks.length < sizeLine ∧ D.nx ρ (put S3 a (.dic (kputN k ks) (kputX k y ks xs)))) (atR X ρ)) (atR X ρ)) (atR X ρ)) := propext Iff.rfl
theorem q_uLPut {to ti te : UE} {D : UEnds} {X : XS} {ρ : Rho} {S : Sto} : uLPut to ti te D X ρ S = (te ρ S (fun y S1 => to ρ S1 (fun x S2 => ti ρ S2 (fun j S3 => ∃ a xs n k, x = .ref a ∧ S3 a = some (.lst xs) ∧ vw S3 j = .int n ∧ ixN xs.length n = some k ∧ D.nx ρ (put S3 a (.lst (xs.set k y)))) (atR X ρ)) (atR X ρ)) (atR X ρ)) := propext Iff.rfl
theorem q_uFrz {i : Nat} {u : US} {D : UEnds} {X : XS} {ρ : Rho} {S : Sto} : uFrz i u D X ρ S = (∃ (x y : Tr) (S' : Sto), ρ[i]? = some (some x) ∧ Frz x S y S' ∧ u D X (ρ.set i (some y)) S') := propext Iff.rfl
theorem q_uMt {T : String} {g : Tr → List Tr → Tr → Prop} {to : UE} {ta : UA} {ρ : Rho} {S : Sto} {Q : QV} {X : QX} : uMt T g to ta ρ S Q X = (to ρ S (fun x S1 => tyOk T (vw S1 x) ∧ ta ρ S1 (fun ys S2 => ∃ z, g (vw S2 x) (ys.map (vw S2)) z ∧ Q z S2) X) X) := propext Iff.rfl
theorem q_uMm {g : Sto → List Tr → List Tr → List Tr → Tr → Prop} {to : UE} {ta : UA} {ρ : Rho} {S : Sto} {Q : QV} {X : QX} : uMm g to ta ρ S Q X = (to ρ S (fun x S1 => tyOk "list" (vw S1 x) ∧ ta ρ S1 (fun ys S2 => ∃ a xs xs' z, x = .ref a ∧ S2 a = some (.lst xs) ∧ g S2 xs ys xs' z ∧ Q z (put S2 a (.lst xs'))) X) X) := propext Iff.rfl
theorem q_uForD {w : DK} {src : Rho → Sto → List Key → List Tr → Prop} {p : Pat} {tb : US} {D : UEnds} {X : XS} {ρ : Rho} {S : Sto} : uForD w src p tb D X ρ S = (∃ ks xs, src ρ S ks xs ∧ uLoop (fun _ => True) p tb D X (DK.list w ks xs) ρ S) := propext Iff.rfl
theorem q_uLcD {w : DK} {src : Rho → Sto → List Key → List Tr → Prop} {p : Pat} {tt : UT} {te : UE} {vs : List Nat} {ρ : Rho} {S : Sto} {Q : QV} {X : QX} : uLcD w src p tt te vs ρ S Q X = (∃ ks xs, src ρ S ks xs ∧ uLcL (fun _ => True) p tt te (wipeR ρ vs) Q (DK.list w ks xs) [] S) := propext Iff.rfl
theorem q_uMeth {m : Str} {ms : Addr → TSp → Prop} {to : UE} {ta : UA} {ρ : Rho} {S : Sto} {Q : QV} {X : QX} : uMeth m ms to ta ρ S Q X = (to ρ S (fun x S1 => ∃ C fs xs t, vw S1 x = .ins C fs xs ∧ ms C t ∧ fget m fs xs = none ∧ ta ρ S1 (fun ys S2 => t (x :: ys) S2 Q X) X) X) := propext Iff.rfl
theorem q_uDNew  {z0 : Rho} {S : Sto} {Q : QV} {z3 : QX} : uDNew  z0 S Q z3 = (∀ p, S p = none → Q (.ref p) (put S p (.dic [] []))) := propext Iff.rfl
theorem q_uFldAug {K : PySem.W.Frag} {f : Str} {g : Int → Int → Int} {to te : UE} {D : UEnds} {X : XS} {ρ : Rho} {S : Sto} : uFldAug K f g to te D X ρ S = (to ρ S (fun x S1 => ∃ a C fs xs i, x = .ref a ∧ S1 a = some (.ins C fs xs) ∧ ClsF K C f ∧ fget f fs xs = some (.int i) ∧ te ρ S1 (fun y S2 => ∃ fs2 xs2 j, vw S2 y = .int j ∧ S2 a = some (.ins C fs2 xs2) ∧ fs2.length < 1000 ∧ D.nx ρ (put S2 a (.ins C (fputN f fs2) (fputX f (.int (g i j)) fs2 xs2)))) (atR X ρ)) (atR X ρ)) := propext Iff.rfl
theorem q_uDisp {trs : List (UE × UE)} {ρ : Rho} {S : Sto} {Q : QV} {X : QX} : uDisp trs ρ S Q X = (uPairs trs ρ S (fun ps S2 => ∃ ks, keysOf ps = some ks ∧ ks.Nodup ∧ ks.length ≤ 15 ∧ ∀ p, S2 p = none → Q (.ref p) (put S2 p (.dic ks (ps.map (·.2))))) X) := propext Iff.rfl
theorem q_uIsi1 {K : PySem.W.Frag} {u : Value} {te : UE} {ρ : Rho} {S : Sto} {Q : QV} {X : QX} : uIsi1 K u te ρ S Q X = (te ρ S (fun x S1 => ∃ t b, tyT K (vw S1 x) t ∧ PySem.W.kitOne K t u = some b ∧ Q (.bl b) S1) X) := propext Iff.rfl
theorem q_uOBin {ms : Addr → TSp → Prop} {ta tb : UE} {ρ : Rho} {S : Sto} {Q : QV} {X : QX} : uOBin ms ta tb ρ S Q X = (ta ρ S (fun x S1 => tb ρ S1 (fun y S2 => ∃ C fs xs gs zs t, vw S2 x = .ins C fs xs ∧ vw S2 y = .ins C gs zs ∧ ms C t ∧ t [x, y] S2 Q X) X) X) := propext Iff.rfl
theorem q_uOIx {ms : Addr → TSp → Prop} {ta tb : UE} {ρ : Rho} {S : Sto} {Q : QV} {X : QX} : uOIx ms ta tb ρ S Q X = (ta ρ S (fun x S1 => tb ρ S1 (fun y S2 => ∃ C fs xs t, vw S2 x = .ins C fs xs ∧ ms C t ∧ t [x, y] S2 Q X) X) X) := propext Iff.rfl
theorem q_uOIn {n : Bool} {ms : Addr → TSp → Prop} {ta tb : UE} {ρ : Rho} {S : Sto} {Q : QV} {X : QX} : uOIn n ms ta tb ρ S Q X = (ta ρ S (fun x S1 => tb ρ S1 (fun y S2 => ∃ C fs xs t, vw S2 y = .ins C fs xs ∧ ms C t ∧ t [y, x] S2 (fun z S3 => ∃ b, z = .bl b ∧ Q (.bl (n ^^ b)) S3) X) X) X) := propext Iff.rfl
theorem q_uOLen {ms : Addr → TSp → Prop} {ta : UE} {ρ : Rho} {S : Sto} {Q : QV} {X : QX} : uOLen ms ta ρ S Q X = (ta ρ S (fun x S1 => ∃ C fs xs t, vw S1 x = .ins C fs xs ∧ ms C t ∧ t [x] S1 (fun z S2 => ∃ n : Int, z = .int n ∧ 0 ≤ n ∧ n < 9223372036854775808 ∧ Q (.int n) S2) X) X) := propext Iff.rfl
theorem q_uTry {K : PySem.W.Frag} {tb : US} {l : List (Value × Option Nat × SuU)} {D : UEnds} {X : XS} {ρ : Rho} {S : Sto} : uTry K tb l D X ρ S = (tb D (hX K D X l) ρ S) := propext Iff.rfl
theorem q_uXf {K : PySem.W.Frag} {e d : Addr} {k : Value} {f : Str} {te : UE} {ρ : Rho} {S : Sto} {Q : QV} {X : QX} : uXf K e d k f te ρ S Q X = (te ρ S (fun x S1 => ∃ C fs xs y, x = .exc e d k fs xs ∧ k = .ref C ∧ ExcC K C ∧ PySem.W.findIn K (.ref C) f = some none ∧ fget f fs xs = some y ∧ Q y S1) X) := propext Iff.rfl
theorem q_uIsE {K : PySem.W.Frag} {e d : Addr} {k u : Value} {te : UE} {ρ : Rho} {S : Sto} {Q : QV} {X : QX} : uIsE K e d k u te ρ S Q X = (te ρ S (fun x S1 => ∃ C fs xs b, x = .exc e d k fs xs ∧ k = .ref C ∧ ExcC K C ∧ PySem.W.kitOne K (.ref C) u = some b ∧ Q (.bl b) S1) X) := propext Iff.rfl
theorem q_uRaise {C : Addr} {fs : List Str} {ta : UA} {D : UEnds} {X : XS} {ρ : Rho} {S : Sto} : uRaise C fs ta D X ρ S = (ta ρ S (fun xs S1 => xs.length = fs.length ∧ X (.ref C) fs xs ρ S1) (atR X ρ)) := propext Iff.rfl
theorem q_uCallK {n m : Nat} {l : Pks} {ms : List Tr} {tsp : TSp} {ta tk : UA} {ρ : Rho} {S : Sto} {Q : QV} {X : QX} : uCallK n m l ms tsp ta tk ρ S Q X = (ta ρ S (fun xs S1 => tk ρ S1 (fun zs S2 => xs.length = n ∧ zs.length = m ∧ tsp (pick l xs ms zs) S2 Q X) X) X) := propext Iff.rfl
theorem q_uLcX {ui : UI} {p : Pat} {tt : UT} {te : UE} {vs : List Nat} {ρ : Rho} {S : Sto} {Q : QV} {X : QX} : uLcX ui p tt te vs ρ S Q X = (ui ρ S (fun wk S1 => uLcXL wk.ok p tt te (wipeR ρ vs) Q X wk.xs [] S1) X) := propext Iff.rfl
theorem q_uNewK {m : Nat} {l : Pks} {ms : List Tr} {tsp : TSp} {tk : UA} {ρ : Rho} {S : Sto} {Q : QV} {X : QX} : uNewK m l ms tsp tk ρ S Q X = (tk ρ S (fun zs S2 => zs.length = m ∧ tsp (pick l [] ms zs) S2 Q X) X) := propext Iff.rfl
theorem q_uOEq {K : PySem.W.Frag} {n : Bool} {ms : Addr → TSp → Prop} {ta tb : UE} {ρ : Rho} {S : Sto} {Q : QV} {X : QX} : uOEq K n ms ta tb ρ S Q X = (ta ρ S (fun x S1 => tb ρ S1 (fun y S2 => ∃ C fs xs t u, vw S2 x = .ins C fs xs ∧ ms C t ∧ tyT K (vw S2 y) u ∧ PySem.W.notFirst K C u = true ∧ t [x, y] S2 (fun z S3 => ∃ b, z = .bl b ∧ Q (.bl (n ^^ b)) S3) X) X) X) := propext Iff.rfl
theorem q_uListC {te : UE} {ρ : Rho} {S : Sto} {Q : QV} {X : QX} : uListC te ρ S Q X = (te ρ S (fun x S1 => ∃ ys, seqOf (vw S1 x) = some ys ∧ ∀ p, S1 p = none → Q (.ref p) (put S1 p (.lst ys))) X) := propext Iff.rfl
theorem q_uRev {te : UE} {ρ : Rho} {S : Sto} {Q : QV} {X : QX} : uRev te ρ S Q X = (te ρ S (fun x S1 => ∃ xs, asL (vw S1 x) = some xs ∧ Q (.lst xs.reverse) S1) X) := propext Iff.rfl
theorem q_uEnum2 {ta : UA} {ρ : Rho} {S : Sto} {R : Walk → Sto → Prop} {X : QX} : uEnum2 ta ρ S R X = (ta ρ S (fun ys S1 => ∃ x xs, ys = [x] ∧ (asL (vw S1 x) = some xs ∨ vw S1 x = .tup xs) ∧ R ⟨enumT 0 xs, fun S' => vw S' x = vw S1 x⟩ S1) X) := propext Iff.rfl
theorem q_uZip {ta : UA} {ρ : Rho} {S : Sto} {R : Walk → Sto → Prop} {X : QX} : uZip ta ρ S R X = (ta ρ S (fun us S1 => ∃ x y xs ys, us = [x, y] ∧ ((asL (vw S1 x) = some xs ∧ asL (vw S1 y) = some ys) ∨ (vw S1 x = .tup xs ∧ vw S1 y = .tup ys)) ∧ R ⟨zipT xs ys, fun S' => vw S' x = vw S1 x ∧ vw S' y = vw S1 y⟩ S1) X) := propext Iff.rfl
theorem q_uAddC {ta tb : UE} {ρ : Rho} {S : Sto} {Q : QV} {X : QX} : uAddC ta tb ρ S Q X = (ta ρ S (fun x S1 => tb ρ S1 (fun y S2 => ∃ xs ys, vw S2 x = .lst xs ∧ vw S2 y = .lst ys ∧ xs.length + ys.length ≤ sizeLine ∧ ∀ p, S2 p = none → Q (.ref p) (put S2 p (.lst (xs ++ ys)))) X) X) := propext Iff.rfl
theorem q_uFs {ts : List UE} {ρ : Rho} {S : Sto} {Q : QV} {X : QX} : uFs ts ρ S Q X = (uJs ts Str.empty ρ S (fun z S1 => Q (.str z) S1) X) := propext Iff.rfl
theorem q_uOBin2 {K : PySem.W.Frag} {op : Operator} {ms : Addr → TSp → Prop} {ta tb : UE} {ρ : Rho} {S : Sto} {Q : QV} {X : QX} : uOBin2 K op ms ta tb ρ S Q X = (ta ρ S (fun x S1 => tb ρ S1 (fun y S2 => ∃ C D fs xs gs zs t, vw S2 x = .ins C fs xs ∧ vw S2 y = .ins D gs zs ∧ OwnBin K op C D ∧ ms C t ∧ t [x, y] S2 Q X) X) X) := propext Iff.rfl
theorem q_uOInv {ms : Addr → TSp → Prop} {ta : UE} {ρ : Rho} {S : Sto} {Q : QV} {X : QX} : uOInv ms ta ρ S Q X = (ta ρ S (fun x S1 => ∃ C fs xs t, vw S1 x = .ins C fs xs ∧ ms C t ∧ t [x] S1 Q X) X) := propext Iff.rfl
theorem q_uCallO {ms : Addr → TSp → Prop} {tf : UE} {ta : UA} {ρ : Rho} {S : Sto} {Q : QV} {X : QX} : uCallO ms tf ta ρ S Q X = (tf ρ S (fun x S1 => (∃ C fs xs, vw S1 x = .ins C fs xs) ∧ ta ρ S1 (fun ys S2 => ∃ C gs zs t, vw S2 x = .ins C gs zs ∧ ms C t ∧ t (x :: ys) S2 Q X) X) X) := propext Iff.rfl
theorem q_uSrt {P : Addr} {q : Str} {tl tb : UE} {ρ : Rho} {S : Sto} {Q : QV} {X : QX} : uSrt P q tl tb ρ S Q X = (tl ρ S (fun x S1 => S1 P = some (codT q) ∧ ∃ (xs : List Tr) (key : Tr → Str), vw S1 x = .lst xs ∧ xs.length ≤ 100000 ∧ (∀ y ∈ xs, tb [some y] S1 (fun z S2 => z = .str (key y) ∧ S2 = S1) X0) ∧ Q (.lst (isort (ltT key) xs)) S1) X) := propext Iff.rfl
theorem q_uSet0 {P : Program} {w : World} {z0 : Rho} {S : Sto} {Q : QV} {z3 : QX} : uSet0 P w z0 S Q z3 = (∀ p, S p = none → Q (.ref p) (put S p (.opq (SetK P w p (fun _ => false) 0)))) := propext Iff.rfl
theorem q_uSAdd {P : Program} {w : World} {to ta : UE} {ρ : Rho} {S : Sto} {Q : QV} {X : QX} : uSAdd P w to ta ρ S Q X = (to ρ S (fun x S1 => (∃ p f n, x = .ref p ∧ S1 p = some (.opq (SetK P w p f n))) ∧ ta ρ S1 (fun y S2 => ∃ p k f n, x = .ref p ∧ y = kT k ∧ S2 p = some (.opq (SetK P w p f n)) ∧ n + 1 < scanBound ∧ Q .non (put S2 p (.opq (SetK P w p (fun j => f j || decide (j = k)) (if f k = true then n else n + 1))))) X) X) := propext Iff.rfl
theorem q_uSIn {P : Program} {w : World} {ta tb : UE} {ρ : Rho} {S : Sto} {Q : QV} {X : QX} : uSIn P w ta tb ρ S Q X = (ta ρ S (fun x S1 => tb ρ S1 (fun y S2 => ∃ p k f n, y = .ref p ∧ x = kT k ∧ S2 p = some (.opq (SetK P w p f n)) ∧ Q (.bl (f k)) S2) X) X) := propext Iff.rfl
theorem q_uChain {g g' : Tr → Tr → Tr → Prop} {ta tb tc : UE} {ρ : Rho} {S : Sto} {Q : QV} {X : QX} : uChain g g' ta tb tc ρ S Q X = (ta ρ S (fun x S1 => tb ρ S1 (fun y S2 => ∃ k, g (vw S2 x) (vw S2 y) (.bl k) ∧ if k = true then tc ρ S2 (fun u S3 => ∃ z, g' (vw S3 y) (vw S3 u) z ∧ Q z S3) X else Q (.bl false) S2) X) X) := propext Iff.rfl
theorem q_uKGet {kvs : KvT} {te tf : UE} {ρ : Rho} {S : Sto} {Q : QV} {X : QX} : uKGet kvs te tf ρ S Q X = (te ρ S (fun x S1 => tf ρ S1 (fun y S2 => ∃ z : Str, x = .str z ∧ Q ((kvs.lookup z).getD y) S2) X) X) := propext Iff.rfl
theorem q_uTryF {K : PySem.W.Frag} {tb : US} {c : Value} {i : Nat} {C : Addr} {fs : List Str} {ta : Addr → Addr → Value → UA} {D : UEnds} {X : XS} {ρ : Rho} {S : Sto} : uTryF K tb c i C fs ta D X ρ S = (tb D (xFrm K c i C fs ta X) ρ S) := propext Iff.rfl
theorem q_uMethZ {b : Bool} {C : Addr} {m : Str} {t : TSp} {to : UE} {ta : UA} {ρ : Rho} {S : Sto} {Q : QV} {X : QX} : uMethZ b C m t to ta ρ S Q X = (to ρ S (fun x S1 => ∃ fs xs, vw S1 x = .ins C fs xs ∧ fget m fs xs = none ∧ ta ρ S1 (fun ys S2 => t (x :: ys) S2 Q (if b = true then X else X0)) X) X) := propext Iff.rfl
theorem q_uTryZ {K : PySem.W.Frag} {tb : US} {l : List (Value × Option Nat × SuU)} {D : UEnds} {z1 : XS} {ρ : Rho} {S : Sto} : uTryZ K tb l D z1 ρ S = (tb D (hX K D XS0 l) ρ S) := propext Iff.rfl
theorem q_uCallC {C : Addr} {t : TSp} {ta : UA} {ρ : Rho} {S : Sto} {Q : QV} {X : QX} : uCallC C t ta ρ S Q X = (ta ρ S (fun xs S1 => t (.ref C :: xs) S1 Q X0) X) := propext Iff.rfl
theorem q_uNewKL {i : Nat} {C : Addr} {m : Nat} {l : Pks} {ms : List Tr} {tsp : TSp} {tk : UA} {ρ : Rho} {S : Sto} {Q : QV} {X : QX} : uNewKL i C m l ms tsp tk ρ S Q X = (ρ[i]? = some (some (.ref C)) ∧ tk ρ S (fun zs S2 => zs.length = m ∧ tsp (pick l [] ms zs) S2 Q X) X) := propext Iff.rfl
theorem q_uMatch {te : UE} {cs : UCs} {D : UEnds} {X : XS} {ρ : Rho} {S : Sto} : uMatch te cs D X ρ S = (te ρ S (fun x S1 => ∃ z : Str, x = .str z ∧ uCases cs z D X ρ S1) (atR X ρ)) := propext Iff.rfl
theorem q_uKIx {kvs : KvT} {te : UE} {ρ : Rho} {S : Sto} {Q : QV} {X : QX} : uKIx kvs te ρ S Q X = (te ρ S (fun x S1 => ∃ (z : Str) (t : Tr), x = .str z ∧ kvs.lookup z = some t ∧ Q t S1) X) := propext Iff.rfl
theorem q_uRep2 {q y z y2 z2 : Str} {te : UE} {ρ : Rho} {S : Sto} {Q : QV} {X : QX} : uRep2 q y z y2 z2 te ρ S Q X = (te ρ S (fun x S1 => ∃ s, x = .str s ∧ s.length + (s.length + 1) * z.length ≤ 16777216 ∧ (Txt.replace s y z).length + ((Txt.replace s y z).length + 1) * z2.length ≤ 16777216 ∧ q.length + (Txt.replace (Txt.replace s y z) y2 z2).length ≤ sizeLine ∧ Q (.str (q ++ Txt.replace (Txt.replace s y z) y2 z2)) S1) X) := propext Iff.rfl
-- nosimp: put_noneE hasK_nil0 law_start law_noexc calleeT_fn kt
/-! ### looking at trees -/
section
variable {S : Sto} {a p : Addr} {c x y z : Tr} {xs ys : List Tr} {ρ : Rho} {i j : Nat} {n k : Int} {b b' : Bool} {s t : Str} {Q : QV}
theorem vw_refE : vw S (.ref a) = (S a).getD (.ref a) := rfl
theorem vw_non : vw S .non = .non := rfl
theorem vw_bl : vw S (.bl b) = .bl b := rfl
theorem vw_int : vw S (.int n) = .int n := rfl
theorem vw_str : vw S (.str s) = .str s := rfl
theorem vw_ty {T : String} : vw S (.ty T) = .ty T := rfl
theorem vw_lstE : vw S (.lst xs) = .lst xs := rfl
theorem vw_tupE : vw S (.tup xs) = .tup xs := rfl
theorem vw_scrE {ns : List Int} : vw S (.scr ns) = .scr ns := rfl
theorem vw_dicE {ks : List Key} : vw S (.dic ks xs) = .dic ks xs := rfl
theorem vw_insE {C : Addr} {fs : List Str} : vw S (.ins C fs xs) = .ins C fs xs := rfl
theorem put_sameE : put S a c a = some c := put_same
theorem put_putE {d : Tr} : put (put S a c) a d = put S a d := put_put
theorem getD_some {v w : Tr} : (some v).getD w = v := rfl
/-! ### targets -/
theorem pat_nm : patR (.nm i) x ρ = some (ρ.set i (some x)) := by simp [patR]
theorem pat_tp {ps : List Pat} : patR (.tp ps) (.tup xs) ρ = patsR ps xs ρ := by simp [patR]
theorem pats_nil : patsR [] [] ρ = some ρ := by simp [patsR]
theorem pats_cons {q : Pat} {ps : List Pat} : patsR (q :: ps) (x :: xs) ρ = (patR q x ρ).bind (patsR ps xs) := by
  unfold patsR
  cases h : patR q x ρ <;> simp [h]
theorem bind_s {α β : Type} {v : α} {f : α → Option β} : (some v).bind f = f v := rfl
theorem loop_nil {ok : Sto → Prop} {q : Pat} {tb : US} {D : UEnds} {X : XS} : uLoop ok q tb D X [] ρ S = (ok S ∧ D.nx ρ S) := propext Iff.rfl
theorem loop_cons {ok : Sto → Prop} {q : Pat} {tb : US} {D : UEnds} {X : XS} : uLoop ok q tb D X (x :: xs) ρ S = (ok S ∧ ∃ ρ2, patR q x ρ = some ρ2 ∧ tb { D with nx := uLoop ok q tb D X xs, ct := uLoop ok q tb D X xs, bk := D.nx } X ρ2 S) := propext Iff.rfl
theorem lcl_nil {ok : Sto → Prop} {q : Pat} {tt : UT} {te : UE} : uLcL ok q tt te ρ Q [] ys S = (ok S ∧ Q (.lst ys) S) := propext Iff.rfl
theorem lcl_cons {ok : Sto → Prop} {q : Pat} {tt : UT} {te : UE} : uLcL ok q tt te ρ Q (x :: xs) ys S = (ok S ∧ ∃ ρ2, patR q x ρ = some ρ2 ∧ tt ρ2 S (fun b S3 => if b = true then te ρ2 S3 (fun y S4 => ys.length < sizeLine ∧ uLcL ok q tt te ρ Q xs (ys ++ [y]) S4) X0 else uLcL ok q tt te ρ Q xs ys S3) X0) := propext Iff.rfl
theorem prs_nil {R : List (Tr × Tr) → Sto → Prop} {X : QX} : uPairs [] ρ S R X = R [] S := propext Iff.rfl
theorem prs_cons {e f : UE} {r : List (UE × UE)} {R : List (Tr × Tr) → Sto → Prop} {X : QX} : uPairs ((e, f) :: r) ρ S R X = e ρ S (fun x S1 => f ρ S1 (fun y S2 => uPairs r ρ S2 (fun ps S3 => R ((x, y) :: ps) S3) X) X) X := propext Iff.rfl
/-! ### operators -/
theorem add_ii : gAdd (.int n) (.int k) z = (z = .int (n + k)) := rfl
theorem add_ss : gAdd (.str s) (.str t) z = (s.length + t.length ≤ sizeLine ∧ z = .str (s ++ t)) := rfl
theorem add_ll : gAdd (.lst xs) (.lst ys) z = (xs.length + ys.length ≤ sizeLine ∧ z = .lst (xs ++ ys)) := rfl
theorem add_tt : gAdd (.tup xs) (.tup ys) z = (xs.length + ys.length ≤ sizeLine ∧ z = .tup (xs ++ ys)) := rfl
theorem sortr_l : gSortR [.lst xs] z = ((∀ y ∈ xs, rowT y) ∧ (xs.map rowK).Nodup ∧ z = .lst (isort (fun a b => lexS (rowK a) (rowK b)) xs)) := rfl
theorem les_ss : gLeS (.str s) (.str t) z = (z = .bl (!ltS t s)) := rfl
theorem int2_ii {C : Int → Int → Prop} {f : Int → Int → Tr} : gInt2 C f (.int n) (.int k) z = (C n k ∧ z = f n k) := rfl
theorem mul_ii : gMul (.int n) (.int k) z = ((CMul n k ∨ CMulW n k) ∧ z = .int (n * k)) := rfl
theorem mul_li : gMul (.lst xs) (.int k) z = ((-(2 ^ 63) ≤ k ∧ k < 2 ^ 63 ∧ xs.length * k.toNat ≤ sizeLine) ∧ z = .lst (List.replicate k.toNat xs).flatten) := rfl
theorem mul2_ii : gMul2 (.int n) (.int k) z = ((CMul n k ∨ CMulW n k) ∧ z = .int (n * k)) := rfl
theorem mul2_li : gMul2 (.lst xs) (.int k) z = ((-(2 ^ 63) ≤ k ∧ k < 2 ^ 63 ∧ xs.length * k.toNat ≤ sizeLine) ∧ z = .lst (List.replicate k.toNat xs).flatten) := rfl
theorem mul2_si : gMul2 (.str s) (.int k) z = (MulOk s k ∧ z = .str (Txt.mul s k)) := rfl
theorem js_nil {acc : Str} {Q : Str → Sto → Prop} {X : QX} : uJs [] acc ρ S Q X = Q acc S := propext Iff.rfl
theorem js_cons {acc : Str} {t : UE} {ts : List UE} {Q : Str → Sto → Prop} {X : QX} : uJs (t :: ts) acc ρ S Q X = t ρ S (fun x S1 => ∃ y : Str, x = .str y ∧ (acc ++ y).length ≤ sizeLine ∧ uJs ts (acc ++ y) ρ S1 Q X) X := propext Iff.rfl
theorem fmt_s : gFmtS (.str s) z = (s.length ≤ 1000 ∧ z = .str (padR s 16)) := propext ⟨fun ⟨y, e, h⟩ => by cases e; exact h, fun h => ⟨_, rfl, h⟩⟩
theorem fmt_n : gFmtN (.int n) z = (0 ≤ n ∧ n.natAbs.log2 < 1920 ∧ (numT n).length ≤ sizeLine ∧ z = .str (numT n)) := propext ⟨fun ⟨y, e, h⟩ => by cases e; exact h, fun h => ⟨_, rfl, h⟩⟩
theorem fmt_0s : gFmt (.str s) z = (s.length ≤ sizeLine ∧ z = .str s) := propext ⟨fun h => by rcases h with ⟨y, e, h⟩ | ⟨y, e, h⟩ <;> cases e; exact h, fun h => .inl ⟨_, rfl, h⟩⟩
theorem fmt_0i : gFmt (.int n) z = (n.natAbs.log2 < 1920 ∧ z = .str (toString n)) := propext ⟨fun h => by rcases h with ⟨y, e, h⟩ | ⟨y, e, h⟩ <;> cases e; exact h, fun h => .inr ⟨_, rfl, h⟩⟩
theorem neg_i : gNeg (.int n) z = (z = .int (-n)) := rfl
theorem is_g : gIs b x y z = (isKT y = true ∧ z = .bl (b ^^ isT x y)) := rfl
theorem isk_n : isKT .non = true := rfl
theorem isk_b : isKT (.bl b) = true := rfl
theorem is_nn : isT .non .non = true := rfl
theorem is_bn : isT (.bl b) .non = false := rfl
theorem is_in : isT (.int n) .non = false := rfl
theorem is_sn : isT (.str s) .non = false := rfl
theorem is_rn : isT (.ref a) .non = false := rfl
theorem is_ln : isT (.lst xs) .non = false := rfl
theorem is_tn : isT (.tup xs) .non = false := rfl
theorem is_dn {ks : List Key} : isT (.dic ks xs) .non = false := rfl
theorem is_on {C : Addr} {fs : List Str} : isT (.ins C fs xs) .non = false := rfl
theorem is_nb : isT .non (.bl b) = false := rfl
theorem is_bb : isT (.bl b) (.bl b') = (b == b') := rfl
theorem is_ib : isT (.int n) (.bl b) = false := rfl
theorem is_sb : isT (.str s) (.bl b) = false := rfl
theorem is_rb : isT (.ref a) (.bl b) = false := rfl
theorem is_lb : isT (.lst xs) (.bl b) = false := rfl
theorem is_tb : isT (.tup xs) (.bl b) = false := rfl
theorem is_ob {C : Addr} {fs : List Str} : isT (.ins C fs xs) (.bl b) = false := rfl
theorem eq_ii : gEq b (.int n) (.int k) z = (z = .bl (b ^^ decide (n = k))) := by
  apply propext
  constructor
  · rintro (⟨c, e, h⟩ | ⟨e, _⟩)
    · cases e; exact h
    · cases e
  · exact fun h => .inl ⟨_, rfl, h⟩
theorem eq_ss : gEq b (.str s) (.str t) z = (z = .bl (b ^^ decide (s = t))) := by
  apply propext
  constructor
  · rintro (⟨c, e, h⟩ | ⟨e, _⟩)
    · cases e; exact h
    · cases e
  · exact fun h => .inl ⟨_, rfl, h⟩
theorem eq_bb {c d : Bool} : gEq b (.bl c) (.bl d) z = (z = .bl (b ^^ decide (c = d))) := by
  apply propext
  constructor
  · rintro (⟨c, e, h⟩ | ⟨e, _⟩)
    · cases e; exact h
    · cases e
  · exact fun h => .inl ⟨_, rfl, h⟩
theorem ix_s : gIx (.str s) (.int n) z = (s.length ≤ sizeLine ∧ ∃ c, atI s.cps.toList n = some c ∧ z = .str ⟨#[c]⟩) := by
  apply propext
  constructor
  · rintro ⟨h, i, c, e, h1, h2⟩; cases e; exact ⟨h, c, h1, h2⟩
  · rintro ⟨h, c, h1, h2⟩; exact ⟨h, n, c, rfl, h1, h2⟩
theorem ix_l : gIx (.lst xs) (.int n) z = (atI xs n = some z) := by
  apply propext
  exact ⟨fun ⟨i, e, h⟩ => by cases e; exact h, fun h => ⟨n, rfl, h⟩⟩
theorem ix_t : gIx (.tup xs) (.int n) z = (atI xs n = some z) := by
  apply propext
  exact ⟨fun ⟨i, e, h⟩ => by cases e; exact h, fun h => ⟨n, rfl, h⟩⟩
theorem ix_c {ns : List Int} : gIx (.scr ns) (.int n) z = (∃ m, atI ns n = some m ∧ z = .int m) := by
  apply propext
  exact ⟨fun ⟨i, e, h⟩ => by cases e; exact h, fun h => ⟨n, rfl, h⟩⟩
theorem ix_d {ks : List Key} : gIx (.dic ks xs) y z = (∃ k, keyT y = some k ∧ kget k ks xs = some z) := rfl
theorem key_i : keyT (.int n) = some (.inl n) := rfl
theorem key_s : keyT (.str s) = some (.inr s) := rfl
theorem at_0 : atI (x :: xs) 0 = some x := atI_nat (j := 0) rfl
theorem at_1 {w : Tr} : atI (x :: w :: xs) 1 = some w := atI_nat (j := 1) rfl
theorem at_2 {v w : Tr} : atI (x :: v :: w :: xs) 2 = some w := atI_nat (j := 2) rfl
theorem in_s : gIn b x (.str t) z = (∃ c, x = .str ⟨#[c]⟩ ∧ z = .bl (b ^^ decide (c ∈ t.cps.toList))) := rfl
theorem in_l : gIn b x (.lst ys) z = (∃ v vs, flatT x = some v ∧ flatTs ys = some vs ∧ z = .bl (b ^^ inV v vs)) := rfl
theorem in_t : gIn b x (.tup ys) z = (∃ v vs, flatT x = some v ∧ flatTs ys = some vs ∧ z = .bl (b ^^ inV v vs)) := rfl
theorem in_d {ks : List Key} : gIn b x (.dic ks xs) z = (∃ k, keyT x = some k ∧ z = .bl (b ^^ hasK k ks)) := rfl
theorem fl_i : flatT (.int n) = some (.int n) := rfl
theorem fl_s : flatT (.str s) = some (.str s) := rfl
theorem fl_b : flatT (.bl b) = some (.bl b) := rfl
theorem fl_n : flatT .non = some .non := rfl
theorem len_s : gLen [.str s] z = (s.length ≤ sizeLine ∧ z = .int s.length) := rfl
theorem len_l : gLen [.lst ys] z = (z = .int ys.length) := rfl
theorem len_c {ns : List Int} : gLen [.scr ns] z = (z = .int ns.length) := rfl
theorem len_t : gLen [.tup ys] z = (z = .int ys.length) := rfl
theorem len_d {ks : List Key} : gLen [.dic ks ys] z = (z = .int ks.length) := rfl
theorem abs_i : gAbs [.int n] z = (z = .int n.natAbs) := rfl
theorem int_i : gInt [.int n] z = (z = .int n) := rfl
theorem int_b : gInt [.bl b] z = (z = .int (if b then 1 else 0)) := rfl
theorem int_s : gInt [.str s] z = (∃ n, PySem.intText? s = some n ∧ s.length ≤ 640 ∧ z = .int n) := rfl
theorem str_i : gStr [.int n] z = (n.natAbs.log2 < 1920 ∧ z = .str (Str.ofString (toString n))) := rfl
theorem str_s : gStr [.str s] z = (z = .str s) := rfl
theorem mm_ii {f : Int → Int → Int} : gMM f [.int n, .int k] z = (z = .int (f n k)) := rfl
theorem list_l : gList [.lst ys] z = (z = .lst ys) := rfl
theorem list_t : gList [.tup ys] z = (z = .lst ys) := rfl
theorem list_c {ns : List Int} : gList [.scr ns] z = (z = .lst (ns.map Tr.int)) := rfl
theorem tuple_l : gTuple [.lst ys] z = (z = .tup ys) := rfl
theorem tuple_t : gTuple [.tup ys] z = (z = .tup ys) := rfl
theorem sl_s {lo hi : Option Int} : gSl (.str s) lo hi z = (s.length ≤ sizeLine ∧ z = .str (cutS s lo hi)) := rfl
theorem sl_l {lo hi : Option Int} : gSl (.lst xs) lo hi z = (z = .lst (cutT xs lo hi)) := rfl
theorem sl_t {lo hi : Option Int} : gSl (.tup xs) lo hi z = (z = .tup (cutT xs lo hi)) := rfl
theorem sl_c {ns : List Int} {lo hi : Option Int} : gSl (.scr ns) lo hi z = (z = .lst (cutT (ns.map Tr.int) lo hi)) := rfl
theorem asl_l : asL (.lst xs) = some xs := rfl
theorem asl_c {ns : List Int} : asL (.scr ns) = some (ns.map Tr.int) := rfl
theorem asl_t : asL (.tup xs) = none := rfl
theorem ok_l : tyOk "list" (.lst xs) = True := eq_true rfl
theorem ok_s : tyOk "str" (.str s) = True := eq_true rfl
theorem app_1 {as : List Tr} : gAppend S xs [y] as z = (xs.length < sizeLine ∧ as = xs ++ [y] ∧ z = .non) := rfl
theorem ext_1 {as : List Tr} : gExtend S xs [y] as z = (∃ zs, vw S y = .lst zs ∧ xs.length + zs.length ≤ sizeLine ∧ as = xs ++ zs ∧ z = .non) := rfl
theorem ins_1 {as : List Tr} : gInsert S xs [.int n, y] as z = (xs.length < sizeLine ∧ 0 ≤ n ∧ n < 2 ^ 63 ∧ as = xs.take n.toNat ++ [y] ++ xs.drop n.toNat ∧ z = .non) := rfl
theorem pop_1 {as : List Tr} : gPop S xs [] as z = (xs[xs.length - 1]? = some z ∧ as = xs.dropLast) := by
  unfold gPop; simp
theorem join_t : gJoin (.str s) [.tup ys] z = (∃ ts : List Str, ys = ts.map Tr.str ∧ (ts.map (·.length)).sum + ts.length * s.length ≤ 16777216 ∧ z = .str (Txt.join s ts)) := rfl
theorem join_l : gJoin (.str s) [.lst ys] z = (∃ ts : List Str, ys = ts.map Tr.str ∧ (ts.map (·.length)).sum + ts.length * s.length ≤ 16777216 ∧ z = .str (Txt.join s ts)) := rfl
theorem isdig : gIsdigit (.str s) [] z = (z = .bl (Txt.isdigit s)) := rfl
theorem rmp : gRmp (.str s) [.str t] z = (s.length ≤ sizeLine ∧ z = .str (Txt.removeprefix s t)) := rfl
theorem all_l {f : List Bool → Bool} : gAll f [.lst ys] z = (∃ bs, blsOf ys = some bs ∧ z = .bl (f bs)) := rfl
end
section
variable {K : PySem.W.Frag} {x c : Tr} {z : Tr} {t u : Value} {n : Int} {b : Bool} {s : Str} {xs : List Tr}
theorem isi_2 : gIsi K [x, c] z = (∃ t u b, tyT K x t ∧ clsT c u ∧ PySem.W.kitOne K t u = some b ∧ z = .bl b) := rfl
theorem ty_n : tyT K .non t = (t = .type "NoneType") := rfl
theorem ty_b : tyT K (.bl b) t = (t = .type "bool") := rfl
theorem ty_i : tyT K (.int n) t = (t = .type "int") := rfl
theorem ty_s : tyT K (.str s) t = (t = .type "str") := rfl
theorem ty_l : tyT K (.lst xs) t = (t = .type "list") := rfl
theorem ty_t : tyT K (.tup xs) t = (t = .type "tuple") := rfl
theorem ty_o {C : Addr} {fs : List Str} : tyT K (.ins C fs xs) t = (ClsI K C ∧ t = .ref C) := rfl
theorem cls_t {T : String} : clsT (.ty T) u = (u = .type T) := rfl
theorem cls_c {C : Addr} : clsT (.ref C) u = (u = .ref C) := rfl
theorem kt {n T : String} {b : Bool} (h : kitB n T = some b) : PySem.W.kitOne K (.type n) (.type T) = some b := kit_ty h
theorem k_ni : PySem.W.kitOne K (.type "NoneType") (.type "int") = some false := kt kb_NoneType_int
theorem k_ns : PySem.W.kitOne K (.type "NoneType") (.type "str") = some false := kt kb_NoneType_str
theorem k_nb : PySem.W.kitOne K (.type "NoneType") (.type "bool") = some false := kt kb_NoneType_bool
theorem k_nl : PySem.W.kitOne K (.type "NoneType") (.type "list") = some false := kt kb_NoneType_list
theorem k_nt : PySem.W.kitOne K (.type "NoneType") (.type "tuple") = some false := kt kb_NoneType_tuple
theorem k_bi : PySem.W.kitOne K (.type "bool") (.type "int") = some true := kt kb_bool_int
theorem k_bs : PySem.W.kitOne K (.type "bool") (.type "str") = some false := kt kb_bool_str
theorem k_bb : PySem.W.kitOne K (.type "bool") (.type "bool") = some true := kt kb_bool_bool
theorem k_bl : PySem.W.kitOne K (.type "bool") (.type "list") = some false := kt kb_bool_list
theorem k_bt : PySem.W.kitOne K (.type "bool") (.type "tuple") = some false := kt kb_bool_tuple
theorem k_ii : PySem.W.kitOne K (.type "int") (.type "int") = some true := kt kb_int_int
theorem k_is : PySem.W.kitOne K (.type "int") (.type "str") = some false := kt kb_int_str
theorem k_ib : PySem.W.kitOne K (.type "int") (.type "bool") = some false := kt kb_int_bool
theorem k_il : PySem.W.kitOne K (.type "int") (.type "list") = some false := kt kb_int_list
theorem k_it : PySem.W.kitOne K (.type "int") (.type "tuple") = some false := kt kb_int_tuple
theorem k_si : PySem.W.kitOne K (.type "str") (.type "int") = some false := kt kb_str_int
theorem k_ss : PySem.W.kitOne K (.type "str") (.type "str") = some true := kt kb_str_str
theorem k_sb : PySem.W.kitOne K (.type "str") (.type "bool") = some false := kt kb_str_bool
theorem k_sl : PySem.W.kitOne K (.type "str") (.type "list") = some false := kt kb_str_list
theorem k_st : PySem.W.kitOne K (.type "str") (.type "tuple") = some false := kt kb_str_tuple
theorem k_li : PySem.W.kitOne K (.type "list") (.type "int") = some false := kt kb_list_int
theorem k_ls : PySem.W.kitOne K (.type "list") (.type "str") = some false := kt kb_list_str
theorem k_lb : PySem.W.kitOne K (.type "list") (.type "bool") = some false := kt kb_list_bool
theorem k_ll : PySem.W.kitOne K (.type "list") (.type "list") = some true := kt kb_list_list
theorem k_lt : PySem.W.kitOne K (.type "list") (.type "tuple") = some false := kt kb_list_tuple
theorem k_ti : PySem.W.kitOne K (.type "tuple") (.type "int") = some false := kt kb_tuple_int
theorem k_ts : PySem.W.kitOne K (.type "tuple") (.type "str") = some false := kt kb_tuple_str
theorem k_tb : PySem.W.kitOne K (.type "tuple") (.type "bool") = some false := kt kb_tuple_bool
theorem k_tl : PySem.W.kitOne K (.type "tuple") (.type "list") = some false := kt kb_tuple_list
theorem k_tt : PySem.W.kitOne K (.type "tuple") (.type "tuple") = some true := kt kb_tuple_tuple
end
theorem ofS_inj {a b : String} : (Str.ofString a = Str.ofString b) = (a = b) := by
  apply propext
  constructor
  · intro h
    have e := congrArg tl h
    rw [tl_ofString, tl_ofString] at e
    have e2 : a.toList = b.toList := by
      have inj : ∀ {l m : List Char}, l.map Char.toNat = m.map Char.toNat → l = m := by
        intro l
        induction l with
        | nil => intro m h; cases m with
          | nil => rfl
          | cons _ _ => cases h
        | cons x l ih => intro m h; cases m with
          | nil => cases h
          | cons y m =>
            rw [List.map_cons, List.map_cons] at h
            injection h with h1 h2
            rw [ih h2, Char.toNat_inj.mp h1]
      exact inj e
    exact String.toList_inj.mp e2
  · rintro rfl; rfl
theorem fget_c {f g : Str} {gs : List Str} {x : Tr} {xs : List Tr} : fget f (g :: gs) (x :: xs) = if f = g then some x else fget f gs xs := rfl
theorem fget_n {f : Str} {xs : List Tr} : fget f [] xs = none := rfl
theorem fputN_n {f : Str} : fputN f [] = [f] := rfl
theorem fputN_c {f g : Str} {gs : List Str} : fputN f (g :: gs) = if g = f then g :: gs else g :: fputN f gs := rfl
theorem fputX_n {f : Str} {y : Tr} {xs : List Tr} : fputX f y [] xs = [y] := by cases xs <;> rfl
theorem fputX_c {f g : Str} {gs : List Str} {x y : Tr} {xs : List Tr} : fputX f y (g :: gs) (x :: xs) = if g = f then y :: xs else x :: fputX f y gs xs := rfl
theorem map_vw0 {S : Sto} : ([] : List Tr).map (vw S) = [] := rfl
theorem map_vw {S : Sto} {x : Tr} {xs : List Tr} : (x :: xs).map (vw S) = vw S x :: xs.map (vw S) := rfl
theorem xFrmE {K : PySem.W.Frag} {c : Value} {i : Nat} {C : Addr} {fs : List Str} {ta : Addr → Addr → Value → UA} {X : XS} {k : Value} {gs : List Str} {xs : List Tr} {ρ : Rho} {S : Sto} : xFrm K c i C fs ta X k gs xs ρ S = (∃ y, PySem.W.exmOne K k c = some y ∧
  (y = true → (∃ B, k = .ref B ∧ ExcC K B) ∧ i < ρ.length ∧ ∀ e d, ta e d k (ρ.set i (some (.exc e d k gs xs))) S (fun ys S2 => ys.length = fs.length ∧ X (.ref C) fs ys (ρ.set i none) S2) X0) ∧ (y = false → X k gs xs ρ S)) := propext Iff.rfl
theorem hX_nil {K : PySem.W.Frag} {D : UEnds} {X : XS} {k : Value} {fs : List Str} {xs : List Tr} {ρ : Rho} {S : Sto} : hX K D X [] k fs xs ρ S = X k fs xs ρ S := rfl
theorem hX_only {K : PySem.W.Frag} {D : UEnds} {X : XS} {k c : Value} {u : SuU} {r : List (Value × Option Nat × SuU)} {fs : List Str} {xs : List Tr} {ρ : Rho} {S : Sto} : hX K D X ((c, none, u) :: r) k fs xs ρ S = (∃ y, PySem.W.exmOne K k c = some y ∧ (y = true → ∀ e d, u e d k D XS0 ρ S) ∧ (y = false → hX K D X r k fs xs ρ S)) := propext Iff.rfl
theorem hX_named {K : PySem.W.Frag} {D : UEnds} {X : XS} {k c : Value} {i : Nat} {u : SuU} {r : List (Value × Option Nat × SuU)} {fs : List Str} {xs : List Tr} {ρ : Rho} {S : Sto} : hX K D X ((c, some i, u) :: r) k fs xs ρ S = (∃ y, PySem.W.exmOne K k c = some y ∧ (y = true → ∀ e d, u e d k (clrU i D) XS0 (ρ.set i (some (.exc e d k fs xs))) S) ∧ (y = false → hX K D X r k fs xs ρ S)) := propext Iff.rfl
theorem len_tf1 {x : Tr} {f : Str} : ([x].length = [f].length) = True := eq_true rfl
theorem len_tf2 {x y : Tr} {f g : Str} : ([x, y].length = [f, g].length) = True := eq_true rfl
theorem len_tf3 {x y z : Tr} {f g h : Str} : ([x, y, z].length = [f, g, h].length) = True := eq_true rfl
theorem clrU_nx {i : Nat} {D : UEnds} {ρ : Rho} {S : Sto} : (clrU i D).nx ρ S = D.nx (ρ.set i none) S := rfl
theorem clrU_rt {i : Nat} {D : UEnds} {x : Tr} {S : Sto} : (clrU i D).rt x S = D.rt x S := rfl
theorem clrU_bk {i : Nat} {D : UEnds} {ρ : Rho} {S : Sto} : (clrU i D).bk ρ S = D.bk (ρ.set i none) S := rfl
theorem clrU_ct {i : Nat} {D : UEnds} {ρ : Rho} {S : Sto} : (clrU i D).ct ρ S = D.ct (ρ.set i none) S := rfl
theorem vw_excE {S : Sto} {e d : Addr} {k : Value} {fs : List Str} {xs : List Tr} : vw S (.exc e d k fs xs) = .exc e d k fs xs := rfl
theorem atR_e {X : XS} {ρ : Rho} {c : Value} {fs : List Str} {xs : List Tr} {S : Sto} : atR X ρ c fs xs S = X c fs xs ρ S := rfl
theorem wipeR_n {ρ : Rho} : wipeR ρ [] = ρ := rfl
theorem wipeR_c {ρ : Rho} {i : Nat} {r : List Nat} : wipeR ρ (i :: r) = (wipeR ρ r).set i none := rfl
theorem endX_e {X : QX} {ρ : Rho} {c : Value} {fs : List Str} {xs : List Tr} {S : Sto} : endX X c fs xs ρ S = X c fs xs S := rfl
theorem endU_nx {Q : QV} {ρ : Rho} {S : Sto} : (endU Q).nx ρ S = Q .non S := rfl
theorem endU_rt {Q : QV} {x : Tr} {S : Sto} : (endU Q).rt x S = Q x S := rfl
theorem srcV_e {i : Nat} {ρ : Rho} {S : Sto} {ks : List Key} {xs : List Tr} : srcV i ρ S ks xs = (ρ[i]? = some (some (.dic ks xs))) := rfl
theorem srcF_e {K : PySem.W.Frag} {i : Nat} {f : Str} {ρ : Rho} {S : Sto} {ks : List Key} {xs : List Tr} : srcF K i f ρ S ks xs = (∃ (x : Tr) (C : Addr) (fs : List Str) (ys : List Tr), ρ[i]? = some (some x) ∧ vw S x = .ins C fs ys ∧ ClsF K C f ∧ fget f fs ys = some (.dic ks xs)) := propext Iff.rfl
theorem cmul_rE {i j : Int} (h1 : -18446744073709551616 < j) (h2 : j < 18446744073709551616) : (CMul i j ∨ CMulW i j) = True := eq_true (.inl (.inr ⟨h1, h2⟩))
theorem cmul_lE {i j : Int} (h1 : -18446744073709551616 < i) (h2 : i < 18446744073709551616) : (CMul i j ∨ CMulW i j) = True := eq_true (.inl (.inl ⟨h1, h2⟩))
theorem cpow_E {n : Int} (h0 : 0 ≤ n) (h1 : n ≤ 1000) : CPow 10 n = True := eq_true ⟨h0, by omega, by decide⟩
theorem szT0 : (([] : List Tr).length ≤ sizeLine) = True := eq_true (by show 0 ≤ sizeLine; decide)
theorem szT1 {x0 : Tr} : (([x0] : List Tr).length ≤ sizeLine) = True := eq_true (by show 1 ≤ sizeLine; decide)
theorem szT2 {x0 x1 : Tr} : (([x0, x1] : List Tr).length ≤ sizeLine) = True := eq_true (by show 2 ≤ sizeLine; decide)
theorem szT3 {x0 x1 x2 : Tr} : (([x0, x1, x2] : List Tr).length ≤ sizeLine) = True := eq_true (by show 3 ≤ sizeLine; decide)
theorem szT4 {x0 x1 x2 x3 : Tr} : (([x0, x1, x2, x3] : List Tr).length ≤ sizeLine) = True := eq_true (by show 4 ≤ sizeLine; decide)
theorem szT5 {x0 x1 x2 x3 x4 : Tr} : (([x0, x1, x2, x3, x4] : List Tr).length ≤ sizeLine) = True := eq_true (by show 5 ≤ sizeLine; decide)
theorem szT6 {x0 x1 x2 x3 x4 x5 : Tr} : (([x0, x1, x2, x3, x4, x5] : List Tr).length ≤ sizeLine) = True := eq_true (by show 6 ≤ sizeLine; decide)
theorem szT7 {x0 x1 x2 x3 x4 x5 x6 : Tr} : (([x0, x1, x2, x3, x4, x5, x6] : List Tr).length ≤ sizeLine) = True := eq_true (by show 7 ≤ sizeLine; decide)
theorem szT8 {x0 x1 x2 x3 x4 x5 x6 x7 : Tr} : (([x0, x1, x2, x3, x4, x5, x6, x7] : List Tr).length ≤ sizeLine) = True := eq_true (by show 8 ≤ sizeLine; decide)
/-! ### classes as the top has made them; the law's end -/
structure ClsTop (K : PySem.W.Frag) (mg : Str → Option Value) (x : Str) (C : Addr) : Prop where
  mg : mg x = some (.ref C)
  ci : ClsI K C
  kp : PySem.W.keepIn K (.ref C) = true
  mak : PySem.W.makesIn K C = true
def sp_law : TSp := fun xs S Q X => ∃ ns : List Int, xs = [.scr ns] ∧ ns.length ≤ 63 ∧ Q (.bl true) S
theorem law_start {K : PySem.W.Frag} {H : Hp} {a : Addr} {ns : List Int} (hl : ns.length ≤ 63) (hS : SqL K H a (ns.map V.int)) : lSp K sp_law [.ref a] H (fun v _ => v = .bl true) (fun _ _ _ => False) := by
  refine ⟨fun _ => none, fun _ => none, fun _ => none, fun b => if b = a then H b else none, [.scr ns], ⟨fun b o e => ?_, fun b od e => (nomatch e), fun b c e => (nomatch e), fun b o e => (nomatch e)⟩, .cons ⟨a, rfl, ?_⟩ rfl, ns, rfl, hl, fun v H' I' _ _ r => r⟩
  · split at e
    · exact e
    · cases e
  · rcases hS with (h | ⟨o, h⟩) | h
    · exact .inl (.inl (by simpa using h))
    · exact .inl (.inr ⟨o, by simpa using h⟩)
    · exact .inr h
theorem law_noexc {P : Program} {w : World} {outer : List Env} {H : Hp} {s s' : Shared} {e : Value} (h : L2N.CX P w outer H s (fun _ _ _ => False) e s') : False := by
  obtain ⟨_, _, _, _, _, _, _, _, _, _, _, _, z⟩ := h
  exact z
theorem calleeT_fn {P : Program} {w : World} {K : PySem.W.Frag} {mg : Str → Option Value} {base : Heap} {k : Nat} {x : Str} {ps : List Str} {t : TSp} {st : Stmt} {f : Addr} {fd : FuncData} (F : Fun K x x st f fd) (g : mg x = some (.ref f)) (C : CalleeT P w K mg base k x ps t) : FnOk P w K mg base (L2N.CX P w) k f fd ps (lSp K t) := by
  obtain ⟨f', fd', g', kp, b, R, oc', od', sl', lk'⟩ := C.ex
  rw [g] at g'
  cases g'
  obtain ⟨oc, od, kV, doc, pm, an, cdv, ct, osl, e, lk, _⟩ := F.ex
  rw [lk] at lk'
  cases lk'
  exact R
theorem ex_sw1 {α β : Type} {p : β → Prop} {f : β → α} {q : α → Prop} : (∃ x, (∃ c, p c ∧ x = f c) ∧ q x) = (∃ c, p c ∧ q (f c)) := by
  apply propext
  exact ⟨fun ⟨x, ⟨c, h, e⟩, g⟩ => ⟨c, h, e ▸ g⟩, fun ⟨c, h, g⟩ => ⟨_, ⟨c, h, rfl⟩, g⟩⟩
theorem ex_sw2 {α β : Type} {p r : β → Prop} {f : β → α} {q : α → Prop} : (∃ x, (∃ c, p c ∧ r c ∧ x = f c) ∧ q x) = (∃ c, p c ∧ r c ∧ q (f c)) := by
  apply propext
  exact ⟨fun ⟨x, ⟨c, h, h2, e⟩, g⟩ => ⟨c, h, h2, e ▸ g⟩, fun ⟨c, h, h2, g⟩ => ⟨_, ⟨c, h, h2, rfl⟩, g⟩⟩
theorem kT_i {n : Int} : kT (.inl n) = .int n := rfl
theorem kT_s {z : Str} : kT (.inr z) = .str z := rfl
theorem sgn_inj {a b : Nat} : ((⟨#[a]⟩ : Str) = ⟨#[b]⟩) = (a = b) := by
  apply propext
  exact ⟨fun h => by injection h with h; injection h with h; injection h, fun h => h ▸ rfl⟩
theorem vw_kT {S : Sto} {k : Key} : vw S (kT k) = kT k := by cases k <;> rfl
theorem beq_ft : (false == true) = false := rfl
theorem beq_tf : (true == false) = false := rfl
theorem pick_nilE {us mv ws : List Tr} : pick [] us mv ws = [] := rfl
theorem pick_0E {i : Nat} {l : List (Nat × Nat)} {us mv ws : List Tr} {x : Tr} (h : us[i]? = some x) : pick ((0, i) :: l) us mv ws = x :: pick l us mv ws := pick_0 h
theorem pick_1E {i : Nat} {l : List (Nat × Nat)} {us mv ws : List Tr} {x : Tr} (h : mv[i]? = some x) : pick ((1, i) :: l) us mv ws = x :: pick l us mv ws := pick_1 h
theorem pick_2E {i : Nat} {l : List (Nat × Nat)} {us mv ws : List Tr} {x : Tr} (h : ws[i]? = some x) : pick ((2, i) :: l) us mv ws = x :: pick l us mv ws := pick_2 h
theorem str4_i {i : Int} {z : Tr} : gStr4 [.int i] z = (i.natAbs.log2 < 1920 ∧ z = .str (Str.ofString (toString i))) := rfl
theorem str4_s {a : Str} {z : Tr} : gStr4 [.str a] z = (z = .str a) := rfl
theorem str4_b {b : Bool} {z : Tr} : gStr4 [.bl b] z = (z = .str (if b then Str.ofString "True" else Str.ofString "False")) := rfl
theorem str4_n {z : Tr} : gStr4 [.non] z = (z = .str (Str.ofString "None")) := rfl
theorem list3_l {xs : List Tr} {z : Tr} : gList3 [.lst xs] z = (z = .lst xs) := by show (∃ ys, some xs = some ys ∧ _) = _; simp
theorem list3_t {xs : List Tr} {z : Tr} : gList3 [.tup xs] z = (z = .lst xs) := by show (∃ ys, some xs = some ys ∧ _) = _; simp
theorem list3_c {ns : List Int} {z : Tr} : gList3 [.scr ns] z = (z = .lst (ns.map Tr.int)) := by show (∃ ys, some _ = some ys ∧ _) = _; simp
theorem list3_d {ks : List Key} {xs : List Tr} {z : Tr} : gList3 [.dic ks xs] z = (z = .lst (ks.map kT)) := by show (∃ ys, some _ = some ys ∧ _) = _; simp
theorem seqOf_l {xs : List Tr} : seqOf (.lst xs) = some xs := rfl
theorem seqOf_t {xs : List Tr} : seqOf (.tup xs) = some xs := rfl
theorem seqOf_c {ns : List Int} : seqOf (.scr ns) = some (ns.map Tr.int) := rfl
theorem seqOf_d {ks : List Key} {xs : List Tr} : seqOf (.dic ks xs) = some (ks.map kT) := rfl
theorem lenE0 : (([] : List Tr).length = 0) = True := eq_true rfl
theorem lenE1 {x0 : Tr} : (([x0] : List Tr).length = 1) = True := eq_true rfl
theorem lenE2 {x0 x1 : Tr} : (([x0, x1] : List Tr).length = 2) = True := eq_true rfl
theorem lenE3 {x0 x1 x2 : Tr} : (([x0, x1, x2] : List Tr).length = 3) = True := eq_true rfl
theorem lenE4 {x0 x1 x2 x3 : Tr} : (([x0, x1, x2, x3] : List Tr).length = 4) = True := eq_true rfl
theorem lenE5 {x0 x1 x2 x3 x4 : Tr} : (([x0, x1, x2, x3, x4] : List Tr).length = 5) = True := eq_true rfl
theorem lenE6 {x0 x1 x2 x3 x4 x5 : Tr} : (([x0, x1, x2, x3, x4, x5] : List Tr).length = 6) = True := eq_true rfl
theorem lenE7 {x0 x1 x2 x3 x4 x5 x6 : Tr} : (([x0, x1, x2, x3, x4, x5, x6] : List Tr).length = 7) = True := eq_true rfl
theorem lenE8 {x0 x1 x2 x3 x4 x5 x6 x7 : Tr} : (([x0, x1, x2, x3, x4, x5, x6, x7] : List Tr).length = 8) = True := eq_true rfl
theorem lenE9 {x0 x1 x2 x3 x4 x5 x6 x7 x8 : Tr} : (([x0, x1, x2, x3, x4, x5, x6, x7, x8] : List Tr).length = 9) = True := eq_true rfl
theorem lenE10 {x0 x1 x2 x3 x4 x5 x6 x7 x8 x9 : Tr} : (([x0, x1, x2, x3, x4, x5, x6, x7, x8, x9] : List Tr).length = 10) = True := eq_true rfl
theorem lenS0 : ([] : List Str).length = 0 := rfl
theorem lenS1 {x0 : Str} : ([x0] : List Str).length = 1 := rfl
theorem lenS2 {x0 x1 : Str} : ([x0, x1] : List Str).length = 2 := rfl
theorem lenS3 {x0 x1 x2 : Str} : ([x0, x1, x2] : List Str).length = 3 := rfl
theorem lenS4 {x0 x1 x2 x3 : Str} : ([x0, x1, x2, x3] : List Str).length = 4 := rfl
theorem lenS5 {x0 x1 x2 x3 x4 : Str} : ([x0, x1, x2, x3, x4] : List Str).length = 5 := rfl
theorem lenS6 {x0 x1 x2 x3 x4 x5 : Str} : ([x0, x1, x2, x3, x4, x5] : List Str).length = 6 := rfl
theorem lenS7 {x0 x1 x2 x3 x4 x5 x6 : Str} : ([x0, x1, x2, x3, x4, x5, x6] : List Str).length = 7 := rfl
theorem lenS8 {x0 x1 x2 x3 x4 x5 x6 x7 : Str} : ([x0, x1, x2, x3, x4, x5, x6, x7] : List Str).length = 8 := rfl
theorem lenS9 {x0 x1 x2 x3 x4 x5 x6 x7 x8 : Str} : ([x0, x1, x2, x3, x4, x5, x6, x7, x8] : List Str).length = 9 := rfl
theorem lenS10 {x0 x1 x2 x3 x4 x5 x6 x7 x8 x9 : Str} : ([x0, x1, x2, x3, x4, x5, x6, x7, x8, x9] : List Str).length = 10 := rfl
theorem mapS_nil : (([] : List (Str × Tr)).map fun x => x.2) = [] := rfl
theorem mapS_cons {q : Str × Tr} {l : List (Str × Tr)} : ((q :: l).map fun x => x.2) = q.2 :: l.map fun x => x.2 := rfl
theorem nil_l {n : Bool} {xs : List Tr} {z : Tr} : gNil n (.lst xs) (.lst []) z = (z = .bl (n ^^ xs.isEmpty)) := by
  refine propext ⟨fun ⟨_, ys, e, h⟩ => ?_, fun h => ⟨rfl, xs, rfl, h⟩⟩
  cases e
  exact h
theorem eqF_g {n : Bool} {x y z : Tr} {c : Bool} (h : eqF x y = some c) : gEq n x y z = (z = .bl (n ^^ c)) := by
  apply propext
  constructor
  · rintro (⟨d, e, q⟩ | ⟨e, _⟩)
    · rw [h] at e; cases e; exact q
    · rw [h] at e; cases e
  · exact fun q => .inl ⟨_, h, q⟩
theorem eq_nn {n : Bool} {z : Tr} : gEq n .non .non z = (z = .bl (n ^^ true)) := eqF_g rfl
theorem eq_ns {n : Bool} {a : Str} {z : Tr} : gEq n .non (.str a) z = (z = .bl (n ^^ false)) := eqF_g rfl
theorem eq_sn {n : Bool} {a : Str} {z : Tr} : gEq n (.str a) .non z = (z = .bl (n ^^ false)) := eqF_g rfl
theorem eq_ni {n : Bool} {a : Int} {z : Tr} : gEq n .non (.int a) z = (z = .bl (n ^^ false)) := eqF_g rfl
theorem eq_in {n : Bool} {a : Int} {z : Tr} : gEq n (.int a) .non z = (z = .bl (n ^^ false)) := eqF_g rfl
theorem eq_is {n : Bool} {a : Int} {c : Str} {z : Tr} : gEq n (.int a) (.str c) z = (z = .bl (n ^^ false)) := eqF_g rfl
theorem eq_si {n : Bool} {a : Str} {c : Int} {z : Tr} : gEq n (.str a) (.int c) z = (z = .bl (n ^^ false)) := eqF_g rfl
theorem popAt_1 {S : Sto} {xs as : List Tr} {i : Int} {z : Tr} : gPopAt S xs [.int i] as z = (0 ≤ i ∧ i < 2 ^ 63 ∧ xs[i.toNat]? = some z ∧ as = xs.eraseIdx i.toNat) := by
  refine propext ⟨fun ⟨j, e, h⟩ => ?_, fun h => ⟨i, rfl, h⟩⟩
  cases e
  exact h
theorem ix3_0 {a b c : Tr} : ixN [a, b, c].length 0 = some 0 := rfl
theorem ix3_1 {a b c : Tr} : ixN [a, b, c].length 1 = some 1 := rfl
theorem ix3_2 {a b c : Tr} : ixN [a, b, c].length 2 = some 2 := rfl
theorem q_qCell {Q : QV} {S : Sto} {xs : List Tr} : qCell Q (.lst xs) S = (∀ p, S p = none → Q (.ref p) (put S p (.lst xs))) := propext ⟨fun ⟨_, e, q⟩ => by cases e; exact q, fun q => ⟨_, rfl, q⟩⟩
theorem strp {s : Str} {z : Tr} : gStrip (.str s) [] z = (s.length ≤ sizeLine ∧ z = .str (Txt.strip s)) := rfl
theorem upr {s : Str} {z : Tr} : gUpper (.str s) [] z = (s.length ≤ 5592405 ∧ z = .str (Txt.upper s)) := rfl
theorem q_uCv {C : Addr} {t : Tr} {te : UE} {ρ : Rho} {S : Sto} {Q : QV} {X : QX} : uCv C t te ρ S Q X = te ρ S (fun x S1 => x = .ref C ∧ Q t S1) X := propext Iff.rfl
theorem q_rep4 {xs : List Tr} {k : Int} {z : Tr} : gRep (.lst xs) (.int k) z = (-(2 ^ 63) ≤ k ∧ k < 2 ^ 63 ∧ xs.length * k.toNat ≤ sizeLine ∧ z = .lst (List.replicate k.toNat xs).flatten) := rfl
theorem q_uAsgL {ps : List Pat} {te : UE} {D : UEnds} {X : XS} {ρ : Rho} {S : Sto} : uAsgL ps te D X ρ S = (te ρ S (fun x S1 => ∃ xs, asL (vw S1 x) = some xs ∧ ∃ ρ2, patsR ps xs ρ = some ρ2 ∧ D.nx ρ2 S1) (atR X ρ)) := propext Iff.rfl
theorem q_uPar3 {i j l : Nat} {ta : UA} {D : UEnds} {X : XS} {ρ : Rho} {S : Sto} : uPar3 i j l ta D X ρ S = (ta ρ S (fun xs S1 => ∃ x y z, xs = [x, y, z] ∧ D.nx (((ρ.set i (some x)).set j (some y)).set l (some z)) S1) (atR X ρ)) := propext Iff.rfl
theorem q_uCases0 {z : Str} {D : UEnds} {X : XS} {ρ : Rho} {S : Sto} : uCases [] z D X ρ S = D.nx ρ S := rfl
theorem q_uCases1 {c : List Str} {u : US} {cs : UCs} {z : Str} {D : UEnds} {X : XS} {ρ : Rho} {S : Sto} : uCases ((c, u) :: cs) z D X ρ S = (if z ∈ c then u D X ρ S else uCases cs z D X ρ S) := rfl

end KQ
namespace KQ
open PySem PySem.Spec PyProof.Rows L2 TL KB
/-! ### the source of draws: a dict of six -/
def srcKs : List Key := [.inr "cells", .inr "at", .inr "rest", .inr "seed", .inr "room", .inr "long"]
def srcT (ns : List Int) (at_ rest seed room long : Int) : Tr := .dic srcKs [.lst (ns.map Tr.int), .int at_, .int rest, .int seed, .int room, .int long]
theorem sget_cells {x b c d e f : Tr} : kget (.inr (Str.ofString "cells")) srcKs [x, b, c, d, e, f] = some x := by
  simp [srcKs, kget, ofS_inj]
theorem sget_at {x b c d e f : Tr} : kget (.inr (Str.ofString "at")) srcKs [x, b, c, d, e, f] = some b := by
  simp [srcKs, kget, ofS_inj]
theorem sget_rest {x b c d e f : Tr} : kget (.inr (Str.ofString "rest")) srcKs [x, b, c, d, e, f] = some c := by
  simp [srcKs, kget, ofS_inj]
theorem sget_seed {x b c d e f : Tr} : kget (.inr (Str.ofString "seed")) srcKs [x, b, c, d, e, f] = some d := by
  simp [srcKs, kget, ofS_inj]
theorem sget_room {x b c d e f : Tr} : kget (.inr (Str.ofString "room")) srcKs [x, b, c, d, e, f] = some e := by
  simp [srcKs, kget, ofS_inj]
theorem sget_long {x b c d e f : Tr} : kget (.inr (Str.ofString "long")) srcKs [x, b, c, d, e, f] = some f := by
  simp [srcKs, kget, ofS_inj]
theorem sN {k : Key} (h : hasK k srcKs = true) : kputN k srcKs = srcKs := if_pos h
theorem shas_at : hasK (.inr (Str.ofString "at")) srcKs = true := by decide +kernel
theorem shas_rest : hasK (.inr (Str.ofString "rest")) srcKs = true := by decide +kernel
theorem shas_seed : hasK (.inr (Str.ofString "seed")) srcKs = true := by decide +kernel
theorem shas_room : hasK (.inr (Str.ofString "room")) srcKs = true := by decide +kernel
theorem shas_long : hasK (.inr (Str.ofString "long")) srcKs = true := by decide +kernel
theorem sput_at {x b c d e f y : Tr} : kputX (.inr (Str.ofString "at")) y srcKs [x, b, c, d, e, f] = [x, y, c, d, e, f] := by
  unfold kputX; rw [if_pos shas_at]; simp [srcKs, kmap, ofS_inj]
theorem sput_rest {x b c d e f y : Tr} : kputX (.inr (Str.ofString "rest")) y srcKs [x, b, c, d, e, f] = [x, b, y, d, e, f] := by
  unfold kputX; rw [if_pos shas_rest]; simp [srcKs, kmap, ofS_inj]
theorem sput_seed {x b c d e f y : Tr} : kputX (.inr (Str.ofString "seed")) y srcKs [x, b, c, d, e, f] = [x, b, c, y, e, f] := by
  unfold kputX; rw [if_pos shas_seed]; simp [srcKs, kmap, ofS_inj]
theorem sput_room {x b c d e f y : Tr} : kputX (.inr (Str.ofString "room")) y srcKs [x, b, c, d, e, f] = [x, b, c, d, y, f] := by
  unfold kputX; rw [if_pos shas_room]; simp [srcKs, kmap, ofS_inj]
theorem sput_long {x b c d e f y : Tr} : kputX (.inr (Str.ofString "long")) y srcKs [x, b, c, d, e, f] = [x, b, c, d, e, y] := by
  unfold kputX; rw [if_pos shas_long]; simp [srcKs, kmap, ofS_inj]
theorem sN_at : kputN (.inr (Str.ofString "at")) srcKs = srcKs := sN shas_at
theorem sN_rest : kputN (.inr (Str.ofString "rest")) srcKs = srcKs := sN shas_rest
theorem sN_seed : kputN (.inr (Str.ofString "seed")) srcKs = srcKs := sN shas_seed
theorem sN_room : kputN (.inr (Str.ofString "room")) srcKs = srcKs := sN shas_room
theorem sN_long : kputN (.inr (Str.ofString "long")) srcKs = srcKs := sN shas_long
theorem sk_len : (srcKs.length < sizeLine) = True := eq_true (by show 6 < sizeLine; decide)
theorem srcT_eq {ns : List Int} {a r s m l : Int} : srcT ns a r s m l = .dic srcKs [.lst (ns.map Tr.int), .int a, .int r, .int s, .int m, .int l] := rfl
theorem ne_cell {S : Sto} {a p : Addr} {c : Tr} (h : S a = some c) (n : S p = none) : p ≠ a := fun z => by subst z; rw [h] at n; cases n
/-! ### loops by an invariant -/
theorem loop_inv {ok : Sto → Prop} {p : Pat} {tb : US} {D : UEnds} {X : XS} (xs : List Tr) (Pv : Nat → Rho → Sto → Prop)
    (hs : ∀ (i : Nat) (x : Tr) (ρ : Rho) (S : Sto) (N : QS), xs[i]? = some x → Pv i ρ S → (∀ ρ' S', Pv (i + 1) ρ' S' → N ρ' S') → ok S ∧ ∃ ρ2, patR p x ρ = some ρ2 ∧ tb { D with nx := N, ct := N, bk := D.nx } X ρ2 S)
    (he : ∀ ρ S, Pv xs.length ρ S → ok S ∧ D.nx ρ S) {ρ : Rho} {S : Sto} (h0 : Pv 0 ρ S) : uLoop ok p tb D X xs ρ S := by
  have key : ∀ (n i : Nat) (ρ : Rho) (S : Sto), i + n = xs.length → Pv i ρ S → uLoop ok p tb D X (xs.drop i) ρ S := by
    intro n
    induction n with
    | zero =>
      intro i ρ S e h
      have e' : i = xs.length := by omega
      subst e'
      rw [List.drop_length]
      exact he ρ S h
    | succ n ih =>
      intro i ρ S e h
      have hl : i < xs.length := by omega
      rw [List.drop_eq_getElem_cons hl]
      exact hs i _ ρ S _ (List.getElem?_eq_getElem hl) h fun ρ' S' h' => ih (i + 1) ρ' S' (by omega) h'
  exact key xs.length 0 ρ S (by omega) h0
theorem rng_at {n i : Nat} {x : Tr} (h : (rngT 0 n)[i]? = some x) : x = .int i ∧ i < n := by
  have hi : i < n := by
    by_cases z : i < n
    · exact z
    · rw [List.getElem?_eq_none (by rw [rngT_len]; omega)] at h; cases h
  rw [rngT_get n 0 i hi] at h
  cases h
  exact ⟨by rw [Int.zero_add], hi⟩
theorem szn {n : Nat} (h : n ≤ 100000) : n < sizeLine := KB.sizeN h
/-! ### sources -/
def SrcOk (c : Tr) : Prop := ∃ (ns : List Int) (at_ rest seed room long : Int), c = srcT ns at_ rest seed room long ∧ 0 ≤ at_ ∧ 0 ≤ rest
def roomOf : Tr → Int
  | .dic _ [_, _, _, _, .int r, _] => r
  | _ => 0
/-- d is the source c after some draws -/
structure Drw (c d : Tr) : Prop where
  ok : SrcOk d
  rm : roomOf d = roomOf c
theorem Drw.trans {c d e : Tr} (h : Drw c d) (g : Drw d e) : Drw c e := ⟨g.ok, g.rm.trans h.rm⟩
theorem Drw.refl {c : Tr} (h : SrcOk c) : Drw c c := ⟨h, rfl⟩
theorem cdiv_ok {i m : Int} (h0 : 0 < m) (h1 : m ≤ 1000000000000000000000000000000) : CDivW i m := by
  refine ⟨h0, ?_⟩
  by_cases h : m.natAbs = 0
  · rw [h]; decide
  · exact (Nat.log2_lt h).mpr (Nat.lt_of_le_of_lt (show m.natAbs ≤ 1000000000000000000000000000000 by omega) (Nat.lt_of_lt_of_le (show 1000000000000000000000000000000 < 2 ^ 100 by decide) (Nat.pow_le_pow_right (by decide) (by decide))))
/-! ### a source of five -/
def srcKs5 : List Key := [.inr "cells", .inr "at", .inr "rest", .inr "seed", .inr "room"]
def srcT5 (ns : List Int) (at_ rest seed room : Int) : Tr := .dic srcKs5 [.lst (ns.map Tr.int), .int at_, .int rest, .int seed, .int room]
theorem s5get_cells {x b c d e : Tr} : kget (.inr (Str.ofString "cells")) srcKs5 [x, b, c, d, e] = some x := by simp [srcKs5, kget, ofS_inj]
theorem s5get_at {x b c d e : Tr} : kget (.inr (Str.ofString "at")) srcKs5 [x, b, c, d, e] = some b := by simp [srcKs5, kget, ofS_inj]
theorem s5get_rest {x b c d e : Tr} : kget (.inr (Str.ofString "rest")) srcKs5 [x, b, c, d, e] = some c := by simp [srcKs5, kget, ofS_inj]
theorem s5get_seed {x b c d e : Tr} : kget (.inr (Str.ofString "seed")) srcKs5 [x, b, c, d, e] = some d := by simp [srcKs5, kget, ofS_inj]
theorem s5get_room {x b c d e : Tr} : kget (.inr (Str.ofString "room")) srcKs5 [x, b, c, d, e] = some e := by simp [srcKs5, kget, ofS_inj]
theorem s5N {k : Key} (h : hasK k srcKs5 = true) : kputN k srcKs5 = srcKs5 := if_pos h
theorem s5has_at : hasK (.inr (Str.ofString "at")) srcKs5 = true := by decide +kernel
theorem s5has_rest : hasK (.inr (Str.ofString "rest")) srcKs5 = true := by decide +kernel
theorem s5has_seed : hasK (.inr (Str.ofString "seed")) srcKs5 = true := by decide +kernel
theorem s5put_at {x b c d e y : Tr} : kputX (.inr (Str.ofString "at")) y srcKs5 [x, b, c, d, e] = [x, y, c, d, e] := by
  unfold kputX; rw [if_pos s5has_at]; simp [srcKs5, kmap, ofS_inj]
theorem s5put_rest {x b c d e y : Tr} : kputX (.inr (Str.ofString "rest")) y srcKs5 [x, b, c, d, e] = [x, b, y, d, e] := by
  unfold kputX; rw [if_pos s5has_rest]; simp [srcKs5, kmap, ofS_inj]
theorem s5put_seed {x b c d e y : Tr} : kputX (.inr (Str.ofString "seed")) y srcKs5 [x, b, c, d, e] = [x, b, c, y, e] := by
  unfold kputX; rw [if_pos s5has_seed]; simp [srcKs5, kmap, ofS_inj]
theorem s5N_at : kputN (.inr (Str.ofString "at")) srcKs5 = srcKs5 := s5N s5has_at
theorem s5N_rest : kputN (.inr (Str.ofString "rest")) srcKs5 = srcKs5 := s5N s5has_rest
theorem s5N_seed : kputN (.inr (Str.ofString "seed")) srcKs5 = srcKs5 := s5N s5has_seed
theorem s5k_len : (srcKs5.length < sizeLine) = True := eq_true (by show 5 < sizeLine; decide)
theorem srcT5_eq {ns : List Int} {a r s m : Int} : srcT5 ns a r s m = .dic srcKs5 [.lst (ns.map Tr.int), .int a, .int r, .int s, .int m] := rfl
def IsNum (y : Tr) : Prop := ∃ n : Int, y = .int n ∧ n.natAbs < 10 ^ 30
def IsTxt (m : Nat) (y : Tr) : Prop := ∃ z : Str, y = .str z ∧ Pr z ∧ z.length ≤ m
def KOk : Key → Prop
  | .inl n => n.natAbs < 10 ^ 30
  | .inr z => Pr z ∧ z.length ≤ 300
def IsKey (y : Tr) : Prop := ∃ k, y = kT k ∧ KOk k
theorem IsNum.key {y : Tr} (h : IsNum y) : IsKey y := let ⟨n, e, h⟩ := h; ⟨.inl n, e, h⟩
theorem IsTxt.key {y : Tr} {m : Nat} (h : IsTxt m y) (hm : m ≤ 300) : IsKey y := let ⟨z, e, h, l⟩ := h; ⟨.inr z, e, h, Nat.le_trans l hm⟩
/-- an item of a written list -/
theorem menu_ex {xs : List Tr} {n : Nat} {r : Int} {R : Tr → Prop} (hn : xs.length = n) (r0 : 0 ≤ r) (r1 : r < n) (k : ∀ x ∈ xs, R x) : ∃ x, atI xs r = some x ∧ R x := by
  obtain ⟨j, rfl⟩ := Int.eq_ofNat_of_zero_le r0
  have hj : j < xs.length := by omega
  exact ⟨xs[j], atI_nat (List.getElem?_eq_getElem hj), k _ (List.getElem_mem hj)⟩
/-- the other laws' source: three numbers in a list -/
def DrOk (c : Tr) : Prop := ∃ g x y : Int, c = .lst [.int g, .int x, .int y] ∧ 0 ≤ g ∧ 0 ≤ x ∧ x < 2147483648 ∧ 0 ≤ y ∧ y < 2147483648
def sp_dr : TSp := fun xs S Q X => ∃ (a : Addr) (m : Int) (c : Tr), xs = [.ref a, .int m] ∧ S a = some c ∧ DrOk c ∧ 0 < m ∧ m ≤ 1000000000000000000000000000000 ∧ ∀ (r : Int) (c' : Tr), 0 ≤ r → r < m → DrOk c' → Q (.int r) (put S a c')
theorem dr_ok {S : Sto} {a : Addr} {c : Tr} {m : Int} {Q : QV} {X : QX} (hS : S a = some c) (hc : DrOk c) (m0 : 0 < m) (m1 : m ≤ 1000000000000000000000000000000) (hq : ∀ (r : Int) (c' : Tr), 0 ≤ r → r < m → DrOk c' → Q (.int r) (put S a c')) : sp_dr [.ref a, .int m] S Q X := ⟨a, m, c, rfl, hS, hc, m0, m1, hq⟩
def sp_dsome (P : Tr → Prop) : TSp := fun xs S Q X => ∃ (a : Addr) (c : Tr), xs = [.ref a] ∧ S a = some c ∧ DrOk c ∧ ∀ (y c' : Tr), P y → DrOk c' → Q y (put S a c')
theorem dsome_ok {P : Tr → Prop} {S : Sto} {a : Addr} {c : Tr} {Q : QV} {X : QX} (hS : S a = some c) (hc : DrOk c) (hq : ∀ (y c' : Tr), P y → DrOk c' → Q y (put S a c')) : sp_dsome P [.ref a] S Q X := ⟨a, c, rfl, hS, hc, hq⟩
/-! ### a second cell beside the source -/
theorem put3 {S : Sto} {a b : Addr} (n : b ≠ a) (d e f : Tr) : put (put (put S a d) b e) a f = put (put S a f) b e := by rw [put_comm n, put_put]
theorem put_id {S : Sto} {a : Addr} {c : Tr} (h : S a = some c) : put S a c = S := by
  funext b
  by_cases e : b = a
  · subst e; rw [put_same, h]
  · rw [put_ne e]
theorem sub_new {S : Sto} {p : Addr} {c : Tr} (h : S p = none) : Sub S (put S p c) := fun b d e => by rw [put_ne (fun z => by subst z; rw [h] at e; cases e)]; exact e
/-! ### keys -/
theorem kT_flat (k : Key) : flatT (kT k) = some (kV k) := by cases k <;> rfl
theorem kT_flats : ∀ ks : List Key, flatTs (ks.map kT) = some (ks.map kV)
  | [] => rfl
  | k :: ks => by rw [List.map_cons, List.map_cons]; unfold flatTs; rw [kT_flat, kT_flats ks]
theorem kV_in (k : Key) (ks : List Key) : inV (kV k) (ks.map kV) = hasK k ks := by
  have e : ∀ a b : Key, eqV (kV a) (kV b) = decide (a = b) := fun a b => by
    cases a <;> cases b
    · show (_ == _) = _
      rw [Bool.eq_iff_iff, beq_iff_eq, decide_eq_true_eq, Sum.inl.injEq]
    · exact (decide_eq_false (fun h => nomatch h)).symm
    · exact (decide_eq_false (fun h => nomatch h)).symm
    · show (_ == _) = _
      rw [Bool.eq_iff_iff, beq_iff_eq, decide_eq_true_eq, Sum.inr.injEq]
  rw [Bool.eq_iff_iff, hasK_iff]
  unfold inV
  rw [List.any_eq_true]
  constructor
  · rintro ⟨y, hy, h⟩
    obtain ⟨j, hj, rfl⟩ := List.mem_map.mp hy
    rw [e, decide_eq_true_eq] at h
    exact h ▸ hj
  · intro h
    exact ⟨kV k, List.mem_map.mpr ⟨k, h, rfl⟩, by rw [e]; exact decide_eq_true rfl⟩
theorem nodup_put {k : Key} {ks : List Key} (h : ks.Nodup) (n : hasK k ks = false) : (ks ++ [k]).Nodup := by
  rw [List.nodup_append]
  refine ⟨h, by simp, fun a ha b hb z => ?_⟩
  rw [List.mem_singleton] at hb
  subst hb; subst z
  rw [hasK_iff.mpr ha] at n
  cases n
/-- xs != [] of a list of keys -/
theorem kT_toD : ∀ {ks : List Key}, (∀ k ∈ ks, KOk k) → ∃ ds, toDs (ks.map kT) = some ds ∧ PyData.canLayAll0 ds = true ∧ PyData.depthAll ds ≤ 1 ∧ ds.length = ks.length
  | [], _ => ⟨[], rfl, rfl, by decide, rfl⟩
  | k :: ks, h => by
    obtain ⟨ds, e, h1, h2, h3⟩ := kT_toD (ks := ks) fun j hj => h j (List.mem_cons_of_mem _ hj)
    cases k with
    | inl n =>
      refine ⟨.int n :: ds, by rw [List.map_cons]; unfold toDs; rw [e]; rfl, ?_, ?_, by simp [h3]⟩
      · show (true && PyData.canLayAll0 ds) = true
        rw [h1]; rfl
      · show max (PyData.depth (.int n)) (PyData.depthAll ds) ≤ 1
        have : PyData.depth (.int n) ≤ 1 := by simp [PyData.depth]
        omega
    | inr z =>
      refine ⟨.str z :: ds, by rw [List.map_cons]; unfold toDs; rw [e]; rfl, ?_, ?_, by simp [h3]⟩
      · show (PyData.strOk z && PyData.canLayAll0 ds) = true
        rw [h1, KB.pr_strOk (h _ (List.mem_cons_self ..)).1]; rfl
      · show max (PyData.depth (.str z)) (PyData.depthAll ds) ≤ 1
        have : PyData.depth (.str z) ≤ 1 := by simp [PyData.depth]
        omega
end KQ
namespace KQ
open PySem PySem.Spec PyProof.Rows L2 TL KB
/-! ### values, as models and as what the program makes of them -/
mutual
def mT : Val → Tr
  | .non => .non
  | .bl b => .bl b
  | .int n => .int n
  | .str z => .str z
  | .lst vs => .tup [.str "list", .lst (mTL vs)]
  | .tup vs => .tup [.str "tuple", .lst (mTL vs)]
  | .tab ks vs => .tup [.str "table", .lst (mTP ks vs)]
def mTL : List Val → List Tr
  | [] => []
  | v :: vs => mT v :: mTL vs
def mTP : List Key → List Val → List Tr
  | k :: ks, v :: vs => .tup [kT k, mT v] :: mTP ks vs
  | _, _ => []
end
mutual
def vT (C : Addr) : Val → Tr
  | .non => .non
  | .bl b => .bl b
  | .int n => .int n
  | .str z => .str z
  | .lst vs => .lst (vTL C vs)
  | .tup vs => .tup (vTL C vs)
  | .tab ks vs => .ins C ["held"] [.dic ks (vTL C vs)]
def vTL (C : Addr) : List Val → List Tr
  | [] => []
  | v :: vs => vT C v :: vTL C vs
end
mutual
def VOk : Val → Prop
  | .non => True
  | .bl _ => True
  | .int n => n.natAbs < 10 ^ 30
  | .str z => Pr z ∧ z.length ≤ 300
  | .lst vs => VOkL vs
  | .tup vs => VOkL vs
  | .tab ks vs => VOkL vs ∧ ks.length = vs.length ∧ (∀ k ∈ ks, KOk k) ∧ ks.Nodup
def VOkL : List Val → Prop
  | [] => True
  | v :: vs => VOk v ∧ VOkL vs
end
theorem VOkL.get : ∀ {vs : List Val} {i : Nat} {v : Val}, VOkL vs → vs[i]? = some v → VOk v
  | [], i, v, _, e => by simp at e
  | w :: vs, 0, v, h, e => (Option.some.inj e) ▸ h.1
  | w :: vs, i + 1, v, h, e => VOkL.get (vs := vs) (i := i) h.2 e
theorem vpL_snoc : ∀ (vs : List Val) (v : Val), vpartsL (vs ++ [v]) = vpartsL vs + vparts v
  | [], v => by simp [vpartsL]
  | w :: vs, v => by
    show vparts w + vpartsL (vs ++ [v]) = vparts w + vpartsL vs + vparts v
    rw [vpL_snoc vs v]; omega
/-! ### the same but for the order of tables -/
mutual
def Shf : Val → Val → Prop
  | .lst vs, w => ∃ ws, w = .lst ws ∧ ShfL vs ws
  | .tup vs, w => ∃ ws, w = .tup ws ∧ ShfL vs ws
  | .tab ks vs, w => ∃ js ws us, w = .tab js ws ∧ ShfL vs us ∧ js.length = ws.length ∧ (js.zip ws).Perm (ks.zip us)
  | v, w => w = v
def ShfL : List Val → List Val → Prop
  | [], ws => ws = []
  | v :: vs, ws => ∃ w us, ws = w :: us ∧ Shf v w ∧ ShfL vs us
end
theorem ShfL.len : ∀ {vs ws : List Val}, ShfL vs ws → ws.length = vs.length
  | [], _, h => by cases h; rfl
  | x :: vs, _, h => by
    obtain ⟨y, us, rfl, h1, h2⟩ := h
    exact congrArg (· + 1) h2.len
/-! ### tables as pairs -/
def pK (ps : List (Key × Val)) : List Key := ps.map (·.1)
def pV (ps : List (Key × Val)) : List Val := ps.map (·.2)
def tabV (ps : List (Key × Val)) : Val := .tab (pK ps) (pV ps)
/-- what the pairs of a law's table keep to -/
structure PsOk (n : Nat) (ps : List (Key × Val)) : Prop where
  nd : (pK ps).Nodup
  len : ps.length ≤ n
  ok : ∀ p ∈ ps, KOk p.1 ∧ VOk p.2 ∧ vdepth p.2 ≤ 3 ∧ vparts p.2 ≤ 100
theorem pv_bounds : ∀ {ps : List (Key × Val)}, (∀ p ∈ ps, KOk p.1 ∧ VOk p.2 ∧ vdepth p.2 ≤ 3 ∧ vparts p.2 ≤ 100) → VOkL (pV ps) ∧ vdepthL (pV ps) ≤ 3 ∧ vpartsL (pV ps) ≤ 100 * ps.length
  | [], _ => ⟨trivial, by decide, by decide⟩
  | p :: ps, h => by
    obtain ⟨h1, h2, h3⟩ := pv_bounds (ps := ps) fun q hq => h q (List.mem_cons_of_mem _ hq)
    obtain ⟨g1, g2, g3, g4⟩ := h p (List.mem_cons_self ..)
    refine ⟨⟨g2, h1⟩, ?_, ?_⟩
    · show max (vdepth p.2) (vdepthL (pV ps)) ≤ 3; omega
    · show vparts p.2 + vpartsL (pV ps) ≤ 100 * (ps.length + 1); omega
theorem PsOk.val {n : Nat} {ps : List (Key × Val)} (h : PsOk n ps) : VOk (tabV ps) ∧ vdepth (tabV ps) ≤ 4 ∧ vparts (tabV ps) ≤ 1 + 100 * n := by
  obtain ⟨h1, h2, h3⟩ := pv_bounds h.ok
  have := h.len
  refine ⟨⟨h1, by unfold pK pV; simp, fun k hk => ?_, h.nd⟩, ?_, ?_⟩
  · obtain ⟨p, hp, rfl⟩ := List.mem_map.mp hk
    exact (h.ok p hp).1
  · show 1 + vdepthL (pV ps) ≤ 4; omega
  · show 1 + vpartsL (pV ps) ≤ 1 + 100 * n; omega
def putP (k : Key) (v : Val) (ps : List (Key × Val)) : List (Key × Val) := if hasK k (pK ps) = true then ps.map (fun p => (p.1, if p.1 = k then v else p.2)) else ps ++ [(k, v)]
def takeP (k : Key) (ps : List (Key × Val)) : List (Key × Val) := ps.filter fun p => !decide (p.1 = k)
theorem PsOk.more {n m : Nat} {ps : List (Key × Val)} (h : PsOk n ps) (l : n ≤ m) : PsOk m ps := ⟨h.nd, Nat.le_trans h.len l, h.ok⟩
theorem PsOk.take {n : Nat} {k : Key} {ps : List (Key × Val)} (h : PsOk n ps) : PsOk n (takeP k ps) :=
  ⟨h.nd.sublist (List.Sublist.map _ List.filter_sublist), Nat.le_trans (List.length_filter_le ..) h.len, fun p hp => h.ok p (List.mem_filter.mp hp).1⟩
theorem PsOk.put {n : Nat} {k : Key} {v : Val} {ps : List (Key × Val)} (h : PsOk n ps) (hk : KOk k) (h1 : VOk v) (h2 : vdepth v ≤ 3) (h3 : vparts v ≤ 100) : PsOk (n + 1) (putP k v ps) := by
  unfold putP
  have := h.len
  split
  · refine ⟨?_, by rw [List.length_map]; omega, fun p hp => ?_⟩
    · have e : pK (ps.map (fun p => (p.1, if p.1 = k then v else p.2))) = pK ps := by unfold pK; rw [List.map_map]; rfl
      rw [e]; exact h.nd
    · obtain ⟨q, hq, rfl⟩ := List.mem_map.mp hp
      have g := h.ok q hq
      refine ⟨g.1, ?_⟩
      show VOk (if q.1 = k then v else q.2) ∧ vdepth (if q.1 = k then v else q.2) ≤ 3 ∧ vparts (if q.1 = k then v else q.2) ≤ 100
      split
      · exact ⟨h1, h2, h3⟩
      · exact g.2
  · rename_i hn
    refine ⟨?_, by rw [List.length_append]; show ps.length + 1 ≤ _; omega, fun p hp => ?_⟩
    · have e : pK (ps ++ [(k, v)]) = pK ps ++ [k] := by unfold pK; rw [List.map_append]; rfl
      rw [e]; exact nodup_put h.nd (by simpa using hn)
    · rcases List.mem_append.mp hp with hp | hp
      · exact h.ok p hp
      · rw [List.mem_singleton.mp hp]; exact ⟨hk, h1, h2, h3⟩
def lookP (k : Key) (qs : List (Key × Val)) : Option Val := (qs.find? fun q => decide (q.1 = k)).map (·.2)
def orP (ps qs : List (Key × Val)) : List (Key × Val) := ps.map (fun p => (p.1, (lookP p.1 qs).getD p.2)) ++ qs.filter fun q => !hasK q.1 (pK ps)
theorem pK_or {ps qs : List (Key × Val)} : pK (orP ps qs) = pK ps ++ pK (qs.filter fun q => !hasK q.1 (pK ps)) := by
  unfold orP pK
  rw [List.map_append, List.map_map]
  rfl
theorem has_filter {k : Key} {qs : List (Key × Val)} {f : Key → Bool} : hasK k (pK (qs.filter fun q => f q.1)) = (f k && hasK k (pK qs)) := by
  rw [Bool.eq_iff_iff, Bool.and_eq_true, hasK_iff, hasK_iff]
  constructor
  · intro h
    obtain ⟨q, hq, rfl⟩ := List.mem_map.mp h
    have := List.mem_filter.mp hq
    exact ⟨this.2, List.mem_map.mpr ⟨q, this.1, rfl⟩⟩
  · rintro ⟨h1, h2⟩
    obtain ⟨q, hq, rfl⟩ := List.mem_map.mp h2
    exact List.mem_map.mpr ⟨q, List.mem_filter.mpr ⟨hq, h1⟩, rfl⟩
theorem look_mem {k : Key} {v : Val} {qs : List (Key × Val)} (h : lookP k qs = some v) : (k, v) ∈ qs := by
  unfold lookP at h
  cases e : qs.find? fun q => decide (q.1 = k) with
  | none => rw [e] at h; cases h
  | some q =>
    rw [e] at h
    have h1 := List.mem_of_find?_eq_some e
    have h2 : q.1 = k := by have := List.find?_some e; simpa using this
    cases h
    rw [← h2]
    exact h1
theorem PsOk.filter {n : Nat} {f : Key × Val → Bool} {ps : List (Key × Val)} (h : PsOk n ps) : PsOk n (ps.filter f) :=
  ⟨h.nd.sublist (List.Sublist.map _ List.filter_sublist), Nat.le_trans (List.length_filter_le ..) h.len, fun p hp => h.ok p (List.mem_filter.mp hp).1⟩
theorem PsOk.or {n m : Nat} {ps qs : List (Key × Val)} (h : PsOk n ps) (g : PsOk m qs) : PsOk (n + m) (orP ps qs) := by
  have h1 := h.len
  have h2 := g.len
  refine ⟨?_, ?_, fun p hp => ?_⟩
  · rw [pK_or, List.nodup_append]
    refine ⟨h.nd, g.nd.sublist (List.Sublist.map _ List.filter_sublist), fun a ha b hb z => ?_⟩
    subst z
    have := hasK_iff.mpr hb
    rw [has_filter (f := fun j => !hasK j (pK ps)), hasK_iff.mpr ha] at this
    cases this
  · unfold orP
    rw [List.length_append, List.length_map]
    have := List.length_filter_le (fun q : Key × Val => !hasK q.1 (pK ps)) qs
    omega
  · unfold orP at hp
    rcases List.mem_append.mp hp with hp | hp
    · obtain ⟨q, hq, rfl⟩ := List.mem_map.mp hp
      have gq := h.ok q hq
      refine ⟨gq.1, ?_⟩
      show VOk ((lookP q.1 qs).getD q.2) ∧ vdepth ((lookP q.1 qs).getD q.2) ≤ 3 ∧ vparts ((lookP q.1 qs).getD q.2) ≤ 100
      cases e : lookP q.1 qs with
      | none => exact gq.2
      | some v => exact (g.ok _ (look_mem e)).2
    · exact g.ok p (List.mem_filter.mp hp).1
/-! ### models as data -/
theorem vw_vT {S : Sto} {C : Addr} {v : Val} : vw S (vT C v) = vT C v := by cases v <;> rfl
theorem vw_mT {S : Sto} {v : Val} : vw S (mT v) = mT v := by cases v <;> rfl
/-! ### two cells beside the source -/
section
variable {S : Sto} {a p q : Addr} {c x y d : Tr}
end
/-- leaves -/
def leafV : Val → Prop
  | .lst _ => False
  | .tup _ => False
  | .tab _ _ => False
  | _ => True
def IsLeaf (y : Tr) : Prop := ∃ v : Val, y = mT v ∧ leafV v ∧ VOk v
theorem IsTxt.leaf {y : Tr} (h : IsTxt 300 y) : IsLeaf y := let ⟨z, e, h, l⟩ := h; ⟨.str z, e, trivial, h, l⟩
theorem IsNum.leaf {y : Tr} (h : IsNum y) : IsLeaf y := let ⟨n, e, h⟩ := h; ⟨.int n, e, trivial, h⟩
end KQ
namespace KQ
open PySem PySem.Spec PyProof.Rows L2 TL KB
/-! ### what the laws compare: atoms, (word, items), ("table", pairs) -/
inductive Md where
  | non
  | bl (b : Bool)
  | int (n : Int)
  | str (z : Str)
  | row (t : Str) (xs : List Md)
  | tab (ks : List Key) (xs : List Md)
mutual
def DOk : Md → Prop
  | .row t xs => t ≠ "table" ∧ DOkL xs
  | .tab ks xs => ks.length = xs.length ∧ DOkL xs
  | _ => True
def DOkL : List Md → Prop
  | [] => True
  | x :: xs => DOk x ∧ DOkL xs
end
theorem DOkL.get : ∀ {xs : List Md} {i : Nat} {x : Md}, DOkL xs → xs[i]? = some x → DOk x
  | x :: xs, 0, _, h, e => by cases e; exact h.1
  | y :: xs, i + 1, x, h, e => by rw [List.getElem?_cons_succ] at e; exact DOkL.get h.2 e
/-! ### values as such things -/
end KQ
namespace KQ
open PySem PySem.Spec PyProof.Rows L2 TL KB
/-! ### sameness, in order (o) or not -/
theorem bool_iff {a b : Bool} (h : a = true ↔ b = true) : a = b := by cases a <;> cases b <;> simp_all
/-- the word for a value's kind -/
def kindS : Val → Str
  | .non => "null"
  | .bl true => "true"
  | .bl false => "false"
  | .int _ => "integer"
  | .str _ => "text"
  | .lst _ => "list"
  | .tup _ => "tuple"
  | .tab _ _ => "table"
/-! ### lists of values changed -/
theorem ShfL.get : ∀ {vs ws : List Val} {i : Nat} {v : Val}, ShfL vs ws → vs[i]? = some v → ∃ w, ws[i]? = some w ∧ Shf v w
  | [], _, i, v, _, h => by simp at h
  | x :: xs, _, 0, v, h, e => by obtain ⟨w, us, rfl, h1, h2⟩ := h; cases e; exact ⟨w, rfl, h1⟩
  | x :: xs, _, i + 1, v, h, e => by obtain ⟨w, us, rfl, h1, h2⟩ := h; rw [List.getElem?_cons_succ] at e ⊢; exact ShfL.get h2 e
theorem PsOk.cut {n : Nat} {ps : List (Key × Val)} (h : PsOk n ps) (i : Nat) : PsOk n (ps.take i) :=
  ⟨by unfold pK; rw [List.map_take]; exact h.nd.sublist (List.take_sublist _ _), Nat.le_trans (by rw [List.length_take]; omega) h.len, fun p hp => h.ok p (List.mem_of_mem_take hp)⟩
/-! ### lists of keys compared -/
def kPD : Key → PyData
  | .inl n => .int n
  | .inr z => .str z
theorem kPD_toDs : ∀ ks : List Key, toDs (ks.map kT) = some (ks.map kPD)
  | [] => rfl
  | k :: ks => by cases k <;> (rw [List.map_cons]; unfold toDs; rw [kPD_toDs ks]; rfl)
theorem kPD_eqv : ∀ ks js : List Key, PyData.eqvAll (ks.map kPD) (js.map kPD) = decide (ks = js)
  | [], [] => rfl
  | [], _ :: _ => by simp [PyData.eqvAll]
  | _ :: _, [] => by simp [PyData.eqvAll]
  | k :: ks, j :: js => by
    rw [List.map_cons, List.map_cons, PyData.eqvAll, kPD_eqv ks js]
    have e : PyData.eqv (kPD k) (kPD j) = decide (k = j) := by
      cases k <;> cases j <;> simp [kPD, PyData.eqv]
      · rename_i a b; by_cases h : a = b <;> simp [h]
      · rename_i a b; by_cases h : a = b <;> simp [h]
    rw [e]
    by_cases h : k = j <;> by_cases g : ks = js <;> simp [h, g]
end KQ
namespace KQ
open PySem PySem.Spec PyProof.Rows L2 TL KB
def kindsL : List Str := ["null", "true", "false", "integer", "text", "list", "tuple", "table"]
theorem kinds_in {z : Str} : inV (V.str z) (kindsL.map V.str) = decide (z ∈ kindsL) := by
  have := kV_in (.inr z) (kindsL.map Sum.inr)
  rw [List.map_map] at this
  refine (show inV (V.str z) (kindsL.map V.str) = _ from this).trans (bool_iff ?_)
  rw [hasK_iff, decide_eq_true_eq]
  simp
def KAtom (y : Tr) : Prop := ∃ k : Key, y = kT k ∧ KOk k
/-! models of the laws k35-k58 -/
mutual
def nM : Val → Tr
  | .non => .tup [.str "null", .non]
  | .bl true => .tup [.str "true", .non]
  | .bl false => .tup [.str "false", .non]
  | .int n => .tup [.str "integer", .int n]
  | .str z => .tup [.str "text", .str z]
  | .lst vs => .tup [.str "list", .lst (nML vs)]
  | .tup vs => .tup [.str "tuple", .lst (nML vs)]
  | .tab ks vs => .tup [.str "table", .lst (nMP ks vs)]
def nML : List Val → List Tr
  | [] => []
  | v :: vs => nM v :: nML vs
def nMP : List Key → List Val → List Tr
  | k :: ks, v :: vs => .tup [kT k, nM v] :: nMP ks vs
  | _, _ => []
end
theorem nML_map : ∀ vs : List Val, nML vs = vs.map nM
  | [] => rfl
  | v :: vs => by rw [nML, nML_map vs]; rfl
structure Hide (p : Prop) : Prop where
  go : p
theorem str_key (k : Key) (h : KOk k) : ∃ z : Str, gStr4 [kT k] (.str z) ∧ KOk (.inr z) := by
  cases k with
  | inl n => exact ⟨Str.ofString (toString n), ⟨log_int h, rfl⟩, pr_int n, Nat.le_trans (len_int (k := 30) (by decide) h) (by decide)⟩
  | inr z => exact ⟨z, rfl, h⟩
theorem cut_take {xs : List Tr} {m : Nat} : cutT xs none (some (m : Int)) = xs.take m := by
  unfold cutT
  rw [HT.sIx_none, HT.sIx_nat, List.drop_zero, Nat.sub_zero]
  rcases Nat.le_total m xs.length with h | h
  · rw [Nat.min_eq_left h]
  · rw [Nat.min_eq_right h, List.take_of_length_le (Nat.le_refl _), List.take_of_length_le h]
theorem okL_memN : ∀ {vs : List Val}, (∀ v ∈ vs, VOk v) → VOkL vs
  | [], _ => trivial
  | v :: vs, h => ⟨h v (by simp), okL_memN fun w hw => h w (List.mem_cons_of_mem _ hw)⟩
theorem vdL_le {n : Nat} : ∀ {vs : List Val}, (∀ v ∈ vs, vdepth v ≤ n) → vdepthL vs ≤ n
  | [], _ => Nat.zero_le _
  | v :: vs, h => by
    have h1 := h v (by simp)
    have h2 := vdL_le (n := n) (vs := vs) fun w hw => h w (List.mem_cons_of_mem _ hw)
    show max (vdepth v) (vdepthL vs) ≤ n
    omega
theorem inr_kT (ls : List Str) : (ls.map (Sum.inr : Str → Key)).map kT = ls.map Tr.str := by rw [List.map_map]; rfl
/-! membership in written lists of texts, for the walk "vl" -/
theorem fl_cons {z : Str} {xs : List Tr} : flatTs (.str z :: xs) = (flatTs xs).map (V.str z :: ·) := by
  rw [flatTs]; cases flatTs xs <;> rfl
theorem fl_nil : flatTs [] = some [] := rfl
theorem iv_cons {z y : Str} {vs : List V} : inV (V.str z) (V.str y :: vs) = (decide (z = y) || inV (V.str z) vs) := by
  have e : ∀ ls : List V, inV (V.str z) (V.str y :: ls) = (eqV (V.str y) (V.str z) || inV (V.str z) ls) := fun ls => by
    unfold inV; rw [List.any_cons]
  rw [e]
  have k := kV_in (.inr z) [.inr y]
  rw [List.map_cons, List.map_nil] at k
  have k2 := e []
  have n : inV (V.str z) [] = false := rfl
  rw [n, Bool.or_false] at k2
  rw [← k2]
  refine congrArg (· || _) ((show inV (V.str z) [V.str y] = _ from k).trans ?_)
  unfold hasK
  rw [List.any_cons, List.any_nil, Bool.or_false]
  refine bool_iff ?_
  rw [decide_eq_true_eq, decide_eq_true_eq]
  exact ⟨fun h => (Sum.inr.inj h).symm, fun h => by rw [h]⟩
theorem iv_nil {v : V} : inV v [] = false := rfl
/-- what a model holds beside its kind -/
def payT : Val → Tr
  | .non => .non
  | .bl _ => .non
  | .int n => .int n
  | .str z => .str z
  | .lst vs => .lst (vs.map nM)
  | .tup vs => .lst (vs.map nM)
  | .tab ks vs => .lst (nMP ks vs)
theorem nM_eq (v : Val) : nM v = .tup [.str (kindS v), payT v] := by
  cases v with
  | bl b => cases b <;> rfl
  | lst vs => simp only [nM, nML_map]; rfl
  | tup vs => simp only [nM, nML_map]; rfl
  | _ => rfl
theorem vw_nM {S : Sto} {v : Val} : vw S (nM v) = .tup [.str (kindS v), payT v] := by rw [nM_eq]; rfl
theorem vw_payT {S : Sto} {v : Val} : vw S (payT v) = payT v := by cases v <;> rfl
/-- the place of a key -/
def kIx (k : Key) (ks : List Key) : Nat := ks.findIdx fun j => decide (j = k)
/-! ### conditions -/
inductive CT where
  | kind | equals | size | has | item | before | first | every | some | both | either | inv
inductive Cnd where
  | kind (z : Str)
  | equals (k : Key)
  | size (n : Int)
  | has (k : Key)
  | item (k : Key) (l : Str)
  | before (k j : Key)
  | first (l : Str)
  | every (l : Str)
  | some (l : Str)
  | both (a b : Cnd)
  | either (a b : Cnd)
  | inv (a : Cnd)
def Cnd.tag : Cnd → CT
  | .kind _ => .kind
  | .equals _ => .equals
  | .size _ => .size
  | .has _ => .has
  | .item _ _ => .item
  | .before _ _ => .before
  | .first _ => .first
  | .every _ => .every
  | .some _ => .some
  | .both _ _ => .both
  | .either _ _ => .either
  | .inv _ => .inv
/-- the classes of the conditions; those that a law's text lacks are none -/
structure CA where
  adr : CT → Option Addr
  seen : Addr
def CA.of (a : CA) (τ : CT) : Addr := (a.adr τ).getD 0
def cT (a : CA) : Cnd → Tr
  | .kind z => .ins (a.of .kind) ["name"] [.str z]
  | .equals k => .ins (a.of .equals) ["atom"] [kT k]
  | .size n => .ins (a.of .size) ["count"] [.int n]
  | .has k => .ins (a.of .has) ["key"] [kT k]
  | .item k l => .ins (a.of .item) ["key", "label"] [kT k, .str l]
  | .before k j => .ins (a.of .before) ["first", "second"] [kT k, kT j]
  | .first l => .ins (a.of .first) ["label"] [.str l]
  | .every l => .ins (a.of .every) ["label"] [.str l]
  | .some l => .ins (a.of .some) ["label"] [.str l]
  | .both c d => .ins (a.of .both) ["left", "right"] [cT a c, cT a d]
  | .either c d => .ins (a.of .either) ["left", "right"] [cT a c, cT a d]
  | .inv c => .ins (a.of .inv) ["inner"] [cT a c]
def LOk (l : Str) : Prop := Pr l ∧ l.length ≤ 300
def COk (a : CA) : Cnd → Prop
  | .kind z => (∃ C, a.adr .kind = Option.some C) ∧ z ∈ kindsL
  | .equals k => (∃ C, a.adr .equals = Option.some C) ∧ KOk k
  | .size n => (∃ C, a.adr .size = Option.some C) ∧ 0 ≤ n ∧ n ≤ 4
  | .has k => (∃ C, a.adr .has = Option.some C) ∧ KOk k
  | .item k l => (∃ C, a.adr .item = Option.some C) ∧ KOk k ∧ LOk l
  | .before k j => (∃ C, a.adr .before = Option.some C) ∧ KOk k ∧ KOk j
  | .first l => (∃ C, a.adr .first = Option.some C) ∧ LOk l
  | .every l => (∃ C, a.adr .every = Option.some C) ∧ LOk l
  | .some l => (∃ C, a.adr .some = Option.some C) ∧ LOk l
  | .both c d => (∃ C, a.adr .both = Option.some C) ∧ COk a c ∧ COk a d
  | .either c d => (∃ C, a.adr .either = Option.some C) ∧ COk a c ∧ COk a d
  | .inv c => (∃ C, a.adr .inv = Option.some C) ∧ COk a c
def cdep : Cnd → Nat
  | .both a b => 1 + max (cdep a) (cdep b)
  | .either a b => 1 + max (cdep a) (cdep b)
  | .inv a => 1 + cdep a
  | _ => 1
theorem cdep_pos (c : Cnd) : 0 < cdep c := by cases c <;> simp only [cdep] <;> omega
/-- how many leaves -/
def csz : Cnd → Nat
  | .both a b => csz a + csz b
  | .either a b => csz a + csz b
  | .inv a => csz a
  | _ => 1
def isLeaf : CT → Bool
  | .both => false
  | .either => false
  | .inv => false
  | _ => true
def anyTag : CT → Bool := fun _ => true
theorem COk.at {a : CA} {c : Cnd} (h : COk a c) : ∃ C, a.adr c.tag = Option.some C := by
  cases c <;> exact h.1
def fldL : List Str := ["name", "atom", "count", "key", "label", "first", "second", "left", "right", "inner"]
/-- a condition as an object -/
theorem cT_ins {a : CA} {c : Cnd} (h : COk a c) : ∃ C fs xs, a.adr c.tag = Option.some C ∧ cT a c = .ins C fs xs ∧ (∀ m, m ∉ fldL → fget m fs xs = none) := by
  obtain ⟨C, hC⟩ := h.at
  refine ⟨C, ?_⟩
  cases c <;> (simp only [Cnd.tag] at hC; refine ⟨_, _, hC, by rw [cT, CA.of, hC]; rfl, fun m hm => ?_⟩; simp only [fldL, List.mem_cons, List.not_mem_nil, or_false, not_or] at hm; simp [fget, hm])
/-- the methods of the condition classes, by their tags -/
def vm (a : CA) (sp : CT → TSp) : Addr → TSp → Prop := fun C t => ∃ τ, a.adr τ = Option.some C ∧ t = sp τ
theorem vm_go {a : CA} {sp : CT → TSp} {c : Cnd} {m : Str} {S : Sto} {F : TSp → Prop} (h : COk a c) (hm : m ∉ fldL) (hF : F (sp c.tag)) :
    ∃ C fs xs, vw S (cT a c) = .ins C fs xs ∧ ∃ t, vm a sp C t ∧ fget m fs xs = none ∧ F t := by
  obtain ⟨C, fs, xs, h1, h2, h3⟩ := cT_ins h
  exact ⟨C, fs, xs, by rw [h2]; rfl, sp c.tag, ⟨_, h1, rfl⟩, h3 m hm, hF⟩
/-! what a condition sees of a value v whose items have the labels ls -/
def isBox : Val → Bool
  | .lst _ => true
  | .tup _ => true
  | .tab _ _ => true
  | _ => false
def vitems : Val → List Val
  | .lst vs => vs
  | .tup vs => vs
  | .tab _ vs => vs
  | _ => []
theorem turns_of (l : Nat) (k : Int) (h0 : 1 ≤ k) (h1 : k ≤ 1000) : ∃ m : Nat, (if (if (l : Int) < k then (l : Int) else k) > 1 then if (l : Int) < k then (l : Int) else k else 1) = (m : Int) ∧ (m : Int) ≤ k := by
  refine ⟨(if (if (l : Int) < k then (l : Int) else k) > 1 then if (l : Int) < k then (l : Int) else k else 1).toNat, ?_, ?_⟩ <;> split <;> (try split) <;> omega
def atomT : Val → Tr
  | .non => .non
  | .bl b => .bl b
  | .int n => .int n
  | .str z => .str z
  | _ => .non
def keysT : Val → Tr
  | .tab ks _ => .lst (ks.map kT)
  | _ => .non
def labsT (v : Val) (ls : List Str) : Tr := if isBox v = true then .lst (ls.map .str) else .non
def seenT (a : CA) (v : Val) (ls : List Str) : Tr := .ins a.seen ["shape", "atom", "key_rows", "labels"] [.str (kindS v), atomT v, keysT v, labsT v ls]
theorem vw_seenT {S : Sto} {a : CA} {v : Val} {ls : List Str} : vw S (seenT a v ls) = .ins a.seen ["shape", "atom", "key_rows", "labels"] [.str (kindS v), atomT v, keysT v, labsT v ls] := rfl
def holds : Cnd → Val → List Str → Bool
  | .kind z, v, _ => decide (kindS v = z)
  | .equals k, v, _ => match v, k with
    | .int n, .inl m => decide (n = m)
    | .str z, .inr y => decide (z = y)
    | _, _ => false
  | .size n, v, ls => isBox v && decide ((ls.length : Int) = n)
  | .has k, v, _ => match v with
    | .tab ks _ => hasK k ks
    | _ => false
  | .item k l, v, ls => match v with
    | .tab ks _ => hasK k ks && decide (ls[kIx k ks]? = Option.some l)
    | _ => false
  | .before k j, v, _ => match v with
    | .tab ks _ => hasK k ks && hasK j ks && decide (kIx k ks < kIx j ks)
    | _ => false
  | .first l, v, ls => match v with
    | .lst _ => decide (ls.take 1 = [l])
    | .tup _ => decide (ls.take 1 = [l])
    | _ => false
  | .every l, v, ls => isBox v && ls.all fun x => decide (x = l)
  | .some l, v, ls => isBox v && decide (l ∈ ls)
  | .both c d, v, ls => holds c v ls && holds d v ls
  | .either c d, v, ls => holds c v ls || holds d v ls
  | .inv c, v, ls => !holds c v ls
/-- the first rule that holds -/
def ruleOf : List (Str × Cnd) → Val → List Str → Str
  | [], _, _ => "other"
  | (z, c) :: rs, v, ls => if holds c v ls = true then z else ruleOf rs v ls
mutual
def labV (rs : List (Str × Cnd)) : Val → Str
  | .lst vs => ruleOf rs (.lst vs) (labsV rs vs)
  | .tup vs => ruleOf rs (.tup vs) (labsV rs vs)
  | .tab ks vs => ruleOf rs (.tab ks vs) (labsV rs vs)
  | .non => ruleOf rs .non []
  | .bl b => ruleOf rs (.bl b) []
  | .int n => ruleOf rs (.int n) []
  | .str z => ruleOf rs (.str z) []
def labsV (rs : List (Str × Cnd)) : List Val → List Str
  | [] => []
  | v :: vs => labV rs v :: labsV rs vs
end
/-- whether a condition holds for a value, by the labels -/
def fitsV (rs : List (Str × Cnd)) (c : Cnd) (v : Val) : Bool := holds c v ((vitems v).map (labV rs))
/-! what a condition mentions -/
def leavesC : Cnd → List Cnd
  | .both a b => leavesC a ++ leavesC b
  | .either a b => leavesC a ++ leavesC b
  | .inv a => leavesC a
  | c => [c]
def ownK : Cnd → List Key
  | .has k => [k]
  | .item k _ => [k]
  | .before k j => [k, j]
  | _ => []
def ownL : Cnd → List Str
  | .item _ l => [l]
  | .first l => [l]
  | .every l => [l]
  | .some l => [l]
  | _ => []
/-- without the later ones -/
def nub {α : Type} [DecidableEq α] : List α → List α → List α
  | acc, [] => acc
  | acc, x :: xs => if x ∈ acc then nub acc xs else nub (acc ++ [x]) xs
def keyL (c : Cnd) : List Key := nub [] ((leavesC c).flatMap ownK)
def labL (c : Cnd) : List Str := nub [] ((leavesC c).flatMap ownL)
theorem leaves_len (c : Cnd) : (leavesC c).length = csz c := by
  induction c <;> simp_all [leavesC, csz]
theorem leaves_ok {a : CA} {c : Cnd} (h : COk a c) : ∀ d ∈ leavesC c, COk a d ∧ isLeaf d.tag = true := by
  induction c with
  | both c d ih1 ih2 => intro x hx; rcases List.mem_append.mp hx with hx | hx; exact ih1 h.2.1 x hx; exact ih2 h.2.2 x hx
  | either c d ih1 ih2 => intro x hx; rcases List.mem_append.mp hx with hx | hx; exact ih1 h.2.1 x hx; exact ih2 h.2.2 x hx
  | inv c ih => exact ih h.2
  | _ => intro x hx; rw [List.mem_singleton.mp hx]; exact ⟨h, rfl⟩
theorem nub_app {α : Type} [DecidableEq α] : ∀ (acc xs ys : List α), nub acc (xs ++ ys) = nub (nub acc xs) ys
  | _, [], _ => rfl
  | acc, x :: xs, ys => by
    rw [List.cons_append, nub, nub]
    split
    · exact nub_app acc xs ys
    · exact nub_app _ xs ys
theorem nub_in {α : Type} [DecidableEq α] {acc xs : List α} {x : α} (h : x ∈ nub acc xs) : nub acc (xs ++ [x]) = nub acc xs := by
  rw [nub_app, nub, if_pos h]; rfl
theorem nub_out {α : Type} [DecidableEq α] {acc xs : List α} {x : α} (h : x ∉ nub acc xs) : nub acc (xs ++ [x]) = nub acc xs ++ [x] := by
  rw [nub_app, nub, if_neg h]; rfl
theorem nub_len {α : Type} [DecidableEq α] : ∀ (acc xs : List α), (nub acc xs).length ≤ acc.length + xs.length
  | acc, [] => by simp [nub]
  | acc, x :: xs => by
    unfold nub
    split
    · have := nub_len acc xs; simp only [List.length_cons]; omega
    · have := nub_len (acc ++ [x]) xs; simp only [List.length_append, List.length_cons, List.length_nil] at this ⊢; omega
/-! the labels as an object -/
def namesL (rs : List (Str × Cnd)) : List Str := rs.map (·.1) ++ ([("other" : Str)] : List Str)
def labT (C : Addr) (a : CA) (rs : List (Str × Cnd)) : Tr := .ins C ["names", "rule_rows"] [.tup ((namesL rs).map .str), .lst (rs.map fun r => .tup [.str r.1, cT a r.2])]
theorem vw_labT {S : Sto} {C : Addr} {a : CA} {rs : List (Str × Cnd)} : vw S (labT C a rs) = .ins C ["names", "rule_rows"] [.tup ((namesL rs).map .str), .lst (rs.map fun r => .tup [.str r.1, cT a r.2])] := rfl
/-- the asking tuples of the laws -/
def askT : Cnd → Tr
  | .kind z => .tup [.str "kind", .str z]
  | .equals k => .tup [.str "equals", kT k]
  | .size n => .tup [.str "size", .int n]
  | .has k => .tup [.str "has", kT k]
  | .item k l => .tup [.str "item", kT k, .str l]
  | .before k j => .tup [.str "before", kT k, kT j]
  | .first l => .tup [.str "first", .str l]
  | .every l => .tup [.str "every", .str l]
  | .some l => .tup [.str "some", .str l]
  | .both c d => .tup [.str "and", askT c, askT d]
  | .either c d => .tup [.str "or", askT c, askT d]
  | .inv c => .tup [.str "not", askT c]
/-! ### more for conditions -/
/-! ### digits of keys -/
def keyS : Key → Str
  | .inl n => Str.ofString (toString n)
  | .inr z => z
/-! ### guards -/
def isInl : Key → Bool
  | .inl _ => true
  | .inr _ => false
def isNonV : Val → Bool
  | .non => true
  | _ => false
theorem keyS_ok {k : Key} (h : KOk k) : KOk (.inr (keyS k)) := by
  cases k with
  | inl n => exact ⟨pr_int n, Nat.le_trans (len_int (k := 30) (by decide) h) (by decide)⟩
  | inr z => exact h
/-! ### conditions that are drawn -/
def CndOk (PK : Key → Prop) (PL : Str → Prop) : Cnd → Prop
  | .kind z => z ∈ kindsL
  | .equals k => KOk k
  | .size n => 0 ≤ n ∧ n ≤ 4
  | .has k => PK k
  | .item k l => PK k ∧ PL l
  | .before k j => PK k ∧ PK j
  | .first l => PL l
  | .every l => PL l
  | .some l => PL l
  | .both c d => CndOk PK PL c ∧ CndOk PK PL d
  | .either c d => CndOk PK PL c ∧ CndOk PK PL d
  | .inv c => CndOk PK PL c
theorem CndOk.cok {PK : Key → Prop} {PL : Str → Prop} {a : CA} (fa : ∀ τ, ∃ C, a.adr τ = Option.some C) (hk : ∀ k, PK k → KOk k) (hl : ∀ l, PL l → LOk l) : ∀ {c : Cnd}, CndOk PK PL c → COk a c
  | .kind _, h => ⟨fa _, h⟩
  | .equals _, h => ⟨fa _, h⟩
  | .size _, h => ⟨fa _, h⟩
  | .has _, h => ⟨fa _, hk _ h⟩
  | .item _ _, h => ⟨fa _, hk _ h.1, hl _ h.2⟩
  | .before _ _, h => ⟨fa _, hk _ h.1, hk _ h.2⟩
  | .first _, h => ⟨fa _, hl _ h⟩
  | .every _, h => ⟨fa _, hl _ h⟩
  | .some _, h => ⟨fa _, hl _ h⟩
  | .both _ _, h => ⟨fa _, h.1.cok fa hk hl, h.2.cok fa hk hl⟩
  | .either _ _, h => ⟨fa _, h.1.cok fa hk hl, h.2.cok fa hk hl⟩
  | .inv _, h => ⟨fa _, CndOk.cok fa hk hl h⟩
theorem cut_mem {xs : List Tr} {lo hi : Option Int} {x : Tr} (h : x ∈ cutT xs lo hi) : x ∈ xs := by
  unfold cutT at h
  exact List.mem_of_mem_drop (List.mem_of_mem_take h)
theorem ob_go {K : PySem.W.Frag} {op : Operator} {a : CA} {sp : CT → TSp} {c d : Cnd} {S S2 : Sto} {F : TSp → Prop} (oc : COk a c) (od : COk a d) (ob : ∀ τ τ2 C D, a.adr τ = Option.some C → a.adr τ2 = Option.some D → OwnBin K op C D) (h : F (sp c.tag)) :
    ∃ C, (∃ fs xs, vw S (cT a c) = .ins C fs xs) ∧ ∃ D, (∃ fs xs, vw S2 (cT a d) = .ins D fs xs) ∧ OwnBin K op C D ∧ ∃ t, vm a sp C t ∧ F t := by
  obtain ⟨C, fs, xs, h1, h2, _⟩ := cT_ins oc
  obtain ⟨D, gs, ys, g1, g2, _⟩ := cT_ins od
  exact ⟨C, ⟨fs, xs, by rw [h2]; rfl⟩, D, ⟨gs, ys, by rw [g2]; rfl⟩, ob _ _ _ _ h1 g1, sp c.tag, ⟨_, h1, rfl⟩, h⟩
theorem inv_go {a : CA} {sp : CT → TSp} {c : Cnd} {S : Sto} {F : TSp → Prop} (oc : COk a c) (h : F (sp c.tag)) :
    ∃ C, (∃ fs xs, vw S (cT a c) = .ins C fs xs) ∧ ∃ t, vm a sp C t ∧ F t := by
  obtain ⟨C, fs, xs, h1, h2, _⟩ := cT_ins oc
  exact ⟨C, ⟨fs, xs, by rw [h2]; rfl⟩, sp c.tag, ⟨_, h1, rfl⟩, h⟩
/-! lists of lists of truths -/
theorem CndOk.imp {PK PK2 : Key → Prop} {PL PL2 : Str → Prop} (hk : ∀ k, PK k → PK2 k) (hl : ∀ l, PL l → PL2 l) : ∀ {c : Cnd}, CndOk PK PL c → CndOk PK2 PL2 c
  | .kind _, h => h
  | .equals _, h => h
  | .size _, h => h
  | .has _, h => hk _ h
  | .item _ _, h => ⟨hk _ h.1, hl _ h.2⟩
  | .before _ _, h => ⟨hk _ h.1, hk _ h.2⟩
  | .first _, h => hl _ h
  | .every _, h => hl _ h
  | .some _, h => hl _ h
  | .both _ _, h => ⟨h.1.imp hk hl, h.2.imp hk hl⟩
  | .either _ _, h => ⟨h.1.imp hk hl, h.2.imp hk hl⟩
  | .inv c, h => CndOk.imp (c := c) hk hl h
end KQ
namespace KQ
open PySem PySem.Spec PyProof.Rows L2 TL KB
/-! ### raw values -/
inductive RawV where
  | non
  | bl (b : Bool)
  | int (n : Int)
  | str (z : Str)
  | row (xs : List RawV)
  | tab (ns : List Str) (xs : List RawV)
mutual
def rdepth : RawV → Nat
  | .row xs => 1 + rdepthL xs
  | .tab _ xs => 1 + rdepthL xs
  | .non => 0
  | .bl _ => 0
  | .int _ => 0
  | .str _ => 0
def rdepthL : List RawV → Nat
  | [] => 0
  | x :: xs => max (rdepth x) (rdepthL xs)
end
mutual
def rparts : RawV → Nat
  | .row xs => 1 + rpartsL xs
  | .tab _ xs => 1 + rpartsL xs
  | .non => 1
  | .bl _ => 1
  | .int _ => 1
  | .str _ => 1
def rpartsL : List RawV → Nat
  | [] => 0
  | x :: xs => rparts x + rpartsL xs
end
mutual
def ROk : RawV → Prop
  | .row xs => ROkL xs
  | .tab ns xs => ROkL xs ∧ ns.length = xs.length ∧ ∀ n ∈ ns, LOk n
  | .non => True
  | .bl _ => True
  | .int n => n.natAbs < 10 ^ 30
  | .str z => Pr z ∧ z.length ≤ 300
def ROkL : List RawV → Prop
  | [] => True
  | x :: xs => ROk x ∧ ROkL xs
end
/-! ### the reader -/
structure Ro where
  same : Str
  dig : Str
  lists : Str
  nulls : Str
/-- the key of a string -/
def bkey (o : Ro) (z : Str) : Key := if o.dig = "number" ∧ digK (TL.tl z) = true then .inl ((PySem.intText? z).getD 0) else .inr z
/-- the entries that are kept, with their keys -/
def bfin (o : Ro) (ps : List (Key × Val)) : Val := tabV ((ps.filter fun q => !isNonV q.2 || decide (o.nulls = "keep")).map fun q => (bkey o (keyS q.1), q.2))
mutual
def bldR (o : Ro) : RawV → List Key → Except (List Key) Val
  | .non, _ => .ok .non
  | .bl b, _ => .ok (.bl b)
  | .int n, _ => .ok (.int n)
  | .str z, _ => .ok (.str z)
  | .row xs, p => match bldL o xs 0 p with
    | .error e => .error e
    | .ok vs => .ok (if o.lists = "tuple" then .tup vs else .lst vs)
  | .tab ns xs, p => match bldT o ns xs p [] with
    | .error e => .error e
    | .ok ps => .ok (bfin o ps)
def bldL (o : Ro) : List RawV → Nat → List Key → Except (List Key) (List Val)
  | [], _, _ => .ok []
  | x :: xs, i, p => match bldR o x (p ++ [.inl i]) with
    | .error e => .error e
    | .ok v => match bldL o xs (i + 1) p with
      | .error e => .error e
      | .ok vs => .ok (v :: vs)
def bldT (o : Ro) : List Str → List RawV → List Key → List (Key × Val) → Except (List Key) (List (Key × Val))
  | n :: ns, x :: xs, p, acc =>
    if hasK (.inr n) (pK acc) = true ∧ o.same = "refuse" then .error (p ++ [.inr n])
    else match bldR o x (p ++ [.inr n]) with
      | .error e => .error e
      | .ok v => bldT o ns xs p (if hasK (.inr n) (pK acc) = false ∨ o.same = "last" then putP (.inr n) v acc else acc)
  | _, _, _, acc => .ok acc
end
/-! ### what is built -/
theorem bkey_ok {o : Ro} {z : Str} (h : LOk z) : KOk (bkey o z) := by
  unfold bkey
  split
  · rename_i hd
    obtain ⟨n, e, _, _, e4⟩ := digK_int hd.2
    rw [e]
    exact e4
  · exact h
theorem bkey_inj {o : Ro} {z y : Str} (h : bkey o z = bkey o y) : z = y := by
  unfold bkey at h
  split at h
  · rename_i h1
    obtain ⟨n, e1, e2, _⟩ := digK_int h1.2
    split at h
    · rename_i h2
      obtain ⟨m, f1, f2, _⟩ := digK_int h2.2
      rw [e1, f1] at h
      have : n = m := Sum.inl.inj h
      rw [← e2, ← f2, this]
    · cases h
  · split at h
    · cases h
    · exact Sum.inr.inj h
theorem putP_keys {k : Key} {v : Val} {ps : List (Key × Val)} : pK (putP k v ps) = kputN k (pK ps) := by
  unfold putP kputN
  split
  · unfold pK; rw [List.map_map]; rfl
  · unfold pK; rw [List.map_append]; rfl
structure AccOk (d m : Nat) (ps : List (Key × Val)) : Prop where
  nd : (pK ps).Nodup
  nm : ∀ q ∈ ps, ∃ z, q.1 = .inr z ∧ LOk z
  ok : ∀ q ∈ ps, VOk q.2 ∧ vdepth q.2 ≤ d
  m : vpartsL (pV ps) ≤ m
theorem parts_map {k : Key} {v : Val} : ∀ (ps : List (Key × Val)), (pK ps).Nodup → vpartsL (pV (ps.map fun p => (p.1, if p.1 = k then v else p.2))) ≤ vpartsL (pV ps) + vparts v
  | [], _ => Nat.zero_le _
  | q :: ps, nd => by
    have nd' := List.nodup_cons.mp (show (q.1 :: pK ps).Nodup from nd)
    show vparts (if q.1 = k then v else q.2) + vpartsL (pV (ps.map _)) ≤ vparts q.2 + vpartsL (pV ps) + vparts v
    by_cases h : q.1 = k
    · have e : ps.map (fun p : Key × Val => (p.1, if p.1 = k then v else p.2)) = ps := by
        have : ∀ p ∈ ps, (fun p : Key × Val => (p.1, if p.1 = k then v else p.2)) p = id p := fun p hp => by
          have hn : p.1 ≠ k := fun z => nd'.1 (by rw [h, ← z]; exact List.mem_map.mpr ⟨p, hp, rfl⟩)
          show (p.1, if p.1 = k then v else p.2) = p
          rw [if_neg hn]
        rw [List.map_congr_left this, List.map_id]
      rw [e, if_pos h]; omega
    · have := parts_map (k := k) (v := v) ps nd'.2
      rw [if_neg h]; omega
theorem AccOk.put {d m : Nat} {ps : List (Key × Val)} {z : Str} {v : Val} (h : AccOk d m ps) (hz : LOk z) (hv : VOk v) {e n : Nat} (hd : d ≤ e) (hvd : vdepth v ≤ e) (hn : m + vparts v ≤ n) : AccOk e n (putP (.inr z) v ps) := by
  refine ⟨?_, fun q hq => ?_, fun q hq => ?_, ?_⟩
  · rw [putP_keys]
    unfold kputN
    split
    · exact h.nd
    · rename_i hh; exact nodup_put h.nd (by simpa using hh)
  · unfold putP at hq
    split at hq
    · obtain ⟨p, hp, rfl⟩ := List.mem_map.mp hq; exact h.nm p hp
    · rcases List.mem_append.mp hq with hq | hq
      · exact h.nm q hq
      · rw [List.mem_singleton.mp hq]; exact ⟨z, rfl, hz⟩
  · unfold putP at hq
    split at hq
    · obtain ⟨p, hp, rfl⟩ := List.mem_map.mp hq
      show VOk (if p.1 = _ then v else p.2) ∧ vdepth (if p.1 = _ then v else p.2) ≤ e
      split
      · exact ⟨hv, hvd⟩
      · exact ⟨(h.ok p hp).1, Nat.le_trans (h.ok p hp).2 hd⟩
    · rcases List.mem_append.mp hq with hq | hq
      · exact ⟨(h.ok q hq).1, Nat.le_trans (h.ok q hq).2 hd⟩
      · rw [List.mem_singleton.mp hq]; exact ⟨hv, hvd⟩
  · have := h.m
    unfold putP
    split
    · have := parts_map (k := .inr z) (v := v) ps h.nd; omega
    · have e : pV (ps ++ [((.inr z : Key), v)]) = pV ps ++ [v] := by unfold pV; rw [List.map_append]; rfl
      rw [e, vpL_snoc]; omega
theorem AccOk.up {d m e n : Nat} {ps : List (Key × Val)} (h : AccOk d m ps) (hd : d ≤ e) (hn : m ≤ n) : AccOk e n ps := ⟨h.nd, h.nm, fun q hq => ⟨(h.ok q hq).1, Nat.le_trans (h.ok q hq).2 hd⟩, Nat.le_trans h.m hn⟩
theorem AccOk.nil {d m : Nat} : AccOk d m [] := ⟨List.nodup_nil, (fun _ h => nomatch h), (fun _ h => nomatch h), Nat.zero_le _⟩
theorem parts_sub {f : Key × Val → Bool} {g : Key × Val → Key} : ∀ ps : List (Key × Val), vpartsL (pV ((ps.filter f).map fun q => (g q, q.2))) ≤ vpartsL (pV ps)
  | [] => Nat.le_refl _
  | q :: ps => by
    have ih := parts_sub (f := f) (g := g) ps
    show _ ≤ vparts q.2 + vpartsL (pV ps)
    rw [List.filter_cons]
    split
    · show vparts q.2 + vpartsL (pV ((ps.filter f).map _)) ≤ _; omega
    · omega
theorem bfin_ent {o : Ro} {d m : Nat} {ps : List (Key × Val)} (h : AccOk d m ps) :
    (pK ((ps.filter fun q => !isNonV q.2 || decide (o.nulls = "keep")).map fun q => (bkey o (keyS q.1), q.2))).Nodup ∧ VOk (bfin o ps) ∧ vdepth (bfin o ps) ≤ 1 + d ∧ vparts (bfin o ps) ≤ 1 + m := by
  have nd : (pK ((ps.filter fun q => !isNonV q.2 || decide (o.nulls = "keep")).map fun q => (bkey o (keyS q.1), q.2))).Nodup := by
    have e : pK ((ps.filter fun q => !isNonV q.2 || decide (o.nulls = "keep")).map fun q => (bkey o (keyS q.1), q.2)) = (pK (ps.filter fun q => !isNonV q.2 || decide (o.nulls = "keep"))).map fun k => bkey o (keyS k) := by
      unfold pK; rw [List.map_map, List.map_map]; rfl
    rw [e]
    have nd2 : (pK (ps.filter fun q => !isNonV q.2 || decide (o.nulls = "keep"))).Nodup := h.nd.sublist (List.Sublist.map _ List.filter_sublist)
    refine List.Pairwise.map _ (fun a b (x : (a ≠ b ∧ (∃ z, a = Sum.inr z)) ∧ ∃ z, b = Sum.inr z) y => ?_) (List.Pairwise.imp_of_mem (fun {a b} ha hb ne => ⟨⟨ne, ?_⟩, ?_⟩) nd2)
    · obtain ⟨⟨x1, z, rfl⟩, w, rfl⟩ := x
      exact x1 (by rw [show z = w from bkey_inj y])
    · obtain ⟨q, hq, e1⟩ := List.mem_map.mp ha
      obtain ⟨z, e, _⟩ := h.nm q (List.mem_filter.mp hq).1
      exact ⟨z, by rw [← e1]; exact e⟩
    · obtain ⟨q, hq, e1⟩ := List.mem_map.mp hb
      obtain ⟨z, e, _⟩ := h.nm q (List.mem_filter.mp hq).1
      exact ⟨z, by rw [← e1]; exact e⟩
  refine ⟨nd, ⟨okL_memN fun v hv => ?_, by unfold pK pV; simp only [List.length_map], fun k hk => ?_, nd⟩, Nat.add_le_add_left (vdL_le fun v hv => ?_) 1, Nat.add_le_add_left (Nat.le_trans (parts_sub ps) h.m) 1⟩
  · obtain ⟨q, hq, rfl⟩ := List.mem_map.mp hv
    obtain ⟨p, hp, rfl⟩ := List.mem_map.mp hq
    exact (h.ok p (List.mem_filter.mp hp).1).1
  · obtain ⟨q, hq, rfl⟩ := List.mem_map.mp hk
    obtain ⟨p, hp, rfl⟩ := List.mem_map.mp hq
    obtain ⟨z, e, hz⟩ := h.nm p (List.mem_filter.mp hp).1
    show KOk (bkey o (keyS p.1))
    rw [e]
    exact bkey_ok hz
  · obtain ⟨q, hq, rfl⟩ := List.mem_map.mp hv
    obtain ⟨p, hp, rfl⟩ := List.mem_map.mp hq
    exact (h.ok p (List.mem_filter.mp hp).1).2
mutual
theorem bldR_ok (o : Ro) : ∀ (w : RawV) (p : List Key) (v : Val), ROk w → bldR o w p = .ok v → VOk v ∧ vdepth v ≤ rdepth w ∧ vparts v ≤ rparts w
  | .non, p, v, h, e => by cases e; exact ⟨trivial, Nat.le_refl _, Nat.le_refl _⟩
  | .bl b, p, v, h, e => by cases e; exact ⟨trivial, Nat.le_refl _, Nat.le_refl _⟩
  | .int n, p, v, h, e => by cases e; exact ⟨h, Nat.le_refl _, Nat.le_refl _⟩
  | .str z, p, v, h, e => by cases e; exact ⟨h, Nat.le_refl _, Nat.le_refl _⟩
  | .row xs, p, v, h, e => by
    rw [bldR] at e
    split at e
    · cases e
    · rename_i vs hv
      obtain ⟨h1, h2, h3⟩ := bldL_ok o xs 0 p vs h hv
      cases e
      split
      · exact ⟨h1, Nat.add_le_add_left h2 1, Nat.add_le_add_left h3 1⟩
      · exact ⟨h1, Nat.add_le_add_left h2 1, Nat.add_le_add_left h3 1⟩
  | .tab ns xs, p, v, h, e => by
    rw [bldR] at e
    split at e
    · cases e
    · rename_i ps hps
      have a := bldT_ok o ns xs p [] ps (d := 0) (m := 0) h.2.2 h.1 .nil hps
      obtain ⟨_, h1, h2, h3⟩ := bfin_ent (o := o) a
      cases e
      refine ⟨h1, ?_, ?_⟩
      · show _ ≤ 1 + rdepthL xs
        have : max 0 (rdepthL xs) = rdepthL xs := Nat.max_eq_right (Nat.zero_le _)
        omega
      · show _ ≤ 1 + rpartsL xs
        omega
theorem bldL_ok (o : Ro) : ∀ (xs : List RawV) (i : Nat) (p : List Key) (vs : List Val), ROkL xs → bldL o xs i p = .ok vs → VOkL vs ∧ vdepthL vs ≤ rdepthL xs ∧ vpartsL vs ≤ rpartsL xs
  | [], i, p, vs, h, e => by cases e; exact ⟨trivial, Nat.le_refl _, Nat.le_refl _⟩
  | x :: xs, i, p, vs, h, e => by
    rw [bldL] at e
    split at e
    · cases e
    · rename_i v hv
      split at e
      · cases e
      · rename_i us hu
        obtain ⟨a1, a2, a3⟩ := bldR_ok o x _ v h.1 hv
        obtain ⟨b1, b2, b3⟩ := bldL_ok o xs _ p us h.2 hu
        cases e
        refine ⟨⟨a1, b1⟩, ?_, ?_⟩
        · show max (vdepth v) (vdepthL us) ≤ max (rdepth x) (rdepthL xs); omega
        · show vparts v + vpartsL us ≤ rparts x + rpartsL xs; omega
theorem bldT_ok (o : Ro) : ∀ (ns : List Str) (xs : List RawV) (p : List Key) (acc ps : List (Key × Val)) {d m : Nat}, (∀ n ∈ ns, LOk n) → ROkL xs → AccOk d m acc → bldT o ns xs p acc = .ok ps → AccOk (max d (rdepthL xs)) (m + rpartsL xs) ps
  | n :: ns, x :: xs, p, acc, ps, d, m, hn, h, a, e => by
    rw [bldT] at e
    split at e
    · cases e
    · split at e
      · cases e
      · rename_i v hv
        obtain ⟨a1, a2, a3⟩ := bldR_ok o x _ v h.1 hv
        have key : AccOk (max d (rdepth x)) (m + rparts x) (if hasK (.inr n) (pK acc) = false ∨ o.same = "last" then putP (.inr n) v acc else acc) := by
          split
          · exact a.put (hn n (by simp)) a1 (by omega) (by omega) (by omega)
          · exact a.up (by omega) (by omega)
        have := bldT_ok o ns xs p _ ps (fun z hz => hn z (List.mem_cons_of_mem _ hz)) h.2 key e
        refine this.up ?_ ?_
        · show max (max d (rdepth x)) (rdepthL xs) ≤ max d (max (rdepth x) (rdepthL xs)); omega
        · show m + rparts x + rpartsL xs ≤ m + (rparts x + rpartsL xs); omega
  | [], xs, p, acc, ps, d, m, hn, h, a, e => by
    rw [bldT] at e
    · cases e; exact a.up (by omega) (by omega)
    · intros; simp_all
  | n :: ns, [], p, acc, ps, d, m, hn, h, a, e => by
    rw [bldT] at e
    · cases e; exact a.up (by omega) (by omega)
    · intros; simp_all
end
theorem ROkL.get : ∀ {xs : List RawV} {i : Nat} {w : RawV}, ROkL xs → xs[i]? = some w → ROk w
  | x :: xs, 0, w, h, e => by cases e; exact h.1
  | x :: xs, i + 1, w, h, e => ROkL.get (xs := xs) (i := i) h.2 e
/-! ### flat raw values: leaves and rows of leaves -/
theorem keyS_lok {k : Key} (h : KOk k) : LOk (keyS k) := keyS_ok h
/-! ### raw values as data -/
/-! ### == of deeper data (the room of a level suffices for 200) -/
/-! ### the path of a refusal -/
end KQ
namespace KQ
open PySem PySem.Spec PyProof.Rows L2 TL KB
/-! ### the writer -/
structure Wo where
  keys : Str
  tups : Str
  nulls : Str
  dbl : Str
  order : Str
  longs : Str
structure WoOk (w : Wo) : Prop where
  keys : w.keys ∈ (["text", "skip", "refuse"] : List Str)
  tups : w.tups ∈ (["list", "refuse"] : List Str)
  nulls : w.nulls ∈ (["keep", "skip"] : List Str)
  dbl : w.dbl ∈ (["keep", "refuse"] : List Str)
  order : w.order ∈ (["keep", "rising"] : List Str)
  longs : w.longs ∈ (["keep", "text", "refuse"] : List Str)
def intS (n : Int) : Str := Str.ofString (toString n)
def longI (n : Int) : Bool := decide ((15 : Int) < ((intS (n.natAbs : Int)).length : Int))
abbrev WErr := Str × List Key
/-- an integer, written -/
def wI (o : Wo) (i : Int) (p : List Key) : Except WErr RawV :=
  if longI i = true ∧ ¬ o.longs = "keep" then (if o.longs = "refuse" then .error ("long", p) else .ok (.str (intS i))) else .ok (.int i)
/-- items, one after another -/
def wL (f : Val → List Key → Except WErr RawV) : List Val → Nat → List Key → Except WErr (List RawV)
  | [], _, _ => .ok []
  | v :: vs, i, p => match f v (p ++ [.inl i]) with
    | .error e => .error e
    | .ok w => match wL f vs (i + 1) p with
      | .error e => .error e
      | .ok ws => .ok (w :: ws)
/-- the entries that are written -/
def wK (o : Wo) : List (Key × Val) → Except Key (List (Key × Val))
  | [] => .ok []
  | q :: qs => if isNonV q.2 = true ∧ o.nulls = "skip" then wK o qs
    else if isInl q.1 = true ∧ o.keys = "refuse" then .error q.1
    else match wK o qs with
      | .error k => .error k
      | .ok rs => .ok (if isInl q.1 = false ∨ o.keys = "text" then q :: rs else rs)
def wS (o : Wo) (qs : List (Key × Val)) : List (Key × Val) := if o.order = "rising" then isort (fun a b => ltS (keyS a.1) (keyS b.1)) qs else qs
def wP (f : Val → List Key → Except WErr RawV) (o : Wo) : List (Key × Val) → List Key → List Str → Except WErr (List (Str × RawV))
  | [], _, _ => .ok []
  | q :: qs, p, acc => if keyS q.1 ∈ acc ∧ o.dbl = "refuse" then .error ("double", p ++ [q.1])
    else match f q.2 (p ++ [q.1]) with
      | .error e => .error e
      | .ok w => match wP f o qs p (acc ++ [keyS q.1]) with
        | .error e => .error e
        | .ok ws => .ok ((keyS q.1, w) :: ws)
def wT (f : Val → List Key → Except WErr RawV) (o : Wo) (ps : List (Key × Val)) (p : List Key) : Except WErr RawV :=
  match wK o ps with
  | .error k => .error ("key", p ++ [k])
  | .ok qs => match wP f o (wS o qs) p [] with
    | .error e => .error e
    | .ok ws => .ok (.tab (ws.map (·.1)) (ws.map (·.2)))
def wR (f : Val → List Key → Except WErr RawV) (vs : List Val) (p : List Key) : Except WErr RawV :=
  match wL f vs 0 p with
  | .error e => .error e
  | .ok ws => .ok (.row ws)
/-- the raw value of a value, or the first refusal; the number is above the depth -/
def wrt (o : Wo) : Nat → Val → List Key → Except WErr RawV
  | 0, _, _ => .ok .non
  | n + 1, v, p => match v with
    | .non => .ok .non
    | .bl b => .ok (.bl b)
    | .int i => wI o i p
    | .str z => .ok (.str z)
    | .lst vs => wR (wrt o n) vs p
    | .tup vs => if o.tups = "refuse" then .error ("tuple", p) else wR (wrt o n) vs p
    | .tab ks vs => wT (wrt o n) o (ks.zip vs) p
/-! ### what is written -/
theorem wdL_mem {v : Val} : ∀ {vs : List Val}, v ∈ vs → vdepth v ≤ vdepthL vs ∧ vparts v ≤ vpartsL vs
  | u :: vs, h => by
    show vdepth v ≤ max (vdepth u) (vdepthL vs) ∧ vparts v ≤ vparts u + vpartsL vs
    rcases List.mem_cons.mp h with rfl | h
    · exact ⟨Nat.le_max_left .., Nat.le_add_right ..⟩
    · have := wdL_mem h; omega
def WGood (d m : Nat) (f : Val → List Key → Except WErr RawV) : Prop := ∀ v p w, VOk v → vdepth v < d → f v p = .ok w → ROk w ∧ rdepth w ≤ vdepth v ∧ rparts w ≤ vparts v
theorem intS_ok {n : Int} (h : n.natAbs < 10 ^ 30) : LOk (intS n) := keyS_ok (k := .inl n) h
theorem wI_ok {o : Wo} {i : Int} {p : List Key} {w : RawV} (h : i.natAbs < 10 ^ 30) (e : wI o i p = .ok w) : ROk w ∧ rdepth w ≤ 0 ∧ rparts w ≤ 1 := by
  unfold wI at e
  split at e
  · split at e
    · cases e
    · cases e; exact ⟨intS_ok h, Nat.le_refl _, Nat.le_refl _⟩
  · cases e; exact ⟨h, Nat.le_refl _, Nat.le_refl _⟩
theorem wL_ok {d m : Nat} {f : Val → List Key → Except WErr RawV} (g : WGood d m f) : ∀ (vs : List Val) (i : Nat) (p : List Key) (ws : List RawV), VOkL vs → vdepthL vs < d → wL f vs i p = .ok ws → ROkL ws ∧ rdepthL ws ≤ vdepthL vs ∧ rpartsL ws ≤ vpartsL vs ∧ ws.length = vs.length
  | [], i, p, ws, _, _, e => by cases e; exact ⟨trivial, Nat.le_refl _, Nat.le_refl _, rfl⟩
  | v :: vs, i, p, ws, h, hd, e => by
    have hd : max (vdepth v) (vdepthL vs) < d := hd
    rw [wL] at e
    split at e
    · cases e
    · rename_i w hw
      split at e
      · cases e
      · rename_i us hu
        cases e
        obtain ⟨a1, a2, a3⟩ := g v _ w h.1 (by omega) hw
        obtain ⟨b1, b2, b3, b4⟩ := wL_ok g vs _ p us h.2 (by omega) hu
        refine ⟨⟨a1, b1⟩, ?_, ?_, by rw [List.length_cons, List.length_cons, b4]⟩
        · show max (rdepth w) (rdepthL us) ≤ max (vdepth v) (vdepthL vs); omega
        · show rparts w + rpartsL us ≤ vparts v + vpartsL vs; omega
theorem wK_sub {o : Wo} : ∀ (ps qs : List (Key × Val)), wK o ps = .ok qs → qs.Sublist ps
  | [], qs, e => by cases e; exact List.Sublist.refl _
  | q :: ps, qs, e => by
    rw [wK] at e
    split at e
    · exact (wK_sub ps qs e).cons _
    · split at e
      · cases e
      · split at e
        · cases e
        · rename_i rs hr
          have := wK_sub ps rs hr
          cases e
          split
          · exact this.cons_cons _
          · exact this.cons _
theorem wS_perm {o : Wo} {qs : List (Key × Val)} : (wS o qs).Perm qs := by
  unfold wS
  split
  · exact isort_perm _
  · exact List.Perm.refl _
theorem wP_ok {d m : Nat} {f : Val → List Key → Except WErr RawV} {o : Wo} (g : WGood d m f) : ∀ (qs : List (Key × Val)) (p : List Key) (acc : List Str) (ws : List (Str × RawV)), (∀ q ∈ qs, KOk q.1 ∧ VOk q.2 ∧ vdepth q.2 < d) → wP f o qs p acc = .ok ws →
    ROkL (ws.map (·.2)) ∧ (∀ n ∈ ws.map (·.1), LOk n) ∧ rdepthL (ws.map (·.2)) ≤ vdepthL (qs.map (·.2)) ∧ rpartsL (ws.map (·.2)) ≤ vpartsL (qs.map (·.2)) ∧ ws.length = qs.length
  | [], p, acc, ws, _, e => by cases e; exact ⟨trivial, (fun _ h => nomatch h), Nat.le_refl _, Nat.le_refl _, rfl⟩
  | q :: qs, p, acc, ws, h, e => by
    rw [wP] at e
    split at e
    · cases e
    · split at e
      · cases e
      · rename_i w hw
        split at e
        · cases e
        · rename_i us hu
          cases e
          obtain ⟨k1, k2, k3⟩ := h q (List.mem_cons_self ..)
          obtain ⟨a1, a2, a3⟩ := g q.2 _ w k2 k3 hw
          obtain ⟨b1, b2, b3, b4, b5⟩ := wP_ok g qs p _ us (fun x hx => h x (List.mem_cons_of_mem _ hx)) hu
          refine ⟨⟨a1, b1⟩, fun n hn => ?_, ?_, ?_, by rw [List.length_cons, List.length_cons, b5]⟩
          · rw [List.map_cons] at hn
            rcases List.mem_cons.mp hn with rfl | hn
            · exact keyS_lok k1
            · exact b2 n hn
          · show max (rdepth w) (rdepthL (us.map (·.2))) ≤ max (vdepth q.2) (vdepthL (qs.map (·.2))); omega
          · show rparts w + rpartsL (us.map (·.2)) ≤ vparts q.2 + vpartsL (qs.map (·.2)); omega
theorem wpL_perm {vs ws : List Val} (h : vs.Perm ws) : vpartsL vs = vpartsL ws ∧ vdepthL vs = vdepthL ws := by
  induction h with
  | nil => exact ⟨rfl, rfl⟩
  | cons x _ ih => exact ⟨congrArg (vparts x + ·) ih.1, congrArg (max (vdepth x) ·) ih.2⟩
  | swap x y l => exact ⟨by show vparts y + (vparts x + vpartsL l) = vparts x + (vparts y + vpartsL l); omega, by show max (vdepth y) (max (vdepth x) (vdepthL l)) = max (vdepth x) (max (vdepth y) (vdepthL l)); omega⟩
  | trans _ _ a b => exact ⟨a.1.trans b.1, a.2.trans b.2⟩
theorem wpL_sub {vs ws : List Val} (h : vs.Sublist ws) : vpartsL vs ≤ vpartsL ws ∧ vdepthL vs ≤ vdepthL ws := by
  induction h with
  | slnil => exact ⟨Nat.le_refl _, Nat.le_refl _⟩
  | cons x _ ih => exact ⟨by show _ ≤ vparts x + _; omega, by show _ ≤ max (vdepth x) _; omega⟩
  | cons_cons x _ ih => exact ⟨Nat.add_le_add_left ih.1 _, by show max (vdepth x) _ ≤ max (vdepth x) _; omega⟩
/-- the entries of a table, kept and in order -/
theorem wKS {o : Wo} {ks : List Key} {vs : List Val} {qs : List (Key × Val)} (l : ks.length = vs.length) (ok : VOkL vs) (ok2 : ∀ k ∈ ks, KOk k) (e : wK o (ks.zip vs) = .ok qs) :
    (∀ q ∈ wS o qs, KOk q.1 ∧ VOk q.2 ∧ vdepth q.2 ≤ vdepthL vs ∧ vparts q.2 ≤ vpartsL vs) ∧ vdepthL ((wS o qs).map (·.2)) ≤ vdepthL vs ∧ vpartsL ((wS o qs).map (·.2)) ≤ vpartsL vs ∧ (wS o qs).length ≤ ks.length := by
  have s := wK_sub _ _ e
  have p := wS_perm (o := o) (qs := qs)
  have z : (ks.zip vs).map (·.2) = vs := List.map_snd_zip (by omega)
  have s2 := wpL_sub (s.map (·.2))
  have p2 := wpL_perm (p.map (·.2))
  rw [z] at s2
  refine ⟨fun q hq => ?_, by omega, by omega, by rw [p.length_eq]; have := s.length_le; rw [List.length_zip] at this; omega⟩
  have m := s.subset (p.mem_iff.mp hq)
  have m2 := List.of_mem_zip m
  obtain ⟨i, hi⟩ := List.mem_iff_getElem?.mp m2.2
  exact ⟨ok2 _ m2.1, VOkL.get ok hi, (wdL_mem m2.2).1, (wdL_mem m2.2).2⟩
theorem wrt_ok (o : Wo) : ∀ n, WGood n 0 (wrt o n)
  | 0 => fun v p w _ h _ => absurd h (Nat.not_lt_zero _)
  | n + 1 => fun v p w h hd e => by
    have row : ∀ vs, VOkL vs → 1 + vdepthL vs < n + 1 → wR (wrt o n) vs p = .ok w → ROk w ∧ rdepth w ≤ 1 + vdepthL vs ∧ rparts w ≤ 1 + vpartsL vs := fun vs ov dv e => by
      unfold wR at e
      split at e
      · cases e
      · rename_i ws hw
        obtain ⟨a1, a2, a3, _⟩ := wL_ok (wrt_ok o n) vs 0 p ws ov (by omega) hw
        cases e
        exact ⟨a1, Nat.add_le_add_left a2 1, Nat.add_le_add_left a3 1⟩
    cases v with
    | non => cases e; exact ⟨trivial, Nat.le_refl _, Nat.le_refl _⟩
    | bl b => cases e; exact ⟨trivial, Nat.le_refl _, Nat.le_refl _⟩
    | str z => cases e; exact ⟨h, Nat.le_refl _, Nat.le_refl _⟩
    | int i => exact wI_ok h e
    | lst vs => exact row vs h hd e
    | tup vs =>
      rw [wrt] at e
      try dsimp only at e
      split at e
      · cases e
      · exact row vs h hd e
    | tab ks vs =>
      have hd : 1 + vdepthL vs < n + 1 := hd
      rw [wrt] at e
      try dsimp only at e
      unfold wT at e
      split at e
      · cases e
      · rename_i qs hq
        obtain ⟨k1, k2, k3, k4⟩ := wKS (o := o) h.2.1 h.1 h.2.2.1 hq
        split at e
        · cases e
        · rename_i ws hw
          obtain ⟨a1, a2, a3, a4, a5⟩ := wP_ok (wrt_ok o n) _ p [] ws (fun q hq => ⟨(k1 q hq).1, (k1 q hq).2.1, by have := (k1 q hq).2.2.1; omega⟩) hw
          cases e
          exact ⟨⟨a1, by rw [List.length_map, List.length_map], a2⟩, Nat.add_le_add_left (Nat.le_trans a3 k2) 1, Nat.add_le_add_left (Nat.le_trans a4 k3) 1⟩
/-! ### refusals -/
/-! ### values without tables -/
end KQ
namespace KQ
open PySem PySem.Spec PyProof.Rows L2 TL KB
/-! ### mending what is refused -/
/-! ### how much can be refused -/
end KQ
namespace KQ
open PySem PySem.Spec PyProof.Rows L2 TL KB
/-! ### steps and programs -/
def ordK : Cnd → List Key
  | .before k j => [k, j]
  | _ => []
def askL : Cnd → List Str
  | .every l => [l]
  | .some l => [l]
  | _ => []
theorem ownK_len (c : Cnd) : (ownK c).length ≤ 2 := by cases c <;> simp [ownK]
inductive Stp where
  | put (k : Key) (v : Val)
  | drop (k : Key)
  | carry
  | stop (z : Str) (c : Cnd)
def stpL (a : CA) (D : Addr) : Stp → List Tr
  | .put k v => [.str "put", kT k, vT D v]
  | .drop k => [.str "drop", kT k]
  | .carry => [.str "carry"]
  | .stop z c => [.str "stop", .str z, cT a c]
def stpT (a : CA) (D : Addr) (s : Stp) : Tr := .tup (stpL a D s)
def isCar : Stp → Bool
  | .carry => true
  | _ => false
def isEd : Stp → Bool
  | .put _ _ => true
  | .drop _ => true
  | _ => false
def edK : Stp → Key
  | .put k _ => k
  | .drop k => k
  | _ => .inl 0
def stopLs : Stp → List Cnd
  | .stop _ c => leavesC c
  | _ => []
def carN (ss : List Stp) : Nat := (ss.filter isCar).length
def progT (C L : Addr) (a : CA) (D : Addr) (rs : List (Str × Cnd)) (ss : List Stp) : Tr := .ins C ["carries", "labels", "steps"] [.int (carN ss : Nat), labT L a rs, .lst (ss.map (stpT a D))]
end KQ
namespace KQ
open PySem PySem.Spec PyProof.Rows L2 TL KB
/-! ### the laws' own programs: leaves and rows -/
inductive Rw where
  | carry
  | ed (b : Bool) (k : Key)
  | stop (cs : List Cnd)
def rwC : Rw → List Cnd
  | .stop cs => cs
  | _ => []
def rwCar : Rw → Bool
  | .carry => true
  | _ => false
def rwEd : Rw → Bool
  | .ed _ _ => true
  | _ => false
def rwK : Rw → Key
  | .ed _ k => k
  | _ => .inl 0
def RwS : Rw → Stp → Prop
  | .carry, .carry => True
  | .ed true k, .put j v => j = k
  | .ed false k, .drop j => j = k
  | .stop cs, .stop _ c => leavesC c = cs
  | _, _ => False
/-- the steps that are made of the rows -/
inductive RwsS : List Rw → List Stp → Prop
  | nil : RwsS [] []
  | cons {w : Rw} {s : Stp} {ws : List Rw} {ss : List Stp} : RwS w s → RwsS ws ss → RwsS (w :: ws) (s :: ss)
theorem RwsS.len {ws : List Rw} {ss : List Stp} (h : RwsS ws ss) : ws.length = ss.length := by induction h <;> simp_all
theorem RwS.car {w : Rw} {s : Stp} (a : RwS w s) : rwCar w = isCar s := by
  cases w with
  | ed b k => cases b <;> cases s <;> first | exact a.elim | rfl
  | _ => cases s <;> first | exact a.elim | rfl
theorem RwS.ed {w : Rw} {s : Stp} (a : RwS w s) : rwEd w = isEd s ∧ (rwEd w = true → rwK w = edK s) := by
  cases w with
  | ed b k => cases b <;> cases s <;> first | exact a.elim | exact ⟨rfl, fun _ => (show _ = _ from a).symm⟩
  | _ => cases s <;> first | exact a.elim | exact ⟨rfl, fun h => nomatch h⟩
theorem RwS.lf {w : Rw} {s : Stp} (a : RwS w s) : rwC w = stopLs s := by
  cases w with
  | ed b k => cases b <;> cases s <;> first | exact a.elim | rfl
  | carry => cases s <;> first | exact a.elim | rfl
  | stop cs => cases s <;> first | exact a.elim | exact (show _ = _ from a).symm
theorem RwsS.car : ∀ {ws : List Rw} {ss : List Stp}, RwsS ws ss → (ws.filter rwCar).length = carN ss
  | _, _, .nil => rfl
  | _, _, .cons (w := w) (s := s) a h => by
    have ih := h.car
    unfold carN at ih ⊢
    rw [List.filter_cons, List.filter_cons, a.car]
    cases isCar s
    · exact ih
    · exact congrArg (· + 1) ih
end KQ
namespace KQ
open PySem PySem.Spec PyProof.Rows L2 TL KB
/-! ### runs -/
inductive Out where
  | ans (z : Str)
  | failed
  | refused
  | endd
def outR : Out → Tr
  | .ans z => .tup [.str "answer", .str z]
  | .failed => .tup [.str "failed"]
  | .refused => .tup [.str "refused"]
  | .endd => .tup [.str "end"]
def edP : Stp → List (Key × Val) → List (Key × Val)
  | .put k x, ps => putP k x ps
  | .drop k, ps => takeP k ps
  | _, ps => ps
def editV (s : Stp) (ks : List Key) (vs : List Val) : Val := tabV (edP s (ks.zip vs))
/-- one step: none where it ends there with this outcome -/
def stepV (rs : List (Str × Cnd)) (cy : Nat → Val → Option Val) (s : Stp) (at_ : Nat) (v : Val) : Out ⊕ (Option Val) := match s with
  | .stop z c => if fitsV rs c v = true then .inl (.ans z) else .inr none
  | .carry => match cy at_ v with
    | none => .inl .refused
    | some w => .inr (some w)
  | .put k x => match v with
    | .tab ks vs => .inr (some (editV (.put k x) ks vs))
    | _ => .inl .failed
  | .drop k => match v with
    | .tab ks vs => .inr (some (editV (.drop k) ks vs))
    | _ => .inl .failed
def doneV (rs : List (Str × Cnd)) (cy : Nat → Val → Option Val) : List Stp → Nat → Val → List Val × Out
  | [], _, _ => ([], .endd)
  | s :: ss, i, v => match stepV rs cy s i v with
    | .inl o => ([], o)
    | .inr none => doneV rs cy ss i v
    | .inr (some w) => (w :: (doneV rs cy ss (if isCar s then i + 1 else i) w).1, (doneV rs cy ss (if isCar s then i + 1 else i) w).2)
structure VBd (d p : Nat) (v : Val) : Prop where
  ok : VOk v
  dep : vdepth v ≤ d
  par : vparts v ≤ p
theorem VBd.more {d p e q : Nat} {v : Val} (h : VBd d p v) (h1 : d ≤ e) (h2 : p ≤ q) : VBd e q v := ⟨h.ok, Nat.le_trans h.dep h1, Nat.le_trans h.par h2⟩
/-- an object of a run; the passages as trees -/
def runT (R C L : Addr) (a : CA) (D : Addr) (rs : List (Str × Cnd)) (ss : List Stp) (pas : List Tr) : Tr := .ins R ["program", "passages"] [progT C L a D rs ss, .lst pas]
theorem vw_runT {S : Sto} {R C L D : Addr} {a : CA} {rs : List (Str × Cnd)} {ss : List Stp} {pas : List Tr} : vw S (runT R C L a D rs ss pas) = .ins R ["program", "passages"] [progT C L a D rs ss, .lst pas] := rfl
theorem vw_progT {S : Sto} {C L D : Addr} {a : CA} {rs : List (Str × Cnd)} {ss : List Stp} : vw S (progT C L a D rs ss) = .ins C ["carries", "labels", "steps"] [.int (carN ss : Nat), labT L a rs, .lst (ss.map (stpT a D))] := rfl
/-- where a run stands: the values told so far lead to the whole -/
structure DnAt (rs : List (Str × Cnd)) (cy : Nat → Val → Option Val) (ss : List Stp) (v0 : Val) (i at_ : Nat) (acc : List Val) (v : Val) : Prop where
  eq : doneV rs cy ss 0 v0 = (acc ++ (doneV rs cy (ss.drop i) at_ v).1, (doneV rs cy (ss.drop i) at_ v).2)
  at_ : at_ = carN (ss.take i)
theorem DnAt.zero {rs : List (Str × Cnd)} {cy : Nat → Val → Option Val} {ss : List Stp} {v : Val} : DnAt rs cy ss v 0 0 [] v := ⟨rfl, rfl⟩
section
variable {rs : List (Str × Cnd)} {cy : Nat → Val → Option Val} {ss : List Stp} {v0 v w : Val} {i at_ : Nat} {acc : List Val} {s : Stp} {o : Out}
theorem DnAt.last (h : DnAt rs cy ss v0 i at_ acc v) (hs : ss[i]? = some s) (e : stepV rs cy s at_ v = .inl o) : doneV rs cy ss 0 v0 = (acc, o) := by
  obtain ⟨hi, es⟩ := List.getElem?_eq_some_iff.mp hs
  rw [h.eq, List.drop_eq_getElem_cons hi, es, doneV, e, List.append_nil]
theorem DnAt.stay (h : DnAt rs cy ss v0 i at_ acc v) (hs : ss[i]? = some s) (c : isCar s = false) (e : stepV rs cy s at_ v = .inr none) : DnAt rs cy ss v0 (i + 1) at_ acc v := by
  obtain ⟨hi, es⟩ := List.getElem?_eq_some_iff.mp hs
  refine ⟨?_, ?_⟩
  · rw [h.eq, List.drop_eq_getElem_cons hi, es, doneV, e]
  · rw [h.at_, List.take_add_one, hs]; unfold carN; rw [List.filter_append]; simp [c]
theorem DnAt.go (h : DnAt rs cy ss v0 i at_ acc v) (hs : ss[i]? = some s) (e : stepV rs cy s at_ v = .inr (some w)) : DnAt rs cy ss v0 (i + 1) (if isCar s then at_ + 1 else at_) (acc ++ [w]) w := by
  obtain ⟨hi, es⟩ := List.getElem?_eq_some_iff.mp hs
  refine ⟨?_, ?_⟩
  · rw [h.eq, List.drop_eq_getElem_cons hi, es, doneV, e]; simp
  · rw [h.at_, List.take_add_one, hs]; unfold carN; rw [List.filter_append]
    cases c : isCar s <;> simp [c]
theorem DnAt.fin (h : DnAt rs cy ss v0 ss.length at_ acc v) : doneV rs cy ss 0 v0 = (acc, .endd) := by
  rw [h.eq, List.drop_length, doneV, List.append_nil]
end
/-! ### the laws' models as data -/
theorem vw_outR {S : Sto} {o : Out} : vw S (outR o) = outR o := by cases o <;> rfl
/-! ### conditions that keep to two keys in order and two labels that are counted -/
def Nar (ks : List Key) (ls : List Str) (c : Cnd) : Prop := ∀ d ∈ leavesC c, (∀ k ∈ ordK d, k ∈ ks.take 2) ∧ ∀ l ∈ askL d, l ∈ ls.drop (ls.length - 2)
theorem Nar.both {ks : List Key} {ls : List Str} {c d : Cnd} (h : Nar ks ls c) (g : Nar ks ls d) : Nar ks ls (.both c d) := fun e he => by
  rcases List.mem_append.mp (show e ∈ leavesC c ++ leavesC d from he) with he | he
  · exact h e he
  · exact g e he
theorem Nar.either {ks : List Key} {ls : List Str} {c d : Cnd} (h : Nar ks ls c) (g : Nar ks ls d) : Nar ks ls (.either c d) := fun e he => by
  rcases List.mem_append.mp (show e ∈ leavesC c ++ leavesC d from he) with he | he
  · exact h e he
  · exact g e he
theorem Nar.inv {ks : List Key} {ls : List Str} {c : Cnd} (h : Nar ks ls c) : Nar ks ls (.inv c) := h
theorem CndOk.keys {PK : Key → Prop} {PL : Str → Prop} : ∀ {c : Cnd}, CndOk PK PL c → ∀ k ∈ (leavesC c).flatMap ownK, PK k
  | .kind _, h, l, m => by cases m
  | .equals _, h, l, m => by cases m
  | .size _, h, l, m => by cases m
  | .has z, h, l, m => by rw [List.mem_singleton.mp (show l ∈ [z] from m)]; exact h
  | .item z _, h, l, m => by rw [List.mem_singleton.mp (show l ∈ [z] from m)]; exact h.1
  | .before z y, h, l, m => by
    rcases List.mem_cons.mp (show l ∈ [z, y] from m) with rfl | m
    · exact h.1
    · rw [List.mem_singleton.mp m]; exact h.2
  | .first z, h, l, m => by cases m
  | .every z, h, l, m => by cases m
  | .some z, h, l, m => by cases m
  | .both c d, h, l, m => by
    rw [show leavesC (.both c d) = leavesC c ++ leavesC d from rfl, List.flatMap_append] at m
    rcases List.mem_append.mp m with m | m
    · exact h.1.keys l m
    · exact h.2.keys l m
  | .either c d, h, l, m => by
    rw [show leavesC (.either c d) = leavesC c ++ leavesC d from rfl, List.flatMap_append] at m
    rcases List.mem_append.mp m with m | m
    · exact h.1.keys l m
    · exact h.2.keys l m
  | .inv c, h, l, m => CndOk.keys (c := c) h l m
end KQ
namespace KQ
open PySem PySem.Spec PyProof.Rows L2 TL KB
/-! ### passages -/
def psT (C : Addr) (w : Wo) (r : Ro) : Tr := .ins C ["number_keys", "tuples", "nulls", "double_keys", "order", "long_numbers", "same_keys", "digit_keys", "lists", "null_items"] [.str w.keys, .str w.tups, .str w.nulls, .str w.dbl, .str w.order, .str w.longs, .str r.same, .str r.dig, .str r.lists, .str r.nulls]
theorem vw_psT {S : Sto} {C : Addr} {w : Wo} {r : Ro} : vw S (psT C w r) = psT C w r := rfl
/-- what comes back, or who refuses, why, where -/
def crry (w : Wo) (r : Ro) (v : Val) : Except (Str × Str × List Key) Val := match wrt w 62 v [] with
  | .error e => .error ("writer", e.1, e.2)
  | .ok x => match bldR r x [] with
    | .error e => .error ("reader", "double", e)
    | .ok u => .ok u
theorem crry_ok {w : Wo} {r : Ro} {v u : Val} (ov : VOk v) (dv : vdepth v ≤ 60) (h : crry w r v = .ok u) : VOk u ∧ vdepth u ≤ vdepth v ∧ vparts u ≤ vparts v := by
  unfold crry at h
  split at h
  · cases h
  · rename_i x e
    split at h
    · cases h
    · rename_i u' e2
      cases h
      obtain ⟨a, b, c⟩ := wrt_ok w 62 v [] x ov (by omega) e
      obtain ⟨a2, b2, c2⟩ := bldR_ok r x [] u a e2
      exact ⟨a2, by omega, by omega⟩
/-! ### the passages of a run -/
abbrev Psg := Option (Wo × Ro)
def psO (C : Addr) : Psg → Tr
  | none => .non
  | some q => psT C q.1 q.2
theorem vw_psO {S : Sto} {C : Addr} {q : Psg} : vw S (psO C q) = psO C q := by cases q <;> rfl
/-! ### a run of two parts -/
theorem carN_cons (s : Stp) (ss : List Stp) : carN (s :: ss) = (if isCar s then 1 else 0) + carN ss := by
  unfold carN
  cases h : isCar s
  · rw [List.filter_cons_of_neg (by simp [h])]; simp
  · rw [List.filter_cons_of_pos h, List.length_cons]; simp; omega
theorem step_none {rs : List (Str × Cnd)} {cy : Nat → Val → Option Val} {s : Stp} {i : Nat} {v : Val} (h : stepV rs cy s i v = .inr none) : isCar s = false := by
  cases s with
  | carry =>
    unfold stepV at h
    dsimp only at h
    split at h <;> cases h
  | _ => rfl
theorem doneV_cons {rs : List (Str × Cnd)} {cy : Nat → Val → Option Val} (s : Stp) (ss : List Stp) (i : Nat) (v : Val) : doneV rs cy (s :: ss) i v = (match stepV rs cy s i v with
    | .inl o => ([], o)
    | .inr none => doneV rs cy ss i v
    | .inr (some w) => (w :: (doneV rs cy ss (if isCar s then i + 1 else i) w).1, (doneV rs cy ss (if isCar s then i + 1 else i) w).2)) := by
  rw [doneV]
  all_goals (cases stepV rs cy s i v with
  | inl o => rfl
  | inr w => cases w <;> rfl)
theorem done_end {rs : List (Str × Cnd)} {cy : Nat → Val → Option Val} {ys : List Stp} : ∀ (ss : List Stp) (i : Nat) (v : Val), (doneV rs cy ss i v).2 = .endd →
    doneV rs cy (ss ++ ys) i v = ((doneV rs cy ss i v).1 ++ (doneV rs cy ys (i + carN ss) ((doneV rs cy ss i v).1.getLastD v)).1, (doneV rs cy ys (i + carN ss) ((doneV rs cy ss i v).1.getLastD v)).2)
  | [], i, v, _ => by simp [doneV, carN]
  | s :: ss, i, v, h => by
    rw [doneV_cons] at h
    rw [List.cons_append, doneV_cons s (ss ++ ys), doneV_cons s ss]
    cases q : stepV rs cy s i v with
    | inl o => rw [q] at h; dsimp only at h; subst h; exact absurd q (by
        cases s with
        | carry => unfold stepV; dsimp only; split <;> (intro q; cases q)
        | stop z c => unfold stepV; dsimp only; split <;> (intro q; cases q)
        | put k x => cases v <;> (unfold stepV; dsimp only; intro q; cases q)
        | drop k => cases v <;> (unfold stepV; dsimp only; intro q; cases q))
    | inr w =>
      rw [q] at h
      cases w with
      | none =>
        dsimp only at h ⊢
        have c := step_none q
        rw [done_end ss i v h, carN_cons, c, if_neg (by decide), Nat.zero_add]
      | some w =>
        dsimp only at h ⊢
        rw [done_end ss _ w h, List.cons_append, List.getLastD_cons, carN_cons]
        have e : ∀ a : Nat, (if isCar s = true then i + 1 else i) + a = i + ((if isCar s = true then 1 else 0) + a) := fun a => by split <;> omega
        rw [e]
theorem done_stop {rs : List (Str × Cnd)} {cy : Nat → Val → Option Val} {ys : List Stp} : ∀ (ss : List Stp) (i : Nat) (v : Val), (doneV rs cy ss i v).2 ≠ .endd → doneV rs cy (ss ++ ys) i v = doneV rs cy ss i v
  | [], i, v, h => absurd rfl h
  | s :: ss, i, v, h => by
    rw [doneV_cons] at h
    rw [List.cons_append, doneV_cons s (ss ++ ys), doneV_cons s ss]
    cases q : stepV rs cy s i v with
    | inl o => rfl
    | inr w =>
      rw [q] at h
      cases w with
      | none => dsimp only at h ⊢; exact done_stop ss i v h
      | some w => dsimp only at h ⊢; rw [done_stop ss _ w h]
end KQ
namespace KQ
open PySem PySem.Spec PyProof.Rows L2 TL KB
/-! ### keywords bound, quickly -/
/-! ### == of models -/
/-! ### texts of keys -/
theorem numL_head : ∀ n : Nat, 0 < n → (numL n).head? ≠ some 48 := by
  intro n
  induction n using Nat.strongRecOn with
  | _ n ih =>
    intro h
    by_cases h10 : n < 10
    · rw [numL_lt h10]; simp; omega
    · have := ih (n / 10) (by omega) (by omega)
      rw [numL_step (by omega)]
      cases e : numL (n / 10) with
      | nil => exact absurd e (numL_ne _)
      | cons a r => rw [e] at this; simpa using this
theorem numL_zero : numL 0 = [48] := by rw [numL_lt (by decide)]
theorem digs_dg {l : List Nat} (h : NumText.AllDigits l) : l.all isDg = true := List.all_eq_true.mpr fun c hc => by
  have := h c hc
  unfold isDg
  simpa using this
theorem body_num {n : Nat} : body (numL n) = numL n := by
  unfold body
  rw [if_neg]
  intro h
  cases e : numL n with
  | nil => exact absurd e (numL_ne _)
  | cons a r =>
    rw [e] at h
    have := numL_digits n a (by rw [e]; simp)
    cases h
    omega
theorem dig_intS {n : Int} (h : n.natAbs < 10 ^ 30) : digK (tl (intS n)) = true := by
  unfold intS
  rw [tl_int]
  unfold intL
  have l30 := numL_len (n := n.natAbs) (k := 30) (by decide) h
  have ag := digs_dg (numL_digits n.natAbs)
  have ne := numL_ne n.natAbs
  split
  · rename_i hn
    have hh := numL_head n.natAbs (by omega)
    have eb : body (45 :: numL n.natAbs) = numL n.natAbs := by unfold body; rw [if_pos (by simp)]; rfl
    unfold digK
    rw [eb, decide_eq_true ne, decide_eq_true l30, ag, decide_eq_true hh]
    simp
  · unfold digK
    rw [body_num, decide_eq_true ne, decide_eq_true l30, ag]
    by_cases h0 : n.natAbs = 0
    · rw [h0, numL_zero]; rfl
    · rw [decide_eq_true (numL_head n.natAbs (by omega))]; simp
theorem intS_back {n : Int} (h : n.natAbs < 10 ^ 30) : PySem.intText? (intS n) = some n := by
  obtain ⟨m, e, e2, _, _⟩ := digK_int (dig_intS h)
  have : m = n := by
    have e3 : tl (Str.ofString (toString m)) = tl (Str.ofString (toString n)) := congrArg tl e2
    rw [tl_int, tl_int] at e3
    have v : ∀ k : Int, k < 0 → (intL k).head? = some 45 := fun k hk => by unfold intL; rw [if_pos hk]; rfl
    have u : ∀ k : Int, ¬ k < 0 → (intL k).head? ≠ some 45 := fun k hk h => by
      unfold intL at h; rw [if_neg hk] at h
      cases e : numL k.natAbs with
      | nil => exact absurd e (numL_ne _)
      | cons a r =>
        rw [e] at h
        have := numL_digits k.natAbs a (by rw [e]; simp)
        cases h
        omega
    have ab : ∀ a b : Nat, numL a = numL b → a = b := fun a b q => by rw [← numL_val a, ← numL_val b, q]
    by_cases hm : m < 0 <;> by_cases hn : n < 0
    · unfold intL at e3; rw [if_pos hm, if_pos hn] at e3
      have := ab _ _ (List.cons.inj e3).2
      omega
    · exact absurd (by rw [← e3]; exact v m hm) (u n hn)
    · exact absurd (by rw [e3]; exact v n hn) (u m hm)
    · unfold intL at e3; rw [if_neg hm, if_neg hn] at e3
      have := ab _ _ e3
      omega
  rw [e, this]
/-! ### entries put one after another -/
theorem putP_new {k : Key} {v : Val} {ps : List (Key × Val)} (h : k ∉ pK ps) : putP k v ps = ps ++ [(k, v)] := by
  unfold putP
  rw [if_neg (fun q => h (hasK_iff.mp q))]
/-! ### what comes back the same -/
section
variable {o : Wo} {r : Ro} {L : List Str}
end
/-! ### what is refused -/
section
variable {o : Wo} {r : Ro} {g : Str}
/-! ### a reader that refuses doubles -/
end
/-! ### k58's passages -/
end KQ
namespace KQ
open PySem PySem.Spec PyProof.Rows L2 TL KB
/-! ### texts as lists of codes -/
def mkS (l : List Nat) : Str := ⟨l.toArray⟩
theorem tl_mkS (l : List Nat) : tl (mkS l) = l := by simp [tl, mkS]
theorem mkS_inj {a b : List Nat} (h : mkS a = mkS b) : a = b := by rw [← tl_mkS a, ← tl_mkS b, h]
/-! ### the reader of texts, on what is left of the text -/
inductive PErr where
  | nott (r : List Nat)
  | deep (r : List Nat)
abbrev PR (α : Type) := Except PErr (α × List Nat)
def blk : List Nat → List Nat
  | [] => []
  | c :: r => if c = 32 then blk r else c :: r
def pEx (c : Nat) : List Nat → Except PErr (List Nat)
  | [] => .error (.nott [])
  | x :: r => if x = c then .ok r else .error (.nott (x :: r))
def pEs : List Nat → List Nat → Except PErr (List Nat)
  | [], r => .ok r
  | c :: cs, r => match pEx c r with
    | .error e => .error e
    | .ok r' => pEs cs r'
def wrapR (v : RawV) : Except PErr (List Nat) → PR RawV
  | .error e => .error e
  | .ok r => .ok (v, r)
def pWd (r : List Nat) : PR RawV :=
  if r.head? = some 110 then wrapR .non (pEs [110, 117, 108, 108] r)
  else if r.head? = some 116 then wrapR (.bl true) (pEs [116, 114, 117, 101] r)
  else wrapR (.bl false) (pEs [102, 97, 108, 115, 101] r)
/-- so many digits at most -/
def pDg : Nat → List Nat → List Nat × List Nat
  | 0, r => ([], r)
  | _ + 1, [] => ([], [])
  | n + 1, c :: r => if isDg c = true then (c :: (pDg n r).1, (pDg n r).2) else ([], c :: r)
/-- digits behind a sign -/
def pNd (neg : Bool) : List Nat → PR RawV
  | [] => .error (.nott [])
  | c :: r => if isDg c = false then .error (.nott (c :: r))
    else if c = 48 then .ok (.int 0, r)
    else .ok (.int (if neg = true then -((NumText.digitsVal (c :: (pDg 29 r).1) : Nat) : Int) else ((NumText.digitsVal (c :: (pDg 29 r).1) : Nat) : Int)), (pDg 29 r).2)
def pNm (r : List Nat) : PR RawV :=
  if r.head? = some 45 then (if r.tail.head? = some 48 then .error (.nott r.tail) else pNd true r.tail) else pNd false r
/-- a string, behind its first quote -/
def pSt : List Nat → Except PErr (List Nat × List Nat)
  | [] => .error (.nott [])
  | c :: r => if c = 34 then .ok ([], r)
    else if c = 92 then (match r with
      | [] => .error (.nott [])
      | d :: r2 => if d = 34 ∨ d = 92 then (match pSt r2 with
          | .error e => .error e
          | .ok q => .ok (d :: q.1, q.2))
        else .error (.nott (d :: r2)))
    else (match pSt r with
      | .error e => .error e
      | .ok q => .ok (c :: q.1, q.2))
def pStr (r : List Nat) : Except PErr (List Nat × List Nat) := match pEx 34 r with
  | .error e => .error e
  | .ok r' => pSt r'
/-- members behind the first one -/
def pMore {α : Type} (f : List Nat → PR α) (cl : Nat) : Nat → List α → List Nat → PR (List α)
  | 0, _, r => .error (.nott r)
  | n + 1, acc, r => if r.head? = some 44 then (match f r.tail with
      | .error e => .error e
      | .ok q => pMore f cl n (acc ++ [q.1]) (blk q.2))
    else (match pEx cl r with
      | .error e => .error e
      | .ok r' => .ok (acc, r'))
def pMem {α : Type} (f : List Nat → PR α) (cl : Nat) (r : List Nat) : PR (List α) :=
  if (blk r).head? = some cl then .ok ([], (blk r).tail) else (match f (blk r) with
    | .error e => .error e
    | .ok q => pMore f cl (q.2.length + 1) [q.1] (blk q.2))
def pPair (f : List Nat → PR RawV) (r : List Nat) : PR (Str × RawV) := match pStr (blk r) with
  | .error e => .error e
  | .ok q => match pEx 58 (blk q.2) with
    | .error e => .error e
    | .ok r' => match f r' with
      | .error e => .error e
      | .ok v => .ok ((mkS q.1, v.1), v.2)
/-- a value without items, behind blanks -/
def pLeaf (r : List Nat) : PR RawV :=
  if r.head? = some 34 then (match pStr r with
    | .error e => .error e
    | .ok q => .ok (.str (mkS q.1), q.2))
  else if r.head? = some 110 ∨ r.head? = some 116 ∨ r.head? = some 102 then pWd r
  else pNm r
/-- a value; the number tells how many brackets may still be opened -/
def pVal : Nat → List Nat → PR RawV
  | 0, r => if (blk r).head? = some 91 ∨ (blk r).head? = some 123 then .error (.deep (blk r)) else pLeaf (blk r)
  | d + 1, r => if (blk r).head? = some 91 then (match pMem (pVal d) 93 (blk r).tail with
      | .error e => .error e
      | .ok q => .ok (.row q.1, q.2))
    else if (blk r).head? = some 123 then (match pMem (pPair (pVal d)) 125 (blk r).tail with
      | .error e => .error e
      | .ok q => .ok (.tab (q.1.map (·.1)) (q.1.map (·.2)), q.2))
    else pLeaf (blk r)
def pText (l : List Nat) : Except PErr RawV := match pVal 60 l with
  | .error e => .error e
  | .ok q => if (blk q.2).isEmpty = true then .ok q.1 else .error (.nott (blk q.2))
/-! ### what is left is an end of the text -/
def PErr.rest : PErr → List Nat
  | .nott r => r
  | .deep r => r
def Suf {α : Type} (x : PR α) (r : List Nat) : Prop := (∀ q, x = .ok q → q.2 <:+ r) ∧ ∀ e, x = .error e → e.rest <:+ r
def Suf0 (x : Except PErr (List Nat)) (r : List Nat) : Prop := (∀ q, x = .ok q → q <:+ r) ∧ ∀ e, x = .error e → e.rest <:+ r
theorem Suf.up {α : Type} {x : PR α} {r l : List Nat} (h : Suf x r) (s : r <:+ l) : Suf x l := ⟨fun q e => (h.1 q e).trans s, fun q e => (h.2 q e).trans s⟩
theorem Suf0.up {x : Except PErr (List Nat)} {r l : List Nat} (h : Suf0 x r) (s : r <:+ l) : Suf0 x l := ⟨fun q e => (h.1 q e).trans s, fun q e => (h.2 q e).trans s⟩
theorem blk_suf : ∀ r : List Nat, blk r <:+ r
  | [] => List.suffix_refl _
  | c :: r => by
    rw [blk]
    split
    · exact (blk_suf r).trans (List.suffix_cons c r)
    · exact List.suffix_refl _
section
variable {α : Type} {f : List Nat → PR α} {cl : Nat}
end
/-! ### the scanner as a tree -/
theorem suf_drop {z : Str} {r : List Nat} (h : r <:+ tl z) : (tl z).drop (z.length - r.length) = r := by
  obtain ⟨t, e⟩ := h
  rw [len_tl, ← e, List.length_append, Nat.add_sub_cancel]
  exact List.drop_left
theorem suf_len {z : Str} {r : List Nat} (h : r <:+ tl z) : r.length ≤ z.length := by rw [len_tl]; exact h.length_le
structure ZS (z : Str) (r : List Nat) : Prop where
  suf : r <:+ tl z
  pr : Pr z
  len : z.length ≤ 4000000
theorem ZS.le {z : Str} {r : List Nat} (h : ZS z r) : r.length ≤ z.length := suf_len h.suf
theorem ZS.up {z : Str} {r r' : List Nat} (h : ZS z r) (s : r' <:+ r) : ZS z r' := ⟨s.trans h.suf, h.pr, h.len⟩
theorem blk_no {r : List Nat} (h : r.head? ≠ some 32) : blk r = r := by
  cases r with
  | nil => rfl
  | cons c r => rw [blk, if_neg (fun e => h (by rw [e]; rfl))]
theorem head_cons {r : List Nat} {k : Nat} (h : r.head? = some k) : ∃ t, r = k :: t := by
  cases r with
  | nil => cases h
  | cons c r => cases h; exact ⟨r, rfl⟩
theorem pEx_yes {k : Nat} {t : List Nat} : pEx k (k :: t) = .ok t := by rw [pEx, if_pos rfl]
theorem pEx_no {k : Nat} {r : List Nat} (h : r.head? ≠ some k) : pEx k r = .error (.nott r) := by
  cases r with
  | nil => rfl
  | cons c r => rw [pEx, if_neg (fun e => h (by rw [e]; rfl))]
theorem ZS.dig {z : Str} {r : List Nat} (h : ZS z r) : Txt.isdigit (mkS (r.take 1)) = (r.head?.map isDg).getD false := by
  rw [KB.isdigit_pr (fun c hc => by rw [tl_mkS] at hc; exact h.pr c (h.suf.subset (List.mem_of_mem_take hc))), tl_mkS]
  cases r with
  | nil => rfl
  | cons c r => simp
theorem ZS.at_ {z : Str} {c : Nat} {r : List Nat} (h : ZS z (c :: r)) : atI z.cps.toList ((z.length - (c :: r).length : Nat) : Int) = some c := by
  refine atI_nat ?_
  have := suf_drop h.suf
  have e : ((tl z).drop (z.length - (c :: r).length))[0]? = some c := by rw [this]; rfl
  rw [List.getElem?_drop, Nat.add_zero] at e
  exact e
theorem all_dg {l : List Nat} (h : ∀ x ∈ l, isDg x = true) : NumText.AllDigits l := fun c hc => by
  have := h c hc
  unfold isDg at this
  simpa using this
theorem pDg_none {n : Nat} {r : List Nat} (h : n = 0 ∨ (r.head?.map isDg).getD false = false) : pDg n r = ([], r) := by
  cases n with
  | zero => rfl
  | succ n =>
    cases r with
    | nil => rfl
    | cons c r =>
      rcases h with h | h
      · cases h
      · rw [pDg, if_neg (by simpa using h)]
theorem q0 : mkS [] = Str.ofString "" := ext_tl (by rw [tl_mkS]; decide +kernel)
theorem q1 {c : Nat} {t : List Nat} : mkS (c :: t) ≠ Str.ofString "" := fun e => by rw [← q0] at e; cases mkS_inj e
/-! ### members as trees -/
def mapR {α β : Type} (g : α → β) : PR α → PR β
  | .error e => .error e
  | .ok q => .ok (g q.1, q.2)
theorem val_leaf {b : Nat} {r : List Nat} (h1 : (blk r).head? ≠ some 91) (h2 : (blk r).head? ≠ some 123) : pVal b r = pLeaf (blk r) := by
  cases b with
  | zero => rw [pVal, if_neg (fun h => h.elim h1 h2)]
  | succ b => rw [pVal, if_neg h1, if_neg h2]
end KQ
namespace KQ
open PySem PySem.Spec PyProof.Rows L2 TL KB
/-! ### tokens of a raw value, on codes -/
def escL : List Nat → List Nat
  | [] => []
  | c :: r => if c = 34 ∨ c = 92 then 92 :: c :: escL r else c :: escL r
def strK (l : List Nat) : List Nat := 34 :: (escL l ++ [34])
/-- the tokens with blanks behind each -/
inductive Spc : List (List Nat) → List Nat → Prop
  | nil : Spc [] []
  | cons {t : List Nat} {ts : List (List Nat)} {l : List Nat} (n : Nat) (h : Spc ts l) : Spc (t :: ts) (t ++ (List.replicate n 32 ++ l))
theorem Spc.split : ∀ {a b : List (List Nat)} {l : List Nat}, Spc (a ++ b) l → ∃ l1 l2, l = l1 ++ l2 ∧ Spc a l1 ∧ Spc b l2
  | [], b, l, h => ⟨[], l, rfl, .nil, h⟩
  | t :: a, b, l, h => by
    cases h with
    | cons n h =>
      obtain ⟨l1, l2, rfl, h1, h2⟩ := Spc.split h
      exact ⟨_, l2, by simp, .cons n h1, h2⟩
theorem Spc.join {a b : List (List Nat)} {l1 l2 : List Nat} (h1 : Spc a l1) (h2 : Spc b l2) : Spc (a ++ b) (l1 ++ l2) := by
  induction h1 with
  | nil => exact h2
  | cons n h ih => simpa using Spc.cons n ih
theorem Spc.flat : ∀ ts : List (List Nat), Spc ts ts.flatten
  | [] => .nil
  | t :: ts => Spc.cons 0 (Spc.flat ts)
theorem Spc.one {t l : List Nat} (h : Spc [t] l) : ∃ n, l = t ++ List.replicate n 32 := by
  cases h with
  | cons n h => cases h; exact ⟨n, by simp⟩
/-! ### reading -/
def NoD (r : List Nat) : Prop := (r.head?.map isDg).getD false = false
theorem blk_rep (m : Nat) (r : List Nat) : blk (List.replicate m 32 ++ r) = blk r := by
  induction m with
  | zero => rfl
  | succ m ih => rw [List.replicate_succ, List.cons_append, blk, if_pos rfl, ih]
theorem blk_nil (m : Nat) : blk (List.replicate m 32) = [] := by
  have := blk_rep m []
  rwa [List.append_nil] at this
theorem nod_rep {r : List Nat} (n : Nat) (h : NoD r) : NoD (List.replicate n 32 ++ r) := by
  cases n with
  | zero => exact h
  | succ n => rw [List.replicate_succ]; rfl
theorem pVal_rep (b m : Nat) (r : List Nat) : pVal b (List.replicate m 32 ++ r) = pVal b r := by
  cases b with
  | zero => rw [pVal, pVal, blk_rep]
  | succ b => rw [pVal, pVal, blk_rep]
def Rd {α : Type} (f : List Nat → PR α) (ts : List (List Nat)) (x : α) : Prop := ∀ (l rest : List Nat) (m : Nat), Spc ts l → NoD rest → ∃ n, f (List.replicate m 32 ++ (l ++ rest)) = .ok (x, List.replicate n 32 ++ rest)
theorem pDg_all : ∀ (n : Nat) (a r : List Nat), (∀ c ∈ a, isDg c = true) → a.length ≤ n → NoD r → pDg n (a ++ r) = (a, r)
  | n, [], r, _, _, h => pDg_none (.inr h)
  | 0, c :: a, r, _, hl, _ => by cases hl
  | n + 1, c :: a, r, hd, hl, h => by
    rw [List.cons_append, pDg, if_pos (hd c (List.mem_cons_self ..)), pDg_all n a r (fun x hx => hd x (List.mem_cons_of_mem _ hx)) (by simpa using hl) h]
theorem pNm_int {n : Int} (h : n.natAbs < 10 ^ 30) (r : List Nat) (hr : NoD r) : pNm (tl (intS n) ++ r) = .ok (.int n, r) := by
  have hk := dig_intS h
  have hb := intS_back h
  unfold digK at hk
  simp only [Bool.and_eq_true, decide_eq_true_eq, Bool.or_eq_true] at hk
  obtain ⟨⟨⟨h1, h2⟩, h3⟩, h4⟩ := hk
  have hd : ∀ c ∈ body (tl (intS n)), isDg c = true := List.all_eq_true.mp h3
  by_cases hm : (tl (intS n)).head? = some 45
  · obtain ⟨b, eb⟩ := head_cons hm
    have e2 : body (tl (intS n)) = b := by unfold body; rw [if_pos hm, eb]; rfl
    rw [e2] at h1 h2 h4 hd
    have h0 : b.head? ≠ some 48 := by
      rcases h4 with h4 | h4
      · rw [eb] at h4; cases h4
      · exact h4
    have ln := len_tl (intS n)
    rw [eb, List.length_cons] at ln
    have it := intText_neg eb (all_dg hd) h1 (by omega)
    rw [hb] at it
    rw [eb]
    unfold pNm
    rw [if_pos (by simp)]
    cases b with
    | nil => exact absurd rfl h1
    | cons c t =>
      have c48 : ¬ c = 48 := fun e => h0 (by rw [e]; rfl)
      show (if (c :: (t ++ r)).head? = some 48 then _ else pNd true (c :: (t ++ r))) = _
      rw [if_neg (by simpa using c48), pNd, if_neg (by rw [hd c (List.mem_cons_self ..)]; decide), if_neg c48]
      rw [pDg_all 29 t r (fun x hx => hd x (List.mem_cons_of_mem _ hx)) (by simpa using h2) hr, if_pos rfl, ← Option.some.inj it]
  · have e2 : body (tl (intS n)) = tl (intS n) := by unfold body; rw [if_neg hm]
    rw [e2] at h1 h2 h4 hd
    have it := intText_digits (x := intS n) (all_dg hd) h1 (by rw [len_tl]; omega)
    rw [hb] at it
    have it : n = ((NumText.digitsVal (tl (intS n)) : Nat) : Int) := Option.some.inj it
    generalize tl (intS n) = l at *
    cases l with
    | nil => exact absurd rfl h1
    | cons c t =>
      unfold pNm
      rw [if_neg (by simpa using hm), List.cons_append, pNd, if_neg (by rw [hd c (List.mem_cons_self ..)]; decide)]
      by_cases c48 : c = 48
      · have et : t = [] := by
          rcases h4 with h4 | h4
          · cases h4; rfl
          · exact absurd (by rw [c48]; rfl) h4
        rw [if_pos c48, it, c48, et]
        rfl
      · rw [if_neg c48, pDg_all 29 t r (fun x hx => hd x (List.mem_cons_of_mem _ hx)) (by simpa using h2) hr, if_neg Bool.false_ne_true, ← it]
theorem pSt_esc : ∀ (l r : List Nat), pSt (escL l ++ 34 :: r) = .ok (l, r)
  | [], r => by rw [escL, List.nil_append, pSt.eq_def]; dsimp only; rw [if_pos rfl]
  | c :: l, r => by
    rw [escL]
    split
    · rename_i h
      rw [List.cons_append, List.cons_append, pSt.eq_def]
      dsimp only
      rw [if_neg (by decide), if_pos rfl, if_pos h, pSt_esc l r]
    · rename_i h
      rw [List.cons_append, pSt.eq_def]
      dsimp only
      rw [if_neg (fun e => h (.inl e)), if_neg (fun e => h (.inr e)), pSt_esc l r]
theorem pStr_esc (l r : List Nat) : pStr (strK l ++ r) = .ok (l, r) := by
  unfold pStr strK
  rw [List.cons_append, pEx_yes, List.append_assoc]
  exact pSt_esc l r
section
variable {α : Type} {f : List Nat → PR α} {cl : Nat}
end
/-! what is read back: integers of at most thirty digits, names for all items -/
mutual
def RNm : RawV → Prop
  | .row xs => RNmL xs
  | .tab ns xs => RNmL xs ∧ ns.length = xs.length
  | .non => True
  | .bl _ => True
  | .int n => n.natAbs < 10 ^ 30
  | .str _ => True
def RNmL : List RawV → Prop
  | [] => True
  | x :: xs => RNm x ∧ RNmL xs
end
mutual
theorem RNm.of : ∀ {v : RawV}, ROk v → RNm v
  | .row xs, h => RNmL.of (xs := xs) h
  | .tab ns xs, h => ⟨RNmL.of (xs := xs) h.1, h.2.1⟩
  | .non, _ => trivial
  | .bl _, _ => trivial
  | .int _, h => h
  | .str _, _ => trivial
theorem RNmL.of : ∀ {xs : List RawV}, ROkL xs → RNmL xs
  | [], _ => trivial
  | x :: xs, h => ⟨RNm.of h.1, RNmL.of (xs := xs) h.2⟩
end
/-! ### without the blanks outside strings -/
/-! ### the text as it is written -/
/-! ### its signs -/
def PrL (l : List Nat) : Prop := ∀ c ∈ l, 32 ≤ c ∧ c < 127
theorem PrL.mk {l : List Nat} (h : PrL l) : Pr (mkS l) := fun c hc => h c (by rw [tl_mkS] at hc; exact hc)
theorem prL_app {a b : List Nat} (ha : PrL a) (hb : PrL b) : PrL (a ++ b) := fun c hc => (List.mem_append.mp hc).elim (ha c) (hb c)
theorem prL_rep (n : Nat) : PrL (List.replicate n 32) := fun c hc => by rw [List.eq_of_mem_replicate hc]; decide
theorem prL_one {k : Nat} (h : 32 ≤ k ∧ k < 127) : PrL [k] := fun c hc => by rw [List.mem_singleton] at hc; subst hc; exact h
/-! ### how many tokens -/
/-! ### for the walks -/
theorem Sub.trans {a b c : Sto} (h : Sub a b) (g : Sub b c) : Sub a c := fun x d e => g x d (h x d e)
end KQ
namespace KQ
open PySem PySem.Spec PyProof.Rows L2 TL KB
/-! ### the writer's words are plain texts -/
/-! ### told answers compared with themselves -/
/-! ### raw values that are alike -/
/-! names and items go together -/
mutual
def RSh : RawV → Prop
  | .row xs => RShL xs
  | .tab ns xs => RShL xs ∧ ns.length = xs.length
  | .non => True
  | .bl _ => True
  | .int _ => True
  | .str _ => True
def RShL : List RawV → Prop
  | [] => True
  | x :: xs => RSh x ∧ RShL xs
end
mutual
theorem RSh.of : ∀ {v : RawV}, ROk v → RSh v
  | .row xs, h => RShL.of (xs := xs) h
  | .tab ns xs, h => ⟨RShL.of (xs := xs) h.1, h.2.1⟩
  | .non, _ => trivial
  | .bl _, _ => trivial
  | .int _, _ => trivial
  | .str _, _ => trivial
theorem RShL.of : ∀ {xs : List RawV}, ROkL xs → RShL xs
  | [], _ => trivial
  | x :: xs, h => ⟨RSh.of h.1, RShL.of (xs := xs) h.2⟩
end
/-! ### raw values of lists of members -/
/-! ### unlike values have unlike texts -/
/-! ### strings that go wrong -/
theorem zero_val (b : Nat) (r : List Nat) : pVal b (48 :: r) = .ok (.int 0, r) := by
  have hb : blk (48 :: r) = 48 :: r := blk_no (by simp)
  rw [val_leaf (by rw [hb]; simp) (by rw [hb]; simp), hb]
  unfold pLeaf pNm
  rw [if_neg (by simp), if_neg (by simp), if_neg (by simp), pNd, if_neg (by decide), if_pos rfl]
end KQ
namespace KQ
open PySem PySem.Spec PyProof.Rows L2 TL KB
/-! ### a text in a text: what is read of it, or where it goes wrong -/
def Gd (i : Nat) (T : List Nat) (v : RawV) : Prop := ∀ (b : Nat) (rest : List Nat), i ≤ b → NoD rest → ∃ n, pVal b (T ++ rest) = .ok (v, List.replicate n 32 ++ rest)
def Bad (i : Nat) (T Y : List Nat) : Prop := ∀ (b : Nat) (rest : List Nat), i ≤ b → NoD rest → pVal b (T ++ rest) = .error (.nott (Y ++ rest)) ∨ ∃ v c Y', Y = c :: Y' ∧ isDg c = true ∧ pVal b (T ++ rest) = .ok (v, Y ++ rest)
/-- its first sign closes nothing -/
def Hds (T : List Nat) : Prop := ∃ m c t, T = List.replicate m 32 ++ c :: t ∧ c ≠ 93 ∧ c ≠ 125 ∧ c ≠ 32
theorem Hds.blk {T : List Nat} (h : Hds T) (r : List Nat) : (blk (T ++ r)).head? ≠ some 93 ∧ (blk (T ++ r)).head? ≠ some 125 := by
  obtain ⟨m, c, t, rfl, h1, h2, h3⟩ := h
  rw [List.append_assoc, blk_rep, List.cons_append, blk_no (by simpa using h3)]
  exact ⟨by simpa using h1, by simpa using h2⟩
theorem blk_blk : ∀ r : List Nat, blk (blk r) = blk r
  | [] => rfl
  | c :: r => by
    by_cases h : c = 32
    · rw [blk, if_pos h]; exact blk_blk r
    · rw [blk, if_neg h, blk, if_neg h]
theorem pVal_blk (b : Nat) (r : List Nat) : pVal b (blk r) = pVal b r := by
  cases b with
  | zero => rw [pVal, pVal, blk_blk]
  | succ b => rw [pVal, pVal, blk_blk]
theorem blk_c {c : Nat} {r : List Nat} (h : c ≠ 32) : blk (c :: r) = c :: r := blk_no (by simpa using h)
theorem dg_no {c : Nat} (h : isDg c = true) : c ≠ 32 ∧ c ≠ 44 ∧ c ≠ 93 ∧ c ≠ 125 := by
  unfold isDg at h
  simp at h
  omega
/-- a row, a table: the first member read -/
theorem row_step {b : Nat} {T : List Nat} (h : Hds T) (r : List Nat) : pVal (b + 1) (91 :: (T ++ r)) = (match pVal b (T ++ r) with
    | .error e => .error e
    | .ok q => match pMore (pVal b) 93 (q.2.length + 1) [q.1] (blk q.2) with
      | .error e => .error e
      | .ok q => .ok (.row q.1, q.2)) := by
  rw [pVal, blk_c (by decide), if_pos (by rfl), List.tail_cons]
  unfold pMem
  rw [if_neg (h.blk r).1, pVal_blk]
  all_goals (cases pVal b (T ++ r) <;> rfl)
section
variable {α : Type} {f : List Nat → PR α} {cl : Nat}
theorem more_close {k : Nat} {acc : List α} {r : List Nat} (h : cl ≠ 44) : pMore f cl (k + 1) acc (cl :: r) = .ok (acc, r) := by rw [pMore, if_neg (by simpa using h), pEx_yes]
theorem more_bad {k : Nat} {acc : List α} {c : Nat} {r : List Nat} (h1 : c ≠ 44) (h2 : c ≠ cl) : pMore f cl (k + 1) acc (c :: r) = .error (.nott (c :: r)) := by rw [pMore, if_neg (by simpa using h1), pEx_no (by simpa using h2)]
theorem more_next {k : Nat} {acc : List α} {r : List Nat} {q : α × List Nat} (h : f r = .ok q) : pMore f cl (k + 1) acc (44 :: r) = pMore f cl k (acc ++ [q.1]) (blk q.2) := by rw [pMore, if_pos (by rfl), List.tail_cons, h]
theorem more_err {k : Nat} {acc : List α} {r : List Nat} {e : PErr} (h : f r = .error e) : pMore f cl (k + 1) acc (44 :: r) = .error e := by rw [pMore, if_pos (by rfl), List.tail_cons, h]
end
theorem Hds.rep {T : List Nat} (h : Hds T) (m : Nat) : Hds (List.replicate m 32 ++ T) := by
  obtain ⟨n, c, t, rfl, h1, h2, h3⟩ := h
  exact ⟨m + n, c, t, by rw [← List.append_assoc, List.replicate_append_replicate], h1, h2, h3⟩
theorem Hds.app {T : List Nat} (h : Hds T) (r : List Nat) : Hds (T ++ r) := by
  obtain ⟨n, c, t, rfl, h1, h2, h3⟩ := h
  exact ⟨n, c, t ++ r, by simp, h1, h2, h3⟩
theorem Hds.cons {c : Nat} (t : List Nat) (h1 : c ≠ 93) (h2 : c ≠ 125) (h3 : c ≠ 32) : Hds (c :: t) := ⟨0, c, t, rfl, h1, h2, h3⟩
theorem Gd.rep {i : Nat} {T : List Nat} {v : RawV} (h : Gd i T v) (m k : Nat) : Gd i (List.replicate m 32 ++ T ++ List.replicate k 32) v := fun b rest hb hr => by
  obtain ⟨n, e⟩ := h b (List.replicate k 32 ++ rest) hb (nod_rep k hr)
  refine ⟨n + k, ?_⟩
  rw [List.append_assoc, List.append_assoc, pVal_rep, e, ← List.append_assoc, List.replicate_append_replicate]
theorem Bad.rep {i : Nat} {T Y : List Nat} (h : Bad i T Y) (m k : Nat) : Bad i (List.replicate m 32 ++ T ++ List.replicate k 32) (Y ++ List.replicate k 32) := fun b rest hb hr => by
  rw [List.append_assoc, List.append_assoc, pVal_rep, List.append_assoc]
  rcases h b (List.replicate k 32 ++ rest) hb (nod_rep k hr) with e | ⟨v, c, Y', rfl, hc, e⟩
  · exact .inl e
  · exact .inr ⟨v, c, Y' ++ List.replicate k 32, rfl, hc, by rw [e]⟩
/-- [T] -/
theorem Gd.row {i : Nat} {T : List Nat} {v : RawV} (h : Gd i T v) (ht : Hds T) : Gd (i + 1) (91 :: (T ++ [93])) (.row [v]) := fun b rest hb hr => by
  obtain ⟨b, rfl⟩ : ∃ k, b = k + 1 := ⟨b - 1, by omega⟩
  obtain ⟨n, e⟩ := h b (93 :: rest) (by omega) rfl
  refine ⟨0, ?_⟩
  rw [List.cons_append, List.append_assoc, List.cons_append, List.nil_append, row_step ht, e]
  dsimp only
  rw [blk_rep, blk_c (by decide), more_close (by decide)]
  rfl
theorem Bad.row {i : Nat} {T Y : List Nat} (h : Bad i T Y) (ht : Hds T) : Bad (i + 1) (91 :: (T ++ [93])) (Y ++ [93]) := fun b rest hb hr => by
  obtain ⟨b, rfl⟩ : ∃ k, b = k + 1 := ⟨b - 1, by omega⟩
  left
  rw [List.cons_append, List.append_assoc, List.cons_append, List.nil_append, row_step ht, List.append_assoc, List.cons_append, List.nil_append]
  rcases h b (93 :: rest) (by omega) rfl with e | ⟨v, c, Y', rfl, hc, e⟩
  · rw [e]
  · rw [e]
    dsimp only
    obtain ⟨h1, h2, h3, h4⟩ := dg_no hc
    rw [List.cons_append, blk_c h1, more_bad h2 h3]
/-- [-7,T, 0] -/
theorem seven (b : Nat) {r : List Nat} (h : NoD r) : pVal b (45 :: 55 :: r) = .ok (.int (-7), r) := by
  have e : tl (intS (-7)) = [45, 55] := by unfold intS; rw [tl_int]; decide +kernel
  have := pNm_int (n := -7) (by decide) r h
  rw [e] at this
  rw [val_leaf (by rw [blk_c (by decide)]; simp) (by rw [blk_c (by decide)]; simp), blk_c (by decide)]
  unfold pLeaf
  rw [if_neg (by simp), if_neg (by simp)]
  exact this
theorem sev_hd (r : List Nat) : Hds (45 :: 55 :: r) := .cons _ (by decide) (by decide) (by decide)
theorem Gd.mid {i : Nat} {T : List Nat} {v : RawV} (h : Gd i T v) (m : Nat) : Gd (i + 1) (91 :: 45 :: 55 :: (List.replicate m 32 ++ 44 :: (T ++ [44, 32, 48, 93]))) (.row [.int (-7), v, .int 0]) := fun b rest hb hr => by
  obtain ⟨b, rfl⟩ : ∃ k, b = k + 1 := ⟨b - 1, by omega⟩
  obtain ⟨n, e⟩ := h b (44 :: 32 :: 48 :: 93 :: rest) (by omega) rfl
  refine ⟨0, ?_⟩
  have er : 91 :: 45 :: 55 :: (List.replicate m 32 ++ 44 :: (T ++ [44, 32, 48, 93])) ++ rest = 91 :: ((45 :: 55 :: []) ++ (List.replicate m 32 ++ 44 :: (T ++ 44 :: 32 :: 48 :: 93 :: rest))) := by simp
  rw [er, row_step (sev_hd [])]
  rw [show ([45, 55] ++ (List.replicate m 32 ++ 44 :: (T ++ 44 :: 32 :: 48 :: 93 :: rest))) = 45 :: 55 :: (List.replicate m 32 ++ 44 :: (T ++ 44 :: 32 :: 48 :: 93 :: rest)) from rfl, seven b (nod_rep (r := 44 :: (T ++ 44 :: 32 :: 48 :: 93 :: rest)) m rfl)]
  dsimp only
  rw [blk_rep, blk_c (by decide)]
  obtain ⟨k, hk⟩ : ∃ k, (List.replicate m 32 ++ 44 :: (T ++ 44 :: 32 :: 48 :: 93 :: rest)).length = k + 3 := ⟨(List.replicate m 32 ++ 44 :: (T ++ 44 :: 32 :: 48 :: 93 :: rest)).length - 3, by simp only [List.length_append, List.length_cons]; omega⟩
  rw [hk, more_next e, blk_rep, blk_c (by decide), more_next (q := (.int 0, 93 :: rest)) (by rw [← pVal_blk, blk, if_pos rfl, blk_c (by decide)]; exact zero_val b _), blk_c (by decide), more_close (by decide)]
  rfl
theorem Bad.mid {i : Nat} {T Y : List Nat} (h : Bad i T Y) (m : Nat) : Bad (i + 1) (91 :: 45 :: 55 :: (List.replicate m 32 ++ 44 :: (T ++ [44, 32, 48, 93]))) (Y ++ [44, 32, 48, 93]) := fun b rest hb hr => by
  obtain ⟨b, rfl⟩ : ∃ k, b = k + 1 := ⟨b - 1, by omega⟩
  left
  have er : 91 :: 45 :: 55 :: (List.replicate m 32 ++ 44 :: (T ++ [44, 32, 48, 93])) ++ rest = 91 :: ((45 :: 55 :: []) ++ (List.replicate m 32 ++ 44 :: (T ++ 44 :: 32 :: 48 :: 93 :: rest))) := by simp
  rw [er, row_step (sev_hd [])]
  rw [show ([45, 55] ++ (List.replicate m 32 ++ 44 :: (T ++ 44 :: 32 :: 48 :: 93 :: rest))) = 45 :: 55 :: (List.replicate m 32 ++ 44 :: (T ++ 44 :: 32 :: 48 :: 93 :: rest)) from rfl, seven b (nod_rep (r := 44 :: (T ++ 44 :: 32 :: 48 :: 93 :: rest)) m rfl)]
  dsimp only
  rw [blk_rep, blk_c (by decide), List.append_assoc]
  obtain ⟨k, hk⟩ : ∃ k, (List.replicate m 32 ++ 44 :: (T ++ 44 :: 32 :: 48 :: 93 :: rest)).length = k + 3 := ⟨(List.replicate m 32 ++ 44 :: (T ++ 44 :: 32 :: 48 :: 93 :: rest)).length - 3, by simp only [List.length_append, List.length_cons]; omega⟩
  rw [hk]
  rcases h b (44 :: 32 :: 48 :: 93 :: rest) (by omega) rfl with e | ⟨v, c, Y', rfl, hc, e⟩
  · rw [more_err e]; rfl
  · obtain ⟨h1, h2, h3, h4⟩ := dg_no hc
    rw [more_next e]
    dsimp only
    rw [show blk (c :: Y' ++ 44 :: 32 :: 48 :: 93 :: rest) = c :: (Y' ++ 44 :: 32 :: 48 :: 93 :: rest) from blk_c h1, more_bad h2 h3]
    rfl
/-- {"1":T} -/
theorem one_step {b : Nat} (r : List Nat) : pVal (b + 1) (123 :: 34 :: 49 :: 34 :: 58 :: r) = (match pVal b r with
    | .error e => .error e
    | .ok q => match pMore (pPair (pVal b)) 125 (q.2.length + 1) [(mkS [49], q.1)] (blk q.2) with
      | .error e => .error e
      | .ok q => .ok (.tab (q.1.map (·.1)) (q.1.map (·.2)), q.2)) := by
  rw [pVal, blk_c (by decide), if_neg (by simp), if_pos (by rfl), List.tail_cons]
  unfold pMem
  rw [blk_c (by decide), if_neg (by simp)]
  have e : pPair (pVal b) (34 :: 49 :: 34 :: 58 :: r) = (match pVal b r with
      | .error e => .error e
      | .ok q => .ok ((mkS [49], q.1), q.2)) := by
    unfold pPair
    rw [blk_c (by decide), show pStr (34 :: 49 :: 34 :: 58 :: r) = .ok ([49], 58 :: r) from pStr_esc [49] (58 :: r)]
    dsimp only
    rw [blk_c (by decide), pEx_yes]
    try dsimp only
    all_goals (cases pVal b r <;> rfl)
  rw [e]
  all_goals (cases pVal b r <;> rfl)
theorem Gd.tab {i : Nat} {T : List Nat} {v : RawV} (h : Gd i T v) (m k : Nat) : Gd (i + 1) (123 :: 34 :: 49 :: 34 :: 58 :: (List.replicate m 32 ++ (T ++ (List.replicate k 32 ++ [125])))) (.tab [mkS [49]] [v]) := fun b rest hb hr => by
  obtain ⟨b, rfl⟩ : ∃ k, b = k + 1 := ⟨b - 1, by omega⟩
  obtain ⟨n, e⟩ := h b (List.replicate k 32 ++ 125 :: rest) (by omega) (nod_rep k rfl)
  refine ⟨0, ?_⟩
  have er : 123 :: 34 :: 49 :: 34 :: 58 :: (List.replicate m 32 ++ (T ++ (List.replicate k 32 ++ [125]))) ++ rest = 123 :: 34 :: 49 :: 34 :: 58 :: (List.replicate m 32 ++ (T ++ (List.replicate k 32 ++ 125 :: rest))) := by simp
  rw [er, one_step, pVal_rep, e]
  dsimp only
  rw [blk_rep, blk_rep, blk_c (by decide), more_close (by decide)]
  rfl
theorem Bad.tab {i : Nat} {T Y : List Nat} (h : Bad i T Y) (m k : Nat) : Bad (i + 1) (123 :: 34 :: 49 :: 34 :: 58 :: (List.replicate m 32 ++ (T ++ (List.replicate k 32 ++ [125])))) (Y ++ (List.replicate k 32 ++ [125])) := fun b rest hb hr => by
  obtain ⟨b, rfl⟩ : ∃ k, b = k + 1 := ⟨b - 1, by omega⟩
  left
  have er : 123 :: 34 :: 49 :: 34 :: 58 :: (List.replicate m 32 ++ (T ++ (List.replicate k 32 ++ [125]))) ++ rest = 123 :: 34 :: 49 :: 34 :: 58 :: (List.replicate m 32 ++ (T ++ (List.replicate k 32 ++ 125 :: rest))) := by simp
  have ey : Y ++ (List.replicate k 32 ++ [125]) ++ rest = Y ++ (List.replicate k 32 ++ 125 :: rest) := by simp
  rw [er, ey, one_step, pVal_rep]
  rcases h b (List.replicate k 32 ++ 125 :: rest) (by omega) (nod_rep k rfl) with e | ⟨v, c, Y', rfl, hc, e⟩
  · rw [e]
  · rw [e]
    dsimp only
    obtain ⟨h1, h2, h3, h4⟩ := dg_no hc
    rw [List.cons_append, blk_c h1, more_bad h2 h4]
/-- the whole text -/
theorem Gd.text {i : Nat} {T : List Nat} {v : RawV} (h : Gd i T v) (hi : i ≤ 60) : pText T = .ok v := by
  obtain ⟨n, e⟩ := h 60 [] hi rfl
  rw [List.append_nil, List.append_nil] at e
  unfold pText
  rw [e]
  dsimp only
  rw [blk_nil]
  rfl
theorem Bad.text {i : Nat} {T Y : List Nat} (h : Bad i T Y) (hi : i ≤ 60) : pText T = .error (.nott Y) := by
  have e := h 60 [] hi rfl
  rw [List.append_nil, List.append_nil] at e
  unfold pText
  rcases e with e | ⟨v, c, Y', rfl, hc, e⟩
  · rw [e]
  · rw [e]
    dsimp only
    rw [blk_c (dg_no hc).1, if_neg (by simp)]
/-! ### figures with a sign -/
/-! ### what stands around -/
structure Cx4 (i : Nat) (A B : List Nat) (f : RawV → RawV) : Prop where
  good : ∀ X v, Gd 0 X v → Hds X → Gd i (A ++ (X ++ B)) (f v)
  bad : ∀ X Y, Bad 0 X Y → Hds X → Bad i (A ++ (X ++ B)) (Y ++ B)
  hds : ∀ X, Hds X → Hds (A ++ (X ++ B))
theorem Cx4.nil : Cx4 0 [] [] id := ⟨fun X v h _ => by simpa using h, fun X Y h _ => by simpa using h, fun X h => by simpa using h⟩
theorem Gd.le {i j : Nat} {T : List Nat} {v : RawV} (h : Gd i T v) (l : i ≤ j) : Gd j T v := fun b rest hb hr => h b rest (Nat.le_trans l hb) hr
theorem Bad.le {i j : Nat} {T Y : List Nat} (h : Bad i T Y) (l : i ≤ j) : Bad j T Y := fun b rest hb hr => h b rest (Nat.le_trans l hb) hr
def Stp4 (A B : List Nat) (v : RawV) (A' B' : List Nat) (v' : RawV) : Prop := ∃ m ≤ 2,
  (A' = List.replicate m 32 ++ 91 :: A ∧ B' = B ++ [93] ∧ v' = .row [v]) ∨
  (A' = 91 :: 45 :: 55 :: (List.replicate m 32 ++ 44 :: A) ∧ B' = B ++ ([44, 32, 48, 93] ++ List.replicate m 32) ∧ v' = .row [.int (-7), v, .int 0]) ∨
  (A' = 123 :: 34 :: 49 :: 34 :: 58 :: (List.replicate m 32 ++ A) ∧ B' = List.replicate m 32 ++ (B ++ [125]) ∧ v' = .tab [mkS [49]] [v]) ∨
  (A' = List.replicate m 32 ++ A ∧ B' = B ++ List.replicate m 32 ∧ v' = v)
theorem Cx4.step {i : Nat} {A B A' B' : List Nat} {f : RawV → RawV} {v v' : RawV} (h : Cx4 i A B f) (s : Stp4 A B (f v) A' B' v') : ∃ f', v' = f' v ∧ Cx4 (i + 1) A' B' f' := by
  obtain ⟨m, hm, s⟩ := s
  rcases s with ⟨rfl, rfl, rfl⟩ | ⟨rfl, rfl, rfl⟩ | ⟨rfl, rfl, rfl⟩ | ⟨rfl, rfl, rfl⟩
  · refine ⟨fun v => .row [f v], rfl, fun X v g hx => ?_, fun X Y g hx => ?_, fun X hx => ?_⟩
    · have := ((h.good X v g hx).row (h.hds X hx)).rep m 0
      simpa using this
    · have := ((h.bad X Y g hx).row (h.hds X hx)).rep m 0
      simpa using this
    · have := (Hds.cons (A ++ (X ++ (B ++ [93]))) (c := 91) (by decide) (by decide) (by decide)).rep m
      simpa using this
  · refine ⟨fun v => .row [.int (-7), f v, .int 0], rfl, fun X v g hx => ?_, fun X Y g hx => ?_, fun X hx => .cons _ (by decide) (by decide) (by decide)⟩
    · have := ((h.good X v g hx).mid m).rep 0 m
      simpa using this
    · have := ((h.bad X Y g hx).mid m).rep 0 m
      simpa using this
  · refine ⟨fun v => .tab [mkS [49]] [f v], rfl, fun X v g hx => ?_, fun X Y g hx => ?_, fun X hx => .cons _ (by decide) (by decide) (by decide)⟩
    · have g2 : Gd 0 (X ++ List.replicate m 32) v := by simpa using g.rep 0 m
      have := (h.good _ v g2 (hx.app _)).tab m 0
      simpa using this
    · have g2 : Bad 0 (X ++ List.replicate m 32) (Y ++ List.replicate m 32) := by simpa using g.rep 0 m
      have := (h.bad _ _ g2 (hx.app _)).tab m 0
      simpa using this
  · refine ⟨f, rfl, fun X v g hx => ?_, fun X Y g hx => ?_, fun X hx => ?_⟩
    · have := ((h.good X v g hx).rep m m).le (Nat.le_succ i)
      simpa using this
    · have := ((h.bad X Y g hx).rep m m).le (Nat.le_succ i)
      simpa using this
    · have := ((h.hds X hx).app (List.replicate m 32)).rep m
      simpa using this
theorem Stp4.len {A B A' B' : List Nat} {v v' : RawV} (s : Stp4 A B v A' B' v') : A'.length ≤ A.length + 8 ∧ B'.length ≤ B.length + 8 := by
  obtain ⟨m, hm, s⟩ := s
  rcases s with ⟨rfl, rfl, _⟩ | ⟨rfl, rfl, _⟩ | ⟨rfl, rfl, _⟩ | ⟨rfl, rfl, _⟩ <;> simp only [List.length_append, List.length_cons, List.length_replicate, List.length_nil] <;> omega
theorem Stp4.pr {A B A' B' : List Nat} {v v' : RawV} (s : Stp4 A B v A' B' v') (ha : PrL A) (hb : PrL B) : PrL A' ∧ PrL B' := by
  obtain ⟨m, hm, s⟩ := s
  have c1 : ∀ (c : Nat) (l : List Nat), (32 ≤ c ∧ c < 127) → PrL l → PrL (c :: l) := fun c l h hl => prL_app (prL_one h) hl
  have r := prL_rep m
  rcases s with ⟨rfl, rfl, _⟩ | ⟨rfl, rfl, _⟩ | ⟨rfl, rfl, _⟩ | ⟨rfl, rfl, _⟩
  · exact ⟨prL_app r (c1 _ _ (by decide) ha), prL_app hb (prL_one (by decide))⟩
  · exact ⟨c1 _ _ (by decide) (c1 _ _ (by decide) (c1 _ _ (by decide) (prL_app r (c1 _ _ (by decide) ha)))), prL_app hb (prL_app (by unfold PrL; decide) r)⟩
  · exact ⟨c1 _ _ (by decide) (c1 _ _ (by decide) (c1 _ _ (by decide) (c1 _ _ (by decide) (c1 _ _ (by decide) (prL_app r ha))))), prL_app r (prL_app hb (prL_one (by decide)))⟩
  · exact ⟨prL_app r ha, prL_app hb r⟩
end KQ
namespace KQ
open PySem PySem.Spec PyProof.Rows L2 TL KB
/-! ### rows and tables within one another -/
/-- where the inner bracket stands, and what stands from it on -/
def inr : Nat → Option (Nat × List Nat)
  | 1 => some (1, [91, 93, 44])
  | 3 => some (5, [123, 125, 44, 34, 97, 34, 58])
  | _ => none
/-- what closes a member, or does not -/
def Fin (cl : Nat) (v : RawV) (mk : RawV → RawV) : PR RawV → PR RawV
  | .error e => .error e
  | .ok (v, r) => match blk r with
    | [] => .error (.nott [])
    | c :: r => if c = cl then .ok (mk v, r) else .error (.nott (c :: r))
/-! ### levels -/
/-! ### levels as trees -/
end KQ
namespace KQ
open PySem PySem.Spec PyProof.Rows L2 TL KB
/-! ### steps that do nothing -/
section
variable {rs : List (Str × Cnd)}
structure Idl (rs : List (Str × Cnd)) (xs ys : List Stp) : Prop where
  car : carN xs = carN ys
  out : ∀ cy i v, (doneV rs cy xs i v).2 = (doneV rs cy ys i v).2
  last : ∀ cy i v, (doneV rs cy ys i v).2 = .endd → (doneV rs cy xs i v).1.getLastD v = (doneV rs cy ys i v).1.getLastD v
theorem Idl.mid {xs ys : List Stp} (h : Idl rs xs ys) (a b : List Stp) (cy : Nat → Val → Option Val) (i : Nat) (v : Val) : (doneV rs cy (a ++ xs ++ b) i v).2 = (doneV rs cy (a ++ ys ++ b) i v).2 := by
  rw [List.append_assoc, List.append_assoc]
  by_cases ha : (doneV rs cy a i v).2 = .endd
  · rw [done_end a i v ha, done_end a i v ha]
    dsimp only
    generalize (doneV rs cy a i v).1.getLastD v = u
    by_cases hx : (doneV rs cy ys (i + carN a) u).2 = .endd
    · rw [done_end ys _ u hx, done_end xs _ u (by rw [h.out]; exact hx), h.car, h.last _ _ _ hx]
    · rw [done_stop ys _ u hx, done_stop xs _ u (by rw [h.out]; exact hx), h.out]
  · rw [done_stop a i v ha, done_stop a i v ha]
/-! the seven forms -/
end
end KQ
namespace KQ
open PySem PySem.Spec PyProof.Rows L2 TL KB
/-! ### what is read of a beginning stays, whatever follows -/
def PErr.app (y : List Nat) : PErr → PErr
  | .nott r => .nott (r ++ y)
  | .deep r => .deep (r ++ y)
def Beh {α : Type} (x : PR α) (y : List Nat) : Prop := (∀ q, x = .ok q → q.2.length ≤ y.length) ∧ ∀ e, x = .error e → e.rest.length ≤ y.length
theorem Suf.beh {α : Type} {x : PR α} {y : List Nat} (h : Suf x y) : Beh x y := ⟨fun q e => (h.1 q e).length_le, fun q e => (h.2 q e).length_le⟩
structure AtP {α : Type} (N : α → Bool) (f : List Nat → PR α) (u : List Nat) : Prop where
  er : ∀ y e, f u = .error e → e.rest ≠ [] → f (u ++ y) = .error (e.app y)
  ee : ∀ y e, f u = .error e → e.rest = [] → e = .nott [] ∧ Beh (f (u ++ y)) y
  st : ∀ y q, f u = .ok q → (q.2 ≠ [] ∨ N q.1 = false) → f (u ++ y) = .ok (q.1, q.2 ++ y)
  oe : ∀ y q, f u = .ok q → q.2 = [] → Beh (f (u ++ y)) y
def Prg {α : Type} (N : α → Bool) (f : List Nat → PR α) : Prop := ∀ u, AtP N f u
def SufF {α : Type} (f : List Nat → PR α) : Prop := ∀ r, Suf (f r) r
theorem blk_app : ∀ (u y : List Nat), blk u ≠ [] → blk (u ++ y) = blk u ++ y
  | [], y, h => (h rfl).elim
  | c :: u, y, h => by
    rw [List.cons_append, blk, blk]
    by_cases e : c = 32
    · rw [if_pos e, if_pos e]
      rw [blk, if_pos e] at h
      exact blk_app u y h
    · rw [if_neg e, if_neg e]; rfl
theorem blk_app0 : ∀ (u y : List Nat), blk u = [] → blk (u ++ y) = blk y
  | [], y, h => rfl
  | c :: u, y, h => by
    rw [List.cons_append, blk]
    rw [blk] at h
    by_cases e : c = 32
    · rw [if_pos e] at h ⊢
      exact blk_app0 u y h
    · rw [if_neg e] at h; cases h
theorem tail_app {u y : List Nat} (h : u ≠ []) : (u ++ y).tail = u.tail ++ y := by cases u with
  | nil => exact (h rfl).elim
  | cons c u => rfl
/-- at the end: what a reader says of nothing -/
theorem end_rest {α : Type} {f : List Nat → PR α} (s : SufF f) {e : PErr} (h : f [] = .error e) : e.rest = [] := List.suffix_nil.mp ((s []).2 e h)
theorem end_ok {α : Type} {f : List Nat → PR α} (s : SufF f) {q : α × List Nat} (h : f [] = .ok q) : q.2 = [] := List.suffix_nil.mp ((s []).1 q h)
/-- one reader behind another -/
def seqP {α β : Type} (f : List Nat → PR α) (g : α → List Nat → PR β) (r : List Nat) : PR β := match f r with
  | .error e => .error e
  | .ok q => g q.1 q.2
theorem AtP.seq {α β : Type} {N : α → Bool} {M : β → Bool} {f : List Nat → PR α} {g : α → List Nat → PR β} {u : List Nat} (hf : AtP N f u) (hg : ∀ a r, f u = .ok (a, r) → AtP M (g a) r) (sg : ∀ a, SufF (g a))
    (hn : ∀ a q, N a = true → g a [] = .ok q → M q.1 = true) : AtP M (seqP f g) u := by
  have beh : ∀ y, Beh (f (u ++ y)) y → Beh (seqP f g (u ++ y)) y := fun y h => by
    unfold seqP
    cases hx : f (u ++ y) with
    | error e => exact ⟨fun q e => (by cases e), fun q e' => by cases e'; exact h.2 _ hx⟩
    | ok q => exact ⟨fun q' e => Nat.le_trans ((sg q.1 q.2).1 q' e).length_le (h.1 _ hx), fun q' e => Nat.le_trans ((sg q.1 q.2).2 q' e).length_le (h.1 _ hx)⟩
  have go : ∀ y a r, f u = .ok (a, r) → (r ≠ [] ∨ N a = false) → seqP f g u = g a r ∧ seqP f g (u ++ y) = g a (r ++ y) := fun y a r h1 h2 => by
    have := hf.st y _ h1 h2
    unfold seqP
    rw [h1, this]; exact ⟨rfl, rfl⟩
  refine ⟨fun y e h1 h2 => ?_, fun y e h1 h2 => ?_, fun y q h1 h2 => ?_, fun y q h1 h2 => ?_⟩
  · cases hx : f u with
    | error e' =>
      have : e' = e := by unfold seqP at h1; rw [hx] at h1; cases h1; rfl
      subst this
      unfold seqP; rw [hf.er y _ hx h2]
    | ok q =>
      by_cases hq : q.2 ≠ [] ∨ N q.1 = false
      · obtain ⟨e1, e2⟩ := go y q.1 q.2 hx hq
        rw [e2]; rw [e1] at h1; exact (hg q.1 q.2 hx).er y e h1 h2
      · have hq2 : q.2 = [] := Decidable.byContradiction fun h => hq (.inl h)
        unfold seqP at h1; rw [hx] at h1
        have h1 : g q.1 q.2 = .error e := h1
        rw [hq2] at h1
        exact (h2 (end_rest (sg q.1) h1)).elim
  · cases hx : f u with
    | error e' =>
      have : e' = e := by unfold seqP at h1; rw [hx] at h1; cases h1; rfl
      subst this
      obtain ⟨z, b⟩ := hf.ee y _ hx h2
      exact ⟨z, beh y b⟩
    | ok q =>
      by_cases hq : q.2 ≠ [] ∨ N q.1 = false
      · obtain ⟨e1, e2⟩ := go y q.1 q.2 hx hq
        rw [e2]; rw [e1] at h1; exact (hg q.1 q.2 hx).ee y e h1 h2
      · have hq2 : q.2 = [] := Decidable.byContradiction fun h => hq (.inl h)
        have h1' : g q.1 q.2 = .error e := by unfold seqP at h1; rw [hx] at h1; exact h1
        exact ⟨((hg q.1 q.2 hx).ee [] e h1' h2).1, beh y (hf.oe y q hx hq2)⟩
  · cases hx : f u with
    | error e' => unfold seqP at h1; rw [hx] at h1; cases h1
    | ok q' =>
      by_cases hq : q'.2 ≠ [] ∨ N q'.1 = false
      · obtain ⟨e1, e2⟩ := go y q'.1 q'.2 hx hq
        rw [e2]; rw [e1] at h1; exact (hg q'.1 q'.2 hx).st y q h1 h2
      · have hq2 : q'.2 = [] := Decidable.byContradiction fun h => hq (.inl h)
        have hq3 : N q'.1 = true := by cases h : N q'.1 with
          | true => rfl
          | false => exact (hq (.inr h)).elim
        have h1' : g q'.1 q'.2 = .ok q := by unfold seqP at h1; rw [hx] at h1; exact h1
        rw [hq2] at h1'
        rcases h2 with h2 | h2
        · exact (h2 (end_ok (sg q'.1) h1')).elim
        · rw [hn q'.1 q hq3 h1'] at h2; cases h2
  · cases hx : f u with
    | error e' => unfold seqP at h1; rw [hx] at h1; cases h1
    | ok q' =>
      by_cases hq : q'.2 ≠ [] ∨ N q'.1 = false
      · obtain ⟨e1, e2⟩ := go y q'.1 q'.2 hx hq
        rw [e2]; rw [e1] at h1; exact (hg q'.1 q'.2 hx).oe y q h1 h2
      · have hq2 : q'.2 = [] := Decidable.byContradiction fun h => hq (.inl h)
        exact beh y (hf.oe y q' hx hq2)
theorem Prg.seq {α β : Type} {N : α → Bool} {M : β → Bool} {f : List Nat → PR α} {g : α → List Nat → PR β} (hf : Prg N f) (hg : ∀ a, Prg M (g a)) (sg : ∀ a, SufF (g a))
    (hn : ∀ a q, N a = true → g a [] = .ok q → M q.1 = true) : Prg M (seqP f g) := fun u => (hf u).seq (fun a r _ => hg a r) sg hn
theorem AtP.blk {α : Type} {N : α → Bool} {f : List Nat → PR α} {u : List Nat} (p : AtP N f (blk u)) (s : SufF f) (h0 : ∀ q, f [] = .ok q → N q.1 = true) : AtP N (fun r => f (KQ.blk r)) u := by
  by_cases hb : KQ.blk u = []
  · rw [hb] at p
    have b0 : ∀ y, Beh (f (KQ.blk (u ++ y))) y := fun y => by rw [blk_app0 u y hb]; exact ((s _).up (blk_suf y)).beh
    refine ⟨fun y e h1 h2 => ?_, fun y e h1 h2 => ⟨?_, b0 y⟩, fun y q h1 h2 => ?_, fun y q h1 h2 => b0 y⟩
    all_goals rw [hb] at h1
    · exact (h2 (end_rest s h1)).elim
    · exact (p.ee [] e h1 h2).1
    · rcases h2 with h2 | h2
      · exact (h2 (end_ok s h1)).elim
      · rw [h0 q h1] at h2; cases h2
  · refine ⟨fun y e h1 h2 => ?_, fun y e h1 h2 => ?_, fun y q h1 h2 => ?_, fun y q h1 h2 => ?_⟩
    all_goals rw [blk_app u y hb]
    · exact p.er y e h1 h2
    · exact p.ee y e h1 h2
    · exact p.st y q h1 h2
    · exact p.oe y q h1 h2
theorem Prg.blk {α : Type} {N : α → Bool} {f : List Nat → PR α} (p : Prg N f) (s : SufF f) (h0 : ∀ q, f [] = .ok q → N q.1 = true) : Prg N (fun r => f (KQ.blk r)) := fun u => (p (KQ.blk u)).blk s h0
/-! the readers, one after another -/
theorem AtP.red {α β : Type} {N : α → Bool} {M : β → Bool} {f : List Nat → PR β} {h : List Nat → PR α} {g : α → β} {u t : List Nat} (e : ∀ y, f (u ++ y) = mapR g (h (t ++ y))) (p : AtP N h t) (hn : ∀ a, M (g a) = N a) : AtP M f u := by
  have e0 := e []
  rw [List.append_nil, List.append_nil] at e0
  have beh : ∀ y, Beh (h (t ++ y)) y → Beh (f (u ++ y)) y := fun y b => by
    rw [e y]
    cases hx : h (t ++ y) with
    | error e => exact ⟨fun q e => (by cases e), fun q e' => (by cases e'; exact b.2 _ hx)⟩
    | ok q => exact ⟨fun q e => (by cases e; exact b.1 _ hx), fun q e => (by cases e)⟩
  obtain ⟨p1, p2, p3, p4⟩ := p
  refine ⟨fun y e1 h1 h2 => ?_, fun y e1 h1 h2 => ?_, fun y q h1 h2 => ?_, fun y q h1 h2 => ?_⟩
  all_goals rw [e0] at h1
  all_goals cases hx : h t with
    | error e' => ?_
    | ok q' => ?_
  all_goals rw [hx] at h1
  all_goals cases h1
  · rw [e y, p1 y _ hx h2]; rfl
  · exact ⟨(p2 y _ hx h2).1, beh y (p2 y _ hx h2).2⟩
  · rw [e y, p3 y _ hx (h2.imp id fun h => by rw [← hn]; exact h)]; rfl
  · exact beh y (p4 y _ hx h2)
theorem AtP.deep {α : Type} {N : α → Bool} {f : List Nat → PR α} {u t : List Nat} (e : ∀ y, f (u ++ y) = .error (.deep (t ++ y))) (ht : t ≠ []) : AtP N f u := by
  have e0 := e []
  rw [List.append_nil, List.append_nil] at e0
  exact ⟨fun y e1 h1 h2 => (by rw [e0] at h1; cases h1; exact e y), fun y e1 h1 h2 => (by rw [e0] at h1; cases h1; exact (ht h2).elim), fun y q h1 h2 => (by rw [e0] at h1; cases h1), fun y q h1 h2 => (by rw [e0] at h1; cases h1)⟩
theorem AtP.eoe {α : Type} {N : α → Bool} {f : List Nat → PR α} {u : List Nat} (e : f u = .error (.nott [])) (b : ∀ y, Beh (f (u ++ y)) y) : AtP N f u :=
  ⟨fun y e1 h1 h2 => (by rw [e] at h1; cases h1; exact (h2 rfl).elim), fun y e1 h1 h2 => (by rw [e] at h1; cases h1; exact ⟨rfl, b y⟩), fun y q h1 h2 => (by rw [e] at h1; cases h1), fun y q h1 h2 => (by rw [e] at h1; cases h1)⟩
theorem AtP.nil {α : Type} {N : α → Bool} {f : List Nat → PR α} (s : SufF f) (e : f [] = .error (.nott [])) : AtP N f [] := AtP.eoe e fun y => (s y).beh
theorem Prg.eq {α : Type} {N : α → Bool} {f g : List Nat → PR α} (p : Prg N f) (h : ∀ r, g r = f r) : Prg N g := by rw [funext h]; exact p
theorem Prg.map {α β : Type} {N : α → Bool} {M : β → Bool} {g : α → β} {f : List Nat → PR α} (p : Prg N f) (hn : ∀ a, M (g a) = N a) : Prg M (fun r => mapR g (f r)) := fun u => AtP.red (g := g) (h := f) (t := u) (fun y => rfl) (p u) hn
theorem AtP.tail {α : Type} {N : α → Bool} {f : List Nat → PR α} (p : Prg N f) {u : List Nat} (hu : u ≠ []) : AtP N (fun r => f r.tail) u := by
  refine AtP.red (g := id) (h := f) (t := u.tail) (fun y => ?_) (p _) (fun _ => rfl)
  rw [tail_app hu]; cases f (u.tail ++ y) <;> rfl
section
variable {α : Type} {f : List Nat → PR α} {cl : Nat} {N : α → Bool}
end
end KQ
namespace KQ
open PySem PySem.Spec PyProof.Rows L2 TL KB
/-! ### whole texts: where they are wrong, and their beginnings -/
/-! a number read at the end stays a number -/
/-! only blanks lack -/
/-! a number cut in the middle -/
end KQ
namespace KQ
open PySem PySem.Spec PyProof.Rows L2 TL KB
/-! ### sum(xs) of a list of ints -/
end KQ
namespace KQ
open PySem PySem.Spec PyProof.Rows L2 TL KB
/-! ### writers alike: what two of them do with eleven small values tells what they do with all -/
def k5 : Key := .inl 5
def kk : Key := .inr "k"
theorem wrt_tab (o : Wo) (n : Nat) (ks : List Key) (vs : List Val) (p : List Key) : wrt o (n + 1) (.tab ks vs) p = wT (wrt o n) o (ks.zip vs) p := rfl
/-! #### and back -/
/-! #### all values -/
/-! #### the law's plain side -/
/-! #### `==` of lists of texts of any length, and of a text or none -/
end KQ
namespace KQ
open PySem PySem.Spec PyProof.Rows L2 TL KB
/-! ### what comes back comes back the same -/
abbrev ltE (a b : Key × Val) : Bool := ltS (keyS a.1) (keyS b.1)
theorem isort_id {α : Type} {lt : α → α → Bool} : ∀ {l : List α}, l.Pairwise (fun x y => lt y x = false) → isort lt l = l
  | [], _ => rfl
  | x :: xs, h => by
    have h' := List.pairwise_cons.mp h
    rw [isort, isort_id h'.2]
    cases xs with
    | nil => rfl
    | cons y ys => rw [insS, if_neg (by rw [h'.1 y (List.mem_cons_self ..)]; decide)]
theorem isort_pw {l : List (Key × Val)} : (isort ltE l).Pairwise (fun x y => ltS (keyS y.1) (keyS x.1) = false) := by
  have : SrtO.Swo ltE := ⟨fun a b h => swoS.asym _ _ h, fun a b c h g => swoS.tr _ _ _ h g⟩
  exact isort_srtd this l
mutual
/-- what a writer makes -/
def rawC (w : Wo) : RawV → Prop
  | .non => True
  | .bl _ => True
  | .str _ => True
  | .int i => longI i = true → w.longs = "keep"
  | .row xs => rawCL w xs
  | .tab ns xs => rawCL w xs ∧ (w.nulls = "skip" → ∀ x ∈ xs, x ≠ .non) ∧ (w.order = "rising" → ns.Pairwise (fun x y => ltS y x = false))
def rawCL (w : Wo) : List RawV → Prop
  | [] => True
  | x :: xs => rawC w x ∧ rawCL w xs
end
mutual
/-- what comes back -/
def valC (w : Wo) (r : Ro) : Val → Prop
  | .non => True
  | .bl _ => True
  | .str _ => True
  | .int i => longI i = true → w.longs = "keep"
  | .lst vs => r.lists ≠ "tuple" ∧ valCL w r vs
  | .tup vs => r.lists = "tuple" ∧ valCL w r vs
  | .tab ks vs => valCL w r vs ∧ (∀ v ∈ vs, isNonV v = true → w.nulls ≠ "skip" ∧ r.nulls = "keep") ∧ (∀ k ∈ ks, bkey r (keyS k) = k) ∧ (ks.map keyS).Nodup ∧ (w.order = "rising" → ks.Pairwise (fun x y => ltS (keyS y) (keyS x) = false))
def valCL (w : Wo) (r : Ro) : List Val → Prop
  | [] => True
  | v :: vs => valC w r v ∧ valCL w r vs
end
theorem rawCL_iff {w : Wo} : ∀ {xs : List RawV}, rawCL w xs ↔ ∀ x ∈ xs, rawC w x
  | [] => ⟨(fun _ _ h => nomatch h), fun _ => trivial⟩
  | x :: xs => by
    show rawC w x ∧ rawCL w xs ↔ _
    rw [rawCL_iff (xs := xs)]
    constructor
    · intro h y hy
      rcases List.mem_cons.mp hy with rfl | hy
      · exact h.1
      · exact h.2 y hy
    · exact fun h => ⟨h x (List.mem_cons_self ..), fun y hy => h y (List.mem_cons_of_mem _ hy)⟩
theorem valCL_iff {w : Wo} {r : Ro} : ∀ {xs : List Val}, valCL w r xs ↔ ∀ x ∈ xs, valC w r x
  | [] => ⟨(fun _ _ h => nomatch h), fun _ => trivial⟩
  | x :: xs => by
    show valC w r x ∧ valCL w r xs ↔ _
    rw [valCL_iff (xs := xs)]
    constructor
    · intro h y hy
      rcases List.mem_cons.mp hy with rfl | hy
      · exact h.1
      · exact h.2 y hy
    · exact fun h => ⟨h x (List.mem_cons_self ..), fun y hy => h y (List.mem_cons_of_mem _ hy)⟩
/-! #### the writer -/
theorem wL_all {f : Val → List Key → Except WErr RawV} {P : RawV → Prop} : ∀ (vs : List Val) (i : Nat) (p : List Key) (ws : List RawV), (∀ v ∈ vs, ∀ p x, f v p = .ok x → P x) → wL f vs i p = .ok ws → ∀ x ∈ ws, P x
  | [], i, p, ws, _, e, x, hx => by cases e; cases hx
  | v :: vs, i, p, ws, h, e, x, hx => by
    rw [wL] at e
    split at e
    · cases e
    · rename_i w hw
      split at e
      · cases e
      · rename_i us hu
        cases e
        rcases List.mem_cons.mp hx with rfl | hx
        · exact h v (List.mem_cons_self ..) _ _ hw
        · exact wL_all vs (i + 1) p us (fun v hv => h v (List.mem_cons_of_mem _ hv)) hu x hx
theorem wP_all {f : Val → List Key → Except WErr RawV} {o : Wo} : ∀ (qs : List (Key × Val)) (p : List Key) (acc : List Str) (ws : List (Str × RawV)), wP f o qs p acc = .ok ws →
    ws.map (·.1) = qs.map (fun q => keyS q.1) ∧ ∀ z ∈ ws, ∃ q ∈ qs, ∃ p, f q.2 p = .ok z.2
  | [], p, acc, ws, e => by cases e; exact ⟨rfl, fun _ h => nomatch h⟩
  | q :: qs, p, acc, ws, e => by
    rw [wP] at e
    split at e
    · cases e
    · split at e
      · cases e
      · rename_i w hw
        split at e
        · cases e
        · rename_i us hu
          cases e
          obtain ⟨h1, h2⟩ := wP_all qs p _ us hu
          refine ⟨by rw [List.map_cons, List.map_cons, h1], fun z hz => ?_⟩
          rcases List.mem_cons.mp hz with rfl | hz
          · exact ⟨q, List.mem_cons_self .., _, hw⟩
          · obtain ⟨q', hq', g⟩ := h2 z hz
            exact ⟨q', List.mem_cons_of_mem _ hq', g⟩
theorem wK_nulls {o : Wo} (h : o.nulls = "skip") : ∀ (ps qs : List (Key × Val)), wK o ps = .ok qs → ∀ z ∈ qs, isNonV z.2 = false
  | [], qs, e, z, hz => by cases e; cases hz
  | q :: ps, qs, e, z, hz => by
    rw [wK] at e
    split at e
    · exact wK_nulls h ps qs e z hz
    · rename_i c
      split at e
      · cases e
      · split at e
        · cases e
        · rename_i rs hr
          have ih := wK_nulls h ps rs hr
          cases e
          have hq : isNonV q.2 = false := by
            cases hn : isNonV q.2 with
            | false => rfl
            | true => exact absurd ⟨hn, h⟩ c
          split at hz
          · rcases List.mem_cons.mp hz with rfl | hz
            · exact hq
            · exact ih z hz
          · exact ih z hz
theorem wrt_non {o : Wo} {n : Nat} {v : Val} {p : List Key} {x : RawV} (h : wrt o (n + 1) v p = .ok x) (hx : x = .non) : isNonV v = true := by
  subst hx
  cases v with
  | non => rfl
  | bl b => cases h
  | str z => cases h
  | int i =>
    have h : wI o i p = .ok .non := h
    unfold wI at h
    split at h
    · split at h <;> cases h
    · cases h
  | lst vs =>
    have h : wR (wrt o n) vs p = .ok .non := h
    unfold wR at h
    split at h <;> cases h
  | tup vs =>
    have h : (if o.tups = "refuse" then (.error ("tuple", p) : Except WErr RawV) else wR (wrt o n) vs p) = .ok .non := h
    split at h
    · cases h
    · unfold wR at h
      split at h <;> cases h
  | tab ks vs =>
    rw [wrt_tab] at h
    unfold wT at h
    split at h
    · cases h
    · split at h <;> cases h
theorem zip_fst_eq {ws : List (Str × RawV)} {z : RawV} (h : z ∈ ws.map (·.2)) : ∃ q ∈ ws, q.2 = z := by
  obtain ⟨q, hq, e⟩ := List.mem_map.mp h
  exact ⟨q, hq, e⟩
theorem wrt_raw {o : Wo} : ∀ (n : Nat) (v : Val) (p : List Key) (x : RawV), vdepth v < n → wrt o n v p = .ok x → rawC o x
  | 0, v, p, x, h, _ => absurd h (Nat.not_lt_zero _)
  | n + 1, v, p, x, hd, e => by
    have dp : ∀ vs : List Val, 1 + vdepthL vs < n + 1 → ∀ v ∈ vs, vdepth v < n := fun vs h v hv => by have := (wdL_mem hv).1; omega
    have row : ∀ vs, 1 + vdepthL vs < n + 1 → wR (wrt o n) vs p = .ok x → rawC o x := fun vs h e => by
      unfold wR at e
      split at e
      · cases e
      · rename_i ws hw
        cases e
        exact rawCL_iff.mpr (wL_all vs 0 p ws (fun v hv q y hy => wrt_raw n v q y (dp vs h v hv) hy) hw)
    cases v with
    | non => cases e; trivial
    | bl b => cases e; trivial
    | str z => cases e; trivial
    | int i =>
      have e : wI o i p = .ok x := e
      unfold wI at e
      split at e
      · split at e
        · cases e
        · cases e; trivial
      · rename_i c
        cases e
        intro hl
        exact Decidable.byContradiction fun n => c ⟨hl, n⟩
    | lst vs => exact row vs hd e
    | tup vs =>
      have e : (if o.tups = "refuse" then (.error ("tuple", p) : Except WErr RawV) else wR (wrt o n) vs p) = .ok x := e
      split at e
      · cases e
      · exact row vs hd e
    | tab ks vs =>
      rw [wrt_tab] at e
      unfold wT at e
      split at e
      · cases e
      · rename_i qs hq
        split at e
        · cases e
        · rename_i ws hw
          cases e
          obtain ⟨h1, h2⟩ := wP_all _ _ _ _ hw
          have mem : ∀ q ∈ wS o qs, q ∈ ks.zip vs := fun q hq' => (wK_sub _ _ hq).subset (wS_perm.mem_iff.mp hq')
          have vmem : ∀ q ∈ wS o qs, vdepth q.2 < n := fun q hq' => dp vs hd q.2 (List.of_mem_zip (show (q.1, q.2) ∈ _ from mem q hq')).2
          refine ⟨rawCL_iff.mpr fun y hy => ?_, fun hs y hy => ?_, fun hr => ?_⟩
          · obtain ⟨z, hz, rfl⟩ := zip_fst_eq hy
            obtain ⟨q, hq', p', e'⟩ := h2 z hz
            exact wrt_raw n q.2 p' z.2 (vmem q hq') e'
          · obtain ⟨z, hz, rfl⟩ := zip_fst_eq hy
            obtain ⟨q, hq', p', e'⟩ := h2 z hz
            intro hn
            have nn := wK_nulls hs _ _ hq q (wS_perm.mem_iff.mp hq')
            have lt := vmem q hq'
            cases n with
            | zero => exact absurd lt (Nat.not_lt_zero _)
            | succ n => rw [wrt_non e' hn] at nn; cases nn
          · rw [h1]
            have : wS o qs = isort ltE qs := by unfold wS; rw [if_pos hr]
            rw [this, List.pairwise_map]
            exact isort_pw
/-! #### the reader -/
theorem keyS_bkey {r : Ro} {z : Str} : keyS (bkey r z) = z := by
  unfold bkey
  split
  · rename_i h
    obtain ⟨n, e1, e2, _⟩ := digK_int h.2
    rw [e1]
    exact e2
  · rfl
theorem bkey_keyS {r : Ro} {z : Str} : bkey r (keyS (bkey r z)) = bkey r z := by rw [keyS_bkey]
/-- the entries found so far -/
structure AccC (w : Wo) (r : Ro) (ps : List (Key × Val)) (ns : List Str) : Prop where
  nd : ((pK ps).map keyS).Nodup
  nm : ∀ k ∈ pK ps, ∃ z, k = .inr z
  ok : ∀ q ∈ ps, valC w r q.2 ∧ (isNonV q.2 = true → w.nulls ≠ "skip")
  pw : w.order = "rising" → ((pK ps).map keyS ++ ns).Pairwise (fun x y => ltS y x = false)
theorem AccC.put {w : Wo} {r : Ro} {ps : List (Key × Val)} {ns : List Str} {n : Str} {v : Val} (h : AccC w r ps (n :: ns)) (hv : valC w r v ∧ (isNonV v = true → w.nulls ≠ "skip")) : AccC w r (putP (.inr n) v ps) ns := by
  have hk : pK (putP (.inr n) v ps) = if hasK (.inr n) (pK ps) = true then pK ps else pK ps ++ [.inr n] := by
    rw [putP_keys]; unfold kputN; rfl
  by_cases c : hasK (.inr n) (pK ps) = true
  · rw [if_pos c] at hk
    refine ⟨by rw [hk]; exact h.nd, by rw [hk]; exact h.nm, fun q hq => ?_, fun hr => ?_⟩
    · unfold putP at hq
      rw [if_pos c] at hq
      obtain ⟨q', hq', rfl⟩ := List.mem_map.mp hq
      dsimp only
      split
      · exact hv
      · exact h.ok q' hq'
    · rw [hk]
      exact (h.pw hr).sublist (List.Sublist.append (List.Sublist.refl _) (List.sublist_cons_self ..))
  · rw [if_neg c] at hk
    refine ⟨?_, ?_, fun q hq => ?_, fun hr => ?_⟩
    · rw [hk, List.map_append, List.nodup_append]
      refine ⟨h.nd, by simp, fun a ha b hb e => ?_⟩
      rw [List.map_singleton, List.mem_singleton] at hb
      subst e
      obtain ⟨k, hk', e2⟩ := List.mem_map.mp ha
      obtain ⟨z, rfl⟩ := h.nm k hk'
      have : z = n := e2.trans hb
      subst this
      exact c (hasK_iff.mpr hk')
    · rw [hk]
      intro k hk'
      rcases List.mem_append.mp hk' with hk' | hk'
      · exact h.nm k hk'
      · exact ⟨n, List.mem_singleton.mp hk'⟩
    · unfold putP at hq
      rw [if_neg c] at hq
      rcases List.mem_append.mp hq with hq | hq
      · exact h.ok q hq
      · rw [List.mem_singleton.mp hq]; exact hv
    · rw [hk, List.map_append, List.append_assoc]
      exact h.pw hr
theorem AccC.skip {w : Wo} {r : Ro} {ps : List (Key × Val)} {ns : List Str} {n : Str} (h : AccC w r ps (n :: ns)) : AccC w r ps ns :=
  ⟨h.nd, h.nm, h.ok, fun hr => (h.pw hr).sublist (List.Sublist.append (List.Sublist.refl _) (List.sublist_cons_self ..))⟩
theorem bfin_valC {w : Wo} {r : Ro} {ps : List (Key × Val)} (h : AccC w r ps []) : valC w r (bfin r ps) := by
  unfold bfin tabV
  generalize hl : ps.filter (fun q => !isNonV q.2 || decide (r.nulls = "keep")) = l
  have sb : l.Sublist ps := hl ▸ List.filter_sublist
  have ek : pK (l.map fun q => (bkey r (keyS q.1), q.2)) = (l.map (·.1)).map fun k => bkey r (keyS k) := by unfold pK; rw [List.map_map, List.map_map]; rfl
  have ev : pV (l.map fun q => (bkey r (keyS q.1), q.2)) = l.map (·.2) := by unfold pV; rw [List.map_map]; rfl
  have ek2 : (pK (l.map fun q => (bkey r (keyS q.1), q.2))).map keyS = (pK l).map keyS := by
    rw [ek, List.map_map]
    unfold pK
    apply List.map_congr_left
    intro k _
    exact keyS_bkey
  refine ⟨?_, ?_, ?_, ?_, ?_⟩
  · rw [ev]
    refine valCL_iff.mpr fun v hv => ?_
    obtain ⟨q, hq, rfl⟩ := List.mem_map.mp hv
    exact (h.ok q (sb.subset hq)).1
  · rw [ev]
    intro v hv hn
    obtain ⟨q, hq, rfl⟩ := List.mem_map.mp hv
    refine ⟨(h.ok q (sb.subset hq)).2 hn, ?_⟩
    rw [← hl] at hq
    have := (List.mem_filter.mp hq).2
    rw [hn] at this
    simpa using this
  · rw [ek]
    intro k hk
    obtain ⟨j, _, rfl⟩ := List.mem_map.mp hk
    exact bkey_keyS
  · rw [ek2]
    exact h.nd.sublist ((sb.map _).map _)
  · intro hr
    have := h.pw hr
    rw [List.append_nil] at this
    have t2 := this.sublist ((sb.map (·.1)).map keyS)
    rw [show (l.map (·.1)).map keyS = (pK l).map keyS from rfl, ← ek2, List.pairwise_map] at t2
    exact t2
mutual
theorem bld_valC {w : Wo} {r : Ro} : ∀ (x : RawV) (p : List Key) (v : Val), rawC w x → bldR r x p = .ok v → valC w r v ∧ (isNonV v = true → x = .non)
  | .non, p, v, _, e => by cases e; exact ⟨trivial, fun _ => rfl⟩
  | .bl b, p, v, _, e => by cases e; exact ⟨trivial, fun h => nomatch h⟩
  | .str z, p, v, _, e => by cases e; exact ⟨trivial, fun h => nomatch h⟩
  | .int i, p, v, h, e => by cases e; exact ⟨h, fun h => nomatch h⟩
  | .row xs, p, v, h, e => by
    rw [bldR] at e
    split at e
    · cases e
    · rename_i vs hv
      have := bldL_valC xs 0 p vs h hv
      cases e
      split
      · rename_i c; exact ⟨⟨c, this⟩, fun h => nomatch h⟩
      · rename_i c; exact ⟨⟨c, this⟩, fun h => nomatch h⟩
  | .tab ns xs, p, v, h, e => by
    rw [bldR] at e
    split at e
    · cases e
    · rename_i ps hp
      cases e
      refine ⟨bfin_valC (bldT_valC ns xs p [] ps h.1 h.2.1 ⟨List.nodup_nil, (fun _ h => nomatch h), (fun _ h => nomatch h), fun hr => h.2.2 hr⟩ hp), fun h => nomatch h⟩
theorem bldL_valC {w : Wo} {r : Ro} : ∀ (xs : List RawV) (i : Nat) (p : List Key) (vs : List Val), rawCL w xs → bldL r xs i p = .ok vs → valCL w r vs
  | [], i, p, vs, _, e => by rw [bldL] at e; cases e; trivial
  | x :: xs, i, p, vs, h, e => by
    rw [bldL] at e
    split at e
    · cases e
    · rename_i v hv
      split at e
      · cases e
      · rename_i us hu
        cases e
        exact ⟨(bld_valC x _ v h.1 hv).1, bldL_valC xs _ p us h.2 hu⟩
theorem bldT_valC {w : Wo} {r : Ro} : ∀ (ns : List Str) (xs : List RawV) (p : List Key) (acc ps : List (Key × Val)), rawCL w xs → (w.nulls = "skip" → ∀ x ∈ xs, x ≠ .non) → AccC w r acc ns → bldT r ns xs p acc = .ok ps → AccC w r ps []
  | [], xs, p, acc, ps, _, _, ha, e => by
    have : bldT r [] xs p acc = .ok acc := by cases xs <;> rw [bldT] <;> (intros; simp_all)
    rw [this] at e; cases e; exact ha
  | n :: ns, [], p, acc, ps, _, _, ha, e => by
    have : bldT r (n :: ns) [] p acc = .ok acc := by rw [bldT]; intros; simp_all
    rw [this] at e; cases e
    exact ⟨ha.nd, ha.nm, ha.ok, fun hr => by rw [List.append_nil]; exact (ha.pw hr).sublist (List.sublist_append_left ..)⟩
  | n :: ns, x :: xs, p, acc, ps, h, hn, ha, e => by
    rw [bldT] at e
    split at e
    · cases e
    · split at e
      · cases e
      · rename_i v hv
        obtain ⟨c1, c2⟩ := bld_valC x _ v h.1 hv
        refine bldT_valC ns xs p _ ps h.2 (fun hs y hy => hn hs y (List.mem_cons_of_mem _ hy)) ?_ e
        split
        · exact ha.put ⟨c1, fun z hs => hn hs x (List.mem_cons_self ..) (c2 z)⟩
        · exact ha.skip
end
/-! #### and once more -/
def Again (w : Wo) (r : Ro) (v : Val) : Prop := ∀ n p, vdepth v < n → ∃ x, wrt w n v p = .ok x ∧ ∀ q, bldR r x q = .ok v
theorem again_row {w : Wo} {r : Ro} {n : Nat} : ∀ (vs : List Val) (i : Nat) (p : List Key), (∀ v ∈ vs, Again w r v) → vdepthL vs < n → ∃ xs, wL (wrt w n) vs i p = .ok xs ∧ ∀ j q, bldL r xs j q = .ok vs
  | [], i, p, _, _ => ⟨[], rfl, fun j q => by rw [bldL]⟩
  | v :: vs, i, p, h, hd => by
    have hd : max (vdepth v) (vdepthL vs) < n := hd
    obtain ⟨x, e1, e2⟩ := h v (List.mem_cons_self ..) n (p ++ [.inl i]) (by omega)
    obtain ⟨xs, g1, g2⟩ := again_row (n := n) vs (i + 1) p (fun u hu => h u (List.mem_cons_of_mem _ hu)) (by omega)
    refine ⟨x :: xs, by rw [wL, e1]; dsimp only; rw [g1], fun j q => ?_⟩
    rw [bldL, e2]; dsimp only; rw [g2]
theorem again_ent {w : Wo} {r : Ro} {n : Nat} : ∀ (ps : List (Key × Val)) (p : List Key) (acc : List Str), (∀ q ∈ ps, Again w r q.2 ∧ vdepth q.2 < n) → (ps.map fun q => keyS q.1).Nodup → (∀ q ∈ ps, keyS q.1 ∉ acc) →
    ∃ ws, wP (wrt w n) w ps p acc = .ok ws ∧ ∀ q acc', (∀ z ∈ ps, (.inr (keyS z.1) : Key) ∉ pK acc') → bldT r (ws.map (·.1)) (ws.map (·.2)) q acc' = .ok (acc' ++ ps.map fun z => (.inr (keyS z.1), z.2))
  | [], p, acc, _, _, _ => ⟨[], rfl, fun q acc' _ => by rw [List.map_nil, List.map_nil, List.map_nil, List.append_nil]; rw [bldT] <;> (intros; simp_all)⟩
  | z :: ps, p, acc, h, nd, na => by
    rw [List.map_cons, List.nodup_cons] at nd
    obtain ⟨a1, a2⟩ := h z (List.mem_cons_self ..)
    obtain ⟨x, e1, e2⟩ := a1 n (p ++ [z.1]) a2
    obtain ⟨ws, g1, g2⟩ := again_ent ps p (acc ++ [keyS z.1]) (fun u hu => h u (List.mem_cons_of_mem _ hu)) nd.2 (fun q hq m => by
      rcases List.mem_append.mp m with m | m
      · exact na q (List.mem_cons_of_mem _ hq) m
      · exact nd.1 (List.mem_singleton.mp m ▸ List.mem_map.mpr ⟨q, hq, rfl⟩))
    refine ⟨(keyS z.1, x) :: ws, ?_, fun q acc' hn => ?_⟩
    · rw [wP, if_neg (fun c => na z (List.mem_cons_self ..) c.1), e1]; dsimp only; rw [g1]
    · have n0 : hasK (.inr (keyS z.1)) (pK acc') = false := by
        rw [← Bool.not_eq_true, hasK_iff]
        exact hn z (List.mem_cons_self ..)
      rw [List.map_cons, List.map_cons, bldT, if_neg (fun c => by rw [n0] at c; cases c.1), e2]
      dsimp only
      rw [if_pos (.inl n0), putP_new (hn z (List.mem_cons_self ..)), g2]
      · rw [List.map_cons, List.append_assoc]; rfl
      · intro y hy m
        have : pK (acc' ++ [((.inr (keyS z.1) : Key), z.2)]) = pK acc' ++ [.inr (keyS z.1)] := by unfold pK; rw [List.map_append]; rfl
        rw [this] at m
        rcases List.mem_append.mp m with m | m
        · exact hn y (List.mem_cons_of_mem _ hy) m
        · have := Sum.inr.inj (List.mem_singleton.mp m)
          exact nd.1 (this ▸ List.mem_map.mpr ⟨y, hy, rfl⟩)
theorem wK_keeps {o : Wo} : ∀ ps : List (Key × Val), (∀ q ∈ ps, ¬ (isNonV q.2 = true ∧ o.nulls = "skip") ∧ (isInl q.1 = true → o.keys = "text")) → wK o ps = .ok ps
  | [], _ => rfl
  | q :: ps, h => by
    obtain ⟨h1, h2⟩ := h q (List.mem_cons_self ..)
    rw [wK, if_neg h1, wK_keeps ps fun z hz => h z (List.mem_cons_of_mem _ hz)]
    by_cases c : isInl q.1 = true
    · rw [if_neg (fun z => by rw [h2 c] at z; simp [ofS_inj] at z)]
      dsimp only
      rw [if_pos (.inr (h2 c))]
    · rw [if_neg (fun z => c z.1)]
      dsimp only
      rw [if_pos (.inl (Bool.eq_false_iff.mpr c))]
theorem bkey_inl {r : Ro} {k : Key} (h : bkey r (keyS k) = k) (c : isInl k = true) : r.dig = "number" := by
  unfold bkey at h
  split at h
  · rename_i z; exact z.1
  · rw [← h] at c; cases c
mutual
theorem clean_again {w : Wo} {r : Ro} (hd : r.dig = "number" → w.keys = "text") (ht : r.lists = "tuple" → w.tups ≠ "refuse") : ∀ v, VOk v → valC w r v → Again w r v
  | .non, _, _ => fun n p h => by cases n with | zero => exact absurd h (Nat.not_lt_zero _) | succ n => exact ⟨.non, rfl, fun q => by rw [bldR]⟩
  | .bl b, _, _ => fun n p h => by cases n with | zero => exact absurd h (Nat.not_lt_zero _) | succ n => exact ⟨.bl b, rfl, fun q => by rw [bldR]⟩
  | .str z, _, _ => fun n p h => by cases n with | zero => exact absurd h (Nat.not_lt_zero _) | succ n => exact ⟨.str z, rfl, fun q => by rw [bldR]⟩
  | .int i, _, c => fun n p h => by
    cases n with
    | zero => exact absurd h (Nat.not_lt_zero _)
    | succ n =>
      refine ⟨.int i, ?_, fun q => by rw [bldR]⟩
      show wI w i p = _
      unfold wI
      rw [if_neg (fun z => z.2 (c z.1))]
  | .lst vs, ov, c => fun n p h => by
    cases n with
    | zero => exact absurd h (Nat.not_lt_zero _)
    | succ n =>
      have h : 1 + vdepthL vs < n + 1 := h
      obtain ⟨xs, e1, e2⟩ := again_row (n := n) vs 0 p (clean_all hd ht vs ov c.2) (by omega)
      refine ⟨.row xs, by show wR (wrt w n) vs p = _; unfold wR; rw [e1], fun q => ?_⟩
      rw [bldR, e2]; dsimp only; rw [if_neg c.1]
  | .tup vs, ov, c => fun n p h => by
    cases n with
    | zero => exact absurd h (Nat.not_lt_zero _)
    | succ n =>
      have h : 1 + vdepthL vs < n + 1 := h
      obtain ⟨xs, e1, e2⟩ := again_row (n := n) vs 0 p (clean_all hd ht vs ov c.2) (by omega)
      refine ⟨.row xs, ?_, fun q => ?_⟩
      · show (if w.tups = "refuse" then (.error ("tuple", p) : Except WErr RawV) else wR (wrt w n) vs p) = _
        rw [if_neg (ht c.1)]; unfold wR; rw [e1]
      · rw [bldR, e2]; dsimp only; rw [if_pos c.1]
  | .tab ks vs, ov, c => fun n p h => by
    cases n with
    | zero => exact absurd h (Nat.not_lt_zero _)
    | succ n =>
      have h : 1 + vdepthL vs < n + 1 := h
      obtain ⟨c1, c2, c3, c4, c5⟩ := c
      have l : ks.length = vs.length := ov.2.1
      have ek : (ks.zip vs).map (·.1) = ks := List.map_fst_zip (by omega)
      have evv : (ks.zip vs).map (·.2) = vs := List.map_snd_zip (by omega)
      have ekk : (ks.zip vs).map (fun q => keyS q.1) = ks.map keyS := by
        conv => rhs; rw [← ek]
        rw [List.map_map]; rfl
      have all := clean_all hd ht vs ov.1 c1
      have mem : ∀ q ∈ ks.zip vs, q.1 ∈ ks ∧ q.2 ∈ vs := fun q hq => List.of_mem_zip (show (q.1, q.2) ∈ _ from hq)
      have k1 : wK w (ks.zip vs) = .ok (ks.zip vs) := wK_keeps _ fun q hq => ⟨fun z => (c2 q.2 (mem q hq).2 z.1).1 z.2, fun z => hd (bkey_inl (c3 q.1 (mem q hq).1) z)⟩
      have k2 : wS w (ks.zip vs) = ks.zip vs := by
        unfold wS
        split
        · rename_i hr
          have := c5 hr
          rw [← ek, List.pairwise_map] at this
          exact isort_id this
        · rfl
      obtain ⟨ws, g1, g2⟩ := again_ent (w := w) (r := r) (n := n) (ks.zip vs) p [] (fun q hq => ⟨all q.2 (mem q hq).2, by have := (wdL_mem (mem q hq).2).1; omega⟩) (by rw [ekk]; exact c4) (fun _ _ h => nomatch h)
      refine ⟨.tab (ws.map (·.1)) (ws.map (·.2)), by rw [wrt_tab]; unfold wT; rw [k1]; dsimp only; rw [k2, g1], fun q => ?_⟩
      rw [bldR, g2 q [] (fun _ _ h => nomatch h)]
      dsimp only
      rw [List.nil_append]
      unfold bfin
      have f1 : ((ks.zip vs).map fun z => ((.inr (keyS z.1) : Key), z.2)).filter (fun q => !isNonV q.2 || decide (r.nulls = "keep")) = (ks.zip vs).map fun z => ((.inr (keyS z.1) : Key), z.2) := by
        refine List.filter_eq_self.mpr fun q hq => ?_
        obtain ⟨z, hz, rfl⟩ := List.mem_map.mp hq
        dsimp only
        cases hn : isNonV z.2 with
        | false => rfl
        | true => rw [decide_eq_true (c2 z.2 (mem z hz).2 hn).2]; rfl
      rw [f1, List.map_map]
      have f2 : (ks.zip vs).map ((fun q : Key × Val => (bkey r (keyS q.1), q.2)) ∘ fun z => ((.inr (keyS z.1) : Key), z.2)) = ks.zip vs := by
        conv => rhs; rw [← List.map_id (ks.zip vs)]
        refine List.map_congr_left fun z hz => ?_
        show (bkey r (keyS z.1), z.2) = z
        rw [c3 z.1 (mem z hz).1]
      rw [f2]
      unfold tabV pK pV
      rw [ek, evv]
theorem clean_all {w : Wo} {r : Ro} (hd : r.dig = "number" → w.keys = "text") (ht : r.lists = "tuple" → w.tups ≠ "refuse") : ∀ vs, VOkL vs → valCL w r vs → ∀ v ∈ vs, Again w r v
  | [], _, _ => fun _ h => nomatch h
  | v :: vs, ov, c => fun u hu => by
    rcases List.mem_cons.mp hu with e | hu
    · rw [e]; exact clean_again hd ht v ov.1 c.1
    · exact clean_all hd ht vs ov.2 c.2 u hu
end
theorem crry_get {w : Wo} {r : Ro} {v u : Val} (h : crry w r v = .ok u) : ∃ x, wrt w 62 v [] = .ok x ∧ bldR r x [] = .ok u := by
  unfold crry at h
  split at h
  · cases h
  · rename_i x e
    split at h
    · cases h
    · rename_i u' e2
      cases h
      exact ⟨x, e, e2⟩
theorem crry_mk {w : Wo} {r : Ro} {v u : Val} {x : RawV} (h : wrt w 62 v [] = .ok x) (g : bldR r x [] = .ok u) : crry w r v = .ok u := by
  unfold crry; rw [h]; dsimp only; rw [g]
theorem crry_clean {w : Wo} {r : Ro} {v u : Val} (dv : vdepth v ≤ 60) (h : crry w r v = .ok u) : valC w r u := by
  obtain ⟨x, e1, e2⟩ := crry_get h
  exact (bld_valC x [] u (wrt_raw 62 v [] x (by omega) e1) e2).1
/-- a settled passage: what comes back comes back as it is -/
theorem settled {w : Wo} {r : Ro} (hd : r.dig = "number" → w.keys = "text") (ht : r.lists = "tuple" → w.tups ≠ "refuse") {v u : Val} (ov : VOk v) (dv : vdepth v ≤ 60) (h : crry w r v = .ok u) : crry w r u = .ok u := by
  obtain ⟨a, b, _⟩ := crry_ok ov dv h
  obtain ⟨x, e1, e2⟩ := clean_again hd ht u a (crry_clean dv h) 62 [] (by omega)
  exact crry_mk e1 (e2 [])
/-! #### which passages are not settled -/
end KQ
namespace KQ
open PySem PySem.Spec PyProof.Rows L2 TL KB
/-! ### sorted(xs) of texts, any number of them -/
section
variable {prog : Program} {w : World} {A : Around} {E : Value → Shared → Prop} {s : Shared}
end
/-! ### k32's test of what came back -/
end KQ
namespace KQ
open PySem PySem.Spec PyProof.Rows L2 TL KB
/-! ### what can come back as one (k85) -/
mutual
def inv : Val → Val
  | .non => .non
  | .bl b => .bl b
  | .int i => .int i
  | .str z => .str z
  | .lst vs => .lst (invL vs)
  | .tup vs => .lst (invL vs)
  | .tab ks vs => .tab (ks.map fun k => .inr (keyS k)) (invL vs)
def invL : List Val → List Val
  | [] => []
  | v :: vs => inv v :: invL vs
end
/-! #### the pairs -/
/-! #### what each pair tells -/
section
variable {w : Wo} {r : Ro} (wo : WoOk w)
end
/-! #### the law's plain side -/
end KQ
namespace KQ
open PySem PySem.Spec PyProof.Rows L2 TL KB
/-! ### == of a tuple whose items are cells (k39) -/
def dw (S : Sto) : Tr → Tr
  | .tup xs => .tup (xs.map (vw S))
  | x => vw S x
def gEqD (n : Bool) (x y z : Tr) : Prop := ∃ d e, toD x = some d ∧ toD y = some e ∧ SeqAt.shaped d = true ∧ SeqAt.shaped e = true ∧ z = .bl (n ^^ PyData.eqv d e)
section
variable {X : Cx} {K : PySem.W.Frag} {W : WX} {L : Lk} {F H I : Hp} {S : Sto}
theorem toDs_vw (hd : Hd K L F H S I) : ∀ {xs : List Tr} {ds : List PyData} {vs : List V}, toDs (xs.map (vw S)) = some ds → RepL K I xs vs → DpAll K H vs ds
  | [], ds, vs, e, r => by cases e; cases r; exact .nil
  | x :: xs, ds, vs, e, r => by
    rw [List.map_cons] at e
    unfold toDs at e
    split at e
    · rename_i d' ds' e1 e2
      cases e
      obtain ⟨v, ws, rfl, r1, r2⟩ := r
      exact .cons (toD_vw hd e1 r1) (toDs_vw hd e2 r2)
    · cases e
theorem toD_dw (hd : Hd K L F H S I) {x : Tr} {d : PyData} {v : V} (e : toD (dw S x) = some d) (r : Rep K I x v) : Dp K H v d := by
  by_cases ht : ∃ xs, x = .tup xs
  · obtain ⟨xs, rfl⟩ := ht
    unfold dw toD at e
    obtain ⟨ds, e1, rfl⟩ := Option.map_eq_some_iff.mp e
    obtain ⟨a, vs, rfl, h1, h2⟩ := vw_tup (x := .tup xs) hd r rfl
    exact .tup h1 (toDs_vw hd e1 h2)
  · have h : dw S x = vw S x := by cases x <;> first | rfl | exact (ht ⟨_, rfl⟩).elim
    rw [h] at e
    exact toD_vw hd e r
def uOpD (g : Tr → Tr → Tr → Prop) (ta tb : UE) : UE := fun ρ S Q X => ta ρ S (fun x S1 => tb ρ S1 (fun y S2 => ∃ z, g (dw S2 x) (dw S2 y) z ∧ Q z S2) X) X
theorem mono_opD {g : Tr → Tr → Tr → Prop} {ta tb : UE} (ha : MonoE ta) (hb : MonoE tb) : MonoE (uOpD g ta tb) := fun ρ S Q Q' X X' hQ hX h =>
  ha _ _ _ _ _ _ (fun x S1 h1 => hb _ _ _ _ _ _ (fun y S2 ⟨z, hg, q⟩ => ⟨z, hg, hQ _ _ q⟩) hX h1) hX h
theorem lOpD {n : Bool} {ta tb : UE} (ma : MonoE ta) (mb : MonoE tb) : ∀ σ H R, lE X.K W (uOpD (gEqD n) ta tb) σ H R → tOp (rEq2 X.K n) (lE X.K W ta) (lE X.K W tb) σ H R := fun σ H R ⟨L, F, S, I, ρ, hd, sl, h⟩ =>
  lE_then ma hd sl h (fun _ _ _ _ h => h) fun x S1 v H1 I1 q1 hd1 s1 sl1 rx => lE_then mb hd1 sl1 q1 (dnX_up s1) fun y S2 w H2 I2 ⟨z, hg, q2⟩ hd2 s2 sl2 ry => by
    obtain ⟨d, e, e1, e2, k1, k2, rfl⟩ := hg
    exact .inr ⟨d, e, toD_dw hd2 e1 (rx.mono s2), toD_dw hd2 e2 ry, k1, k2, q2 _ H2 I2 hd2 (s1.trans s2) rfl⟩
theorem t_cmpD {a b : Expr} {pos : Pos} {ta tb : UE} {op : CmpOp} {n : Bool} (ho : OpR X (compareOp op) (rEq2 X.K n)) (ha : TPE X W a ta) (hb : TPE X W b tb) (hm : behindInMarks op b = false) : TPT X W (.Compare a [op] [b] pos) (uB (uOpD (gEqD n) ta tb)) :=
  ⟨wkT (pt_cmpR ho ha.pe hb.pe hm) fun σ H R ⟨L, F, S, I, ρ, hd, sl, h⟩ => lOpD ha.mono hb.mono σ H _ (by
    obtain ⟨L', F', S', I', ρ', h1, h2, h3⟩ := lB (X := X) (W := W) (mono_opD ha.mono hb.mono) σ H R ⟨L, F, S, I, ρ, hd, sl, h⟩
    exact ⟨L', F', S', I', ρ', h1, h2, h3⟩), mono_b (mono_opD ha.mono hb.mono)⟩
end
end KQ
namespace KQ
open PySem PySem.Spec PyProof.Rows L2 TL KB
section
variable {fb : PySem.W.Frag → List Bool} {fn : List He5.DefA} {K : PySem.W.Frag}
theorem SaysB.fact (c : SaysB fb fn K) (i : Nat) {b : Bool} (h : (fb K)[i]? = some b) : b = true := by
  have c1 := (He.ba (show ((fb K).all id && fn.all fun d => d.ok K) = true from congrArg (fun z : AlB => z.1) c)).1
  exact List.all_eq_true.mp c1 b (List.mem_of_getElem? h)
theorem SaysB.at (c : SaysB fb fn K) (i : Nat) {p : Prop} [d : Decidable p] (h : (fb K)[i]? = some (decide p)) : p := of_decide_eq_true (c.fact i h)
theorem SaysB.def_ (c : SaysB fb fn K) (i : Nat) {d : He5.DefA} (h : fn[i]? = some d) : ∃ fd, FunD K d.name d.qual d.params d.body d.scope (d.dvs K) (d.kws K) (d.at_ K) fd := by
  have c2 := (He.ba (show ((fb K).all id && fn.all fun d => d.ok K) = true from congrArg (fun z : AlB => z.1) c)).2
  have e : fn.map (fun d => He5.fnA K (d.at_ K)) = fn.map He5.DefA.val := congrArg (fun z : AlB => z.2) c
  have e2 : (fn.map fun d => He5.fnA K (d.at_ K))[i]? = (fn.map He5.DefA.val)[i]? := by rw [e]
  rw [List.getElem?_map, List.getElem?_map, h] at e2
  exact He5.DefA.funD (Option.some.inj e2) (List.all_eq_true.mp c2 d (List.mem_of_getElem? h))
end
theorem oexB_ok {K : PySem.W.Frag} {C : Addr} (q : oexB K C = true) : ∃ nm q N bs bm sn sub ab col dd k0 k1 k2 k3 k5, K.lookup C = some (excClassObj nm q C N bs bm true sn sub ab col dd k0 k1 k2 k3 k5 "ValueError.__new__") ∧ PySem.HandSPX.refsVE bm = true := by
  unfold oexB at q
  split at q
  · rename_i dd cd sl ho
    split at q
    · rename_i C' bm k0 k1 k2 k3 n k5 hm hs
      simp only [Bool.and_eq_true, beq_iff_eq, Bool.not_eq_true'] at q
      obtain ⟨⟨⟨⟨rfl, rfl⟩, hdel⟩, hdc⟩, ht⟩ := q
      obtain ⟨nm, bs, mro, ns, qn, hd, sn, sub, ab, col, del⟩ := cd
      dsimp only at hm hdel hdc
      subst hm hdel hdc
      have hsl : sl = #[k0, k1, k2, k3, some (.builtin "ValueError.__new__"), k5] := by
        obtain ⟨l⟩ := sl
        simp only at hs
        rw [hs]
      subst hsl
      exact ⟨nm, qn, ns, bs, bm, sn, sub, ab, col, dd, k0, k1, k2, k3, k5, ho, ht⟩
    · cases q
  · cases q
theorem fun_of {K : PySem.W.Frag} {x q : Str} {st : Stmt} {f : Addr} {fd : FuncData} (F : FunD K x q (defArgs st) (defBody st) (defScope st) [] [] f fd) : Fun K x q st f fd := by
  obtain ⟨⟨oc, od, dV, kV, doc, pm, an, cdv, ct, osl, e, lk, hc, hd, hk⟩, kp⟩ := F
  rcases hd with ⟨_, rfl⟩ | ⟨h, _⟩
  · exact ⟨⟨oc, od, kV, doc, pm, an, cdv, ct, osl, e, lk, hc⟩, kp⟩
  · exact absurd rfl h
/-! constants of the module -/
mutual
def Cs.tr : Cs → Tr
  | .non => .non
  | .bl b => .bl b
  | .int n => .int n
  | .str z => .str z
  | .tup xs => .tup (Cs.trs xs)
def Cs.trs : List Cs → List Tr
  | [] => []
  | x :: xs => x.tr :: Cs.trs xs
end
mutual
theorem csB_ok {K : PySem.W.Frag} : ∀ (t : Cs) (u : Value), csB K t u = true → ∃ v, RelV v u ∧ ∀ I, Rep K I t.tr v
  | .non, u, h => by
    cases u with
    | none => exact ⟨.non, rfl, fun _ => rfl⟩
    | _ => cases h
  | .bl b, u, h => by
    cases u with
    | bool c => exact ⟨.bl b, by rw [eq_of_beq (show (b == c) = true from h)]; rfl, fun _ => rfl⟩
    | _ => cases h
  | .int n, u, h => by
    cases u with
    | int m t => exact ⟨.int n, ⟨t, by rw [of_decide_eq_true (show decide (n = m) = true from h)]⟩, fun _ => rfl⟩
    | _ => cases h
  | .str z, u, h => by
    cases u with
    | str m t => exact ⟨.str z, ⟨t, by rw [of_decide_eq_true (show decide (z = m) = true from h)]⟩, fun _ => rfl⟩
    | _ => cases h
  | .tup xs, u, h => by
    cases u with
    | ref a =>
      have h' : (match K.lookup a with
        | some ⟨.type c, _, .seq its _, _⟩ => decide (c = "tuple") && (decide (its.size ≤ sizeLine) && csL K xs its.toList)
        | _ => false) = true := h
      clear h
      split at h'
      · rename_i c d its n sl q
        obtain ⟨h1, h2⟩ := He.ba h'
        obtain ⟨h3, h4⟩ := He.ba h2
        obtain ⟨vs, r, hr⟩ := csL_ok xs its.toList h4
        have e1 : c = "tuple" := of_decide_eq_true h1
        subst e1
        exact ⟨.ref a, rfl, fun I => tup_rep (us := its.toList) (by rw [q]) r hr (by simpa using of_decide_eq_true h3) I⟩
      · cases h'
    | _ => cases h
theorem csL_ok {K : PySem.W.Frag} : ∀ (xs : List Cs) (us : List Value), csL K xs us = true → ∃ vs, Vals vs us ∧ ∀ I, RepL K I (Cs.trs xs) vs
  | [], us, h => by
    replace h : us.isEmpty = true := h
    rw [List.isEmpty_iff.mp h]
    exact ⟨[], .nil, fun _ => rfl⟩
  | x :: xs, us, h => by
    cases us with
    | nil => cases h
    | cons u us =>
      obtain ⟨h1, h2⟩ := He.ba (show (csB K x u && csL K xs us) = true from h)
      obtain ⟨v, r1, q1⟩ := csB_ok x u h1
      obtain ⟨vs, r2, q2⟩ := csL_ok xs us h2
      exact ⟨v :: vs, .cons r1 r2, fun I => .cons (q1 I) (q2 I)⟩
end
theorem gloB_ok {K : PySem.W.Frag} {h : Heap} {mg : Str → Option Value} {x : Str} {t : Cs} (X : K.In h) (G : h.Ns mainGlobals mg) (c : gloB K x t = true) : ∃ v u, mg x = some u ∧ RelV v u ∧ ∀ I, Rep K I t.tr v := by
  unfold gloB at c
  split at c
  · rename_i u e
    obtain ⟨v, r, q⟩ := csB_ok t u c
    exact ⟨v, u, PySem.W.mg_of X G e, r, q⟩
  · cases c
/-- a law's end over a head by facts, what it may let out by the world -/
theorem walk_ofW {l : PySem.W.OpenLaw} {n k : Nat} {q : Program} {loose : List Str} {XP : (Str → Option Value) → Heap → Prop} {YP : World → Heap → Prop} {d : DefRec} {CX : World → CXT} {x : Str}
    (hn : l.most = some n) (hn2 : n ≤ sizeLine) (hdf : d.params.defaults = []) (hr : Room k callerA)
    (F : ∀ (w : World) (mg : Str → Option Value) (fa : Addr) (h : Heap), YP w h → h.Ns mainGlobals mg → mg d.name = some (.ref fa) →
      ∃ (K : PySem.W.Frag) (fd : FuncData) (sp : Sp), K.In h ∧ (∀ (s : Shared) (u : Value), BindsTo s fd ⟨[u], []⟩ [(x, u)]) ∧
        (∀ (H : Hp) (a : Addr) (ns : List Int), ns.length ≤ n → Only H → SqL K H a (ns.map V.int) → sp [.ref a] H (fun v _ => v = .bl true) fun _ _ _ => False) ∧
        ∀ base : Heap, K.In base → base.Ns mainGlobals mg → FnOk l.prog w K mg base (CX w) k fa fd [x] sp)
    (hCX : ∀ (w : World) (H : Hp) (s : Shared) (e : Value) (s' : Shared), CX w [] H s (fun _ _ _ => False) e s' → False) :
    PySem.W.WalkO q loose XP YP l.row.toRowW d [] (fun f vs => PySem.call f vs) := by
  refine Att.attach_call hn hdf fun w s₀ s₁ mg mb fa o pm cd doc a vs ns G Y ho hd hcd hmg hobj hints hlen hg => ?_
  obtain ⟨K, fd, sp, KX, hb, hsp, hF⟩ := F w mg fa _ Y G.T.g hmg
  exact law_call KX G.T.g G.T.b G.T.builtins G.T.nolimit hg hobj hints (Nat.le_trans hlen hn2) hr hF hb (fun H hO hS => hsp H a ns hlen hO hS) fun H e s' => hCX w H s₁ e s'
end KQ

namespace K39
open PySem PySem.Spec PyProof.Rows L2 KB KQ
structure Adr where
  u : Unit := ()
  Condition : Addr
  Both : Addr
  Either : Addr
  Inverse : Addr
  Kind : Addr
  Equals : Addr
  Size : Addr
  Has : Addr
  Item : Addr
  Before : Addr
  First : Addr
  Every : Addr
  Some : Addr
  KeysError : Addr
  BadCondition : Addr
abbrev caA (A : Adr) : CA := ⟨fun τ => match τ with | .kind => some A.Kind | .equals => some A.Equals | .size => some A.Size | .has => some A.Has | .item => some A.Item | .before => some A.Before | .first => some A.First | .every => some A.Every | .some => some A.Some | .both => some A.Both | .either => some A.Either | .inv => some A.Inverse, 0⟩
theorem ofc_kind (A : Adr) : (caA A).of .kind = A.Kind := rfl
theorem ofc_equals (A : Adr) : (caA A).of .equals = A.Equals := rfl
theorem ofc_size (A : Adr) : (caA A).of .size = A.Size := rfl
theorem ofc_has (A : Adr) : (caA A).of .has = A.Has := rfl
theorem ofc_item (A : Adr) : (caA A).of .item = A.Item := rfl
theorem ofc_before (A : Adr) : (caA A).of .before = A.Before := rfl
theorem ofc_first (A : Adr) : (caA A).of .first = A.First := rfl
theorem ofc_every (A : Adr) : (caA A).of .every = A.Every := rfl
theorem ofc_some (A : Adr) : (caA A).of .some = A.Some := rfl
theorem ofc_both (A : Adr) : (caA A).of .both = A.Both := rfl
theorem ofc_either (A : Adr) : (caA A).of .either = A.Either := rfl
theorem ofc_inv (A : Adr) : (caA A).of .inv = A.Inverse := rfl
structure Top (K : PySem.W.Frag) (mg : Str → Option Value) (A : Adr) : Prop where
  b : Bi mg
  d__law_draw : Def K mg "_law_draw" s__law_draw
  d__law_some : Def K mg "_law_some" s__law_some
  d__law_ask : Def K mg "_law_ask" s__law_ask
  d__law_draws : Def K mg "_law_draws" s__law_draws
  d__law_integer : Def K mg "_law_integer" s__law_integer
  d__law_joined : Def K mg "_law_joined" s__law_joined
  d__law_text : Def K mg "_law_text" s__law_text
  d__law_keys : Def K mg "_law_keys" s__law_keys
  m_Before___init__ : DefM K A.Before "__init__" "Before.__init__" s_Before___init__ []
  m_Equals___init__ : DefM K A.Equals "__init__" "Equals.__init__" s_Equals___init__ []
  m_Every___init__ : DefM K A.Every "__init__" "Every.__init__" s_Every___init__ []
  m_First___init__ : DefM K A.First "__init__" "First.__init__" s_First___init__ []
  m_Has___init__ : DefM K A.Has "__init__" "Has.__init__" s_Has___init__ []
  m_Item___init__ : DefM K A.Item "__init__" "Item.__init__" s_Item___init__ []
  m_BadCondition___init__ : DefM K A.BadCondition "__init__" "BadCondition.__init__" s_BadCondition___init__ []
  m_Kind___init__ : DefM K A.Kind "__init__" "Kind.__init__" s_Kind___init__ []
  m_Size___init__ : DefM K A.Size "__init__" "Size.__init__" s_Size___init__ []
  m_Some___init__ : DefM K A.Some "__init__" "Some.__init__" s_Some___init__ []
  m_Both___init__ : DefM K A.Both "__init__" "Both.__init__" s_Both___init__ []
  m_Inverse___init__ : DefM K A.Inverse "__init__" "Inverse.__init__" s_Inverse___init__ []
  m_Either___init__ : DefM K A.Either "__init__" "Either.__init__" s_Either___init__ []
  d__law_made : Def K mg "_law_made" s__law_made
  d__law_leaves : Def K mg "_law_leaves" s__law_leaves
  d__law_mentions : Def K mg "_law_mentions" s__law_mentions
  d_without_repeats : Def K mg "without_repeats" s_without_repeats
  d_law : Def K mg "law" s_law
  m_Kind___and__ : DefM K A.Kind "__and__" "Condition.__and__" s_Condition___and__ []
  m_Equals___and__ : DefM K A.Equals "__and__" "Condition.__and__" s_Condition___and__ []
  m_Size___and__ : DefM K A.Size "__and__" "Condition.__and__" s_Condition___and__ []
  m_Has___and__ : DefM K A.Has "__and__" "Condition.__and__" s_Condition___and__ []
  m_Item___and__ : DefM K A.Item "__and__" "Condition.__and__" s_Condition___and__ []
  m_Before___and__ : DefM K A.Before "__and__" "Condition.__and__" s_Condition___and__ []
  m_First___and__ : DefM K A.First "__and__" "Condition.__and__" s_Condition___and__ []
  m_Every___and__ : DefM K A.Every "__and__" "Condition.__and__" s_Condition___and__ []
  m_Some___and__ : DefM K A.Some "__and__" "Condition.__and__" s_Condition___and__ []
  m_Both___and__ : DefM K A.Both "__and__" "Condition.__and__" s_Condition___and__ []
  m_Either___and__ : DefM K A.Either "__and__" "Condition.__and__" s_Condition___and__ []
  m_Inverse___and__ : DefM K A.Inverse "__and__" "Condition.__and__" s_Condition___and__ []
  m_Kind___invert__ : DefM K A.Kind "__invert__" "Condition.__invert__" s_Condition___invert__ []
  m_Equals___invert__ : DefM K A.Equals "__invert__" "Condition.__invert__" s_Condition___invert__ []
  m_Size___invert__ : DefM K A.Size "__invert__" "Condition.__invert__" s_Condition___invert__ []
  m_Has___invert__ : DefM K A.Has "__invert__" "Condition.__invert__" s_Condition___invert__ []
  m_Item___invert__ : DefM K A.Item "__invert__" "Condition.__invert__" s_Condition___invert__ []
  m_Before___invert__ : DefM K A.Before "__invert__" "Condition.__invert__" s_Condition___invert__ []
  m_First___invert__ : DefM K A.First "__invert__" "Condition.__invert__" s_Condition___invert__ []
  m_Every___invert__ : DefM K A.Every "__invert__" "Condition.__invert__" s_Condition___invert__ []
  m_Some___invert__ : DefM K A.Some "__invert__" "Condition.__invert__" s_Condition___invert__ []
  m_Both___invert__ : DefM K A.Both "__invert__" "Condition.__invert__" s_Condition___invert__ []
  m_Either___invert__ : DefM K A.Either "__invert__" "Condition.__invert__" s_Condition___invert__ []
  m_Inverse___invert__ : DefM K A.Inverse "__invert__" "Condition.__invert__" s_Condition___invert__ []
  m_Kind___or__ : DefM K A.Kind "__or__" "Condition.__or__" s_Condition___or__ []
  m_Equals___or__ : DefM K A.Equals "__or__" "Condition.__or__" s_Condition___or__ []
  m_Size___or__ : DefM K A.Size "__or__" "Condition.__or__" s_Condition___or__ []
  m_Has___or__ : DefM K A.Has "__or__" "Condition.__or__" s_Condition___or__ []
  m_Item___or__ : DefM K A.Item "__or__" "Condition.__or__" s_Condition___or__ []
  m_Before___or__ : DefM K A.Before "__or__" "Condition.__or__" s_Condition___or__ []
  m_First___or__ : DefM K A.First "__or__" "Condition.__or__" s_Condition___or__ []
  m_Every___or__ : DefM K A.Every "__or__" "Condition.__or__" s_Condition___or__ []
  m_Some___or__ : DefM K A.Some "__or__" "Condition.__or__" s_Condition___or__ []
  m_Both___or__ : DefM K A.Both "__or__" "Condition.__or__" s_Condition___or__ []
  m_Either___or__ : DefM K A.Either "__or__" "Condition.__or__" s_Condition___or__ []
  m_Inverse___or__ : DefM K A.Inverse "__or__" "Condition.__or__" s_Condition___or__ []
  m_Kind_leaves : DefM K A.Kind "leaves" "Condition.leaves" s_Condition_leaves []
  m_Equals_leaves : DefM K A.Equals "leaves" "Condition.leaves" s_Condition_leaves []
  m_Size_leaves : DefM K A.Size "leaves" "Condition.leaves" s_Condition_leaves []
  m_Has_leaves : DefM K A.Has "leaves" "Condition.leaves" s_Condition_leaves []
  m_Item_leaves : DefM K A.Item "leaves" "Condition.leaves" s_Condition_leaves []
  m_Before_leaves : DefM K A.Before "leaves" "Condition.leaves" s_Condition_leaves []
  m_First_leaves : DefM K A.First "leaves" "Condition.leaves" s_Condition_leaves []
  m_Every_leaves : DefM K A.Every "leaves" "Condition.leaves" s_Condition_leaves []
  m_Some_leaves : DefM K A.Some "leaves" "Condition.leaves" s_Condition_leaves []
  m_Both_leaves : DefM K A.Both "leaves" "Both.leaves" s_Both_leaves []
  m_Either_leaves : DefM K A.Either "leaves" "Either.leaves" s_Either_leaves []
  m_Inverse_leaves : DefM K A.Inverse "leaves" "Inverse.leaves" s_Inverse_leaves []
  m_Kind_own_keys : DefM K A.Kind "own_keys" "Condition.own_keys" s_Condition_own_keys []
  m_Equals_own_keys : DefM K A.Equals "own_keys" "Condition.own_keys" s_Condition_own_keys []
  m_Size_own_keys : DefM K A.Size "own_keys" "Condition.own_keys" s_Condition_own_keys []
  m_Has_own_keys : DefM K A.Has "own_keys" "Has.own_keys" s_Has_own_keys []
  m_Item_own_keys : DefM K A.Item "own_keys" "Item.own_keys" s_Item_own_keys []
  m_Before_own_keys : DefM K A.Before "own_keys" "Before.own_keys" s_Before_own_keys []
  m_First_own_keys : DefM K A.First "own_keys" "Condition.own_keys" s_Condition_own_keys []
  m_Every_own_keys : DefM K A.Every "own_keys" "Condition.own_keys" s_Condition_own_keys []
  m_Some_own_keys : DefM K A.Some "own_keys" "Condition.own_keys" s_Condition_own_keys []
  m_Both_own_keys : DefM K A.Both "own_keys" "Condition.own_keys" s_Condition_own_keys []
  m_Either_own_keys : DefM K A.Either "own_keys" "Condition.own_keys" s_Condition_own_keys []
  m_Inverse_own_keys : DefM K A.Inverse "own_keys" "Condition.own_keys" s_Condition_own_keys []
  m_Kind_key_list : DefM K A.Kind "key_list" "Condition.key_list" s_Condition_key_list []
  m_Equals_key_list : DefM K A.Equals "key_list" "Condition.key_list" s_Condition_key_list []
  m_Size_key_list : DefM K A.Size "key_list" "Condition.key_list" s_Condition_key_list []
  m_Has_key_list : DefM K A.Has "key_list" "Condition.key_list" s_Condition_key_list []
  m_Item_key_list : DefM K A.Item "key_list" "Condition.key_list" s_Condition_key_list []
  m_Before_key_list : DefM K A.Before "key_list" "Condition.key_list" s_Condition_key_list []
  m_First_key_list : DefM K A.First "key_list" "Condition.key_list" s_Condition_key_list []
  m_Every_key_list : DefM K A.Every "key_list" "Condition.key_list" s_Condition_key_list []
  m_Some_key_list : DefM K A.Some "key_list" "Condition.key_list" s_Condition_key_list []
  m_Both_key_list : DefM K A.Both "key_list" "Condition.key_list" s_Condition_key_list []
  m_Either_key_list : DefM K A.Either "key_list" "Condition.key_list" s_Condition_key_list []
  m_Inverse_key_list : DefM K A.Inverse "key_list" "Condition.key_list" s_Condition_key_list []
  m_Kind_own_labels : DefM K A.Kind "own_labels" "Condition.own_labels" s_Condition_own_labels []
  m_Equals_own_labels : DefM K A.Equals "own_labels" "Condition.own_labels" s_Condition_own_labels []
  m_Size_own_labels : DefM K A.Size "own_labels" "Condition.own_labels" s_Condition_own_labels []
  m_Has_own_labels : DefM K A.Has "own_labels" "Condition.own_labels" s_Condition_own_labels []
  m_Item_own_labels : DefM K A.Item "own_labels" "Item.own_labels" s_Item_own_labels []
  m_Before_own_labels : DefM K A.Before "own_labels" "Condition.own_labels" s_Condition_own_labels []
  m_First_own_labels : DefM K A.First "own_labels" "First.own_labels" s_First_own_labels []
  m_Every_own_labels : DefM K A.Every "own_labels" "Every.own_labels" s_Every_own_labels []
  m_Some_own_labels : DefM K A.Some "own_labels" "Some.own_labels" s_Some_own_labels []
  m_Both_own_labels : DefM K A.Both "own_labels" "Condition.own_labels" s_Condition_own_labels []
  m_Either_own_labels : DefM K A.Either "own_labels" "Condition.own_labels" s_Condition_own_labels []
  m_Inverse_own_labels : DefM K A.Inverse "own_labels" "Condition.own_labels" s_Condition_own_labels []
  m_Kind_label_list : DefM K A.Kind "label_list" "Condition.label_list" s_Condition_label_list []
  m_Equals_label_list : DefM K A.Equals "label_list" "Condition.label_list" s_Condition_label_list []
  m_Size_label_list : DefM K A.Size "label_list" "Condition.label_list" s_Condition_label_list []
  m_Has_label_list : DefM K A.Has "label_list" "Condition.label_list" s_Condition_label_list []
  m_Item_label_list : DefM K A.Item "label_list" "Condition.label_list" s_Condition_label_list []
  m_Before_label_list : DefM K A.Before "label_list" "Condition.label_list" s_Condition_label_list []
  m_First_label_list : DefM K A.First "label_list" "Condition.label_list" s_Condition_label_list []
  m_Every_label_list : DefM K A.Every "label_list" "Condition.label_list" s_Condition_label_list []
  m_Some_label_list : DefM K A.Some "label_list" "Condition.label_list" s_Condition_label_list []
  m_Both_label_list : DefM K A.Both "label_list" "Condition.label_list" s_Condition_label_list []
  m_Either_label_list : DefM K A.Either "label_list" "Condition.label_list" s_Condition_label_list []
  m_Inverse_label_list : DefM K A.Inverse "label_list" "Condition.label_list" s_Condition_label_list []
  c_Condition : ClsTop K mg "Condition" A.Condition
  c_Both : ClsTop K mg "Both" A.Both
  c_Either : ClsTop K mg "Either" A.Either
  c_Inverse : ClsTop K mg "Inverse" A.Inverse
  c_Kind : ClsTop K mg "Kind" A.Kind
  c_Equals : ClsTop K mg "Equals" A.Equals
  c_Size : ClsTop K mg "Size" A.Size
  c_Has : ClsTop K mg "Has" A.Has
  c_Item : ClsTop K mg "Item" A.Item
  c_Before : ClsTop K mg "Before" A.Before
  c_First : ClsTop K mg "First" A.First
  c_Every : ClsTop K mg "Every" A.Every
  c_Some : ClsTop K mg "Some" A.Some
  c_KeysError : XTop mg "KeysError" A.KeysError
  c_BadCondition : XTop mg "BadCondition" A.BadCondition
  ox_BadCondition : OexC K A.BadCondition
  k_NoneType_Condition : PySem.W.kitOne K (.type "NoneType") (.ref A.Condition) = some false
  k_bool_Condition : PySem.W.kitOne K (.type "bool") (.ref A.Condition) = some false
  k_Condition_bool : PySem.W.kitOne K (.ref A.Condition) (.type "bool") = some false
  k_int_Condition : PySem.W.kitOne K (.type "int") (.ref A.Condition) = some false
  k_Condition_int : PySem.W.kitOne K (.ref A.Condition) (.type "int") = some false
  k_str_Condition : PySem.W.kitOne K (.type "str") (.ref A.Condition) = some false
  k_Condition_str : PySem.W.kitOne K (.ref A.Condition) (.type "str") = some false
  k_list_Condition : PySem.W.kitOne K (.type "list") (.ref A.Condition) = some false
  k_Condition_list : PySem.W.kitOne K (.ref A.Condition) (.type "list") = some false
  k_tuple_Condition : PySem.W.kitOne K (.type "tuple") (.ref A.Condition) = some false
  k_Condition_tuple : PySem.W.kitOne K (.ref A.Condition) (.type "tuple") = some false
  k_dict_Condition : PySem.W.kitOne K (.type "dict") (.ref A.Condition) = some false
  k_Condition_Condition : PySem.W.kitOne K (.ref A.Condition) (.ref A.Condition) = some true
  f_Both_left : ClsF K A.Both "left"
  f_Both_right : ClsF K A.Both "right"
  sf_Both : PySem.W.selfFirst K A.Both = true
  k_Both_Condition : PySem.W.kitOne K (.ref A.Both) (.ref A.Condition) = some true
  rn_BitAnd_Both : PySem.W.findIn K (.ref A.Both) "__rand__" = some none
  rn_BitOr_Both : PySem.W.findIn K (.ref A.Both) "__ror__" = some none
  su_Both_Kind : PySem.W.subIn K (.ref A.Both) (.ref A.Kind) = some false
  su_Both_Equals : PySem.W.subIn K (.ref A.Both) (.ref A.Equals) = some false
  su_Both_Size : PySem.W.subIn K (.ref A.Both) (.ref A.Size) = some false
  su_Both_Has : PySem.W.subIn K (.ref A.Both) (.ref A.Has) = some false
  su_Both_Item : PySem.W.subIn K (.ref A.Both) (.ref A.Item) = some false
  su_Both_Before : PySem.W.subIn K (.ref A.Both) (.ref A.Before) = some false
  su_Both_First : PySem.W.subIn K (.ref A.Both) (.ref A.First) = some false
  su_Both_Every : PySem.W.subIn K (.ref A.Both) (.ref A.Every) = some false
  su_Both_Some : PySem.W.subIn K (.ref A.Both) (.ref A.Some) = some false
  su_Both_Either : PySem.W.subIn K (.ref A.Both) (.ref A.Either) = some false
  su_Both_Inverse : PySem.W.subIn K (.ref A.Both) (.ref A.Inverse) = some false
  f_Either_left : ClsF K A.Either "left"
  f_Either_right : ClsF K A.Either "right"
  sf_Either : PySem.W.selfFirst K A.Either = true
  k_Either_Condition : PySem.W.kitOne K (.ref A.Either) (.ref A.Condition) = some true
  rn_BitAnd_Either : PySem.W.findIn K (.ref A.Either) "__rand__" = some none
  rn_BitOr_Either : PySem.W.findIn K (.ref A.Either) "__ror__" = some none
  su_Either_Kind : PySem.W.subIn K (.ref A.Either) (.ref A.Kind) = some false
  su_Either_Equals : PySem.W.subIn K (.ref A.Either) (.ref A.Equals) = some false
  su_Either_Size : PySem.W.subIn K (.ref A.Either) (.ref A.Size) = some false
  su_Either_Has : PySem.W.subIn K (.ref A.Either) (.ref A.Has) = some false
  su_Either_Item : PySem.W.subIn K (.ref A.Either) (.ref A.Item) = some false
  su_Either_Before : PySem.W.subIn K (.ref A.Either) (.ref A.Before) = some false
  su_Either_First : PySem.W.subIn K (.ref A.Either) (.ref A.First) = some false
  su_Either_Every : PySem.W.subIn K (.ref A.Either) (.ref A.Every) = some false
  su_Either_Some : PySem.W.subIn K (.ref A.Either) (.ref A.Some) = some false
  su_Either_Both : PySem.W.subIn K (.ref A.Either) (.ref A.Both) = some false
  su_Either_Inverse : PySem.W.subIn K (.ref A.Either) (.ref A.Inverse) = some false
  f_Inverse_inner : ClsF K A.Inverse "inner"
  sf_Inverse : PySem.W.selfFirst K A.Inverse = true
  k_Inverse_Condition : PySem.W.kitOne K (.ref A.Inverse) (.ref A.Condition) = some true
  rn_BitAnd_Inverse : PySem.W.findIn K (.ref A.Inverse) "__rand__" = some none
  rn_BitOr_Inverse : PySem.W.findIn K (.ref A.Inverse) "__ror__" = some none
  su_Inverse_Kind : PySem.W.subIn K (.ref A.Inverse) (.ref A.Kind) = some false
  su_Inverse_Equals : PySem.W.subIn K (.ref A.Inverse) (.ref A.Equals) = some false
  su_Inverse_Size : PySem.W.subIn K (.ref A.Inverse) (.ref A.Size) = some false
  su_Inverse_Has : PySem.W.subIn K (.ref A.Inverse) (.ref A.Has) = some false
  su_Inverse_Item : PySem.W.subIn K (.ref A.Inverse) (.ref A.Item) = some false
  su_Inverse_Before : PySem.W.subIn K (.ref A.Inverse) (.ref A.Before) = some false
  su_Inverse_First : PySem.W.subIn K (.ref A.Inverse) (.ref A.First) = some false
  su_Inverse_Every : PySem.W.subIn K (.ref A.Inverse) (.ref A.Every) = some false
  su_Inverse_Some : PySem.W.subIn K (.ref A.Inverse) (.ref A.Some) = some false
  su_Inverse_Both : PySem.W.subIn K (.ref A.Inverse) (.ref A.Both) = some false
  su_Inverse_Either : PySem.W.subIn K (.ref A.Inverse) (.ref A.Either) = some false
  f_Kind_name : ClsF K A.Kind "name"
  sf_Kind : PySem.W.selfFirst K A.Kind = true
  k_Kind_Condition : PySem.W.kitOne K (.ref A.Kind) (.ref A.Condition) = some true
  rn_BitAnd_Kind : PySem.W.findIn K (.ref A.Kind) "__rand__" = some none
  rn_BitOr_Kind : PySem.W.findIn K (.ref A.Kind) "__ror__" = some none
  su_Kind_Equals : PySem.W.subIn K (.ref A.Kind) (.ref A.Equals) = some false
  su_Kind_Size : PySem.W.subIn K (.ref A.Kind) (.ref A.Size) = some false
  su_Kind_Has : PySem.W.subIn K (.ref A.Kind) (.ref A.Has) = some false
  su_Kind_Item : PySem.W.subIn K (.ref A.Kind) (.ref A.Item) = some false
  su_Kind_Before : PySem.W.subIn K (.ref A.Kind) (.ref A.Before) = some false
  su_Kind_First : PySem.W.subIn K (.ref A.Kind) (.ref A.First) = some false
  su_Kind_Every : PySem.W.subIn K (.ref A.Kind) (.ref A.Every) = some false
  su_Kind_Some : PySem.W.subIn K (.ref A.Kind) (.ref A.Some) = some false
  su_Kind_Both : PySem.W.subIn K (.ref A.Kind) (.ref A.Both) = some false
  su_Kind_Either : PySem.W.subIn K (.ref A.Kind) (.ref A.Either) = some false
  su_Kind_Inverse : PySem.W.subIn K (.ref A.Kind) (.ref A.Inverse) = some false
  f_Equals_atom : ClsF K A.Equals "atom"
  sf_Equals : PySem.W.selfFirst K A.Equals = true
  k_Equals_Condition : PySem.W.kitOne K (.ref A.Equals) (.ref A.Condition) = some true
  rn_BitAnd_Equals : PySem.W.findIn K (.ref A.Equals) "__rand__" = some none
  rn_BitOr_Equals : PySem.W.findIn K (.ref A.Equals) "__ror__" = some none
  su_Equals_Kind : PySem.W.subIn K (.ref A.Equals) (.ref A.Kind) = some false
  su_Equals_Size : PySem.W.subIn K (.ref A.Equals) (.ref A.Size) = some false
  su_Equals_Has : PySem.W.subIn K (.ref A.Equals) (.ref A.Has) = some false
  su_Equals_Item : PySem.W.subIn K (.ref A.Equals) (.ref A.Item) = some false
  su_Equals_Before : PySem.W.subIn K (.ref A.Equals) (.ref A.Before) = some false
  su_Equals_First : PySem.W.subIn K (.ref A.Equals) (.ref A.First) = some false
  su_Equals_Every : PySem.W.subIn K (.ref A.Equals) (.ref A.Every) = some false
  su_Equals_Some : PySem.W.subIn K (.ref A.Equals) (.ref A.Some) = some false
  su_Equals_Both : PySem.W.subIn K (.ref A.Equals) (.ref A.Both) = some false
  su_Equals_Either : PySem.W.subIn K (.ref A.Equals) (.ref A.Either) = some false
  su_Equals_Inverse : PySem.W.subIn K (.ref A.Equals) (.ref A.Inverse) = some false
  f_Size_count : ClsF K A.Size "count"
  sf_Size : PySem.W.selfFirst K A.Size = true
  k_Size_Condition : PySem.W.kitOne K (.ref A.Size) (.ref A.Condition) = some true
  rn_BitAnd_Size : PySem.W.findIn K (.ref A.Size) "__rand__" = some none
  rn_BitOr_Size : PySem.W.findIn K (.ref A.Size) "__ror__" = some none
  su_Size_Kind : PySem.W.subIn K (.ref A.Size) (.ref A.Kind) = some false
  su_Size_Equals : PySem.W.subIn K (.ref A.Size) (.ref A.Equals) = some false
  su_Size_Has : PySem.W.subIn K (.ref A.Size) (.ref A.Has) = some false
  su_Size_Item : PySem.W.subIn K (.ref A.Size) (.ref A.Item) = some false
  su_Size_Before : PySem.W.subIn K (.ref A.Size) (.ref A.Before) = some false
  su_Size_First : PySem.W.subIn K (.ref A.Size) (.ref A.First) = some false
  su_Size_Every : PySem.W.subIn K (.ref A.Size) (.ref A.Every) = some false
  su_Size_Some : PySem.W.subIn K (.ref A.Size) (.ref A.Some) = some false
  su_Size_Both : PySem.W.subIn K (.ref A.Size) (.ref A.Both) = some false
  su_Size_Either : PySem.W.subIn K (.ref A.Size) (.ref A.Either) = some false
  su_Size_Inverse : PySem.W.subIn K (.ref A.Size) (.ref A.Inverse) = some false
  f_Has_key : ClsF K A.Has "key"
  sf_Has : PySem.W.selfFirst K A.Has = true
  k_Has_Condition : PySem.W.kitOne K (.ref A.Has) (.ref A.Condition) = some true
  rn_BitAnd_Has : PySem.W.findIn K (.ref A.Has) "__rand__" = some none
  rn_BitOr_Has : PySem.W.findIn K (.ref A.Has) "__ror__" = some none
  su_Has_Kind : PySem.W.subIn K (.ref A.Has) (.ref A.Kind) = some false
  su_Has_Equals : PySem.W.subIn K (.ref A.Has) (.ref A.Equals) = some false
  su_Has_Size : PySem.W.subIn K (.ref A.Has) (.ref A.Size) = some false
  su_Has_Item : PySem.W.subIn K (.ref A.Has) (.ref A.Item) = some false
  su_Has_Before : PySem.W.subIn K (.ref A.Has) (.ref A.Before) = some false
  su_Has_First : PySem.W.subIn K (.ref A.Has) (.ref A.First) = some false
  su_Has_Every : PySem.W.subIn K (.ref A.Has) (.ref A.Every) = some false
  su_Has_Some : PySem.W.subIn K (.ref A.Has) (.ref A.Some) = some false
  su_Has_Both : PySem.W.subIn K (.ref A.Has) (.ref A.Both) = some false
  su_Has_Either : PySem.W.subIn K (.ref A.Has) (.ref A.Either) = some false
  su_Has_Inverse : PySem.W.subIn K (.ref A.Has) (.ref A.Inverse) = some false
  f_Item_key : ClsF K A.Item "key"
  f_Item_label : ClsF K A.Item "label"
  sf_Item : PySem.W.selfFirst K A.Item = true
  k_Item_Condition : PySem.W.kitOne K (.ref A.Item) (.ref A.Condition) = some true
  rn_BitAnd_Item : PySem.W.findIn K (.ref A.Item) "__rand__" = some none
  rn_BitOr_Item : PySem.W.findIn K (.ref A.Item) "__ror__" = some none
  su_Item_Kind : PySem.W.subIn K (.ref A.Item) (.ref A.Kind) = some false
  su_Item_Equals : PySem.W.subIn K (.ref A.Item) (.ref A.Equals) = some false
  su_Item_Size : PySem.W.subIn K (.ref A.Item) (.ref A.Size) = some false
  su_Item_Has : PySem.W.subIn K (.ref A.Item) (.ref A.Has) = some false
  su_Item_Before : PySem.W.subIn K (.ref A.Item) (.ref A.Before) = some false
  su_Item_First : PySem.W.subIn K (.ref A.Item) (.ref A.First) = some false
  su_Item_Every : PySem.W.subIn K (.ref A.Item) (.ref A.Every) = some false
  su_Item_Some : PySem.W.subIn K (.ref A.Item) (.ref A.Some) = some false
  su_Item_Both : PySem.W.subIn K (.ref A.Item) (.ref A.Both) = some false
  su_Item_Either : PySem.W.subIn K (.ref A.Item) (.ref A.Either) = some false
  su_Item_Inverse : PySem.W.subIn K (.ref A.Item) (.ref A.Inverse) = some false
  f_Before_first : ClsF K A.Before "first"
  f_Before_second : ClsF K A.Before "second"
  sf_Before : PySem.W.selfFirst K A.Before = true
  k_Before_Condition : PySem.W.kitOne K (.ref A.Before) (.ref A.Condition) = some true
  rn_BitAnd_Before : PySem.W.findIn K (.ref A.Before) "__rand__" = some none
  rn_BitOr_Before : PySem.W.findIn K (.ref A.Before) "__ror__" = some none
  su_Before_Kind : PySem.W.subIn K (.ref A.Before) (.ref A.Kind) = some false
  su_Before_Equals : PySem.W.subIn K (.ref A.Before) (.ref A.Equals) = some false
  su_Before_Size : PySem.W.subIn K (.ref A.Before) (.ref A.Size) = some false
  su_Before_Has : PySem.W.subIn K (.ref A.Before) (.ref A.Has) = some false
  su_Before_Item : PySem.W.subIn K (.ref A.Before) (.ref A.Item) = some false
  su_Before_First : PySem.W.subIn K (.ref A.Before) (.ref A.First) = some false
  su_Before_Every : PySem.W.subIn K (.ref A.Before) (.ref A.Every) = some false
  su_Before_Some : PySem.W.subIn K (.ref A.Before) (.ref A.Some) = some false
  su_Before_Both : PySem.W.subIn K (.ref A.Before) (.ref A.Both) = some false
  su_Before_Either : PySem.W.subIn K (.ref A.Before) (.ref A.Either) = some false
  su_Before_Inverse : PySem.W.subIn K (.ref A.Before) (.ref A.Inverse) = some false
  f_First_label : ClsF K A.First "label"
  sf_First : PySem.W.selfFirst K A.First = true
  k_First_Condition : PySem.W.kitOne K (.ref A.First) (.ref A.Condition) = some true
  rn_BitAnd_First : PySem.W.findIn K (.ref A.First) "__rand__" = some none
  rn_BitOr_First : PySem.W.findIn K (.ref A.First) "__ror__" = some none
  su_First_Kind : PySem.W.subIn K (.ref A.First) (.ref A.Kind) = some false
  su_First_Equals : PySem.W.subIn K (.ref A.First) (.ref A.Equals) = some false
  su_First_Size : PySem.W.subIn K (.ref A.First) (.ref A.Size) = some false
  su_First_Has : PySem.W.subIn K (.ref A.First) (.ref A.Has) = some false
  su_First_Item : PySem.W.subIn K (.ref A.First) (.ref A.Item) = some false
  su_First_Before : PySem.W.subIn K (.ref A.First) (.ref A.Before) = some false
  su_First_Every : PySem.W.subIn K (.ref A.First) (.ref A.Every) = some false
  su_First_Some : PySem.W.subIn K (.ref A.First) (.ref A.Some) = some false
  su_First_Both : PySem.W.subIn K (.ref A.First) (.ref A.Both) = some false
  su_First_Either : PySem.W.subIn K (.ref A.First) (.ref A.Either) = some false
  su_First_Inverse : PySem.W.subIn K (.ref A.First) (.ref A.Inverse) = some false
  f_Every_label : ClsF K A.Every "label"
  sf_Every : PySem.W.selfFirst K A.Every = true
  k_Every_Condition : PySem.W.kitOne K (.ref A.Every) (.ref A.Condition) = some true
  rn_BitAnd_Every : PySem.W.findIn K (.ref A.Every) "__rand__" = some none
  rn_BitOr_Every : PySem.W.findIn K (.ref A.Every) "__ror__" = some none
  su_Every_Kind : PySem.W.subIn K (.ref A.Every) (.ref A.Kind) = some false
  su_Every_Equals : PySem.W.subIn K (.ref A.Every) (.ref A.Equals) = some false
  su_Every_Size : PySem.W.subIn K (.ref A.Every) (.ref A.Size) = some false
  su_Every_Has : PySem.W.subIn K (.ref A.Every) (.ref A.Has) = some false
  su_Every_Item : PySem.W.subIn K (.ref A.Every) (.ref A.Item) = some false
  su_Every_Before : PySem.W.subIn K (.ref A.Every) (.ref A.Before) = some false
  su_Every_First : PySem.W.subIn K (.ref A.Every) (.ref A.First) = some false
  su_Every_Some : PySem.W.subIn K (.ref A.Every) (.ref A.Some) = some false
  su_Every_Both : PySem.W.subIn K (.ref A.Every) (.ref A.Both) = some false
  su_Every_Either : PySem.W.subIn K (.ref A.Every) (.ref A.Either) = some false
  su_Every_Inverse : PySem.W.subIn K (.ref A.Every) (.ref A.Inverse) = some false
  f_Some_label : ClsF K A.Some "label"
  sf_Some : PySem.W.selfFirst K A.Some = true
  k_Some_Condition : PySem.W.kitOne K (.ref A.Some) (.ref A.Condition) = some true
  rn_BitAnd_Some : PySem.W.findIn K (.ref A.Some) "__rand__" = some none
  rn_BitOr_Some : PySem.W.findIn K (.ref A.Some) "__ror__" = some none
  su_Some_Kind : PySem.W.subIn K (.ref A.Some) (.ref A.Kind) = some false
  su_Some_Equals : PySem.W.subIn K (.ref A.Some) (.ref A.Equals) = some false
  su_Some_Size : PySem.W.subIn K (.ref A.Some) (.ref A.Size) = some false
  su_Some_Has : PySem.W.subIn K (.ref A.Some) (.ref A.Has) = some false
  su_Some_Item : PySem.W.subIn K (.ref A.Some) (.ref A.Item) = some false
  su_Some_Before : PySem.W.subIn K (.ref A.Some) (.ref A.Before) = some false
  su_Some_First : PySem.W.subIn K (.ref A.Some) (.ref A.First) = some false
  su_Some_Every : PySem.W.subIn K (.ref A.Some) (.ref A.Every) = some false
  su_Some_Both : PySem.W.subIn K (.ref A.Some) (.ref A.Both) = some false
  su_Some_Either : PySem.W.subIn K (.ref A.Some) (.ref A.Either) = some false
  su_Some_Inverse : PySem.W.subIn K (.ref A.Some) (.ref A.Inverse) = some false
  xc_BadCondition : ExcC K A.BadCondition
  nf_BadCondition_value : PySem.W.findIn K (.ref A.BadCondition) "value" = some none
  g_KINDS : ∃ v u, mg "KINDS" = some u ∧ RelV v u ∧ ∀ I, Rep K I (.tup [.str "null", .str "true", .str "false", .str "integer", .str "text", .str "list", .str "tuple", .str "table"]) v
  g_MOST_COUNT : ∃ v u, mg "MOST_COUNT" = some u ∧ RelV v u ∧ ∀ I, Rep K I (.int 4) v
theorem Top.facts {K : PySem.W.Frag} {mg : Str → Option Value} {A : Adr} (T : Top K mg A) : ClsI K A.Condition ∧ PySem.W.kitOne K (.type "NoneType") (.ref A.Condition) = some false ∧ PySem.W.kitOne K (.type "bool") (.ref A.Condition) = some false ∧ PySem.W.kitOne K (.ref A.Condition) (.type "bool") = some false ∧ PySem.W.kitOne K (.type "int") (.ref A.Condition) = some false ∧ PySem.W.kitOne K (.ref A.Condition) (.type "int") = some false ∧ PySem.W.kitOne K (.type "str") (.ref A.Condition) = some false ∧ PySem.W.kitOne K (.ref A.Condition) (.type "str") = some false ∧ PySem.W.kitOne K (.type "list") (.ref A.Condition) = some false ∧ PySem.W.kitOne K (.ref A.Condition) (.type "list") = some false ∧ PySem.W.kitOne K (.type "tuple") (.ref A.Condition) = some false ∧ PySem.W.kitOne K (.ref A.Condition) (.type "tuple") = some false ∧ PySem.W.kitOne K (.type "dict") (.ref A.Condition) = some false ∧ PySem.W.kitOne K (.ref A.Condition) (.ref A.Condition) = some true ∧ ClsI K A.Both ∧ ClsF K A.Both "left" ∧ ClsF K A.Both "right" ∧ PySem.W.selfFirst K A.Both = true ∧ PySem.W.kitOne K (.ref A.Both) (.ref A.Condition) = some true ∧ PySem.W.findIn K (.ref A.Both) "__rand__" = some none ∧ PySem.W.findIn K (.ref A.Both) "__ror__" = some none ∧ PySem.W.subIn K (.ref A.Both) (.ref A.Kind) = some false ∧ PySem.W.subIn K (.ref A.Both) (.ref A.Equals) = some false ∧ PySem.W.subIn K (.ref A.Both) (.ref A.Size) = some false ∧ PySem.W.subIn K (.ref A.Both) (.ref A.Has) = some false ∧ PySem.W.subIn K (.ref A.Both) (.ref A.Item) = some false ∧ PySem.W.subIn K (.ref A.Both) (.ref A.Before) = some false ∧ PySem.W.subIn K (.ref A.Both) (.ref A.First) = some false ∧ PySem.W.subIn K (.ref A.Both) (.ref A.Every) = some false ∧ PySem.W.subIn K (.ref A.Both) (.ref A.Some) = some false ∧ PySem.W.subIn K (.ref A.Both) (.ref A.Either) = some false ∧ PySem.W.subIn K (.ref A.Both) (.ref A.Inverse) = some false ∧ ClsI K A.Either ∧ ClsF K A.Either "left" ∧ ClsF K A.Either "right" ∧ PySem.W.selfFirst K A.Either = true ∧ PySem.W.kitOne K (.ref A.Either) (.ref A.Condition) = some true ∧ PySem.W.findIn K (.ref A.Either) "__rand__" = some none ∧ PySem.W.findIn K (.ref A.Either) "__ror__" = some none ∧ PySem.W.subIn K (.ref A.Either) (.ref A.Kind) = some false ∧ PySem.W.subIn K (.ref A.Either) (.ref A.Equals) = some false ∧ PySem.W.subIn K (.ref A.Either) (.ref A.Size) = some false ∧ PySem.W.subIn K (.ref A.Either) (.ref A.Has) = some false ∧ PySem.W.subIn K (.ref A.Either) (.ref A.Item) = some false ∧ PySem.W.subIn K (.ref A.Either) (.ref A.Before) = some false ∧ PySem.W.subIn K (.ref A.Either) (.ref A.First) = some false ∧ PySem.W.subIn K (.ref A.Either) (.ref A.Every) = some false ∧ PySem.W.subIn K (.ref A.Either) (.ref A.Some) = some false ∧ PySem.W.subIn K (.ref A.Either) (.ref A.Both) = some false ∧ PySem.W.subIn K (.ref A.Either) (.ref A.Inverse) = some false ∧ ClsI K A.Inverse ∧ ClsF K A.Inverse "inner" ∧ PySem.W.selfFirst K A.Inverse = true ∧ PySem.W.kitOne K (.ref A.Inverse) (.ref A.Condition) = some true ∧ PySem.W.findIn K (.ref A.Inverse) "__rand__" = some none ∧ PySem.W.findIn K (.ref A.Inverse) "__ror__" = some none ∧ PySem.W.subIn K (.ref A.Inverse) (.ref A.Kind) = some false ∧ PySem.W.subIn K (.ref A.Inverse) (.ref A.Equals) = some false ∧ PySem.W.subIn K (.ref A.Inverse) (.ref A.Size) = some false ∧ PySem.W.subIn K (.ref A.Inverse) (.ref A.Has) = some false ∧ PySem.W.subIn K (.ref A.Inverse) (.ref A.Item) = some false ∧ PySem.W.subIn K (.ref A.Inverse) (.ref A.Before) = some false ∧ PySem.W.subIn K (.ref A.Inverse) (.ref A.First) = some false ∧ PySem.W.subIn K (.ref A.Inverse) (.ref A.Every) = some false ∧ PySem.W.subIn K (.ref A.Inverse) (.ref A.Some) = some false ∧ PySem.W.subIn K (.ref A.Inverse) (.ref A.Both) = some false ∧ PySem.W.subIn K (.ref A.Inverse) (.ref A.Either) = some false ∧ ClsI K A.Kind ∧ ClsF K A.Kind "name" ∧ PySem.W.selfFirst K A.Kind = true ∧ PySem.W.kitOne K (.ref A.Kind) (.ref A.Condition) = some true ∧ PySem.W.findIn K (.ref A.Kind) "__rand__" = some none ∧ PySem.W.findIn K (.ref A.Kind) "__ror__" = some none ∧ PySem.W.subIn K (.ref A.Kind) (.ref A.Equals) = some false ∧ PySem.W.subIn K (.ref A.Kind) (.ref A.Size) = some false ∧ PySem.W.subIn K (.ref A.Kind) (.ref A.Has) = some false ∧ PySem.W.subIn K (.ref A.Kind) (.ref A.Item) = some false ∧ PySem.W.subIn K (.ref A.Kind) (.ref A.Before) = some false ∧ PySem.W.subIn K (.ref A.Kind) (.ref A.First) = some false ∧ PySem.W.subIn K (.ref A.Kind) (.ref A.Every) = some false ∧ PySem.W.subIn K (.ref A.Kind) (.ref A.Some) = some false ∧ PySem.W.subIn K (.ref A.Kind) (.ref A.Both) = some false ∧ PySem.W.subIn K (.ref A.Kind) (.ref A.Either) = some false ∧ PySem.W.subIn K (.ref A.Kind) (.ref A.Inverse) = some false ∧ ClsI K A.Equals ∧ ClsF K A.Equals "atom" ∧ PySem.W.selfFirst K A.Equals = true ∧ PySem.W.kitOne K (.ref A.Equals) (.ref A.Condition) = some true ∧ PySem.W.findIn K (.ref A.Equals) "__rand__" = some none ∧ PySem.W.findIn K (.ref A.Equals) "__ror__" = some none ∧ PySem.W.subIn K (.ref A.Equals) (.ref A.Kind) = some false ∧ PySem.W.subIn K (.ref A.Equals) (.ref A.Size) = some false ∧ PySem.W.subIn K (.ref A.Equals) (.ref A.Has) = some false ∧ PySem.W.subIn K (.ref A.Equals) (.ref A.Item) = some false ∧ PySem.W.subIn K (.ref A.Equals) (.ref A.Before) = some false ∧ PySem.W.subIn K (.ref A.Equals) (.ref A.First) = some false ∧ PySem.W.subIn K (.ref A.Equals) (.ref A.Every) = some false ∧ PySem.W.subIn K (.ref A.Equals) (.ref A.Some) = some false ∧ PySem.W.subIn K (.ref A.Equals) (.ref A.Both) = some false ∧ PySem.W.subIn K (.ref A.Equals) (.ref A.Either) = some false ∧ PySem.W.subIn K (.ref A.Equals) (.ref A.Inverse) = some false ∧ ClsI K A.Size ∧ ClsF K A.Size "count" ∧ PySem.W.selfFirst K A.Size = true ∧ PySem.W.kitOne K (.ref A.Size) (.ref A.Condition) = some true ∧ PySem.W.findIn K (.ref A.Size) "__rand__" = some none ∧ PySem.W.findIn K (.ref A.Size) "__ror__" = some none ∧ PySem.W.subIn K (.ref A.Size) (.ref A.Kind) = some false ∧ PySem.W.subIn K (.ref A.Size) (.ref A.Equals) = some false ∧ PySem.W.subIn K (.ref A.Size) (.ref A.Has) = some false ∧ PySem.W.subIn K (.ref A.Size) (.ref A.Item) = some false ∧ PySem.W.subIn K (.ref A.Size) (.ref A.Before) = some false ∧ PySem.W.subIn K (.ref A.Size) (.ref A.First) = some false ∧ PySem.W.subIn K (.ref A.Size) (.ref A.Every) = some false ∧ PySem.W.subIn K (.ref A.Size) (.ref A.Some) = some false ∧ PySem.W.subIn K (.ref A.Size) (.ref A.Both) = some false ∧ PySem.W.subIn K (.ref A.Size) (.ref A.Either) = some false ∧ PySem.W.subIn K (.ref A.Size) (.ref A.Inverse) = some false ∧ ClsI K A.Has ∧ ClsF K A.Has "key" ∧ PySem.W.selfFirst K A.Has = true ∧ PySem.W.kitOne K (.ref A.Has) (.ref A.Condition) = some true ∧ PySem.W.findIn K (.ref A.Has) "__rand__" = some none ∧ PySem.W.findIn K (.ref A.Has) "__ror__" = some none ∧ PySem.W.subIn K (.ref A.Has) (.ref A.Kind) = some false ∧ PySem.W.subIn K (.ref A.Has) (.ref A.Equals) = some false ∧ PySem.W.subIn K (.ref A.Has) (.ref A.Size) = some false ∧ PySem.W.subIn K (.ref A.Has) (.ref A.Item) = some false ∧ PySem.W.subIn K (.ref A.Has) (.ref A.Before) = some false ∧ PySem.W.subIn K (.ref A.Has) (.ref A.First) = some false ∧ PySem.W.subIn K (.ref A.Has) (.ref A.Every) = some false ∧ PySem.W.subIn K (.ref A.Has) (.ref A.Some) = some false ∧ PySem.W.subIn K (.ref A.Has) (.ref A.Both) = some false ∧ PySem.W.subIn K (.ref A.Has) (.ref A.Either) = some false ∧ PySem.W.subIn K (.ref A.Has) (.ref A.Inverse) = some false ∧ ClsI K A.Item ∧ ClsF K A.Item "key" ∧ ClsF K A.Item "label" ∧ PySem.W.selfFirst K A.Item = true ∧ PySem.W.kitOne K (.ref A.Item) (.ref A.Condition) = some true ∧ PySem.W.findIn K (.ref A.Item) "__rand__" = some none ∧ PySem.W.findIn K (.ref A.Item) "__ror__" = some none ∧ PySem.W.subIn K (.ref A.Item) (.ref A.Kind) = some false ∧ PySem.W.subIn K (.ref A.Item) (.ref A.Equals) = some false ∧ PySem.W.subIn K (.ref A.Item) (.ref A.Size) = some false ∧ PySem.W.subIn K (.ref A.Item) (.ref A.Has) = some false ∧ PySem.W.subIn K (.ref A.Item) (.ref A.Before) = some false ∧ PySem.W.subIn K (.ref A.Item) (.ref A.First) = some false ∧ PySem.W.subIn K (.ref A.Item) (.ref A.Every) = some false ∧ PySem.W.subIn K (.ref A.Item) (.ref A.Some) = some false ∧ PySem.W.subIn K (.ref A.Item) (.ref A.Both) = some false ∧ PySem.W.subIn K (.ref A.Item) (.ref A.Either) = some false ∧ PySem.W.subIn K (.ref A.Item) (.ref A.Inverse) = some false ∧ ClsI K A.Before ∧ ClsF K A.Before "first" ∧ ClsF K A.Before "second" ∧ PySem.W.selfFirst K A.Before = true ∧ PySem.W.kitOne K (.ref A.Before) (.ref A.Condition) = some true ∧ PySem.W.findIn K (.ref A.Before) "__rand__" = some none ∧ PySem.W.findIn K (.ref A.Before) "__ror__" = some none ∧ PySem.W.subIn K (.ref A.Before) (.ref A.Kind) = some false ∧ PySem.W.subIn K (.ref A.Before) (.ref A.Equals) = some false ∧ PySem.W.subIn K (.ref A.Before) (.ref A.Size) = some false ∧ PySem.W.subIn K (.ref A.Before) (.ref A.Has) = some false ∧ PySem.W.subIn K (.ref A.Before) (.ref A.Item) = some false ∧ PySem.W.subIn K (.ref A.Before) (.ref A.First) = some false ∧ PySem.W.subIn K (.ref A.Before) (.ref A.Every) = some false ∧ PySem.W.subIn K (.ref A.Before) (.ref A.Some) = some false ∧ PySem.W.subIn K (.ref A.Before) (.ref A.Both) = some false ∧ PySem.W.subIn K (.ref A.Before) (.ref A.Either) = some false ∧ PySem.W.subIn K (.ref A.Before) (.ref A.Inverse) = some false ∧ ClsI K A.First ∧ ClsF K A.First "label" ∧ PySem.W.selfFirst K A.First = true ∧ PySem.W.kitOne K (.ref A.First) (.ref A.Condition) = some true ∧ PySem.W.findIn K (.ref A.First) "__rand__" = some none ∧ PySem.W.findIn K (.ref A.First) "__ror__" = some none ∧ PySem.W.subIn K (.ref A.First) (.ref A.Kind) = some false ∧ PySem.W.subIn K (.ref A.First) (.ref A.Equals) = some false ∧ PySem.W.subIn K (.ref A.First) (.ref A.Size) = some false ∧ PySem.W.subIn K (.ref A.First) (.ref A.Has) = some false ∧ PySem.W.subIn K (.ref A.First) (.ref A.Item) = some false ∧ PySem.W.subIn K (.ref A.First) (.ref A.Before) = some false ∧ PySem.W.subIn K (.ref A.First) (.ref A.Every) = some false ∧ PySem.W.subIn K (.ref A.First) (.ref A.Some) = some false ∧ PySem.W.subIn K (.ref A.First) (.ref A.Both) = some false ∧ PySem.W.subIn K (.ref A.First) (.ref A.Either) = some false ∧ PySem.W.subIn K (.ref A.First) (.ref A.Inverse) = some false ∧ ClsI K A.Every ∧ ClsF K A.Every "label" ∧ PySem.W.selfFirst K A.Every = true ∧ PySem.W.kitOne K (.ref A.Every) (.ref A.Condition) = some true ∧ PySem.W.findIn K (.ref A.Every) "__rand__" = some none ∧ PySem.W.findIn K (.ref A.Every) "__ror__" = some none ∧ PySem.W.subIn K (.ref A.Every) (.ref A.Kind) = some false ∧ PySem.W.subIn K (.ref A.Every) (.ref A.Equals) = some false ∧ PySem.W.subIn K (.ref A.Every) (.ref A.Size) = some false ∧ PySem.W.subIn K (.ref A.Every) (.ref A.Has) = some false ∧ PySem.W.subIn K (.ref A.Every) (.ref A.Item) = some false ∧ PySem.W.subIn K (.ref A.Every) (.ref A.Before) = some false ∧ PySem.W.subIn K (.ref A.Every) (.ref A.First) = some false ∧ PySem.W.subIn K (.ref A.Every) (.ref A.Some) = some false ∧ PySem.W.subIn K (.ref A.Every) (.ref A.Both) = some false ∧ PySem.W.subIn K (.ref A.Every) (.ref A.Either) = some false ∧ PySem.W.subIn K (.ref A.Every) (.ref A.Inverse) = some false ∧ ClsI K A.Some ∧ ClsF K A.Some "label" ∧ PySem.W.selfFirst K A.Some = true ∧ PySem.W.kitOne K (.ref A.Some) (.ref A.Condition) = some true ∧ PySem.W.findIn K (.ref A.Some) "__rand__" = some none ∧ PySem.W.findIn K (.ref A.Some) "__ror__" = some none ∧ PySem.W.subIn K (.ref A.Some) (.ref A.Kind) = some false ∧ PySem.W.subIn K (.ref A.Some) (.ref A.Equals) = some false ∧ PySem.W.subIn K (.ref A.Some) (.ref A.Size) = some false ∧ PySem.W.subIn K (.ref A.Some) (.ref A.Has) = some false ∧ PySem.W.subIn K (.ref A.Some) (.ref A.Item) = some false ∧ PySem.W.subIn K (.ref A.Some) (.ref A.Before) = some false ∧ PySem.W.subIn K (.ref A.Some) (.ref A.First) = some false ∧ PySem.W.subIn K (.ref A.Some) (.ref A.Every) = some false ∧ PySem.W.subIn K (.ref A.Some) (.ref A.Both) = some false ∧ PySem.W.subIn K (.ref A.Some) (.ref A.Either) = some false ∧ PySem.W.subIn K (.ref A.Some) (.ref A.Inverse) = some false ∧ ExcC K A.BadCondition ∧ PySem.W.findIn K (.ref A.BadCondition) "value" = some none :=
  ⟨T.c_Condition.ci, T.k_NoneType_Condition, T.k_bool_Condition, T.k_Condition_bool, T.k_int_Condition, T.k_Condition_int, T.k_str_Condition, T.k_Condition_str, T.k_list_Condition, T.k_Condition_list, T.k_tuple_Condition, T.k_Condition_tuple, T.k_dict_Condition, T.k_Condition_Condition, T.c_Both.ci, T.f_Both_left, T.f_Both_right, T.sf_Both, T.k_Both_Condition, T.rn_BitAnd_Both, T.rn_BitOr_Both, T.su_Both_Kind, T.su_Both_Equals, T.su_Both_Size, T.su_Both_Has, T.su_Both_Item, T.su_Both_Before, T.su_Both_First, T.su_Both_Every, T.su_Both_Some, T.su_Both_Either, T.su_Both_Inverse, T.c_Either.ci, T.f_Either_left, T.f_Either_right, T.sf_Either, T.k_Either_Condition, T.rn_BitAnd_Either, T.rn_BitOr_Either, T.su_Either_Kind, T.su_Either_Equals, T.su_Either_Size, T.su_Either_Has, T.su_Either_Item, T.su_Either_Before, T.su_Either_First, T.su_Either_Every, T.su_Either_Some, T.su_Either_Both, T.su_Either_Inverse, T.c_Inverse.ci, T.f_Inverse_inner, T.sf_Inverse, T.k_Inverse_Condition, T.rn_BitAnd_Inverse, T.rn_BitOr_Inverse, T.su_Inverse_Kind, T.su_Inverse_Equals, T.su_Inverse_Size, T.su_Inverse_Has, T.su_Inverse_Item, T.su_Inverse_Before, T.su_Inverse_First, T.su_Inverse_Every, T.su_Inverse_Some, T.su_Inverse_Both, T.su_Inverse_Either, T.c_Kind.ci, T.f_Kind_name, T.sf_Kind, T.k_Kind_Condition, T.rn_BitAnd_Kind, T.rn_BitOr_Kind, T.su_Kind_Equals, T.su_Kind_Size, T.su_Kind_Has, T.su_Kind_Item, T.su_Kind_Before, T.su_Kind_First, T.su_Kind_Every, T.su_Kind_Some, T.su_Kind_Both, T.su_Kind_Either, T.su_Kind_Inverse, T.c_Equals.ci, T.f_Equals_atom, T.sf_Equals, T.k_Equals_Condition, T.rn_BitAnd_Equals, T.rn_BitOr_Equals, T.su_Equals_Kind, T.su_Equals_Size, T.su_Equals_Has, T.su_Equals_Item, T.su_Equals_Before, T.su_Equals_First, T.su_Equals_Every, T.su_Equals_Some, T.su_Equals_Both, T.su_Equals_Either, T.su_Equals_Inverse, T.c_Size.ci, T.f_Size_count, T.sf_Size, T.k_Size_Condition, T.rn_BitAnd_Size, T.rn_BitOr_Size, T.su_Size_Kind, T.su_Size_Equals, T.su_Size_Has, T.su_Size_Item, T.su_Size_Before, T.su_Size_First, T.su_Size_Every, T.su_Size_Some, T.su_Size_Both, T.su_Size_Either, T.su_Size_Inverse, T.c_Has.ci, T.f_Has_key, T.sf_Has, T.k_Has_Condition, T.rn_BitAnd_Has, T.rn_BitOr_Has, T.su_Has_Kind, T.su_Has_Equals, T.su_Has_Size, T.su_Has_Item, T.su_Has_Before, T.su_Has_First, T.su_Has_Every, T.su_Has_Some, T.su_Has_Both, T.su_Has_Either, T.su_Has_Inverse, T.c_Item.ci, T.f_Item_key, T.f_Item_label, T.sf_Item, T.k_Item_Condition, T.rn_BitAnd_Item, T.rn_BitOr_Item, T.su_Item_Kind, T.su_Item_Equals, T.su_Item_Size, T.su_Item_Has, T.su_Item_Before, T.su_Item_First, T.su_Item_Every, T.su_Item_Some, T.su_Item_Both, T.su_Item_Either, T.su_Item_Inverse, T.c_Before.ci, T.f_Before_first, T.f_Before_second, T.sf_Before, T.k_Before_Condition, T.rn_BitAnd_Before, T.rn_BitOr_Before, T.su_Before_Kind, T.su_Before_Equals, T.su_Before_Size, T.su_Before_Has, T.su_Before_Item, T.su_Before_First, T.su_Before_Every, T.su_Before_Some, T.su_Before_Both, T.su_Before_Either, T.su_Before_Inverse, T.c_First.ci, T.f_First_label, T.sf_First, T.k_First_Condition, T.rn_BitAnd_First, T.rn_BitOr_First, T.su_First_Kind, T.su_First_Equals, T.su_First_Size, T.su_First_Has, T.su_First_Item, T.su_First_Before, T.su_First_Every, T.su_First_Some, T.su_First_Both, T.su_First_Either, T.su_First_Inverse, T.c_Every.ci, T.f_Every_label, T.sf_Every, T.k_Every_Condition, T.rn_BitAnd_Every, T.rn_BitOr_Every, T.su_Every_Kind, T.su_Every_Equals, T.su_Every_Size, T.su_Every_Has, T.su_Every_Item, T.su_Every_Before, T.su_Every_First, T.su_Every_Some, T.su_Every_Both, T.su_Every_Either, T.su_Every_Inverse, T.c_Some.ci, T.f_Some_label, T.sf_Some, T.k_Some_Condition, T.rn_BitAnd_Some, T.rn_BitOr_Some, T.su_Some_Kind, T.su_Some_Equals, T.su_Some_Size, T.su_Some_Has, T.su_Some_Item, T.su_Some_Before, T.su_Some_First, T.su_Some_Every, T.su_Some_Both, T.su_Some_Either, T.su_Some_Inverse, T.xc_BadCondition, T.nf_BadCondition_value⟩
theorem Top.ob_BitAnd {K : PySem.W.Frag} {mg : Str → Option Value} {A : Adr} (T : Top K mg A) : ∀ τ τ2 C D, (caA A).adr τ = some C → (caA A).adr τ2 = some D → OwnBin K .BitAnd C D := by
  intro τ τ2 C D h1 h2
  cases τ
  · cases τ2
    · cases (show some A.Kind = some C from h1); cases (show some A.Kind = some D from h2); exact ⟨T.sf_Kind, T.sf_Kind, fun ne => absurd rfl ne⟩
    · cases (show some A.Kind = some C from h1); cases (show some A.Equals = some D from h2); exact ⟨T.sf_Kind, T.sf_Equals, fun ne => ⟨T.rn_BitAnd_Kind, (let ⟨g, _, _, q, _⟩ := T.m_Equals___and__.ex; ⟨g, q⟩), T.rn_BitAnd_Equals, T.su_Equals_Kind⟩⟩
    · cases (show some A.Kind = some C from h1); cases (show some A.Size = some D from h2); exact ⟨T.sf_Kind, T.sf_Size, fun ne => ⟨T.rn_BitAnd_Kind, (let ⟨g, _, _, q, _⟩ := T.m_Size___and__.ex; ⟨g, q⟩), T.rn_BitAnd_Size, T.su_Size_Kind⟩⟩
    · cases (show some A.Kind = some C from h1); cases (show some A.Has = some D from h2); exact ⟨T.sf_Kind, T.sf_Has, fun ne => ⟨T.rn_BitAnd_Kind, (let ⟨g, _, _, q, _⟩ := T.m_Has___and__.ex; ⟨g, q⟩), T.rn_BitAnd_Has, T.su_Has_Kind⟩⟩
    · cases (show some A.Kind = some C from h1); cases (show some A.Item = some D from h2); exact ⟨T.sf_Kind, T.sf_Item, fun ne => ⟨T.rn_BitAnd_Kind, (let ⟨g, _, _, q, _⟩ := T.m_Item___and__.ex; ⟨g, q⟩), T.rn_BitAnd_Item, T.su_Item_Kind⟩⟩
    · cases (show some A.Kind = some C from h1); cases (show some A.Before = some D from h2); exact ⟨T.sf_Kind, T.sf_Before, fun ne => ⟨T.rn_BitAnd_Kind, (let ⟨g, _, _, q, _⟩ := T.m_Before___and__.ex; ⟨g, q⟩), T.rn_BitAnd_Before, T.su_Before_Kind⟩⟩
    · cases (show some A.Kind = some C from h1); cases (show some A.First = some D from h2); exact ⟨T.sf_Kind, T.sf_First, fun ne => ⟨T.rn_BitAnd_Kind, (let ⟨g, _, _, q, _⟩ := T.m_First___and__.ex; ⟨g, q⟩), T.rn_BitAnd_First, T.su_First_Kind⟩⟩
    · cases (show some A.Kind = some C from h1); cases (show some A.Every = some D from h2); exact ⟨T.sf_Kind, T.sf_Every, fun ne => ⟨T.rn_BitAnd_Kind, (let ⟨g, _, _, q, _⟩ := T.m_Every___and__.ex; ⟨g, q⟩), T.rn_BitAnd_Every, T.su_Every_Kind⟩⟩
    · cases (show some A.Kind = some C from h1); cases (show some A.Some = some D from h2); exact ⟨T.sf_Kind, T.sf_Some, fun ne => ⟨T.rn_BitAnd_Kind, (let ⟨g, _, _, q, _⟩ := T.m_Some___and__.ex; ⟨g, q⟩), T.rn_BitAnd_Some, T.su_Some_Kind⟩⟩
    · cases (show some A.Kind = some C from h1); cases (show some A.Both = some D from h2); exact ⟨T.sf_Kind, T.sf_Both, fun ne => ⟨T.rn_BitAnd_Kind, (let ⟨g, _, _, q, _⟩ := T.m_Both___and__.ex; ⟨g, q⟩), T.rn_BitAnd_Both, T.su_Both_Kind⟩⟩
    · cases (show some A.Kind = some C from h1); cases (show some A.Either = some D from h2); exact ⟨T.sf_Kind, T.sf_Either, fun ne => ⟨T.rn_BitAnd_Kind, (let ⟨g, _, _, q, _⟩ := T.m_Either___and__.ex; ⟨g, q⟩), T.rn_BitAnd_Either, T.su_Either_Kind⟩⟩
    · cases (show some A.Kind = some C from h1); cases (show some A.Inverse = some D from h2); exact ⟨T.sf_Kind, T.sf_Inverse, fun ne => ⟨T.rn_BitAnd_Kind, (let ⟨g, _, _, q, _⟩ := T.m_Inverse___and__.ex; ⟨g, q⟩), T.rn_BitAnd_Inverse, T.su_Inverse_Kind⟩⟩
  · cases τ2
    · cases (show some A.Equals = some C from h1); cases (show some A.Kind = some D from h2); exact ⟨T.sf_Equals, T.sf_Kind, fun ne => ⟨T.rn_BitAnd_Equals, (let ⟨g, _, _, q, _⟩ := T.m_Kind___and__.ex; ⟨g, q⟩), T.rn_BitAnd_Kind, T.su_Kind_Equals⟩⟩
    · cases (show some A.Equals = some C from h1); cases (show some A.Equals = some D from h2); exact ⟨T.sf_Equals, T.sf_Equals, fun ne => absurd rfl ne⟩
    · cases (show some A.Equals = some C from h1); cases (show some A.Size = some D from h2); exact ⟨T.sf_Equals, T.sf_Size, fun ne => ⟨T.rn_BitAnd_Equals, (let ⟨g, _, _, q, _⟩ := T.m_Size___and__.ex; ⟨g, q⟩), T.rn_BitAnd_Size, T.su_Size_Equals⟩⟩
    · cases (show some A.Equals = some C from h1); cases (show some A.Has = some D from h2); exact ⟨T.sf_Equals, T.sf_Has, fun ne => ⟨T.rn_BitAnd_Equals, (let ⟨g, _, _, q, _⟩ := T.m_Has___and__.ex; ⟨g, q⟩), T.rn_BitAnd_Has, T.su_Has_Equals⟩⟩
    · cases (show some A.Equals = some C from h1); cases (show some A.Item = some D from h2); exact ⟨T.sf_Equals, T.sf_Item, fun ne => ⟨T.rn_BitAnd_Equals, (let ⟨g, _, _, q, _⟩ := T.m_Item___and__.ex; ⟨g, q⟩), T.rn_BitAnd_Item, T.su_Item_Equals⟩⟩
    · cases (show some A.Equals = some C from h1); cases (show some A.Before = some D from h2); exact ⟨T.sf_Equals, T.sf_Before, fun ne => ⟨T.rn_BitAnd_Equals, (let ⟨g, _, _, q, _⟩ := T.m_Before___and__.ex; ⟨g, q⟩), T.rn_BitAnd_Before, T.su_Before_Equals⟩⟩
    · cases (show some A.Equals = some C from h1); cases (show some A.First = some D from h2); exact ⟨T.sf_Equals, T.sf_First, fun ne => ⟨T.rn_BitAnd_Equals, (let ⟨g, _, _, q, _⟩ := T.m_First___and__.ex; ⟨g, q⟩), T.rn_BitAnd_First, T.su_First_Equals⟩⟩
    · cases (show some A.Equals = some C from h1); cases (show some A.Every = some D from h2); exact ⟨T.sf_Equals, T.sf_Every, fun ne => ⟨T.rn_BitAnd_Equals, (let ⟨g, _, _, q, _⟩ := T.m_Every___and__.ex; ⟨g, q⟩), T.rn_BitAnd_Every, T.su_Every_Equals⟩⟩
    · cases (show some A.Equals = some C from h1); cases (show some A.Some = some D from h2); exact ⟨T.sf_Equals, T.sf_Some, fun ne => ⟨T.rn_BitAnd_Equals, (let ⟨g, _, _, q, _⟩ := T.m_Some___and__.ex; ⟨g, q⟩), T.rn_BitAnd_Some, T.su_Some_Equals⟩⟩
    · cases (show some A.Equals = some C from h1); cases (show some A.Both = some D from h2); exact ⟨T.sf_Equals, T.sf_Both, fun ne => ⟨T.rn_BitAnd_Equals, (let ⟨g, _, _, q, _⟩ := T.m_Both___and__.ex; ⟨g, q⟩), T.rn_BitAnd_Both, T.su_Both_Equals⟩⟩
    · cases (show some A.Equals = some C from h1); cases (show some A.Either = some D from h2); exact ⟨T.sf_Equals, T.sf_Either, fun ne => ⟨T.rn_BitAnd_Equals, (let ⟨g, _, _, q, _⟩ := T.m_Either___and__.ex; ⟨g, q⟩), T.rn_BitAnd_Either, T.su_Either_Equals⟩⟩
    · cases (show some A.Equals = some C from h1); cases (show some A.Inverse = some D from h2); exact ⟨T.sf_Equals, T.sf_Inverse, fun ne => ⟨T.rn_BitAnd_Equals, (let ⟨g, _, _, q, _⟩ := T.m_Inverse___and__.ex; ⟨g, q⟩), T.rn_BitAnd_Inverse, T.su_Inverse_Equals⟩⟩
  · cases τ2
    · cases (show some A.Size = some C from h1); cases (show some A.Kind = some D from h2); exact ⟨T.sf_Size, T.sf_Kind, fun ne => ⟨T.rn_BitAnd_Size, (let ⟨g, _, _, q, _⟩ := T.m_Kind___and__.ex; ⟨g, q⟩), T.rn_BitAnd_Kind, T.su_Kind_Size⟩⟩
    · cases (show some A.Size = some C from h1); cases (show some A.Equals = some D from h2); exact ⟨T.sf_Size, T.sf_Equals, fun ne => ⟨T.rn_BitAnd_Size, (let ⟨g, _, _, q, _⟩ := T.m_Equals___and__.ex; ⟨g, q⟩), T.rn_BitAnd_Equals, T.su_Equals_Size⟩⟩
    · cases (show some A.Size = some C from h1); cases (show some A.Size = some D from h2); exact ⟨T.sf_Size, T.sf_Size, fun ne => absurd rfl ne⟩
    · cases (show some A.Size = some C from h1); cases (show some A.Has = some D from h2); exact ⟨T.sf_Size, T.sf_Has, fun ne => ⟨T.rn_BitAnd_Size, (let ⟨g, _, _, q, _⟩ := T.m_Has___and__.ex; ⟨g, q⟩), T.rn_BitAnd_Has, T.su_Has_Size⟩⟩
    · cases (show some A.Size = some C from h1); cases (show some A.Item = some D from h2); exact ⟨T.sf_Size, T.sf_Item, fun ne => ⟨T.rn_BitAnd_Size, (let ⟨g, _, _, q, _⟩ := T.m_Item___and__.ex; ⟨g, q⟩), T.rn_BitAnd_Item, T.su_Item_Size⟩⟩
    · cases (show some A.Size = some C from h1); cases (show some A.Before = some D from h2); exact ⟨T.sf_Size, T.sf_Before, fun ne => ⟨T.rn_BitAnd_Size, (let ⟨g, _, _, q, _⟩ := T.m_Before___and__.ex; ⟨g, q⟩), T.rn_BitAnd_Before, T.su_Before_Size⟩⟩
    · cases (show some A.Size = some C from h1); cases (show some A.First = some D from h2); exact ⟨T.sf_Size, T.sf_First, fun ne => ⟨T.rn_BitAnd_Size, (let ⟨g, _, _, q, _⟩ := T.m_First___and__.ex; ⟨g, q⟩), T.rn_BitAnd_First, T.su_First_Size⟩⟩
    · cases (show some A.Size = some C from h1); cases (show some A.Every = some D from h2); exact ⟨T.sf_Size, T.sf_Every, fun ne => ⟨T.rn_BitAnd_Size, (let ⟨g, _, _, q, _⟩ := T.m_Every___and__.ex; ⟨g, q⟩), T.rn_BitAnd_Every, T.su_Every_Size⟩⟩
    · cases (show some A.Size = some C from h1); cases (show some A.Some = some D from h2); exact ⟨T.sf_Size, T.sf_Some, fun ne => ⟨T.rn_BitAnd_Size, (let ⟨g, _, _, q, _⟩ := T.m_Some___and__.ex; ⟨g, q⟩), T.rn_BitAnd_Some, T.su_Some_Size⟩⟩
    · cases (show some A.Size = some C from h1); cases (show some A.Both = some D from h2); exact ⟨T.sf_Size, T.sf_Both, fun ne => ⟨T.rn_BitAnd_Size, (let ⟨g, _, _, q, _⟩ := T.m_Both___and__.ex; ⟨g, q⟩), T.rn_BitAnd_Both, T.su_Both_Size⟩⟩
    · cases (show some A.Size = some C from h1); cases (show some A.Either = some D from h2); exact ⟨T.sf_Size, T.sf_Either, fun ne => ⟨T.rn_BitAnd_Size, (let ⟨g, _, _, q, _⟩ := T.m_Either___and__.ex; ⟨g, q⟩), T.rn_BitAnd_Either, T.su_Either_Size⟩⟩
    · cases (show some A.Size = some C from h1); cases (show some A.Inverse = some D from h2); exact ⟨T.sf_Size, T.sf_Inverse, fun ne => ⟨T.rn_BitAnd_Size, (let ⟨g, _, _, q, _⟩ := T.m_Inverse___and__.ex; ⟨g, q⟩), T.rn_BitAnd_Inverse, T.su_Inverse_Size⟩⟩
  · cases τ2
    · cases (show some A.Has = some C from h1); cases (show some A.Kind = some D from h2); exact ⟨T.sf_Has, T.sf_Kind, fun ne => ⟨T.rn_BitAnd_Has, (let ⟨g, _, _, q, _⟩ := T.m_Kind___and__.ex; ⟨g, q⟩), T.rn_BitAnd_Kind, T.su_Kind_Has⟩⟩
    · cases (show some A.Has = some C from h1); cases (show some A.Equals = some D from h2); exact ⟨T.sf_Has, T.sf_Equals, fun ne => ⟨T.rn_BitAnd_Has, (let ⟨g, _, _, q, _⟩ := T.m_Equals___and__.ex; ⟨g, q⟩), T.rn_BitAnd_Equals, T.su_Equals_Has⟩⟩
    · cases (show some A.Has = some C from h1); cases (show some A.Size = some D from h2); exact ⟨T.sf_Has, T.sf_Size, fun ne => ⟨T.rn_BitAnd_Has, (let ⟨g, _, _, q, _⟩ := T.m_Size___and__.ex; ⟨g, q⟩), T.rn_BitAnd_Size, T.su_Size_Has⟩⟩
    · cases (show some A.Has = some C from h1); cases (show some A.Has = some D from h2); exact ⟨T.sf_Has, T.sf_Has, fun ne => absurd rfl ne⟩
    · cases (show some A.Has = some C from h1); cases (show some A.Item = some D from h2); exact ⟨T.sf_Has, T.sf_Item, fun ne => ⟨T.rn_BitAnd_Has, (let ⟨g, _, _, q, _⟩ := T.m_Item___and__.ex; ⟨g, q⟩), T.rn_BitAnd_Item, T.su_Item_Has⟩⟩
    · cases (show some A.Has = some C from h1); cases (show some A.Before = some D from h2); exact ⟨T.sf_Has, T.sf_Before, fun ne => ⟨T.rn_BitAnd_Has, (let ⟨g, _, _, q, _⟩ := T.m_Before___and__.ex; ⟨g, q⟩), T.rn_BitAnd_Before, T.su_Before_Has⟩⟩
    · cases (show some A.Has = some C from h1); cases (show some A.First = some D from h2); exact ⟨T.sf_Has, T.sf_First, fun ne => ⟨T.rn_BitAnd_Has, (let ⟨g, _, _, q, _⟩ := T.m_First___and__.ex; ⟨g, q⟩), T.rn_BitAnd_First, T.su_First_Has⟩⟩
    · cases (show some A.Has = some C from h1); cases (show some A.Every = some D from h2); exact ⟨T.sf_Has, T.sf_Every, fun ne => ⟨T.rn_BitAnd_Has, (let ⟨g, _, _, q, _⟩ := T.m_Every___and__.ex; ⟨g, q⟩), T.rn_BitAnd_Every, T.su_Every_Has⟩⟩
    · cases (show some A.Has = some C from h1); cases (show some A.Some = some D from h2); exact ⟨T.sf_Has, T.sf_Some, fun ne => ⟨T.rn_BitAnd_Has, (let ⟨g, _, _, q, _⟩ := T.m_Some___and__.ex; ⟨g, q⟩), T.rn_BitAnd_Some, T.su_Some_Has⟩⟩
    · cases (show some A.Has = some C from h1); cases (show some A.Both = some D from h2); exact ⟨T.sf_Has, T.sf_Both, fun ne => ⟨T.rn_BitAnd_Has, (let ⟨g, _, _, q, _⟩ := T.m_Both___and__.ex; ⟨g, q⟩), T.rn_BitAnd_Both, T.su_Both_Has⟩⟩
    · cases (show some A.Has = some C from h1); cases (show some A.Either = some D from h2); exact ⟨T.sf_Has, T.sf_Either, fun ne => ⟨T.rn_BitAnd_Has, (let ⟨g, _, _, q, _⟩ := T.m_Either___and__.ex; ⟨g, q⟩), T.rn_BitAnd_Either, T.su_Either_Has⟩⟩
    · cases (show some A.Has = some C from h1); cases (show some A.Inverse = some D from h2); exact ⟨T.sf_Has, T.sf_Inverse, fun ne => ⟨T.rn_BitAnd_Has, (let ⟨g, _, _, q, _⟩ := T.m_Inverse___and__.ex; ⟨g, q⟩), T.rn_BitAnd_Inverse, T.su_Inverse_Has⟩⟩
  · cases τ2
    · cases (show some A.Item = some C from h1); cases (show some A.Kind = some D from h2); exact ⟨T.sf_Item, T.sf_Kind, fun ne => ⟨T.rn_BitAnd_Item, (let ⟨g, _, _, q, _⟩ := T.m_Kind___and__.ex; ⟨g, q⟩), T.rn_BitAnd_Kind, T.su_Kind_Item⟩⟩
    · cases (show some A.Item = some C from h1); cases (show some A.Equals = some D from h2); exact ⟨T.sf_Item, T.sf_Equals, fun ne => ⟨T.rn_BitAnd_Item, (let ⟨g, _, _, q, _⟩ := T.m_Equals___and__.ex; ⟨g, q⟩), T.rn_BitAnd_Equals, T.su_Equals_Item⟩⟩
    · cases (show some A.Item = some C from h1); cases (show some A.Size = some D from h2); exact ⟨T.sf_Item, T.sf_Size, fun ne => ⟨T.rn_BitAnd_Item, (let ⟨g, _, _, q, _⟩ := T.m_Size___and__.ex; ⟨g, q⟩), T.rn_BitAnd_Size, T.su_Size_Item⟩⟩
    · cases (show some A.Item = some C from h1); cases (show some A.Has = some D from h2); exact ⟨T.sf_Item, T.sf_Has, fun ne => ⟨T.rn_BitAnd_Item, (let ⟨g, _, _, q, _⟩ := T.m_Has___and__.ex; ⟨g, q⟩), T.rn_BitAnd_Has, T.su_Has_Item⟩⟩
    · cases (show some A.Item = some C from h1); cases (show some A.Item = some D from h2); exact ⟨T.sf_Item, T.sf_Item, fun ne => absurd rfl ne⟩
    · cases (show some A.Item = some C from h1); cases (show some A.Before = some D from h2); exact ⟨T.sf_Item, T.sf_Before, fun ne => ⟨T.rn_BitAnd_Item, (let ⟨g, _, _, q, _⟩ := T.m_Before___and__.ex; ⟨g, q⟩), T.rn_BitAnd_Before, T.su_Before_Item⟩⟩
    · cases (show some A.Item = some C from h1); cases (show some A.First = some D from h2); exact ⟨T.sf_Item, T.sf_First, fun ne => ⟨T.rn_BitAnd_Item, (let ⟨g, _, _, q, _⟩ := T.m_First___and__.ex; ⟨g, q⟩), T.rn_BitAnd_First, T.su_First_Item⟩⟩
    · cases (show some A.Item = some C from h1); cases (show some A.Every = some D from h2); exact ⟨T.sf_Item, T.sf_Every, fun ne => ⟨T.rn_BitAnd_Item, (let ⟨g, _, _, q, _⟩ := T.m_Every___and__.ex; ⟨g, q⟩), T.rn_BitAnd_Every, T.su_Every_Item⟩⟩
    · cases (show some A.Item = some C from h1); cases (show some A.Some = some D from h2); exact ⟨T.sf_Item, T.sf_Some, fun ne => ⟨T.rn_BitAnd_Item, (let ⟨g, _, _, q, _⟩ := T.m_Some___and__.ex; ⟨g, q⟩), T.rn_BitAnd_Some, T.su_Some_Item⟩⟩
    · cases (show some A.Item = some C from h1); cases (show some A.Both = some D from h2); exact ⟨T.sf_Item, T.sf_Both, fun ne => ⟨T.rn_BitAnd_Item, (let ⟨g, _, _, q, _⟩ := T.m_Both___and__.ex; ⟨g, q⟩), T.rn_BitAnd_Both, T.su_Both_Item⟩⟩
    · cases (show some A.Item = some C from h1); cases (show some A.Either = some D from h2); exact ⟨T.sf_Item, T.sf_Either, fun ne => ⟨T.rn_BitAnd_Item, (let ⟨g, _, _, q, _⟩ := T.m_Either___and__.ex; ⟨g, q⟩), T.rn_BitAnd_Either, T.su_Either_Item⟩⟩
    · cases (show some A.Item = some C from h1); cases (show some A.Inverse = some D from h2); exact ⟨T.sf_Item, T.sf_Inverse, fun ne => ⟨T.rn_BitAnd_Item, (let ⟨g, _, _, q, _⟩ := T.m_Inverse___and__.ex; ⟨g, q⟩), T.rn_BitAnd_Inverse, T.su_Inverse_Item⟩⟩
  · cases τ2
    · cases (show some A.Before = some C from h1); cases (show some A.Kind = some D from h2); exact ⟨T.sf_Before, T.sf_Kind, fun ne => ⟨T.rn_BitAnd_Before, (let ⟨g, _, _, q, _⟩ := T.m_Kind___and__.ex; ⟨g, q⟩), T.rn_BitAnd_Kind, T.su_Kind_Before⟩⟩
    · cases (show some A.Before = some C from h1); cases (show some A.Equals = some D from h2); exact ⟨T.sf_Before, T.sf_Equals, fun ne => ⟨T.rn_BitAnd_Before, (let ⟨g, _, _, q, _⟩ := T.m_Equals___and__.ex; ⟨g, q⟩), T.rn_BitAnd_Equals, T.su_Equals_Before⟩⟩
    · cases (show some A.Before = some C from h1); cases (show some A.Size = some D from h2); exact ⟨T.sf_Before, T.sf_Size, fun ne => ⟨T.rn_BitAnd_Before, (let ⟨g, _, _, q, _⟩ := T.m_Size___and__.ex; ⟨g, q⟩), T.rn_BitAnd_Size, T.su_Size_Before⟩⟩
    · cases (show some A.Before = some C from h1); cases (show some A.Has = some D from h2); exact ⟨T.sf_Before, T.sf_Has, fun ne => ⟨T.rn_BitAnd_Before, (let ⟨g, _, _, q, _⟩ := T.m_Has___and__.ex; ⟨g, q⟩), T.rn_BitAnd_Has, T.su_Has_Before⟩⟩
    · cases (show some A.Before = some C from h1); cases (show some A.Item = some D from h2); exact ⟨T.sf_Before, T.sf_Item, fun ne => ⟨T.rn_BitAnd_Before, (let ⟨g, _, _, q, _⟩ := T.m_Item___and__.ex; ⟨g, q⟩), T.rn_BitAnd_Item, T.su_Item_Before⟩⟩
    · cases (show some A.Before = some C from h1); cases (show some A.Before = some D from h2); exact ⟨T.sf_Before, T.sf_Before, fun ne => absurd rfl ne⟩
    · cases (show some A.Before = some C from h1); cases (show some A.First = some D from h2); exact ⟨T.sf_Before, T.sf_First, fun ne => ⟨T.rn_BitAnd_Before, (let ⟨g, _, _, q, _⟩ := T.m_First___and__.ex; ⟨g, q⟩), T.rn_BitAnd_First, T.su_First_Before⟩⟩
    · cases (show some A.Before = some C from h1); cases (show some A.Every = some D from h2); exact ⟨T.sf_Before, T.sf_Every, fun ne => ⟨T.rn_BitAnd_Before, (let ⟨g, _, _, q, _⟩ := T.m_Every___and__.ex; ⟨g, q⟩), T.rn_BitAnd_Every, T.su_Every_Before⟩⟩
    · cases (show some A.Before = some C from h1); cases (show some A.Some = some D from h2); exact ⟨T.sf_Before, T.sf_Some, fun ne => ⟨T.rn_BitAnd_Before, (let ⟨g, _, _, q, _⟩ := T.m_Some___and__.ex; ⟨g, q⟩), T.rn_BitAnd_Some, T.su_Some_Before⟩⟩
    · cases (show some A.Before = some C from h1); cases (show some A.Both = some D from h2); exact ⟨T.sf_Before, T.sf_Both, fun ne => ⟨T.rn_BitAnd_Before, (let ⟨g, _, _, q, _⟩ := T.m_Both___and__.ex; ⟨g, q⟩), T.rn_BitAnd_Both, T.su_Both_Before⟩⟩
    · cases (show some A.Before = some C from h1); cases (show some A.Either = some D from h2); exact ⟨T.sf_Before, T.sf_Either, fun ne => ⟨T.rn_BitAnd_Before, (let ⟨g, _, _, q, _⟩ := T.m_Either___and__.ex; ⟨g, q⟩), T.rn_BitAnd_Either, T.su_Either_Before⟩⟩
    · cases (show some A.Before = some C from h1); cases (show some A.Inverse = some D from h2); exact ⟨T.sf_Before, T.sf_Inverse, fun ne => ⟨T.rn_BitAnd_Before, (let ⟨g, _, _, q, _⟩ := T.m_Inverse___and__.ex; ⟨g, q⟩), T.rn_BitAnd_Inverse, T.su_Inverse_Before⟩⟩
  · cases τ2
    · cases (show some A.First = some C from h1); cases (show some A.Kind = some D from h2); exact ⟨T.sf_First, T.sf_Kind, fun ne => ⟨T.rn_BitAnd_First, (let ⟨g, _, _, q, _⟩ := T.m_Kind___and__.ex; ⟨g, q⟩), T.rn_BitAnd_Kind, T.su_Kind_First⟩⟩
    · cases (show some A.First = some C from h1); cases (show some A.Equals = some D from h2); exact ⟨T.sf_First, T.sf_Equals, fun ne => ⟨T.rn_BitAnd_First, (let ⟨g, _, _, q, _⟩ := T.m_Equals___and__.ex; ⟨g, q⟩), T.rn_BitAnd_Equals, T.su_Equals_First⟩⟩
    · cases (show some A.First = some C from h1); cases (show some A.Size = some D from h2); exact ⟨T.sf_First, T.sf_Size, fun ne => ⟨T.rn_BitAnd_First, (let ⟨g, _, _, q, _⟩ := T.m_Size___and__.ex; ⟨g, q⟩), T.rn_BitAnd_Size, T.su_Size_First⟩⟩
    · cases (show some A.First = some C from h1); cases (show some A.Has = some D from h2); exact ⟨T.sf_First, T.sf_Has, fun ne => ⟨T.rn_BitAnd_First, (let ⟨g, _, _, q, _⟩ := T.m_Has___and__.ex; ⟨g, q⟩), T.rn_BitAnd_Has, T.su_Has_First⟩⟩
    · cases (show some A.First = some C from h1); cases (show some A.Item = some D from h2); exact ⟨T.sf_First, T.sf_Item, fun ne => ⟨T.rn_BitAnd_First, (let ⟨g, _, _, q, _⟩ := T.m_Item___and__.ex; ⟨g, q⟩), T.rn_BitAnd_Item, T.su_Item_First⟩⟩
    · cases (show some A.First = some C from h1); cases (show some A.Before = some D from h2); exact ⟨T.sf_First, T.sf_Before, fun ne => ⟨T.rn_BitAnd_First, (let ⟨g, _, _, q, _⟩ := T.m_Before___and__.ex; ⟨g, q⟩), T.rn_BitAnd_Before, T.su_Before_First⟩⟩
    · cases (show some A.First = some C from h1); cases (show some A.First = some D from h2); exact ⟨T.sf_First, T.sf_First, fun ne => absurd rfl ne⟩
    · cases (show some A.First = some C from h1); cases (show some A.Every = some D from h2); exact ⟨T.sf_First, T.sf_Every, fun ne => ⟨T.rn_BitAnd_First, (let ⟨g, _, _, q, _⟩ := T.m_Every___and__.ex; ⟨g, q⟩), T.rn_BitAnd_Every, T.su_Every_First⟩⟩
    · cases (show some A.First = some C from h1); cases (show some A.Some = some D from h2); exact ⟨T.sf_First, T.sf_Some, fun ne => ⟨T.rn_BitAnd_First, (let ⟨g, _, _, q, _⟩ := T.m_Some___and__.ex; ⟨g, q⟩), T.rn_BitAnd_Some, T.su_Some_First⟩⟩
    · cases (show some A.First = some C from h1); cases (show some A.Both = some D from h2); exact ⟨T.sf_First, T.sf_Both, fun ne => ⟨T.rn_BitAnd_First, (let ⟨g, _, _, q, _⟩ := T.m_Both___and__.ex; ⟨g, q⟩), T.rn_BitAnd_Both, T.su_Both_First⟩⟩
    · cases (show some A.First = some C from h1); cases (show some A.Either = some D from h2); exact ⟨T.sf_First, T.sf_Either, fun ne => ⟨T.rn_BitAnd_First, (let ⟨g, _, _, q, _⟩ := T.m_Either___and__.ex; ⟨g, q⟩), T.rn_BitAnd_Either, T.su_Either_First⟩⟩
    · cases (show some A.First = some C from h1); cases (show some A.Inverse = some D from h2); exact ⟨T.sf_First, T.sf_Inverse, fun ne => ⟨T.rn_BitAnd_First, (let ⟨g, _, _, q, _⟩ := T.m_Inverse___and__.ex; ⟨g, q⟩), T.rn_BitAnd_Inverse, T.su_Inverse_First⟩⟩
  · cases τ2
    · cases (show some A.Every = some C from h1); cases (show some A.Kind = some D from h2); exact ⟨T.sf_Every, T.sf_Kind, fun ne => ⟨T.rn_BitAnd_Every, (let ⟨g, _, _, q, _⟩ := T.m_Kind___and__.ex; ⟨g, q⟩), T.rn_BitAnd_Kind, T.su_Kind_Every⟩⟩
    · cases (show some A.Every = some C from h1); cases (show some A.Equals = some D from h2); exact ⟨T.sf_Every, T.sf_Equals, fun ne => ⟨T.rn_BitAnd_Every, (let ⟨g, _, _, q, _⟩ := T.m_Equals___and__.ex; ⟨g, q⟩), T.rn_BitAnd_Equals, T.su_Equals_Every⟩⟩
    · cases (show some A.Every = some C from h1); cases (show some A.Size = some D from h2); exact ⟨T.sf_Every, T.sf_Size, fun ne => ⟨T.rn_BitAnd_Every, (let ⟨g, _, _, q, _⟩ := T.m_Size___and__.ex; ⟨g, q⟩), T.rn_BitAnd_Size, T.su_Size_Every⟩⟩
    · cases (show some A.Every = some C from h1); cases (show some A.Has = some D from h2); exact ⟨T.sf_Every, T.sf_Has, fun ne => ⟨T.rn_BitAnd_Every, (let ⟨g, _, _, q, _⟩ := T.m_Has___and__.ex; ⟨g, q⟩), T.rn_BitAnd_Has, T.su_Has_Every⟩⟩
    · cases (show some A.Every = some C from h1); cases (show some A.Item = some D from h2); exact ⟨T.sf_Every, T.sf_Item, fun ne => ⟨T.rn_BitAnd_Every, (let ⟨g, _, _, q, _⟩ := T.m_Item___and__.ex; ⟨g, q⟩), T.rn_BitAnd_Item, T.su_Item_Every⟩⟩
    · cases (show some A.Every = some C from h1); cases (show some A.Before = some D from h2); exact ⟨T.sf_Every, T.sf_Before, fun ne => ⟨T.rn_BitAnd_Every, (let ⟨g, _, _, q, _⟩ := T.m_Before___and__.ex; ⟨g, q⟩), T.rn_BitAnd_Before, T.su_Before_Every⟩⟩
    · cases (show some A.Every = some C from h1); cases (show some A.First = some D from h2); exact ⟨T.sf_Every, T.sf_First, fun ne => ⟨T.rn_BitAnd_Every, (let ⟨g, _, _, q, _⟩ := T.m_First___and__.ex; ⟨g, q⟩), T.rn_BitAnd_First, T.su_First_Every⟩⟩
    · cases (show some A.Every = some C from h1); cases (show some A.Every = some D from h2); exact ⟨T.sf_Every, T.sf_Every, fun ne => absurd rfl ne⟩
    · cases (show some A.Every = some C from h1); cases (show some A.Some = some D from h2); exact ⟨T.sf_Every, T.sf_Some, fun ne => ⟨T.rn_BitAnd_Every, (let ⟨g, _, _, q, _⟩ := T.m_Some___and__.ex; ⟨g, q⟩), T.rn_BitAnd_Some, T.su_Some_Every⟩⟩
    · cases (show some A.Every = some C from h1); cases (show some A.Both = some D from h2); exact ⟨T.sf_Every, T.sf_Both, fun ne => ⟨T.rn_BitAnd_Every, (let ⟨g, _, _, q, _⟩ := T.m_Both___and__.ex; ⟨g, q⟩), T.rn_BitAnd_Both, T.su_Both_Every⟩⟩
    · cases (show some A.Every = some C from h1); cases (show some A.Either = some D from h2); exact ⟨T.sf_Every, T.sf_Either, fun ne => ⟨T.rn_BitAnd_Every, (let ⟨g, _, _, q, _⟩ := T.m_Either___and__.ex; ⟨g, q⟩), T.rn_BitAnd_Either, T.su_Either_Every⟩⟩
    · cases (show some A.Every = some C from h1); cases (show some A.Inverse = some D from h2); exact ⟨T.sf_Every, T.sf_Inverse, fun ne => ⟨T.rn_BitAnd_Every, (let ⟨g, _, _, q, _⟩ := T.m_Inverse___and__.ex; ⟨g, q⟩), T.rn_BitAnd_Inverse, T.su_Inverse_Every⟩⟩
  · cases τ2
    · cases (show some A.Some = some C from h1); cases (show some A.Kind = some D from h2); exact ⟨T.sf_Some, T.sf_Kind, fun ne => ⟨T.rn_BitAnd_Some, (let ⟨g, _, _, q, _⟩ := T.m_Kind___and__.ex; ⟨g, q⟩), T.rn_BitAnd_Kind, T.su_Kind_Some⟩⟩
    · cases (show some A.Some = some C from h1); cases (show some A.Equals = some D from h2); exact ⟨T.sf_Some, T.sf_Equals, fun ne => ⟨T.rn_BitAnd_Some, (let ⟨g, _, _, q, _⟩ := T.m_Equals___and__.ex; ⟨g, q⟩), T.rn_BitAnd_Equals, T.su_Equals_Some⟩⟩
    · cases (show some A.Some = some C from h1); cases (show some A.Size = some D from h2); exact ⟨T.sf_Some, T.sf_Size, fun ne => ⟨T.rn_BitAnd_Some, (let ⟨g, _, _, q, _⟩ := T.m_Size___and__.ex; ⟨g, q⟩), T.rn_BitAnd_Size, T.su_Size_Some⟩⟩
    · cases (show some A.Some = some C from h1); cases (show some A.Has = some D from h2); exact ⟨T.sf_Some, T.sf_Has, fun ne => ⟨T.rn_BitAnd_Some, (let ⟨g, _, _, q, _⟩ := T.m_Has___and__.ex; ⟨g, q⟩), T.rn_BitAnd_Has, T.su_Has_Some⟩⟩
    · cases (show some A.Some = some C from h1); cases (show some A.Item = some D from h2); exact ⟨T.sf_Some, T.sf_Item, fun ne => ⟨T.rn_BitAnd_Some, (let ⟨g, _, _, q, _⟩ := T.m_Item___and__.ex; ⟨g, q⟩), T.rn_BitAnd_Item, T.su_Item_Some⟩⟩
    · cases (show some A.Some = some C from h1); cases (show some A.Before = some D from h2); exact ⟨T.sf_Some, T.sf_Before, fun ne => ⟨T.rn_BitAnd_Some, (let ⟨g, _, _, q, _⟩ := T.m_Before___and__.ex; ⟨g, q⟩), T.rn_BitAnd_Before, T.su_Before_Some⟩⟩
    · cases (show some A.Some = some C from h1); cases (show some A.First = some D from h2); exact ⟨T.sf_Some, T.sf_First, fun ne => ⟨T.rn_BitAnd_Some, (let ⟨g, _, _, q, _⟩ := T.m_First___and__.ex; ⟨g, q⟩), T.rn_BitAnd_First, T.su_First_Some⟩⟩
    · cases (show some A.Some = some C from h1); cases (show some A.Every = some D from h2); exact ⟨T.sf_Some, T.sf_Every, fun ne => ⟨T.rn_BitAnd_Some, (let ⟨g, _, _, q, _⟩ := T.m_Every___and__.ex; ⟨g, q⟩), T.rn_BitAnd_Every, T.su_Every_Some⟩⟩
    · cases (show some A.Some = some C from h1); cases (show some A.Some = some D from h2); exact ⟨T.sf_Some, T.sf_Some, fun ne => absurd rfl ne⟩
    · cases (show some A.Some = some C from h1); cases (show some A.Both = some D from h2); exact ⟨T.sf_Some, T.sf_Both, fun ne => ⟨T.rn_BitAnd_Some, (let ⟨g, _, _, q, _⟩ := T.m_Both___and__.ex; ⟨g, q⟩), T.rn_BitAnd_Both, T.su_Both_Some⟩⟩
    · cases (show some A.Some = some C from h1); cases (show some A.Either = some D from h2); exact ⟨T.sf_Some, T.sf_Either, fun ne => ⟨T.rn_BitAnd_Some, (let ⟨g, _, _, q, _⟩ := T.m_Either___and__.ex; ⟨g, q⟩), T.rn_BitAnd_Either, T.su_Either_Some⟩⟩
    · cases (show some A.Some = some C from h1); cases (show some A.Inverse = some D from h2); exact ⟨T.sf_Some, T.sf_Inverse, fun ne => ⟨T.rn_BitAnd_Some, (let ⟨g, _, _, q, _⟩ := T.m_Inverse___and__.ex; ⟨g, q⟩), T.rn_BitAnd_Inverse, T.su_Inverse_Some⟩⟩
  · cases τ2
    · cases (show some A.Both = some C from h1); cases (show some A.Kind = some D from h2); exact ⟨T.sf_Both, T.sf_Kind, fun ne => ⟨T.rn_BitAnd_Both, (let ⟨g, _, _, q, _⟩ := T.m_Kind___and__.ex; ⟨g, q⟩), T.rn_BitAnd_Kind, T.su_Kind_Both⟩⟩
    · cases (show some A.Both = some C from h1); cases (show some A.Equals = some D from h2); exact ⟨T.sf_Both, T.sf_Equals, fun ne => ⟨T.rn_BitAnd_Both, (let ⟨g, _, _, q, _⟩ := T.m_Equals___and__.ex; ⟨g, q⟩), T.rn_BitAnd_Equals, T.su_Equals_Both⟩⟩
    · cases (show some A.Both = some C from h1); cases (show some A.Size = some D from h2); exact ⟨T.sf_Both, T.sf_Size, fun ne => ⟨T.rn_BitAnd_Both, (let ⟨g, _, _, q, _⟩ := T.m_Size___and__.ex; ⟨g, q⟩), T.rn_BitAnd_Size, T.su_Size_Both⟩⟩
    · cases (show some A.Both = some C from h1); cases (show some A.Has = some D from h2); exact ⟨T.sf_Both, T.sf_Has, fun ne => ⟨T.rn_BitAnd_Both, (let ⟨g, _, _, q, _⟩ := T.m_Has___and__.ex; ⟨g, q⟩), T.rn_BitAnd_Has, T.su_Has_Both⟩⟩
    · cases (show some A.Both = some C from h1); cases (show some A.Item = some D from h2); exact ⟨T.sf_Both, T.sf_Item, fun ne => ⟨T.rn_BitAnd_Both, (let ⟨g, _, _, q, _⟩ := T.m_Item___and__.ex; ⟨g, q⟩), T.rn_BitAnd_Item, T.su_Item_Both⟩⟩
    · cases (show some A.Both = some C from h1); cases (show some A.Before = some D from h2); exact ⟨T.sf_Both, T.sf_Before, fun ne => ⟨T.rn_BitAnd_Both, (let ⟨g, _, _, q, _⟩ := T.m_Before___and__.ex; ⟨g, q⟩), T.rn_BitAnd_Before, T.su_Before_Both⟩⟩
    · cases (show some A.Both = some C from h1); cases (show some A.First = some D from h2); exact ⟨T.sf_Both, T.sf_First, fun ne => ⟨T.rn_BitAnd_Both, (let ⟨g, _, _, q, _⟩ := T.m_First___and__.ex; ⟨g, q⟩), T.rn_BitAnd_First, T.su_First_Both⟩⟩
    · cases (show some A.Both = some C from h1); cases (show some A.Every = some D from h2); exact ⟨T.sf_Both, T.sf_Every, fun ne => ⟨T.rn_BitAnd_Both, (let ⟨g, _, _, q, _⟩ := T.m_Every___and__.ex; ⟨g, q⟩), T.rn_BitAnd_Every, T.su_Every_Both⟩⟩
    · cases (show some A.Both = some C from h1); cases (show some A.Some = some D from h2); exact ⟨T.sf_Both, T.sf_Some, fun ne => ⟨T.rn_BitAnd_Both, (let ⟨g, _, _, q, _⟩ := T.m_Some___and__.ex; ⟨g, q⟩), T.rn_BitAnd_Some, T.su_Some_Both⟩⟩
    · cases (show some A.Both = some C from h1); cases (show some A.Both = some D from h2); exact ⟨T.sf_Both, T.sf_Both, fun ne => absurd rfl ne⟩
    · cases (show some A.Both = some C from h1); cases (show some A.Either = some D from h2); exact ⟨T.sf_Both, T.sf_Either, fun ne => ⟨T.rn_BitAnd_Both, (let ⟨g, _, _, q, _⟩ := T.m_Either___and__.ex; ⟨g, q⟩), T.rn_BitAnd_Either, T.su_Either_Both⟩⟩
    · cases (show some A.Both = some C from h1); cases (show some A.Inverse = some D from h2); exact ⟨T.sf_Both, T.sf_Inverse, fun ne => ⟨T.rn_BitAnd_Both, (let ⟨g, _, _, q, _⟩ := T.m_Inverse___and__.ex; ⟨g, q⟩), T.rn_BitAnd_Inverse, T.su_Inverse_Both⟩⟩
  · cases τ2
    · cases (show some A.Either = some C from h1); cases (show some A.Kind = some D from h2); exact ⟨T.sf_Either, T.sf_Kind, fun ne => ⟨T.rn_BitAnd_Either, (let ⟨g, _, _, q, _⟩ := T.m_Kind___and__.ex; ⟨g, q⟩), T.rn_BitAnd_Kind, T.su_Kind_Either⟩⟩
    · cases (show some A.Either = some C from h1); cases (show some A.Equals = some D from h2); exact ⟨T.sf_Either, T.sf_Equals, fun ne => ⟨T.rn_BitAnd_Either, (let ⟨g, _, _, q, _⟩ := T.m_Equals___and__.ex; ⟨g, q⟩), T.rn_BitAnd_Equals, T.su_Equals_Either⟩⟩
    · cases (show some A.Either = some C from h1); cases (show some A.Size = some D from h2); exact ⟨T.sf_Either, T.sf_Size, fun ne => ⟨T.rn_BitAnd_Either, (let ⟨g, _, _, q, _⟩ := T.m_Size___and__.ex; ⟨g, q⟩), T.rn_BitAnd_Size, T.su_Size_Either⟩⟩
    · cases (show some A.Either = some C from h1); cases (show some A.Has = some D from h2); exact ⟨T.sf_Either, T.sf_Has, fun ne => ⟨T.rn_BitAnd_Either, (let ⟨g, _, _, q, _⟩ := T.m_Has___and__.ex; ⟨g, q⟩), T.rn_BitAnd_Has, T.su_Has_Either⟩⟩
    · cases (show some A.Either = some C from h1); cases (show some A.Item = some D from h2); exact ⟨T.sf_Either, T.sf_Item, fun ne => ⟨T.rn_BitAnd_Either, (let ⟨g, _, _, q, _⟩ := T.m_Item___and__.ex; ⟨g, q⟩), T.rn_BitAnd_Item, T.su_Item_Either⟩⟩
    · cases (show some A.Either = some C from h1); cases (show some A.Before = some D from h2); exact ⟨T.sf_Either, T.sf_Before, fun ne => ⟨T.rn_BitAnd_Either, (let ⟨g, _, _, q, _⟩ := T.m_Before___and__.ex; ⟨g, q⟩), T.rn_BitAnd_Before, T.su_Before_Either⟩⟩
    · cases (show some A.Either = some C from h1); cases (show some A.First = some D from h2); exact ⟨T.sf_Either, T.sf_First, fun ne => ⟨T.rn_BitAnd_Either, (let ⟨g, _, _, q, _⟩ := T.m_First___and__.ex; ⟨g, q⟩), T.rn_BitAnd_First, T.su_First_Either⟩⟩
    · cases (show some A.Either = some C from h1); cases (show some A.Every = some D from h2); exact ⟨T.sf_Either, T.sf_Every, fun ne => ⟨T.rn_BitAnd_Either, (let ⟨g, _, _, q, _⟩ := T.m_Every___and__.ex; ⟨g, q⟩), T.rn_BitAnd_Every, T.su_Every_Either⟩⟩
    · cases (show some A.Either = some C from h1); cases (show some A.Some = some D from h2); exact ⟨T.sf_Either, T.sf_Some, fun ne => ⟨T.rn_BitAnd_Either, (let ⟨g, _, _, q, _⟩ := T.m_Some___and__.ex; ⟨g, q⟩), T.rn_BitAnd_Some, T.su_Some_Either⟩⟩
    · cases (show some A.Either = some C from h1); cases (show some A.Both = some D from h2); exact ⟨T.sf_Either, T.sf_Both, fun ne => ⟨T.rn_BitAnd_Either, (let ⟨g, _, _, q, _⟩ := T.m_Both___and__.ex; ⟨g, q⟩), T.rn_BitAnd_Both, T.su_Both_Either⟩⟩
    · cases (show some A.Either = some C from h1); cases (show some A.Either = some D from h2); exact ⟨T.sf_Either, T.sf_Either, fun ne => absurd rfl ne⟩
    · cases (show some A.Either = some C from h1); cases (show some A.Inverse = some D from h2); exact ⟨T.sf_Either, T.sf_Inverse, fun ne => ⟨T.rn_BitAnd_Either, (let ⟨g, _, _, q, _⟩ := T.m_Inverse___and__.ex; ⟨g, q⟩), T.rn_BitAnd_Inverse, T.su_Inverse_Either⟩⟩
  · cases τ2
    · cases (show some A.Inverse = some C from h1); cases (show some A.Kind = some D from h2); exact ⟨T.sf_Inverse, T.sf_Kind, fun ne => ⟨T.rn_BitAnd_Inverse, (let ⟨g, _, _, q, _⟩ := T.m_Kind___and__.ex; ⟨g, q⟩), T.rn_BitAnd_Kind, T.su_Kind_Inverse⟩⟩
    · cases (show some A.Inverse = some C from h1); cases (show some A.Equals = some D from h2); exact ⟨T.sf_Inverse, T.sf_Equals, fun ne => ⟨T.rn_BitAnd_Inverse, (let ⟨g, _, _, q, _⟩ := T.m_Equals___and__.ex; ⟨g, q⟩), T.rn_BitAnd_Equals, T.su_Equals_Inverse⟩⟩
    · cases (show some A.Inverse = some C from h1); cases (show some A.Size = some D from h2); exact ⟨T.sf_Inverse, T.sf_Size, fun ne => ⟨T.rn_BitAnd_Inverse, (let ⟨g, _, _, q, _⟩ := T.m_Size___and__.ex; ⟨g, q⟩), T.rn_BitAnd_Size, T.su_Size_Inverse⟩⟩
    · cases (show some A.Inverse = some C from h1); cases (show some A.Has = some D from h2); exact ⟨T.sf_Inverse, T.sf_Has, fun ne => ⟨T.rn_BitAnd_Inverse, (let ⟨g, _, _, q, _⟩ := T.m_Has___and__.ex; ⟨g, q⟩), T.rn_BitAnd_Has, T.su_Has_Inverse⟩⟩
    · cases (show some A.Inverse = some C from h1); cases (show some A.Item = some D from h2); exact ⟨T.sf_Inverse, T.sf_Item, fun ne => ⟨T.rn_BitAnd_Inverse, (let ⟨g, _, _, q, _⟩ := T.m_Item___and__.ex; ⟨g, q⟩), T.rn_BitAnd_Item, T.su_Item_Inverse⟩⟩
    · cases (show some A.Inverse = some C from h1); cases (show some A.Before = some D from h2); exact ⟨T.sf_Inverse, T.sf_Before, fun ne => ⟨T.rn_BitAnd_Inverse, (let ⟨g, _, _, q, _⟩ := T.m_Before___and__.ex; ⟨g, q⟩), T.rn_BitAnd_Before, T.su_Before_Inverse⟩⟩
    · cases (show some A.Inverse = some C from h1); cases (show some A.First = some D from h2); exact ⟨T.sf_Inverse, T.sf_First, fun ne => ⟨T.rn_BitAnd_Inverse, (let ⟨g, _, _, q, _⟩ := T.m_First___and__.ex; ⟨g, q⟩), T.rn_BitAnd_First, T.su_First_Inverse⟩⟩
    · cases (show some A.Inverse = some C from h1); cases (show some A.Every = some D from h2); exact ⟨T.sf_Inverse, T.sf_Every, fun ne => ⟨T.rn_BitAnd_Inverse, (let ⟨g, _, _, q, _⟩ := T.m_Every___and__.ex; ⟨g, q⟩), T.rn_BitAnd_Every, T.su_Every_Inverse⟩⟩
    · cases (show some A.Inverse = some C from h1); cases (show some A.Some = some D from h2); exact ⟨T.sf_Inverse, T.sf_Some, fun ne => ⟨T.rn_BitAnd_Inverse, (let ⟨g, _, _, q, _⟩ := T.m_Some___and__.ex; ⟨g, q⟩), T.rn_BitAnd_Some, T.su_Some_Inverse⟩⟩
    · cases (show some A.Inverse = some C from h1); cases (show some A.Both = some D from h2); exact ⟨T.sf_Inverse, T.sf_Both, fun ne => ⟨T.rn_BitAnd_Inverse, (let ⟨g, _, _, q, _⟩ := T.m_Both___and__.ex; ⟨g, q⟩), T.rn_BitAnd_Both, T.su_Both_Inverse⟩⟩
    · cases (show some A.Inverse = some C from h1); cases (show some A.Either = some D from h2); exact ⟨T.sf_Inverse, T.sf_Either, fun ne => ⟨T.rn_BitAnd_Inverse, (let ⟨g, _, _, q, _⟩ := T.m_Either___and__.ex; ⟨g, q⟩), T.rn_BitAnd_Either, T.su_Either_Inverse⟩⟩
    · cases (show some A.Inverse = some C from h1); cases (show some A.Inverse = some D from h2); exact ⟨T.sf_Inverse, T.sf_Inverse, fun ne => absurd rfl ne⟩
theorem Top.ob_BitOr {K : PySem.W.Frag} {mg : Str → Option Value} {A : Adr} (T : Top K mg A) : ∀ τ τ2 C D, (caA A).adr τ = some C → (caA A).adr τ2 = some D → OwnBin K .BitOr C D := by
  intro τ τ2 C D h1 h2
  cases τ
  · cases τ2
    · cases (show some A.Kind = some C from h1); cases (show some A.Kind = some D from h2); exact ⟨T.sf_Kind, T.sf_Kind, fun ne => absurd rfl ne⟩
    · cases (show some A.Kind = some C from h1); cases (show some A.Equals = some D from h2); exact ⟨T.sf_Kind, T.sf_Equals, fun ne => ⟨T.rn_BitOr_Kind, (let ⟨g, _, _, q, _⟩ := T.m_Equals___or__.ex; ⟨g, q⟩), T.rn_BitOr_Equals, T.su_Equals_Kind⟩⟩
    · cases (show some A.Kind = some C from h1); cases (show some A.Size = some D from h2); exact ⟨T.sf_Kind, T.sf_Size, fun ne => ⟨T.rn_BitOr_Kind, (let ⟨g, _, _, q, _⟩ := T.m_Size___or__.ex; ⟨g, q⟩), T.rn_BitOr_Size, T.su_Size_Kind⟩⟩
    · cases (show some A.Kind = some C from h1); cases (show some A.Has = some D from h2); exact ⟨T.sf_Kind, T.sf_Has, fun ne => ⟨T.rn_BitOr_Kind, (let ⟨g, _, _, q, _⟩ := T.m_Has___or__.ex; ⟨g, q⟩), T.rn_BitOr_Has, T.su_Has_Kind⟩⟩
    · cases (show some A.Kind = some C from h1); cases (show some A.Item = some D from h2); exact ⟨T.sf_Kind, T.sf_Item, fun ne => ⟨T.rn_BitOr_Kind, (let ⟨g, _, _, q, _⟩ := T.m_Item___or__.ex; ⟨g, q⟩), T.rn_BitOr_Item, T.su_Item_Kind⟩⟩
    · cases (show some A.Kind = some C from h1); cases (show some A.Before = some D from h2); exact ⟨T.sf_Kind, T.sf_Before, fun ne => ⟨T.rn_BitOr_Kind, (let ⟨g, _, _, q, _⟩ := T.m_Before___or__.ex; ⟨g, q⟩), T.rn_BitOr_Before, T.su_Before_Kind⟩⟩
    · cases (show some A.Kind = some C from h1); cases (show some A.First = some D from h2); exact ⟨T.sf_Kind, T.sf_First, fun ne => ⟨T.rn_BitOr_Kind, (let ⟨g, _, _, q, _⟩ := T.m_First___or__.ex; ⟨g, q⟩), T.rn_BitOr_First, T.su_First_Kind⟩⟩
    · cases (show some A.Kind = some C from h1); cases (show some A.Every = some D from h2); exact ⟨T.sf_Kind, T.sf_Every, fun ne => ⟨T.rn_BitOr_Kind, (let ⟨g, _, _, q, _⟩ := T.m_Every___or__.ex; ⟨g, q⟩), T.rn_BitOr_Every, T.su_Every_Kind⟩⟩
    · cases (show some A.Kind = some C from h1); cases (show some A.Some = some D from h2); exact ⟨T.sf_Kind, T.sf_Some, fun ne => ⟨T.rn_BitOr_Kind, (let ⟨g, _, _, q, _⟩ := T.m_Some___or__.ex; ⟨g, q⟩), T.rn_BitOr_Some, T.su_Some_Kind⟩⟩
    · cases (show some A.Kind = some C from h1); cases (show some A.Both = some D from h2); exact ⟨T.sf_Kind, T.sf_Both, fun ne => ⟨T.rn_BitOr_Kind, (let ⟨g, _, _, q, _⟩ := T.m_Both___or__.ex; ⟨g, q⟩), T.rn_BitOr_Both, T.su_Both_Kind⟩⟩
    · cases (show some A.Kind = some C from h1); cases (show some A.Either = some D from h2); exact ⟨T.sf_Kind, T.sf_Either, fun ne => ⟨T.rn_BitOr_Kind, (let ⟨g, _, _, q, _⟩ := T.m_Either___or__.ex; ⟨g, q⟩), T.rn_BitOr_Either, T.su_Either_Kind⟩⟩
    · cases (show some A.Kind = some C from h1); cases (show some A.Inverse = some D from h2); exact ⟨T.sf_Kind, T.sf_Inverse, fun ne => ⟨T.rn_BitOr_Kind, (let ⟨g, _, _, q, _⟩ := T.m_Inverse___or__.ex; ⟨g, q⟩), T.rn_BitOr_Inverse, T.su_Inverse_Kind⟩⟩
  · cases τ2
    · cases (show some A.Equals = some C from h1); cases (show some A.Kind = some D from h2); exact ⟨T.sf_Equals, T.sf_Kind, fun ne => ⟨T.rn_BitOr_Equals, (let ⟨g, _, _, q, _⟩ := T.m_Kind___or__.ex; ⟨g, q⟩), T.rn_BitOr_Kind, T.su_Kind_Equals⟩⟩
    · cases (show some A.Equals = some C from h1); cases (show some A.Equals = some D from h2); exact ⟨T.sf_Equals, T.sf_Equals, fun ne => absurd rfl ne⟩
    · cases (show some A.Equals = some C from h1); cases (show some A.Size = some D from h2); exact ⟨T.sf_Equals, T.sf_Size, fun ne => ⟨T.rn_BitOr_Equals, (let ⟨g, _, _, q, _⟩ := T.m_Size___or__.ex; ⟨g, q⟩), T.rn_BitOr_Size, T.su_Size_Equals⟩⟩
    · cases (show some A.Equals = some C from h1); cases (show some A.Has = some D from h2); exact ⟨T.sf_Equals, T.sf_Has, fun ne => ⟨T.rn_BitOr_Equals, (let ⟨g, _, _, q, _⟩ := T.m_Has___or__.ex; ⟨g, q⟩), T.rn_BitOr_Has, T.su_Has_Equals⟩⟩
    · cases (show some A.Equals = some C from h1); cases (show some A.Item = some D from h2); exact ⟨T.sf_Equals, T.sf_Item, fun ne => ⟨T.rn_BitOr_Equals, (let ⟨g, _, _, q, _⟩ := T.m_Item___or__.ex; ⟨g, q⟩), T.rn_BitOr_Item, T.su_Item_Equals⟩⟩
    · cases (show some A.Equals = some C from h1); cases (show some A.Before = some D from h2); exact ⟨T.sf_Equals, T.sf_Before, fun ne => ⟨T.rn_BitOr_Equals, (let ⟨g, _, _, q, _⟩ := T.m_Before___or__.ex; ⟨g, q⟩), T.rn_BitOr_Before, T.su_Before_Equals⟩⟩
    · cases (show some A.Equals = some C from h1); cases (show some A.First = some D from h2); exact ⟨T.sf_Equals, T.sf_First, fun ne => ⟨T.rn_BitOr_Equals, (let ⟨g, _, _, q, _⟩ := T.m_First___or__.ex; ⟨g, q⟩), T.rn_BitOr_First, T.su_First_Equals⟩⟩
    · cases (show some A.Equals = some C from h1); cases (show some A.Every = some D from h2); exact ⟨T.sf_Equals, T.sf_Every, fun ne => ⟨T.rn_BitOr_Equals, (let ⟨g, _, _, q, _⟩ := T.m_Every___or__.ex; ⟨g, q⟩), T.rn_BitOr_Every, T.su_Every_Equals⟩⟩
    · cases (show some A.Equals = some C from h1); cases (show some A.Some = some D from h2); exact ⟨T.sf_Equals, T.sf_Some, fun ne => ⟨T.rn_BitOr_Equals, (let ⟨g, _, _, q, _⟩ := T.m_Some___or__.ex; ⟨g, q⟩), T.rn_BitOr_Some, T.su_Some_Equals⟩⟩
    · cases (show some A.Equals = some C from h1); cases (show some A.Both = some D from h2); exact ⟨T.sf_Equals, T.sf_Both, fun ne => ⟨T.rn_BitOr_Equals, (let ⟨g, _, _, q, _⟩ := T.m_Both___or__.ex; ⟨g, q⟩), T.rn_BitOr_Both, T.su_Both_Equals⟩⟩
    · cases (show some A.Equals = some C from h1); cases (show some A.Either = some D from h2); exact ⟨T.sf_Equals, T.sf_Either, fun ne => ⟨T.rn_BitOr_Equals, (let ⟨g, _, _, q, _⟩ := T.m_Either___or__.ex; ⟨g, q⟩), T.rn_BitOr_Either, T.su_Either_Equals⟩⟩
    · cases (show some A.Equals = some C from h1); cases (show some A.Inverse = some D from h2); exact ⟨T.sf_Equals, T.sf_Inverse, fun ne => ⟨T.rn_BitOr_Equals, (let ⟨g, _, _, q, _⟩ := T.m_Inverse___or__.ex; ⟨g, q⟩), T.rn_BitOr_Inverse, T.su_Inverse_Equals⟩⟩
  · cases τ2
    · cases (show some A.Size = some C from h1); cases (show some A.Kind = some D from h2); exact ⟨T.sf_Size, T.sf_Kind, fun ne => ⟨T.rn_BitOr_Size, (let ⟨g, _, _, q, _⟩ := T.m_Kind___or__.ex; ⟨g, q⟩), T.rn_BitOr_Kind, T.su_Kind_Size⟩⟩
    · cases (show some A.Size = some C from h1); cases (show some A.Equals = some D from h2); exact ⟨T.sf_Size, T.sf_Equals, fun ne => ⟨T.rn_BitOr_Size, (let ⟨g, _, _, q, _⟩ := T.m_Equals___or__.ex; ⟨g, q⟩), T.rn_BitOr_Equals, T.su_Equals_Size⟩⟩
    · cases (show some A.Size = some C from h1); cases (show some A.Size = some D from h2); exact ⟨T.sf_Size, T.sf_Size, fun ne => absurd rfl ne⟩
    · cases (show some A.Size = some C from h1); cases (show some A.Has = some D from h2); exact ⟨T.sf_Size, T.sf_Has, fun ne => ⟨T.rn_BitOr_Size, (let ⟨g, _, _, q, _⟩ := T.m_Has___or__.ex; ⟨g, q⟩), T.rn_BitOr_Has, T.su_Has_Size⟩⟩
    · cases (show some A.Size = some C from h1); cases (show some A.Item = some D from h2); exact ⟨T.sf_Size, T.sf_Item, fun ne => ⟨T.rn_BitOr_Size, (let ⟨g, _, _, q, _⟩ := T.m_Item___or__.ex; ⟨g, q⟩), T.rn_BitOr_Item, T.su_Item_Size⟩⟩
    · cases (show some A.Size = some C from h1); cases (show some A.Before = some D from h2); exact ⟨T.sf_Size, T.sf_Before, fun ne => ⟨T.rn_BitOr_Size, (let ⟨g, _, _, q, _⟩ := T.m_Before___or__.ex; ⟨g, q⟩), T.rn_BitOr_Before, T.su_Before_Size⟩⟩
    · cases (show some A.Size = some C from h1); cases (show some A.First = some D from h2); exact ⟨T.sf_Size, T.sf_First, fun ne => ⟨T.rn_BitOr_Size, (let ⟨g, _, _, q, _⟩ := T.m_First___or__.ex; ⟨g, q⟩), T.rn_BitOr_First, T.su_First_Size⟩⟩
    · cases (show some A.Size = some C from h1); cases (show some A.Every = some D from h2); exact ⟨T.sf_Size, T.sf_Every, fun ne => ⟨T.rn_BitOr_Size, (let ⟨g, _, _, q, _⟩ := T.m_Every___or__.ex; ⟨g, q⟩), T.rn_BitOr_Every, T.su_Every_Size⟩⟩
    · cases (show some A.Size = some C from h1); cases (show some A.Some = some D from h2); exact ⟨T.sf_Size, T.sf_Some, fun ne => ⟨T.rn_BitOr_Size, (let ⟨g, _, _, q, _⟩ := T.m_Some___or__.ex; ⟨g, q⟩), T.rn_BitOr_Some, T.su_Some_Size⟩⟩
    · cases (show some A.Size = some C from h1); cases (show some A.Both = some D from h2); exact ⟨T.sf_Size, T.sf_Both, fun ne => ⟨T.rn_BitOr_Size, (let ⟨g, _, _, q, _⟩ := T.m_Both___or__.ex; ⟨g, q⟩), T.rn_BitOr_Both, T.su_Both_Size⟩⟩
    · cases (show some A.Size = some C from h1); cases (show some A.Either = some D from h2); exact ⟨T.sf_Size, T.sf_Either, fun ne => ⟨T.rn_BitOr_Size, (let ⟨g, _, _, q, _⟩ := T.m_Either___or__.ex; ⟨g, q⟩), T.rn_BitOr_Either, T.su_Either_Size⟩⟩
    · cases (show some A.Size = some C from h1); cases (show some A.Inverse = some D from h2); exact ⟨T.sf_Size, T.sf_Inverse, fun ne => ⟨T.rn_BitOr_Size, (let ⟨g, _, _, q, _⟩ := T.m_Inverse___or__.ex; ⟨g, q⟩), T.rn_BitOr_Inverse, T.su_Inverse_Size⟩⟩
  · cases τ2
    · cases (show some A.Has = some C from h1); cases (show some A.Kind = some D from h2); exact ⟨T.sf_Has, T.sf_Kind, fun ne => ⟨T.rn_BitOr_Has, (let ⟨g, _, _, q, _⟩ := T.m_Kind___or__.ex; ⟨g, q⟩), T.rn_BitOr_Kind, T.su_Kind_Has⟩⟩
    · cases (show some A.Has = some C from h1); cases (show some A.Equals = some D from h2); exact ⟨T.sf_Has, T.sf_Equals, fun ne => ⟨T.rn_BitOr_Has, (let ⟨g, _, _, q, _⟩ := T.m_Equals___or__.ex; ⟨g, q⟩), T.rn_BitOr_Equals, T.su_Equals_Has⟩⟩
    · cases (show some A.Has = some C from h1); cases (show some A.Size = some D from h2); exact ⟨T.sf_Has, T.sf_Size, fun ne => ⟨T.rn_BitOr_Has, (let ⟨g, _, _, q, _⟩ := T.m_Size___or__.ex; ⟨g, q⟩), T.rn_BitOr_Size, T.su_Size_Has⟩⟩
    · cases (show some A.Has = some C from h1); cases (show some A.Has = some D from h2); exact ⟨T.sf_Has, T.sf_Has, fun ne => absurd rfl ne⟩
    · cases (show some A.Has = some C from h1); cases (show some A.Item = some D from h2); exact ⟨T.sf_Has, T.sf_Item, fun ne => ⟨T.rn_BitOr_Has, (let ⟨g, _, _, q, _⟩ := T.m_Item___or__.ex; ⟨g, q⟩), T.rn_BitOr_Item, T.su_Item_Has⟩⟩
    · cases (show some A.Has = some C from h1); cases (show some A.Before = some D from h2); exact ⟨T.sf_Has, T.sf_Before, fun ne => ⟨T.rn_BitOr_Has, (let ⟨g, _, _, q, _⟩ := T.m_Before___or__.ex; ⟨g, q⟩), T.rn_BitOr_Before, T.su_Before_Has⟩⟩
    · cases (show some A.Has = some C from h1); cases (show some A.First = some D from h2); exact ⟨T.sf_Has, T.sf_First, fun ne => ⟨T.rn_BitOr_Has, (let ⟨g, _, _, q, _⟩ := T.m_First___or__.ex; ⟨g, q⟩), T.rn_BitOr_First, T.su_First_Has⟩⟩
    · cases (show some A.Has = some C from h1); cases (show some A.Every = some D from h2); exact ⟨T.sf_Has, T.sf_Every, fun ne => ⟨T.rn_BitOr_Has, (let ⟨g, _, _, q, _⟩ := T.m_Every___or__.ex; ⟨g, q⟩), T.rn_BitOr_Every, T.su_Every_Has⟩⟩
    · cases (show some A.Has = some C from h1); cases (show some A.Some = some D from h2); exact ⟨T.sf_Has, T.sf_Some, fun ne => ⟨T.rn_BitOr_Has, (let ⟨g, _, _, q, _⟩ := T.m_Some___or__.ex; ⟨g, q⟩), T.rn_BitOr_Some, T.su_Some_Has⟩⟩
    · cases (show some A.Has = some C from h1); cases (show some A.Both = some D from h2); exact ⟨T.sf_Has, T.sf_Both, fun ne => ⟨T.rn_BitOr_Has, (let ⟨g, _, _, q, _⟩ := T.m_Both___or__.ex; ⟨g, q⟩), T.rn_BitOr_Both, T.su_Both_Has⟩⟩
    · cases (show some A.Has = some C from h1); cases (show some A.Either = some D from h2); exact ⟨T.sf_Has, T.sf_Either, fun ne => ⟨T.rn_BitOr_Has, (let ⟨g, _, _, q, _⟩ := T.m_Either___or__.ex; ⟨g, q⟩), T.rn_BitOr_Either, T.su_Either_Has⟩⟩
    · cases (show some A.Has = some C from h1); cases (show some A.Inverse = some D from h2); exact ⟨T.sf_Has, T.sf_Inverse, fun ne => ⟨T.rn_BitOr_Has, (let ⟨g, _, _, q, _⟩ := T.m_Inverse___or__.ex; ⟨g, q⟩), T.rn_BitOr_Inverse, T.su_Inverse_Has⟩⟩
  · cases τ2
    · cases (show some A.Item = some C from h1); cases (show some A.Kind = some D from h2); exact ⟨T.sf_Item, T.sf_Kind, fun ne => ⟨T.rn_BitOr_Item, (let ⟨g, _, _, q, _⟩ := T.m_Kind___or__.ex; ⟨g, q⟩), T.rn_BitOr_Kind, T.su_Kind_Item⟩⟩
    · cases (show some A.Item = some C from h1); cases (show some A.Equals = some D from h2); exact ⟨T.sf_Item, T.sf_Equals, fun ne => ⟨T.rn_BitOr_Item, (let ⟨g, _, _, q, _⟩ := T.m_Equals___or__.ex; ⟨g, q⟩), T.rn_BitOr_Equals, T.su_Equals_Item⟩⟩
    · cases (show some A.Item = some C from h1); cases (show some A.Size = some D from h2); exact ⟨T.sf_Item, T.sf_Size, fun ne => ⟨T.rn_BitOr_Item, (let ⟨g, _, _, q, _⟩ := T.m_Size___or__.ex; ⟨g, q⟩), T.rn_BitOr_Size, T.su_Size_Item⟩⟩
    · cases (show some A.Item = some C from h1); cases (show some A.Has = some D from h2); exact ⟨T.sf_Item, T.sf_Has, fun ne => ⟨T.rn_BitOr_Item, (let ⟨g, _, _, q, _⟩ := T.m_Has___or__.ex; ⟨g, q⟩), T.rn_BitOr_Has, T.su_Has_Item⟩⟩
    · cases (show some A.Item = some C from h1); cases (show some A.Item = some D from h2); exact ⟨T.sf_Item, T.sf_Item, fun ne => absurd rfl ne⟩
    · cases (show some A.Item = some C from h1); cases (show some A.Before = some D from h2); exact ⟨T.sf_Item, T.sf_Before, fun ne => ⟨T.rn_BitOr_Item, (let ⟨g, _, _, q, _⟩ := T.m_Before___or__.ex; ⟨g, q⟩), T.rn_BitOr_Before, T.su_Before_Item⟩⟩
    · cases (show some A.Item = some C from h1); cases (show some A.First = some D from h2); exact ⟨T.sf_Item, T.sf_First, fun ne => ⟨T.rn_BitOr_Item, (let ⟨g, _, _, q, _⟩ := T.m_First___or__.ex; ⟨g, q⟩), T.rn_BitOr_First, T.su_First_Item⟩⟩
    · cases (show some A.Item = some C from h1); cases (show some A.Every = some D from h2); exact ⟨T.sf_Item, T.sf_Every, fun ne => ⟨T.rn_BitOr_Item, (let ⟨g, _, _, q, _⟩ := T.m_Every___or__.ex; ⟨g, q⟩), T.rn_BitOr_Every, T.su_Every_Item⟩⟩
    · cases (show some A.Item = some C from h1); cases (show some A.Some = some D from h2); exact ⟨T.sf_Item, T.sf_Some, fun ne => ⟨T.rn_BitOr_Item, (let ⟨g, _, _, q, _⟩ := T.m_Some___or__.ex; ⟨g, q⟩), T.rn_BitOr_Some, T.su_Some_Item⟩⟩
    · cases (show some A.Item = some C from h1); cases (show some A.Both = some D from h2); exact ⟨T.sf_Item, T.sf_Both, fun ne => ⟨T.rn_BitOr_Item, (let ⟨g, _, _, q, _⟩ := T.m_Both___or__.ex; ⟨g, q⟩), T.rn_BitOr_Both, T.su_Both_Item⟩⟩
    · cases (show some A.Item = some C from h1); cases (show some A.Either = some D from h2); exact ⟨T.sf_Item, T.sf_Either, fun ne => ⟨T.rn_BitOr_Item, (let ⟨g, _, _, q, _⟩ := T.m_Either___or__.ex; ⟨g, q⟩), T.rn_BitOr_Either, T.su_Either_Item⟩⟩
    · cases (show some A.Item = some C from h1); cases (show some A.Inverse = some D from h2); exact ⟨T.sf_Item, T.sf_Inverse, fun ne => ⟨T.rn_BitOr_Item, (let ⟨g, _, _, q, _⟩ := T.m_Inverse___or__.ex; ⟨g, q⟩), T.rn_BitOr_Inverse, T.su_Inverse_Item⟩⟩
  · cases τ2
    · cases (show some A.Before = some C from h1); cases (show some A.Kind = some D from h2); exact ⟨T.sf_Before, T.sf_Kind, fun ne => ⟨T.rn_BitOr_Before, (let ⟨g, _, _, q, _⟩ := T.m_Kind___or__.ex; ⟨g, q⟩), T.rn_BitOr_Kind, T.su_Kind_Before⟩⟩
    · cases (show some A.Before = some C from h1); cases (show some A.Equals = some D from h2); exact ⟨T.sf_Before, T.sf_Equals, fun ne => ⟨T.rn_BitOr_Before, (let ⟨g, _, _, q, _⟩ := T.m_Equals___or__.ex; ⟨g, q⟩), T.rn_BitOr_Equals, T.su_Equals_Before⟩⟩
    · cases (show some A.Before = some C from h1); cases (show some A.Size = some D from h2); exact ⟨T.sf_Before, T.sf_Size, fun ne => ⟨T.rn_BitOr_Before, (let ⟨g, _, _, q, _⟩ := T.m_Size___or__.ex; ⟨g, q⟩), T.rn_BitOr_Size, T.su_Size_Before⟩⟩
    · cases (show some A.Before = some C from h1); cases (show some A.Has = some D from h2); exact ⟨T.sf_Before, T.sf_Has, fun ne => ⟨T.rn_BitOr_Before, (let ⟨g, _, _, q, _⟩ := T.m_Has___or__.ex; ⟨g, q⟩), T.rn_BitOr_Has, T.su_Has_Before⟩⟩
    · cases (show some A.Before = some C from h1); cases (show some A.Item = some D from h2); exact ⟨T.sf_Before, T.sf_Item, fun ne => ⟨T.rn_BitOr_Before, (let ⟨g, _, _, q, _⟩ := T.m_Item___or__.ex; ⟨g, q⟩), T.rn_BitOr_Item, T.su_Item_Before⟩⟩
    · cases (show some A.Before = some C from h1); cases (show some A.Before = some D from h2); exact ⟨T.sf_Before, T.sf_Before, fun ne => absurd rfl ne⟩
    · cases (show some A.Before = some C from h1); cases (show some A.First = some D from h2); exact ⟨T.sf_Before, T.sf_First, fun ne => ⟨T.rn_BitOr_Before, (let ⟨g, _, _, q, _⟩ := T.m_First___or__.ex; ⟨g, q⟩), T.rn_BitOr_First, T.su_First_Before⟩⟩
    · cases (show some A.Before = some C from h1); cases (show some A.Every = some D from h2); exact ⟨T.sf_Before, T.sf_Every, fun ne => ⟨T.rn_BitOr_Before, (let ⟨g, _, _, q, _⟩ := T.m_Every___or__.ex; ⟨g, q⟩), T.rn_BitOr_Every, T.su_Every_Before⟩⟩
    · cases (show some A.Before = some C from h1); cases (show some A.Some = some D from h2); exact ⟨T.sf_Before, T.sf_Some, fun ne => ⟨T.rn_BitOr_Before, (let ⟨g, _, _, q, _⟩ := T.m_Some___or__.ex; ⟨g, q⟩), T.rn_BitOr_Some, T.su_Some_Before⟩⟩
    · cases (show some A.Before = some C from h1); cases (show some A.Both = some D from h2); exact ⟨T.sf_Before, T.sf_Both, fun ne => ⟨T.rn_BitOr_Before, (let ⟨g, _, _, q, _⟩ := T.m_Both___or__.ex; ⟨g, q⟩), T.rn_BitOr_Both, T.su_Both_Before⟩⟩
    · cases (show some A.Before = some C from h1); cases (show some A.Either = some D from h2); exact ⟨T.sf_Before, T.sf_Either, fun ne => ⟨T.rn_BitOr_Before, (let ⟨g, _, _, q, _⟩ := T.m_Either___or__.ex; ⟨g, q⟩), T.rn_BitOr_Either, T.su_Either_Before⟩⟩
    · cases (show some A.Before = some C from h1); cases (show some A.Inverse = some D from h2); exact ⟨T.sf_Before, T.sf_Inverse, fun ne => ⟨T.rn_BitOr_Before, (let ⟨g, _, _, q, _⟩ := T.m_Inverse___or__.ex; ⟨g, q⟩), T.rn_BitOr_Inverse, T.su_Inverse_Before⟩⟩
  · cases τ2
    · cases (show some A.First = some C from h1); cases (show some A.Kind = some D from h2); exact ⟨T.sf_First, T.sf_Kind, fun ne => ⟨T.rn_BitOr_First, (let ⟨g, _, _, q, _⟩ := T.m_Kind___or__.ex; ⟨g, q⟩), T.rn_BitOr_Kind, T.su_Kind_First⟩⟩
    · cases (show some A.First = some C from h1); cases (show some A.Equals = some D from h2); exact ⟨T.sf_First, T.sf_Equals, fun ne => ⟨T.rn_BitOr_First, (let ⟨g, _, _, q, _⟩ := T.m_Equals___or__.ex; ⟨g, q⟩), T.rn_BitOr_Equals, T.su_Equals_First⟩⟩
    · cases (show some A.First = some C from h1); cases (show some A.Size = some D from h2); exact ⟨T.sf_First, T.sf_Size, fun ne => ⟨T.rn_BitOr_First, (let ⟨g, _, _, q, _⟩ := T.m_Size___or__.ex; ⟨g, q⟩), T.rn_BitOr_Size, T.su_Size_First⟩⟩
    · cases (show some A.First = some C from h1); cases (show some A.Has = some D from h2); exact ⟨T.sf_First, T.sf_Has, fun ne => ⟨T.rn_BitOr_First, (let ⟨g, _, _, q, _⟩ := T.m_Has___or__.ex; ⟨g, q⟩), T.rn_BitOr_Has, T.su_Has_First⟩⟩
    · cases (show some A.First = some C from h1); cases (show some A.Item = some D from h2); exact ⟨T.sf_First, T.sf_Item, fun ne => ⟨T.rn_BitOr_First, (let ⟨g, _, _, q, _⟩ := T.m_Item___or__.ex; ⟨g, q⟩), T.rn_BitOr_Item, T.su_Item_First⟩⟩
    · cases (show some A.First = some C from h1); cases (show some A.Before = some D from h2); exact ⟨T.sf_First, T.sf_Before, fun ne => ⟨T.rn_BitOr_First, (let ⟨g, _, _, q, _⟩ := T.m_Before___or__.ex; ⟨g, q⟩), T.rn_BitOr_Before, T.su_Before_First⟩⟩
    · cases (show some A.First = some C from h1); cases (show some A.First = some D from h2); exact ⟨T.sf_First, T.sf_First, fun ne => absurd rfl ne⟩
    · cases (show some A.First = some C from h1); cases (show some A.Every = some D from h2); exact ⟨T.sf_First, T.sf_Every, fun ne => ⟨T.rn_BitOr_First, (let ⟨g, _, _, q, _⟩ := T.m_Every___or__.ex; ⟨g, q⟩), T.rn_BitOr_Every, T.su_Every_First⟩⟩
    · cases (show some A.First = some C from h1); cases (show some A.Some = some D from h2); exact ⟨T.sf_First, T.sf_Some, fun ne => ⟨T.rn_BitOr_First, (let ⟨g, _, _, q, _⟩ := T.m_Some___or__.ex; ⟨g, q⟩), T.rn_BitOr_Some, T.su_Some_First⟩⟩
    · cases (show some A.First = some C from h1); cases (show some A.Both = some D from h2); exact ⟨T.sf_First, T.sf_Both, fun ne => ⟨T.rn_BitOr_First, (let ⟨g, _, _, q, _⟩ := T.m_Both___or__.ex; ⟨g, q⟩), T.rn_BitOr_Both, T.su_Both_First⟩⟩
    · cases (show some A.First = some C from h1); cases (show some A.Either = some D from h2); exact ⟨T.sf_First, T.sf_Either, fun ne => ⟨T.rn_BitOr_First, (let ⟨g, _, _, q, _⟩ := T.m_Either___or__.ex; ⟨g, q⟩), T.rn_BitOr_Either, T.su_Either_First⟩⟩
    · cases (show some A.First = some C from h1); cases (show some A.Inverse = some D from h2); exact ⟨T.sf_First, T.sf_Inverse, fun ne => ⟨T.rn_BitOr_First, (let ⟨g, _, _, q, _⟩ := T.m_Inverse___or__.ex; ⟨g, q⟩), T.rn_BitOr_Inverse, T.su_Inverse_First⟩⟩
  · cases τ2
    · cases (show some A.Every = some C from h1); cases (show some A.Kind = some D from h2); exact ⟨T.sf_Every, T.sf_Kind, fun ne => ⟨T.rn_BitOr_Every, (let ⟨g, _, _, q, _⟩ := T.m_Kind___or__.ex; ⟨g, q⟩), T.rn_BitOr_Kind, T.su_Kind_Every⟩⟩
    · cases (show some A.Every = some C from h1); cases (show some A.Equals = some D from h2); exact ⟨T.sf_Every, T.sf_Equals, fun ne => ⟨T.rn_BitOr_Every, (let ⟨g, _, _, q, _⟩ := T.m_Equals___or__.ex; ⟨g, q⟩), T.rn_BitOr_Equals, T.su_Equals_Every⟩⟩
    · cases (show some A.Every = some C from h1); cases (show some A.Size = some D from h2); exact ⟨T.sf_Every, T.sf_Size, fun ne => ⟨T.rn_BitOr_Every, (let ⟨g, _, _, q, _⟩ := T.m_Size___or__.ex; ⟨g, q⟩), T.rn_BitOr_Size, T.su_Size_Every⟩⟩
    · cases (show some A.Every = some C from h1); cases (show some A.Has = some D from h2); exact ⟨T.sf_Every, T.sf_Has, fun ne => ⟨T.rn_BitOr_Every, (let ⟨g, _, _, q, _⟩ := T.m_Has___or__.ex; ⟨g, q⟩), T.rn_BitOr_Has, T.su_Has_Every⟩⟩
    · cases (show some A.Every = some C from h1); cases (show some A.Item = some D from h2); exact ⟨T.sf_Every, T.sf_Item, fun ne => ⟨T.rn_BitOr_Every, (let ⟨g, _, _, q, _⟩ := T.m_Item___or__.ex; ⟨g, q⟩), T.rn_BitOr_Item, T.su_Item_Every⟩⟩
    · cases (show some A.Every = some C from h1); cases (show some A.Before = some D from h2); exact ⟨T.sf_Every, T.sf_Before, fun ne => ⟨T.rn_BitOr_Every, (let ⟨g, _, _, q, _⟩ := T.m_Before___or__.ex; ⟨g, q⟩), T.rn_BitOr_Before, T.su_Before_Every⟩⟩
    · cases (show some A.Every = some C from h1); cases (show some A.First = some D from h2); exact ⟨T.sf_Every, T.sf_First, fun ne => ⟨T.rn_BitOr_Every, (let ⟨g, _, _, q, _⟩ := T.m_First___or__.ex; ⟨g, q⟩), T.rn_BitOr_First, T.su_First_Every⟩⟩
    · cases (show some A.Every = some C from h1); cases (show some A.Every = some D from h2); exact ⟨T.sf_Every, T.sf_Every, fun ne => absurd rfl ne⟩
    · cases (show some A.Every = some C from h1); cases (show some A.Some = some D from h2); exact ⟨T.sf_Every, T.sf_Some, fun ne => ⟨T.rn_BitOr_Every, (let ⟨g, _, _, q, _⟩ := T.m_Some___or__.ex; ⟨g, q⟩), T.rn_BitOr_Some, T.su_Some_Every⟩⟩
    · cases (show some A.Every = some C from h1); cases (show some A.Both = some D from h2); exact ⟨T.sf_Every, T.sf_Both, fun ne => ⟨T.rn_BitOr_Every, (let ⟨g, _, _, q, _⟩ := T.m_Both___or__.ex; ⟨g, q⟩), T.rn_BitOr_Both, T.su_Both_Every⟩⟩
    · cases (show some A.Every = some C from h1); cases (show some A.Either = some D from h2); exact ⟨T.sf_Every, T.sf_Either, fun ne => ⟨T.rn_BitOr_Every, (let ⟨g, _, _, q, _⟩ := T.m_Either___or__.ex; ⟨g, q⟩), T.rn_BitOr_Either, T.su_Either_Every⟩⟩
    · cases (show some A.Every = some C from h1); cases (show some A.Inverse = some D from h2); exact ⟨T.sf_Every, T.sf_Inverse, fun ne => ⟨T.rn_BitOr_Every, (let ⟨g, _, _, q, _⟩ := T.m_Inverse___or__.ex; ⟨g, q⟩), T.rn_BitOr_Inverse, T.su_Inverse_Every⟩⟩
  · cases τ2
    · cases (show some A.Some = some C from h1); cases (show some A.Kind = some D from h2); exact ⟨T.sf_Some, T.sf_Kind, fun ne => ⟨T.rn_BitOr_Some, (let ⟨g, _, _, q, _⟩ := T.m_Kind___or__.ex; ⟨g, q⟩), T.rn_BitOr_Kind, T.su_Kind_Some⟩⟩
    · cases (show some A.Some = some C from h1); cases (show some A.Equals = some D from h2); exact ⟨T.sf_Some, T.sf_Equals, fun ne => ⟨T.rn_BitOr_Some, (let ⟨g, _, _, q, _⟩ := T.m_Equals___or__.ex; ⟨g, q⟩), T.rn_BitOr_Equals, T.su_Equals_Some⟩⟩
    · cases (show some A.Some = some C from h1); cases (show some A.Size = some D from h2); exact ⟨T.sf_Some, T.sf_Size, fun ne => ⟨T.rn_BitOr_Some, (let ⟨g, _, _, q, _⟩ := T.m_Size___or__.ex; ⟨g, q⟩), T.rn_BitOr_Size, T.su_Size_Some⟩⟩
    · cases (show some A.Some = some C from h1); cases (show some A.Has = some D from h2); exact ⟨T.sf_Some, T.sf_Has, fun ne => ⟨T.rn_BitOr_Some, (let ⟨g, _, _, q, _⟩ := T.m_Has___or__.ex; ⟨g, q⟩), T.rn_BitOr_Has, T.su_Has_Some⟩⟩
    · cases (show some A.Some = some C from h1); cases (show some A.Item = some D from h2); exact ⟨T.sf_Some, T.sf_Item, fun ne => ⟨T.rn_BitOr_Some, (let ⟨g, _, _, q, _⟩ := T.m_Item___or__.ex; ⟨g, q⟩), T.rn_BitOr_Item, T.su_Item_Some⟩⟩
    · cases (show some A.Some = some C from h1); cases (show some A.Before = some D from h2); exact ⟨T.sf_Some, T.sf_Before, fun ne => ⟨T.rn_BitOr_Some, (let ⟨g, _, _, q, _⟩ := T.m_Before___or__.ex; ⟨g, q⟩), T.rn_BitOr_Before, T.su_Before_Some⟩⟩
    · cases (show some A.Some = some C from h1); cases (show some A.First = some D from h2); exact ⟨T.sf_Some, T.sf_First, fun ne => ⟨T.rn_BitOr_Some, (let ⟨g, _, _, q, _⟩ := T.m_First___or__.ex; ⟨g, q⟩), T.rn_BitOr_First, T.su_First_Some⟩⟩
    · cases (show some A.Some = some C from h1); cases (show some A.Every = some D from h2); exact ⟨T.sf_Some, T.sf_Every, fun ne => ⟨T.rn_BitOr_Some, (let ⟨g, _, _, q, _⟩ := T.m_Every___or__.ex; ⟨g, q⟩), T.rn_BitOr_Every, T.su_Every_Some⟩⟩
    · cases (show some A.Some = some C from h1); cases (show some A.Some = some D from h2); exact ⟨T.sf_Some, T.sf_Some, fun ne => absurd rfl ne⟩
    · cases (show some A.Some = some C from h1); cases (show some A.Both = some D from h2); exact ⟨T.sf_Some, T.sf_Both, fun ne => ⟨T.rn_BitOr_Some, (let ⟨g, _, _, q, _⟩ := T.m_Both___or__.ex; ⟨g, q⟩), T.rn_BitOr_Both, T.su_Both_Some⟩⟩
    · cases (show some A.Some = some C from h1); cases (show some A.Either = some D from h2); exact ⟨T.sf_Some, T.sf_Either, fun ne => ⟨T.rn_BitOr_Some, (let ⟨g, _, _, q, _⟩ := T.m_Either___or__.ex; ⟨g, q⟩), T.rn_BitOr_Either, T.su_Either_Some⟩⟩
    · cases (show some A.Some = some C from h1); cases (show some A.Inverse = some D from h2); exact ⟨T.sf_Some, T.sf_Inverse, fun ne => ⟨T.rn_BitOr_Some, (let ⟨g, _, _, q, _⟩ := T.m_Inverse___or__.ex; ⟨g, q⟩), T.rn_BitOr_Inverse, T.su_Inverse_Some⟩⟩
  · cases τ2
    · cases (show some A.Both = some C from h1); cases (show some A.Kind = some D from h2); exact ⟨T.sf_Both, T.sf_Kind, fun ne => ⟨T.rn_BitOr_Both, (let ⟨g, _, _, q, _⟩ := T.m_Kind___or__.ex; ⟨g, q⟩), T.rn_BitOr_Kind, T.su_Kind_Both⟩⟩
    · cases (show some A.Both = some C from h1); cases (show some A.Equals = some D from h2); exact ⟨T.sf_Both, T.sf_Equals, fun ne => ⟨T.rn_BitOr_Both, (let ⟨g, _, _, q, _⟩ := T.m_Equals___or__.ex; ⟨g, q⟩), T.rn_BitOr_Equals, T.su_Equals_Both⟩⟩
    · cases (show some A.Both = some C from h1); cases (show some A.Size = some D from h2); exact ⟨T.sf_Both, T.sf_Size, fun ne => ⟨T.rn_BitOr_Both, (let ⟨g, _, _, q, _⟩ := T.m_Size___or__.ex; ⟨g, q⟩), T.rn_BitOr_Size, T.su_Size_Both⟩⟩
    · cases (show some A.Both = some C from h1); cases (show some A.Has = some D from h2); exact ⟨T.sf_Both, T.sf_Has, fun ne => ⟨T.rn_BitOr_Both, (let ⟨g, _, _, q, _⟩ := T.m_Has___or__.ex; ⟨g, q⟩), T.rn_BitOr_Has, T.su_Has_Both⟩⟩
    · cases (show some A.Both = some C from h1); cases (show some A.Item = some D from h2); exact ⟨T.sf_Both, T.sf_Item, fun ne => ⟨T.rn_BitOr_Both, (let ⟨g, _, _, q, _⟩ := T.m_Item___or__.ex; ⟨g, q⟩), T.rn_BitOr_Item, T.su_Item_Both⟩⟩
    · cases (show some A.Both = some C from h1); cases (show some A.Before = some D from h2); exact ⟨T.sf_Both, T.sf_Before, fun ne => ⟨T.rn_BitOr_Both, (let ⟨g, _, _, q, _⟩ := T.m_Before___or__.ex; ⟨g, q⟩), T.rn_BitOr_Before, T.su_Before_Both⟩⟩
    · cases (show some A.Both = some C from h1); cases (show some A.First = some D from h2); exact ⟨T.sf_Both, T.sf_First, fun ne => ⟨T.rn_BitOr_Both, (let ⟨g, _, _, q, _⟩ := T.m_First___or__.ex; ⟨g, q⟩), T.rn_BitOr_First, T.su_First_Both⟩⟩
    · cases (show some A.Both = some C from h1); cases (show some A.Every = some D from h2); exact ⟨T.sf_Both, T.sf_Every, fun ne => ⟨T.rn_BitOr_Both, (let ⟨g, _, _, q, _⟩ := T.m_Every___or__.ex; ⟨g, q⟩), T.rn_BitOr_Every, T.su_Every_Both⟩⟩
    · cases (show some A.Both = some C from h1); cases (show some A.Some = some D from h2); exact ⟨T.sf_Both, T.sf_Some, fun ne => ⟨T.rn_BitOr_Both, (let ⟨g, _, _, q, _⟩ := T.m_Some___or__.ex; ⟨g, q⟩), T.rn_BitOr_Some, T.su_Some_Both⟩⟩
    · cases (show some A.Both = some C from h1); cases (show some A.Both = some D from h2); exact ⟨T.sf_Both, T.sf_Both, fun ne => absurd rfl ne⟩
    · cases (show some A.Both = some C from h1); cases (show some A.Either = some D from h2); exact ⟨T.sf_Both, T.sf_Either, fun ne => ⟨T.rn_BitOr_Both, (let ⟨g, _, _, q, _⟩ := T.m_Either___or__.ex; ⟨g, q⟩), T.rn_BitOr_Either, T.su_Either_Both⟩⟩
    · cases (show some A.Both = some C from h1); cases (show some A.Inverse = some D from h2); exact ⟨T.sf_Both, T.sf_Inverse, fun ne => ⟨T.rn_BitOr_Both, (let ⟨g, _, _, q, _⟩ := T.m_Inverse___or__.ex; ⟨g, q⟩), T.rn_BitOr_Inverse, T.su_Inverse_Both⟩⟩
  · cases τ2
    · cases (show some A.Either = some C from h1); cases (show some A.Kind = some D from h2); exact ⟨T.sf_Either, T.sf_Kind, fun ne => ⟨T.rn_BitOr_Either, (let ⟨g, _, _, q, _⟩ := T.m_Kind___or__.ex; ⟨g, q⟩), T.rn_BitOr_Kind, T.su_Kind_Either⟩⟩
    · cases (show some A.Either = some C from h1); cases (show some A.Equals = some D from h2); exact ⟨T.sf_Either, T.sf_Equals, fun ne => ⟨T.rn_BitOr_Either, (let ⟨g, _, _, q, _⟩ := T.m_Equals___or__.ex; ⟨g, q⟩), T.rn_BitOr_Equals, T.su_Equals_Either⟩⟩
    · cases (show some A.Either = some C from h1); cases (show some A.Size = some D from h2); exact ⟨T.sf_Either, T.sf_Size, fun ne => ⟨T.rn_BitOr_Either, (let ⟨g, _, _, q, _⟩ := T.m_Size___or__.ex; ⟨g, q⟩), T.rn_BitOr_Size, T.su_Size_Either⟩⟩
    · cases (show some A.Either = some C from h1); cases (show some A.Has = some D from h2); exact ⟨T.sf_Either, T.sf_Has, fun ne => ⟨T.rn_BitOr_Either, (let ⟨g, _, _, q, _⟩ := T.m_Has___or__.ex; ⟨g, q⟩), T.rn_BitOr_Has, T.su_Has_Either⟩⟩
    · cases (show some A.Either = some C from h1); cases (show some A.Item = some D from h2); exact ⟨T.sf_Either, T.sf_Item, fun ne => ⟨T.rn_BitOr_Either, (let ⟨g, _, _, q, _⟩ := T.m_Item___or__.ex; ⟨g, q⟩), T.rn_BitOr_Item, T.su_Item_Either⟩⟩
    · cases (show some A.Either = some C from h1); cases (show some A.Before = some D from h2); exact ⟨T.sf_Either, T.sf_Before, fun ne => ⟨T.rn_BitOr_Either, (let ⟨g, _, _, q, _⟩ := T.m_Before___or__.ex; ⟨g, q⟩), T.rn_BitOr_Before, T.su_Before_Either⟩⟩
    · cases (show some A.Either = some C from h1); cases (show some A.First = some D from h2); exact ⟨T.sf_Either, T.sf_First, fun ne => ⟨T.rn_BitOr_Either, (let ⟨g, _, _, q, _⟩ := T.m_First___or__.ex; ⟨g, q⟩), T.rn_BitOr_First, T.su_First_Either⟩⟩
    · cases (show some A.Either = some C from h1); cases (show some A.Every = some D from h2); exact ⟨T.sf_Either, T.sf_Every, fun ne => ⟨T.rn_BitOr_Either, (let ⟨g, _, _, q, _⟩ := T.m_Every___or__.ex; ⟨g, q⟩), T.rn_BitOr_Every, T.su_Every_Either⟩⟩
    · cases (show some A.Either = some C from h1); cases (show some A.Some = some D from h2); exact ⟨T.sf_Either, T.sf_Some, fun ne => ⟨T.rn_BitOr_Either, (let ⟨g, _, _, q, _⟩ := T.m_Some___or__.ex; ⟨g, q⟩), T.rn_BitOr_Some, T.su_Some_Either⟩⟩
    · cases (show some A.Either = some C from h1); cases (show some A.Both = some D from h2); exact ⟨T.sf_Either, T.sf_Both, fun ne => ⟨T.rn_BitOr_Either, (let ⟨g, _, _, q, _⟩ := T.m_Both___or__.ex; ⟨g, q⟩), T.rn_BitOr_Both, T.su_Both_Either⟩⟩
    · cases (show some A.Either = some C from h1); cases (show some A.Either = some D from h2); exact ⟨T.sf_Either, T.sf_Either, fun ne => absurd rfl ne⟩
    · cases (show some A.Either = some C from h1); cases (show some A.Inverse = some D from h2); exact ⟨T.sf_Either, T.sf_Inverse, fun ne => ⟨T.rn_BitOr_Either, (let ⟨g, _, _, q, _⟩ := T.m_Inverse___or__.ex; ⟨g, q⟩), T.rn_BitOr_Inverse, T.su_Inverse_Either⟩⟩
  · cases τ2
    · cases (show some A.Inverse = some C from h1); cases (show some A.Kind = some D from h2); exact ⟨T.sf_Inverse, T.sf_Kind, fun ne => ⟨T.rn_BitOr_Inverse, (let ⟨g, _, _, q, _⟩ := T.m_Kind___or__.ex; ⟨g, q⟩), T.rn_BitOr_Kind, T.su_Kind_Inverse⟩⟩
    · cases (show some A.Inverse = some C from h1); cases (show some A.Equals = some D from h2); exact ⟨T.sf_Inverse, T.sf_Equals, fun ne => ⟨T.rn_BitOr_Inverse, (let ⟨g, _, _, q, _⟩ := T.m_Equals___or__.ex; ⟨g, q⟩), T.rn_BitOr_Equals, T.su_Equals_Inverse⟩⟩
    · cases (show some A.Inverse = some C from h1); cases (show some A.Size = some D from h2); exact ⟨T.sf_Inverse, T.sf_Size, fun ne => ⟨T.rn_BitOr_Inverse, (let ⟨g, _, _, q, _⟩ := T.m_Size___or__.ex; ⟨g, q⟩), T.rn_BitOr_Size, T.su_Size_Inverse⟩⟩
    · cases (show some A.Inverse = some C from h1); cases (show some A.Has = some D from h2); exact ⟨T.sf_Inverse, T.sf_Has, fun ne => ⟨T.rn_BitOr_Inverse, (let ⟨g, _, _, q, _⟩ := T.m_Has___or__.ex; ⟨g, q⟩), T.rn_BitOr_Has, T.su_Has_Inverse⟩⟩
    · cases (show some A.Inverse = some C from h1); cases (show some A.Item = some D from h2); exact ⟨T.sf_Inverse, T.sf_Item, fun ne => ⟨T.rn_BitOr_Inverse, (let ⟨g, _, _, q, _⟩ := T.m_Item___or__.ex; ⟨g, q⟩), T.rn_BitOr_Item, T.su_Item_Inverse⟩⟩
    · cases (show some A.Inverse = some C from h1); cases (show some A.Before = some D from h2); exact ⟨T.sf_Inverse, T.sf_Before, fun ne => ⟨T.rn_BitOr_Inverse, (let ⟨g, _, _, q, _⟩ := T.m_Before___or__.ex; ⟨g, q⟩), T.rn_BitOr_Before, T.su_Before_Inverse⟩⟩
    · cases (show some A.Inverse = some C from h1); cases (show some A.First = some D from h2); exact ⟨T.sf_Inverse, T.sf_First, fun ne => ⟨T.rn_BitOr_Inverse, (let ⟨g, _, _, q, _⟩ := T.m_First___or__.ex; ⟨g, q⟩), T.rn_BitOr_First, T.su_First_Inverse⟩⟩
    · cases (show some A.Inverse = some C from h1); cases (show some A.Every = some D from h2); exact ⟨T.sf_Inverse, T.sf_Every, fun ne => ⟨T.rn_BitOr_Inverse, (let ⟨g, _, _, q, _⟩ := T.m_Every___or__.ex; ⟨g, q⟩), T.rn_BitOr_Every, T.su_Every_Inverse⟩⟩
    · cases (show some A.Inverse = some C from h1); cases (show some A.Some = some D from h2); exact ⟨T.sf_Inverse, T.sf_Some, fun ne => ⟨T.rn_BitOr_Inverse, (let ⟨g, _, _, q, _⟩ := T.m_Some___or__.ex; ⟨g, q⟩), T.rn_BitOr_Some, T.su_Some_Inverse⟩⟩
    · cases (show some A.Inverse = some C from h1); cases (show some A.Both = some D from h2); exact ⟨T.sf_Inverse, T.sf_Both, fun ne => ⟨T.rn_BitOr_Inverse, (let ⟨g, _, _, q, _⟩ := T.m_Both___or__.ex; ⟨g, q⟩), T.rn_BitOr_Both, T.su_Both_Inverse⟩⟩
    · cases (show some A.Inverse = some C from h1); cases (show some A.Either = some D from h2); exact ⟨T.sf_Inverse, T.sf_Either, fun ne => ⟨T.rn_BitOr_Inverse, (let ⟨g, _, _, q, _⟩ := T.m_Either___or__.ex; ⟨g, q⟩), T.rn_BitOr_Either, T.su_Either_Inverse⟩⟩
    · cases (show some A.Inverse = some C from h1); cases (show some A.Inverse = some D from h2); exact ⟨T.sf_Inverse, T.sf_Inverse, fun ne => absurd rfl ne⟩
theorem e_g_KINDS {X : Cx} {W : WX} {A : Adr} {pos : Pos} (T : Top X.K X.mg A) (hg : Gl X "KINDS" := by rfl) : TPE X W (.Name "KINDS" pos) (uC (.tup [.str "null", .str "true", .str "false", .str "integer", .str "text", .str "list", .str "tuple", .str "table"])) := e_gt hg T.g_KINDS
theorem e_g_MOST_COUNT {X : Cx} {W : WX} {A : Adr} {pos : Pos} (T : Top X.K X.mg A) (hg : Gl X "MOST_COUNT" := by rfl) : TPE X W (.Name "MOST_COUNT" pos) (uC (.int 4)) := e_gt hg T.g_MOST_COUNT
local macro_rules | `(tactic| walk_at "vc") => `(tactic| try simp only [ofc_kind, ofc_equals, ofc_size, ofc_has, ofc_item, ofc_before, ofc_first, ofc_every, ofc_some, ofc_both, ofc_either, ofc_inv, KQ.q_uVar, KQ.q_uC, KQ.q_u2, KQ.q_uOp, KQ.q_uUn, KQ.q_uB, KQ.q_uAnd, KQ.q_uOr, KQ.q_uNot, KQ.q_uAndV, KQ.q_uOrV, KQ.q_uNotV, KQ.q_uIf, KQ.q_uNil, KQ.q_uCons, KQ.q_uTup, KQ.q_uLst, KQ.q_uLstC, KQ.q_uCb, KQ.q_uNext, KQ.q_uSeq, KQ.q_uBreak, KQ.q_uCont, KQ.q_uCut, KQ.q_uDrop, KQ.q_uRet, KQ.q_uRetN, KQ.q_uIfS, KQ.q_uNever, KQ.q_uSet, KQ.q_uAsg, KQ.q_uPar, KQ.q_uAug, KQ.q_uFor, KQ.q_uSeqI, KQ.q_uCall, KQ.q_uYes, KQ.q_uLc, KQ.q_uLcC, KQ.q_uPart, KQ.q_uNoPart, KQ.q_uSl, KQ.q_uIsi2, KQ.q_uRng1, KQ.q_uRng2, KQ.q_uStrI, KQ.q_uEnum, KQ.q_uFld, KQ.q_uSFld, KQ.q_uDPut, KQ.q_uLPut, KQ.q_uFrz, KQ.q_uMt, KQ.q_uMm, KQ.q_uForD, KQ.q_uLcD, KQ.q_uMeth, KQ.q_uDNew, KQ.q_uFldAug, KQ.q_uDisp, KQ.q_uIsi1, KQ.q_uOBin, KQ.q_uOIx, KQ.q_uOIn, KQ.q_uOLen, KQ.q_uTry, KQ.q_uXf, KQ.q_uIsE, KQ.q_uRaise, KQ.q_uCallK, KQ.q_uLcX, KQ.q_uNewK, KQ.q_uOEq, KQ.q_uListC, KQ.q_uRev, KQ.q_uEnum2, KQ.q_uZip, KQ.q_uAddC, KQ.q_uFs, KQ.q_uOBin2, KQ.q_uOInv, KQ.q_uCallO, KQ.q_uSrt, KQ.q_uSet0, KQ.q_uSAdd, KQ.q_uSIn, KQ.q_uChain, KQ.q_uKGet, KQ.q_uTryF, KQ.q_uMethZ, KQ.q_uTryZ, KQ.q_uCallC, KQ.q_uNewKL, KQ.q_uMatch, KQ.q_uKIx, KQ.q_uRep2, KQ.vw_refE, KQ.vw_non, KQ.vw_bl, KQ.vw_int, KQ.vw_str, KQ.vw_ty, KQ.vw_lstE, KQ.vw_tupE, KQ.vw_scrE, KQ.vw_dicE, KQ.vw_insE, KQ.put_sameE, KQ.put_putE, KQ.getD_some, KQ.pat_nm, KQ.pat_tp, KQ.pats_nil, KQ.pats_cons, KQ.bind_s, KQ.loop_nil, KQ.loop_cons, KQ.lcl_nil, KQ.lcl_cons, KQ.prs_nil, KQ.prs_cons, KQ.add_ii, KQ.add_ss, KQ.add_ll, KQ.add_tt, KQ.sortr_l, KQ.les_ss, KQ.int2_ii, KQ.mul_ii, KQ.mul_li, KQ.mul2_ii, KQ.mul2_li, KQ.mul2_si, KQ.js_nil, KQ.js_cons, KQ.fmt_s, KQ.fmt_n, KQ.fmt_0s, KQ.fmt_0i, KQ.neg_i, KQ.is_g, KQ.isk_n, KQ.isk_b, KQ.is_nn, KQ.is_bn, KQ.is_in, KQ.is_sn, KQ.is_rn, KQ.is_ln, KQ.is_tn, KQ.is_dn, KQ.is_on, KQ.is_nb, KQ.is_bb, KQ.is_ib, KQ.is_sb, KQ.is_rb, KQ.is_lb, KQ.is_tb, KQ.is_ob, KQ.eq_ii, KQ.eq_ss, KQ.eq_bb, KQ.ix_s, KQ.ix_l, KQ.ix_t, KQ.ix_c, KQ.ix_d, KQ.key_i, KQ.key_s, KQ.at_0, KQ.at_1, KQ.at_2, KQ.in_s, KQ.in_l, KQ.in_t, KQ.in_d, KQ.fl_i, KQ.fl_s, KQ.fl_b, KQ.fl_n, KQ.len_s, KQ.len_l, KQ.len_c, KQ.len_t, KQ.len_d, KQ.abs_i, KQ.int_i, KQ.int_b, KQ.int_s, KQ.str_i, KQ.str_s, KQ.mm_ii, KQ.list_l, KQ.list_t, KQ.list_c, KQ.tuple_l, KQ.tuple_t, KQ.sl_s, KQ.sl_l, KQ.sl_t, KQ.sl_c, KQ.asl_l, KQ.asl_c, KQ.asl_t, KQ.ok_l, KQ.ok_s, KQ.app_1, KQ.ext_1, KQ.ins_1, KQ.pop_1, KQ.join_t, KQ.join_l, KQ.isdig, KQ.rmp, KQ.all_l, KQ.isi_2, KQ.ty_n, KQ.ty_b, KQ.ty_i, KQ.ty_s, KQ.ty_l, KQ.ty_t, KQ.ty_o, KQ.cls_t, KQ.cls_c, KQ.k_ni, KQ.k_ns, KQ.k_nb, KQ.k_nl, KQ.k_nt, KQ.k_bi, KQ.k_bs, KQ.k_bb, KQ.k_bl, KQ.k_bt, KQ.k_ii, KQ.k_is, KQ.k_ib, KQ.k_il, KQ.k_it, KQ.k_si, KQ.k_ss, KQ.k_sb, KQ.k_sl, KQ.k_st, KQ.k_li, KQ.k_ls, KQ.k_lb, KQ.k_ll, KQ.k_lt, KQ.k_ti, KQ.k_ts, KQ.k_tb, KQ.k_tl, KQ.k_tt, KQ.ofS_inj, KQ.fget_c, KQ.fget_n, KQ.fputN_n, KQ.fputN_c, KQ.fputX_n, KQ.fputX_c, KQ.map_vw0, KQ.map_vw, KQ.xFrmE, KQ.hX_nil, KQ.hX_only, KQ.hX_named, KQ.len_tf1, KQ.len_tf2, KQ.len_tf3, KQ.clrU_nx, KQ.clrU_rt, KQ.clrU_bk, KQ.clrU_ct, KQ.vw_excE, KQ.atR_e, KQ.wipeR_n, KQ.wipeR_c, KQ.endX_e, KQ.endU_nx, KQ.endU_rt, KQ.srcV_e, KQ.srcF_e, KQ.cmul_rE, KQ.cmul_lE, KQ.cpow_E, KQ.szT0, KQ.szT1, KQ.szT2, KQ.szT3, KQ.szT4, KQ.szT5, KQ.szT6, KQ.szT7, KQ.szT8, KQ.szT0, KQ.ex_sw1, KQ.ex_sw2, KQ.kT_i, KQ.kT_s, KQ.sgn_inj, KQ.vw_kT, KQ.beq_ft, KQ.beq_tf, KQ.pick_nilE, KQ.pick_0E, KQ.pick_1E, KQ.pick_2E, KQ.str4_i, KQ.str4_s, KQ.str4_b, KQ.str4_n, KQ.list3_l, KQ.list3_t, KQ.list3_c, KQ.list3_d, KQ.seqOf_l, KQ.seqOf_t, KQ.seqOf_c, KQ.seqOf_d, KQ.lenE0, KQ.lenE1, KQ.lenE2, KQ.lenE3, KQ.lenE4, KQ.lenE5, KQ.lenE6, KQ.lenE7, KQ.lenE8, KQ.lenE9, KQ.lenE10, KQ.lenS0, KQ.lenS1, KQ.lenS2, KQ.lenS3, KQ.lenS4, KQ.lenS5, KQ.lenS6, KQ.lenS7, KQ.lenS8, KQ.lenS9, KQ.lenS10, KQ.mapS_nil, KQ.mapS_cons, KQ.nil_l, KQ.eqF_g, KQ.eq_nn, KQ.eq_ns, KQ.eq_sn, KQ.eq_ni, KQ.eq_in, KQ.eq_is, KQ.eq_si, KQ.popAt_1, KQ.ix3_0, KQ.ix3_1, KQ.ix3_2, KQ.q_qCell, KQ.strp, KQ.upr, KQ.q_uCv, KQ.q_rep4, KQ.q_uAsgL, KQ.q_uPar3, KQ.q_uCases0, KQ.q_uCases1, Option.isSome_none, Option.isSome_some, and_assoc, decide_true, decide_false, eq_self, not_true_eq_false, not_false_eq_true, reduceCtorEq, exists_false, or_false, false_or, false_and, and_false, true_and, and_true, true_or, or_true, if_true, if_false, Bool.false_xor, Bool.true_xor, Bool.not_eq_true', decide_eq_false_iff_not, decide_eq_true_eq, Bool.false_eq_true, Bool.not_true, Bool.not_false, ite_true, ite_false, exists_const, List.set_cons_zero, List.set_cons_succ, List.getElem?_cons_zero, List.getElem?_cons_succ, Option.some.injEq, KQ.Tr.int.injEq, KQ.Tr.ref.injEq, KQ.Tr.bl.injEq, KQ.Tr.str.injEq, KQ.Tr.lst.injEq, KQ.Tr.tup.injEq, KQ.Tr.dic.injEq, KQ.Tr.ins.injEq, KQ.Tr.scr.injEq, KQ.Tr.exc.injEq, exists_eq_left', exists_eq_left, exists_eq_right, exists_eq_right', exists_eq, exists_eq', exists_and_left, exists_and_right, List.cons_append, List.nil_append, List.cons.injEq, Int.reduceLT, Int.reduceLE, Int.reduceNeg, Int.reducePow, Int.reduceEq, Int.reduceAdd, Int.reduceSub, Int.reduceMul, KQ.ofS_inj, String.reduceEq, forall_const, false_imp_iff, implies_true, exists_prop, PySem.Value.type.injEq, PySem.Value.ref.injEq, beq_self_eq_true, Bool.or_true, Bool.or_false, Bool.true_or, Bool.false_or, Bool.or_self, forall_eq, forall_eq', and_imp, List.length_map, List.length_append, List.isEmpty_nil, List.isEmpty_cons, KQ.sget_cells, KQ.sget_at, KQ.sget_rest, KQ.sget_seed, KQ.sget_room, KQ.sget_long, KQ.sput_at, KQ.sput_rest, KQ.sput_seed, KQ.sput_room, KQ.sput_long, KQ.sN_at, KQ.sN_rest, KQ.sN_seed, KQ.sN_room, KQ.sN_long, KQ.sk_len, KQ.s5get_cells, KQ.s5get_at, KQ.s5get_rest, KQ.s5get_seed, KQ.s5get_room, KQ.s5put_at, KQ.s5put_rest, KQ.s5put_seed, KQ.s5N_at, KQ.s5N_rest, KQ.s5N_seed, KQ.s5k_len, KQ.srcT5_eq, KQ.srcT_eq, KQ.vw_vT, KQ.vw_mT, KQ.q_plN, KQ.vw_labT, KQ.vw_nM, KQ.vw_payT, KQ.vw_seenT, KQ.vw_runT, KQ.vw_progT, KQ.vw_outR, KQ.vw_psT, KQ.vw_psO, *])
local macro_rules | `(tactic| walk_at "vn") => `(tactic| try simp only [ofc_kind, ofc_equals, ofc_size, ofc_has, ofc_item, ofc_before, ofc_first, ofc_every, ofc_some, ofc_both, ofc_either, ofc_inv, KQ.q_uVar, KQ.q_uC, KQ.q_u2, KQ.q_uOp, KQ.q_uUn, KQ.q_uB, KQ.q_uAnd, KQ.q_uOr, KQ.q_uNot, KQ.q_uAndV, KQ.q_uOrV, KQ.q_uNotV, KQ.q_uIf, KQ.q_uNil, KQ.q_uCons, KQ.q_uTup, KQ.q_uLst, KQ.q_uLstC, KQ.q_uCb, KQ.q_uNext, KQ.q_uSeq, KQ.q_uBreak, KQ.q_uCont, KQ.q_uCut, KQ.q_uDrop, KQ.q_uRet, KQ.q_uRetN, KQ.q_uIfS, KQ.q_uNever, KQ.q_uSet, KQ.q_uAsg, KQ.q_uPar, KQ.q_uAug, KQ.q_uFor, KQ.q_uSeqI, KQ.q_uCall, KQ.q_uYes, KQ.q_uLc, KQ.q_uLcC, KQ.q_uPart, KQ.q_uNoPart, KQ.q_uSl, KQ.q_uIsi2, KQ.q_uRng1, KQ.q_uRng2, KQ.q_uStrI, KQ.q_uEnum, KQ.q_uFld, KQ.q_uSFld, KQ.q_uDPut, KQ.q_uLPut, KQ.q_uFrz, KQ.q_uMt, KQ.q_uMm, KQ.q_uForD, KQ.q_uLcD, KQ.q_uMeth, KQ.q_uDNew, KQ.q_uFldAug, KQ.q_uDisp, KQ.q_uIsi1, KQ.q_uOBin, KQ.q_uOIx, KQ.q_uOIn, KQ.q_uOLen, KQ.q_uTry, KQ.q_uXf, KQ.q_uIsE, KQ.q_uRaise, KQ.q_uCallK, KQ.q_uLcX, KQ.q_uNewK, KQ.q_uOEq, KQ.q_uListC, KQ.q_uRev, KQ.q_uEnum2, KQ.q_uZip, KQ.q_uAddC, KQ.q_uFs, KQ.q_uOBin2, KQ.q_uOInv, KQ.q_uCallO, KQ.q_uSrt, KQ.q_uSet0, KQ.q_uSAdd, KQ.q_uSIn, KQ.q_uChain, KQ.q_uKGet, KQ.q_uTryF, KQ.q_uMethZ, KQ.q_uTryZ, KQ.q_uCallC, KQ.q_uNewKL, KQ.q_uMatch, KQ.q_uKIx, KQ.q_uRep2, KQ.vw_refE, KQ.vw_non, KQ.vw_bl, KQ.vw_int, KQ.vw_str, KQ.vw_ty, KQ.vw_lstE, KQ.vw_tupE, KQ.vw_scrE, KQ.vw_dicE, KQ.vw_insE, KQ.put_sameE, KQ.put_putE, KQ.getD_some, KQ.pat_nm, KQ.pat_tp, KQ.pats_nil, KQ.pats_cons, KQ.bind_s, KQ.loop_nil, KQ.lcl_nil, KQ.lcl_cons, KQ.prs_nil, KQ.prs_cons, KQ.add_ii, KQ.add_ss, KQ.add_ll, KQ.add_tt, KQ.sortr_l, KQ.les_ss, KQ.int2_ii, KQ.mul_ii, KQ.mul_li, KQ.mul2_ii, KQ.mul2_li, KQ.mul2_si, KQ.js_nil, KQ.js_cons, KQ.fmt_s, KQ.fmt_n, KQ.fmt_0s, KQ.fmt_0i, KQ.neg_i, KQ.is_g, KQ.isk_n, KQ.isk_b, KQ.is_nn, KQ.is_bn, KQ.is_in, KQ.is_sn, KQ.is_rn, KQ.is_ln, KQ.is_tn, KQ.is_dn, KQ.is_on, KQ.is_nb, KQ.is_bb, KQ.is_ib, KQ.is_sb, KQ.is_rb, KQ.is_lb, KQ.is_tb, KQ.is_ob, KQ.eq_ii, KQ.eq_ss, KQ.eq_bb, KQ.ix_s, KQ.ix_l, KQ.ix_t, KQ.ix_c, KQ.ix_d, KQ.key_i, KQ.key_s, KQ.at_0, KQ.at_1, KQ.at_2, KQ.in_s, KQ.in_l, KQ.in_t, KQ.in_d, KQ.fl_i, KQ.fl_s, KQ.fl_b, KQ.fl_n, KQ.len_s, KQ.len_l, KQ.len_c, KQ.len_t, KQ.len_d, KQ.abs_i, KQ.int_i, KQ.int_b, KQ.int_s, KQ.str_i, KQ.str_s, KQ.mm_ii, KQ.list_l, KQ.list_t, KQ.list_c, KQ.tuple_l, KQ.tuple_t, KQ.sl_s, KQ.sl_l, KQ.sl_t, KQ.sl_c, KQ.asl_l, KQ.asl_c, KQ.asl_t, KQ.ok_l, KQ.ok_s, KQ.app_1, KQ.ext_1, KQ.ins_1, KQ.pop_1, KQ.join_t, KQ.join_l, KQ.isdig, KQ.rmp, KQ.all_l, KQ.isi_2, KQ.ty_n, KQ.ty_b, KQ.ty_i, KQ.ty_s, KQ.ty_l, KQ.ty_t, KQ.ty_o, KQ.cls_t, KQ.cls_c, KQ.k_ni, KQ.k_ns, KQ.k_nb, KQ.k_nl, KQ.k_nt, KQ.k_bi, KQ.k_bs, KQ.k_bb, KQ.k_bl, KQ.k_bt, KQ.k_ii, KQ.k_is, KQ.k_ib, KQ.k_il, KQ.k_it, KQ.k_si, KQ.k_ss, KQ.k_sb, KQ.k_sl, KQ.k_st, KQ.k_li, KQ.k_ls, KQ.k_lb, KQ.k_ll, KQ.k_lt, KQ.k_ti, KQ.k_ts, KQ.k_tb, KQ.k_tl, KQ.k_tt, KQ.ofS_inj, KQ.fget_c, KQ.fget_n, KQ.fputN_n, KQ.fputN_c, KQ.fputX_n, KQ.fputX_c, KQ.map_vw0, KQ.map_vw, KQ.xFrmE, KQ.hX_nil, KQ.hX_only, KQ.hX_named, KQ.len_tf1, KQ.len_tf2, KQ.len_tf3, KQ.clrU_nx, KQ.clrU_rt, KQ.clrU_bk, KQ.clrU_ct, KQ.vw_excE, KQ.atR_e, KQ.wipeR_n, KQ.wipeR_c, KQ.endX_e, KQ.endU_nx, KQ.endU_rt, KQ.srcV_e, KQ.srcF_e, KQ.cmul_rE, KQ.cmul_lE, KQ.cpow_E, KQ.szT0, KQ.szT1, KQ.szT2, KQ.szT3, KQ.szT4, KQ.szT5, KQ.szT6, KQ.szT7, KQ.szT8, KQ.szT0, KQ.ex_sw1, KQ.ex_sw2, KQ.kT_i, KQ.kT_s, KQ.sgn_inj, KQ.vw_kT, KQ.beq_ft, KQ.beq_tf, KQ.pick_nilE, KQ.pick_0E, KQ.pick_1E, KQ.pick_2E, KQ.str4_i, KQ.str4_s, KQ.str4_b, KQ.str4_n, KQ.list3_l, KQ.list3_t, KQ.list3_c, KQ.list3_d, KQ.seqOf_l, KQ.seqOf_t, KQ.seqOf_c, KQ.seqOf_d, KQ.lenE0, KQ.lenE1, KQ.lenE2, KQ.lenE3, KQ.lenE4, KQ.lenE5, KQ.lenE6, KQ.lenE7, KQ.lenE8, KQ.lenE9, KQ.lenE10, KQ.lenS0, KQ.lenS1, KQ.lenS2, KQ.lenS3, KQ.lenS4, KQ.lenS5, KQ.lenS6, KQ.lenS7, KQ.lenS8, KQ.lenS9, KQ.lenS10, KQ.mapS_nil, KQ.mapS_cons, KQ.nil_l, KQ.eqF_g, KQ.eq_nn, KQ.eq_ns, KQ.eq_sn, KQ.eq_ni, KQ.eq_in, KQ.eq_is, KQ.eq_si, KQ.popAt_1, KQ.ix3_0, KQ.ix3_1, KQ.ix3_2, KQ.q_qCell, KQ.strp, KQ.upr, KQ.q_uCv, KQ.q_rep4, KQ.q_uAsgL, KQ.q_uPar3, KQ.q_uCases0, KQ.q_uCases1, Option.isSome_none, Option.isSome_some, and_assoc, decide_true, decide_false, eq_self, not_true_eq_false, not_false_eq_true, reduceCtorEq, exists_false, or_false, false_or, false_and, and_false, true_and, and_true, true_or, or_true, if_true, if_false, Bool.false_xor, Bool.true_xor, Bool.not_eq_true', decide_eq_false_iff_not, decide_eq_true_eq, Bool.false_eq_true, Bool.not_true, Bool.not_false, ite_true, ite_false, exists_const, List.set_cons_zero, List.set_cons_succ, List.getElem?_cons_zero, List.getElem?_cons_succ, Option.some.injEq, KQ.Tr.int.injEq, KQ.Tr.ref.injEq, KQ.Tr.bl.injEq, KQ.Tr.str.injEq, KQ.Tr.lst.injEq, KQ.Tr.tup.injEq, KQ.Tr.dic.injEq, KQ.Tr.ins.injEq, KQ.Tr.scr.injEq, KQ.Tr.exc.injEq, exists_eq_left', exists_eq_left, exists_eq_right, exists_eq_right', exists_eq, exists_eq', exists_and_left, exists_and_right, List.cons_append, List.nil_append, List.cons.injEq, Int.reduceLT, Int.reduceLE, Int.reduceNeg, Int.reducePow, Int.reduceEq, Int.reduceAdd, Int.reduceSub, Int.reduceMul, KQ.ofS_inj, String.reduceEq, forall_const, false_imp_iff, implies_true, exists_prop, PySem.Value.type.injEq, PySem.Value.ref.injEq, beq_self_eq_true, Bool.or_true, Bool.or_false, Bool.true_or, Bool.false_or, Bool.or_self, forall_eq, forall_eq', and_imp, List.length_map, List.length_append, List.isEmpty_nil, List.isEmpty_cons, KQ.sget_cells, KQ.sget_at, KQ.sget_rest, KQ.sget_seed, KQ.sget_room, KQ.sget_long, KQ.sput_at, KQ.sput_rest, KQ.sput_seed, KQ.sput_room, KQ.sput_long, KQ.sN_at, KQ.sN_rest, KQ.sN_seed, KQ.sN_room, KQ.sN_long, KQ.sk_len, KQ.s5get_cells, KQ.s5get_at, KQ.s5get_rest, KQ.s5get_seed, KQ.s5get_room, KQ.s5put_at, KQ.s5put_rest, KQ.s5put_seed, KQ.s5N_at, KQ.s5N_rest, KQ.s5N_seed, KQ.s5k_len, KQ.srcT5_eq, KQ.srcT_eq, KQ.vw_vT, KQ.vw_mT, KQ.q_plN, KQ.vw_labT, KQ.vw_nM, KQ.vw_payT, KQ.vw_seenT, KQ.vw_runT, KQ.vw_progT, KQ.vw_outR, KQ.vw_psT, KQ.vw_psO, *])
local macro_rules | `(tactic| walk_at "vm") => `(tactic| try simp only [ofc_kind, ofc_equals, ofc_size, ofc_has, ofc_item, ofc_before, ofc_first, ofc_every, ofc_some, ofc_both, ofc_either, ofc_inv, KQ.q_uVar, KQ.q_uC, KQ.q_u2, KQ.q_uOp, KQ.q_uUn, KQ.q_uB, KQ.q_uAnd, KQ.q_uOr, KQ.q_uNot, KQ.q_uAndV, KQ.q_uOrV, KQ.q_uNotV, KQ.q_uIf, KQ.q_uNil, KQ.q_uCons, KQ.q_uTup, KQ.q_uLst, KQ.q_uLstC, KQ.q_uCb, KQ.q_uNext, KQ.q_uSeq, KQ.q_uBreak, KQ.q_uCont, KQ.q_uCut, KQ.q_uDrop, KQ.q_uRet, KQ.q_uRetN, KQ.q_uIfS, KQ.q_uNever, KQ.q_uSet, KQ.q_uAsg, KQ.q_uPar, KQ.q_uAug, KQ.q_uFor, KQ.q_uSeqI, KQ.q_uCall, KQ.q_uYes, KQ.q_uLc, KQ.q_uLcC, KQ.q_uPart, KQ.q_uNoPart, KQ.q_uSl, KQ.q_uIsi2, KQ.q_uRng1, KQ.q_uRng2, KQ.q_uStrI, KQ.q_uEnum, KQ.q_uFld, KQ.q_uSFld, KQ.q_uDPut, KQ.q_uLPut, KQ.q_uFrz, KQ.q_uMt, KQ.q_uMm, KQ.q_uForD, KQ.q_uLcD, KQ.q_uMeth, KQ.q_uDNew, KQ.q_uFldAug, KQ.q_uDisp, KQ.q_uIsi1, KQ.q_uOBin, KQ.q_uOIx, KQ.q_uOIn, KQ.q_uOLen, KQ.q_uTry, KQ.q_uXf, KQ.q_uIsE, KQ.q_uRaise, KQ.q_uCallK, KQ.q_uLcX, KQ.q_uNewK, KQ.q_uOEq, KQ.q_uListC, KQ.q_uRev, KQ.q_uEnum2, KQ.q_uZip, KQ.q_uAddC, KQ.q_uFs, KQ.q_uOBin2, KQ.q_uOInv, KQ.q_uCallO, KQ.q_uSrt, KQ.q_uSet0, KQ.q_uSAdd, KQ.q_uSIn, KQ.q_uChain, KQ.q_uKGet, KQ.q_uTryF, KQ.q_uMethZ, KQ.q_uTryZ, KQ.q_uCallC, KQ.q_uNewKL, KQ.q_uMatch, KQ.q_uKIx, KQ.q_uRep2, KQ.vw_refE, KQ.vw_non, KQ.vw_bl, KQ.vw_int, KQ.vw_str, KQ.vw_ty, KQ.vw_lstE, KQ.vw_tupE, KQ.vw_scrE, KQ.vw_dicE, KQ.vw_insE, KQ.put_sameE, KQ.put_putE, KQ.getD_some, KQ.pat_nm, KQ.pat_tp, KQ.pats_nil, KQ.pats_cons, KQ.bind_s, KQ.loop_nil, KQ.lcl_nil, KQ.prs_nil, KQ.prs_cons, KQ.add_ii, KQ.add_ss, KQ.add_ll, KQ.add_tt, KQ.sortr_l, KQ.les_ss, KQ.int2_ii, KQ.mul_ii, KQ.mul_li, KQ.mul2_ii, KQ.mul2_li, KQ.mul2_si, KQ.js_nil, KQ.js_cons, KQ.fmt_s, KQ.fmt_n, KQ.fmt_0s, KQ.fmt_0i, KQ.neg_i, KQ.is_g, KQ.isk_n, KQ.isk_b, KQ.is_nn, KQ.is_bn, KQ.is_in, KQ.is_sn, KQ.is_rn, KQ.is_ln, KQ.is_tn, KQ.is_dn, KQ.is_on, KQ.is_nb, KQ.is_bb, KQ.is_ib, KQ.is_sb, KQ.is_rb, KQ.is_lb, KQ.is_tb, KQ.is_ob, KQ.eq_ii, KQ.eq_ss, KQ.eq_bb, KQ.ix_s, KQ.ix_l, KQ.ix_t, KQ.ix_c, KQ.ix_d, KQ.key_i, KQ.key_s, KQ.at_0, KQ.at_1, KQ.at_2, KQ.in_s, KQ.in_l, KQ.in_t, KQ.in_d, KQ.fl_i, KQ.fl_s, KQ.fl_b, KQ.fl_n, KQ.len_s, KQ.len_l, KQ.len_c, KQ.len_t, KQ.len_d, KQ.abs_i, KQ.int_i, KQ.int_b, KQ.int_s, KQ.str_i, KQ.str_s, KQ.mm_ii, KQ.list_l, KQ.list_t, KQ.list_c, KQ.tuple_l, KQ.tuple_t, KQ.sl_s, KQ.sl_l, KQ.sl_t, KQ.sl_c, KQ.asl_l, KQ.asl_c, KQ.asl_t, KQ.ok_l, KQ.ok_s, KQ.app_1, KQ.ext_1, KQ.ins_1, KQ.pop_1, KQ.join_t, KQ.join_l, KQ.isdig, KQ.rmp, KQ.all_l, KQ.isi_2, KQ.ty_n, KQ.ty_b, KQ.ty_i, KQ.ty_s, KQ.ty_l, KQ.ty_t, KQ.ty_o, KQ.cls_t, KQ.cls_c, KQ.k_ni, KQ.k_ns, KQ.k_nb, KQ.k_nl, KQ.k_nt, KQ.k_bi, KQ.k_bs, KQ.k_bb, KQ.k_bl, KQ.k_bt, KQ.k_ii, KQ.k_is, KQ.k_ib, KQ.k_il, KQ.k_it, KQ.k_si, KQ.k_ss, KQ.k_sb, KQ.k_sl, KQ.k_st, KQ.k_li, KQ.k_ls, KQ.k_lb, KQ.k_ll, KQ.k_lt, KQ.k_ti, KQ.k_ts, KQ.k_tb, KQ.k_tl, KQ.k_tt, KQ.ofS_inj, KQ.fget_c, KQ.fget_n, KQ.fputN_n, KQ.fputN_c, KQ.fputX_n, KQ.fputX_c, KQ.map_vw0, KQ.map_vw, KQ.xFrmE, KQ.hX_nil, KQ.hX_only, KQ.hX_named, KQ.len_tf1, KQ.len_tf2, KQ.len_tf3, KQ.clrU_nx, KQ.clrU_rt, KQ.clrU_bk, KQ.clrU_ct, KQ.vw_excE, KQ.atR_e, KQ.wipeR_n, KQ.wipeR_c, KQ.endX_e, KQ.endU_nx, KQ.endU_rt, KQ.srcV_e, KQ.srcF_e, KQ.cmul_rE, KQ.cmul_lE, KQ.cpow_E, KQ.szT0, KQ.szT1, KQ.szT2, KQ.szT3, KQ.szT4, KQ.szT5, KQ.szT6, KQ.szT7, KQ.szT8, KQ.szT0, KQ.ex_sw1, KQ.ex_sw2, KQ.kT_i, KQ.kT_s, KQ.sgn_inj, KQ.vw_kT, KQ.beq_ft, KQ.beq_tf, KQ.pick_nilE, KQ.pick_0E, KQ.pick_1E, KQ.pick_2E, KQ.str4_i, KQ.str4_s, KQ.str4_b, KQ.str4_n, KQ.list3_l, KQ.list3_t, KQ.list3_c, KQ.list3_d, KQ.seqOf_l, KQ.seqOf_t, KQ.seqOf_c, KQ.seqOf_d, KQ.lenE0, KQ.lenE1, KQ.lenE2, KQ.lenE3, KQ.lenE4, KQ.lenE5, KQ.lenE6, KQ.lenE7, KQ.lenE8, KQ.lenE9, KQ.lenE10, KQ.lenS0, KQ.lenS1, KQ.lenS2, KQ.lenS3, KQ.lenS4, KQ.lenS5, KQ.lenS6, KQ.lenS7, KQ.lenS8, KQ.lenS9, KQ.lenS10, KQ.mapS_nil, KQ.mapS_cons, KQ.nil_l, KQ.eqF_g, KQ.eq_nn, KQ.eq_ns, KQ.eq_sn, KQ.eq_ni, KQ.eq_in, KQ.eq_is, KQ.eq_si, KQ.popAt_1, KQ.ix3_0, KQ.ix3_1, KQ.ix3_2, KQ.q_qCell, KQ.strp, KQ.upr, KQ.q_uCv, KQ.q_rep4, KQ.q_uAsgL, KQ.q_uPar3, KQ.q_uCases0, KQ.q_uCases1, Option.isSome_none, Option.isSome_some, and_assoc, decide_true, decide_false, eq_self, not_true_eq_false, not_false_eq_true, reduceCtorEq, exists_false, or_false, false_or, false_and, and_false, true_and, and_true, true_or, or_true, if_true, if_false, Bool.false_xor, Bool.true_xor, Bool.not_eq_true', decide_eq_false_iff_not, decide_eq_true_eq, Bool.false_eq_true, Bool.not_true, Bool.not_false, ite_true, ite_false, exists_const, List.set_cons_zero, List.set_cons_succ, List.getElem?_cons_zero, List.getElem?_cons_succ, Option.some.injEq, KQ.Tr.int.injEq, KQ.Tr.ref.injEq, KQ.Tr.bl.injEq, KQ.Tr.str.injEq, KQ.Tr.lst.injEq, KQ.Tr.tup.injEq, KQ.Tr.dic.injEq, KQ.Tr.ins.injEq, KQ.Tr.scr.injEq, KQ.Tr.exc.injEq, exists_eq_left', exists_eq_left, exists_eq_right, exists_eq_right', exists_eq, exists_eq', exists_and_left, exists_and_right, List.cons_append, List.nil_append, List.cons.injEq, Int.reduceLT, Int.reduceLE, Int.reduceNeg, Int.reducePow, Int.reduceEq, Int.reduceAdd, Int.reduceSub, Int.reduceMul, KQ.ofS_inj, String.reduceEq, forall_const, false_imp_iff, implies_true, exists_prop, PySem.Value.type.injEq, PySem.Value.ref.injEq, beq_self_eq_true, Bool.or_true, Bool.or_false, Bool.true_or, Bool.false_or, Bool.or_self, forall_eq, forall_eq', and_imp, List.length_map, List.length_append, List.isEmpty_nil, List.isEmpty_cons, KQ.sget_cells, KQ.sget_at, KQ.sget_rest, KQ.sget_seed, KQ.sget_room, KQ.sget_long, KQ.sput_at, KQ.sput_rest, KQ.sput_seed, KQ.sput_room, KQ.sput_long, KQ.sN_at, KQ.sN_rest, KQ.sN_seed, KQ.sN_room, KQ.sN_long, KQ.sk_len, KQ.s5get_cells, KQ.s5get_at, KQ.s5get_rest, KQ.s5get_seed, KQ.s5get_room, KQ.s5put_at, KQ.s5put_rest, KQ.s5put_seed, KQ.s5N_at, KQ.s5N_rest, KQ.s5N_seed, KQ.s5k_len, KQ.srcT5_eq, KQ.srcT_eq, KQ.vw_vT, KQ.vw_mT, KQ.q_plN, KQ.vw_labT, KQ.vw_nM, KQ.vw_payT, KQ.vw_seenT, KQ.vw_runT, KQ.vw_progT, KQ.vw_outR, KQ.vw_psT, KQ.vw_psO, *])
local macro_rules | `(tactic| walk_at "vl") => `(tactic| try simp only [ofc_kind, ofc_equals, ofc_size, ofc_has, ofc_item, ofc_before, ofc_first, ofc_every, ofc_some, ofc_both, ofc_either, ofc_inv, KQ.q_uVar, KQ.q_uC, KQ.q_u2, KQ.q_uOp, KQ.q_uUn, KQ.q_uB, KQ.q_uAnd, KQ.q_uOr, KQ.q_uNot, KQ.q_uAndV, KQ.q_uOrV, KQ.q_uNotV, KQ.q_uIf, KQ.q_uNil, KQ.q_uCons, KQ.q_uTup, KQ.q_uLst, KQ.q_uLstC, KQ.q_uCb, KQ.q_uNext, KQ.q_uSeq, KQ.q_uBreak, KQ.q_uCont, KQ.q_uCut, KQ.q_uDrop, KQ.q_uRet, KQ.q_uRetN, KQ.q_uIfS, KQ.q_uNever, KQ.q_uSet, KQ.q_uAsg, KQ.q_uPar, KQ.q_uAug, KQ.q_uFor, KQ.q_uSeqI, KQ.q_uCall, KQ.q_uYes, KQ.q_uLc, KQ.q_uLcC, KQ.q_uPart, KQ.q_uNoPart, KQ.q_uSl, KQ.q_uIsi2, KQ.q_uRng1, KQ.q_uRng2, KQ.q_uStrI, KQ.q_uEnum, KQ.q_uFld, KQ.q_uSFld, KQ.q_uDPut, KQ.q_uLPut, KQ.q_uFrz, KQ.q_uMt, KQ.q_uMm, KQ.q_uForD, KQ.q_uLcD, KQ.q_uMeth, KQ.q_uDNew, KQ.q_uFldAug, KQ.q_uDisp, KQ.q_uIsi1, KQ.q_uOBin, KQ.q_uOIx, KQ.q_uOIn, KQ.q_uOLen, KQ.q_uTry, KQ.q_uXf, KQ.q_uIsE, KQ.q_uRaise, KQ.q_uCallK, KQ.q_uLcX, KQ.q_uNewK, KQ.q_uOEq, KQ.q_uListC, KQ.q_uRev, KQ.q_uEnum2, KQ.q_uZip, KQ.q_uAddC, KQ.q_uFs, KQ.q_uOBin2, KQ.q_uOInv, KQ.q_uCallO, KQ.q_uSrt, KQ.q_uSet0, KQ.q_uSAdd, KQ.q_uSIn, KQ.q_uChain, KQ.q_uKGet, KQ.q_uTryF, KQ.q_uMethZ, KQ.q_uTryZ, KQ.q_uCallC, KQ.q_uNewKL, KQ.q_uMatch, KQ.q_uKIx, KQ.q_uRep2, KQ.vw_refE, KQ.vw_non, KQ.vw_bl, KQ.vw_int, KQ.vw_str, KQ.vw_ty, KQ.vw_lstE, KQ.vw_tupE, KQ.vw_scrE, KQ.vw_dicE, KQ.vw_insE, KQ.put_sameE, KQ.put_putE, KQ.getD_some, KQ.pat_nm, KQ.pat_tp, KQ.pats_nil, KQ.pats_cons, KQ.bind_s, KQ.loop_nil, KQ.lcl_nil, KQ.lcl_cons, KQ.prs_nil, KQ.prs_cons, KQ.add_ii, KQ.add_ss, KQ.add_ll, KQ.add_tt, KQ.sortr_l, KQ.les_ss, KQ.int2_ii, KQ.mul_ii, KQ.mul_li, KQ.mul2_ii, KQ.mul2_li, KQ.mul2_si, KQ.js_nil, KQ.js_cons, KQ.fmt_s, KQ.fmt_n, KQ.fmt_0s, KQ.fmt_0i, KQ.neg_i, KQ.is_g, KQ.isk_n, KQ.isk_b, KQ.is_nn, KQ.is_bn, KQ.is_in, KQ.is_sn, KQ.is_rn, KQ.is_ln, KQ.is_tn, KQ.is_dn, KQ.is_on, KQ.is_nb, KQ.is_bb, KQ.is_ib, KQ.is_sb, KQ.is_rb, KQ.is_lb, KQ.is_tb, KQ.is_ob, KQ.eq_ii, KQ.eq_ss, KQ.eq_bb, KQ.ix_s, KQ.ix_l, KQ.ix_t, KQ.ix_c, KQ.ix_d, KQ.key_i, KQ.key_s, KQ.at_0, KQ.at_1, KQ.at_2, KQ.in_s, KQ.in_l, KQ.in_t, KQ.in_d, KQ.fl_i, KQ.fl_s, KQ.fl_b, KQ.fl_n, KQ.len_s, KQ.len_l, KQ.len_c, KQ.len_t, KQ.len_d, KQ.abs_i, KQ.int_i, KQ.int_b, KQ.int_s, KQ.str_i, KQ.str_s, KQ.mm_ii, KQ.list_l, KQ.list_t, KQ.list_c, KQ.tuple_l, KQ.tuple_t, KQ.sl_s, KQ.sl_l, KQ.sl_t, KQ.sl_c, KQ.asl_l, KQ.asl_c, KQ.asl_t, KQ.ok_l, KQ.ok_s, KQ.app_1, KQ.ext_1, KQ.ins_1, KQ.pop_1, KQ.join_t, KQ.join_l, KQ.isdig, KQ.rmp, KQ.all_l, KQ.isi_2, KQ.ty_n, KQ.ty_b, KQ.ty_i, KQ.ty_s, KQ.ty_l, KQ.ty_t, KQ.ty_o, KQ.cls_t, KQ.cls_c, KQ.k_ni, KQ.k_ns, KQ.k_nb, KQ.k_nl, KQ.k_nt, KQ.k_bi, KQ.k_bs, KQ.k_bb, KQ.k_bl, KQ.k_bt, KQ.k_ii, KQ.k_is, KQ.k_ib, KQ.k_il, KQ.k_it, KQ.k_si, KQ.k_ss, KQ.k_sb, KQ.k_sl, KQ.k_st, KQ.k_li, KQ.k_ls, KQ.k_lb, KQ.k_ll, KQ.k_lt, KQ.k_ti, KQ.k_ts, KQ.k_tb, KQ.k_tl, KQ.k_tt, KQ.ofS_inj, KQ.fget_c, KQ.fget_n, KQ.fputN_n, KQ.fputN_c, KQ.fputX_n, KQ.fputX_c, KQ.map_vw0, KQ.map_vw, KQ.xFrmE, KQ.hX_nil, KQ.hX_only, KQ.hX_named, KQ.len_tf1, KQ.len_tf2, KQ.len_tf3, KQ.clrU_nx, KQ.clrU_rt, KQ.clrU_bk, KQ.clrU_ct, KQ.vw_excE, KQ.atR_e, KQ.wipeR_n, KQ.wipeR_c, KQ.endX_e, KQ.endU_nx, KQ.endU_rt, KQ.srcV_e, KQ.srcF_e, KQ.cmul_rE, KQ.cmul_lE, KQ.cpow_E, KQ.szT0, KQ.szT1, KQ.szT2, KQ.szT3, KQ.szT4, KQ.szT5, KQ.szT6, KQ.szT7, KQ.szT8, KQ.szT0, KQ.ex_sw1, KQ.ex_sw2, KQ.kT_i, KQ.kT_s, KQ.sgn_inj, KQ.vw_kT, KQ.beq_ft, KQ.beq_tf, KQ.pick_nilE, KQ.pick_0E, KQ.pick_1E, KQ.pick_2E, KQ.str4_i, KQ.str4_s, KQ.str4_b, KQ.str4_n, KQ.list3_l, KQ.list3_t, KQ.list3_c, KQ.list3_d, KQ.seqOf_l, KQ.seqOf_t, KQ.seqOf_c, KQ.seqOf_d, KQ.lenE0, KQ.lenE1, KQ.lenE2, KQ.lenE3, KQ.lenE4, KQ.lenE5, KQ.lenE6, KQ.lenE7, KQ.lenE8, KQ.lenE9, KQ.lenE10, KQ.lenS0, KQ.lenS1, KQ.lenS2, KQ.lenS3, KQ.lenS4, KQ.lenS5, KQ.lenS6, KQ.lenS7, KQ.lenS8, KQ.lenS9, KQ.lenS10, KQ.mapS_nil, KQ.mapS_cons, KQ.nil_l, KQ.eqF_g, KQ.eq_nn, KQ.eq_ns, KQ.eq_sn, KQ.eq_ni, KQ.eq_in, KQ.eq_is, KQ.eq_si, KQ.popAt_1, KQ.ix3_0, KQ.ix3_1, KQ.ix3_2, KQ.q_qCell, KQ.strp, KQ.upr, KQ.q_uCv, KQ.q_rep4, KQ.q_uAsgL, KQ.q_uPar3, KQ.q_uCases0, KQ.q_uCases1, Option.isSome_none, Option.isSome_some, and_assoc, decide_true, decide_false, eq_self, not_true_eq_false, not_false_eq_true, reduceCtorEq, exists_false, or_false, false_or, false_and, and_false, true_and, and_true, true_or, or_true, if_true, if_false, Bool.false_xor, Bool.true_xor, Bool.not_eq_true', decide_eq_false_iff_not, decide_eq_true_eq, Bool.false_eq_true, Bool.not_true, Bool.not_false, ite_true, ite_false, exists_const, List.set_cons_zero, List.set_cons_succ, List.getElem?_cons_zero, List.getElem?_cons_succ, Option.some.injEq, KQ.Tr.int.injEq, KQ.Tr.ref.injEq, KQ.Tr.bl.injEq, KQ.Tr.str.injEq, KQ.Tr.lst.injEq, KQ.Tr.tup.injEq, KQ.Tr.dic.injEq, KQ.Tr.ins.injEq, KQ.Tr.scr.injEq, KQ.Tr.exc.injEq, exists_eq_left', exists_eq_left, exists_eq_right, exists_eq_right', exists_eq, exists_eq', exists_and_left, exists_and_right, List.cons_append, List.nil_append, List.cons.injEq, Int.reduceLT, Int.reduceLE, Int.reduceNeg, Int.reducePow, Int.reduceEq, Int.reduceAdd, Int.reduceSub, Int.reduceMul, KQ.ofS_inj, String.reduceEq, forall_const, false_imp_iff, implies_true, exists_prop, PySem.Value.type.injEq, PySem.Value.ref.injEq, beq_self_eq_true, Bool.or_true, Bool.or_false, Bool.true_or, Bool.false_or, Bool.or_self, forall_eq, forall_eq', and_imp, List.length_map, List.length_append, List.isEmpty_nil, List.isEmpty_cons, KQ.sget_cells, KQ.sget_at, KQ.sget_rest, KQ.sget_seed, KQ.sget_room, KQ.sget_long, KQ.sput_at, KQ.sput_rest, KQ.sput_seed, KQ.sput_room, KQ.sput_long, KQ.sN_at, KQ.sN_rest, KQ.sN_seed, KQ.sN_room, KQ.sN_long, KQ.sk_len, KQ.s5get_cells, KQ.s5get_at, KQ.s5get_rest, KQ.s5get_seed, KQ.s5get_room, KQ.s5put_at, KQ.s5put_rest, KQ.s5put_seed, KQ.s5N_at, KQ.s5N_rest, KQ.s5N_seed, KQ.s5k_len, KQ.srcT5_eq, KQ.srcT_eq, KQ.vw_vT, KQ.vw_mT, KQ.q_plN, KQ.vw_labT, KQ.vw_nM, KQ.vw_payT, KQ.vw_seenT, KQ.vw_runT, KQ.vw_progT, KQ.vw_outR, KQ.vw_psT, KQ.vw_psO, KQ.fl_cons, KQ.fl_nil, KQ.iv_cons, KQ.iv_nil, Option.map_some, Bool.or_eq_true, Bool.or_false, Bool.false_or, Bool.true_or, exists_eq_left, exists_eq_left', Bool.or_self, Bool.or_true, *])
local macro_rules | `(tactic| walk_at "mono") => `(tactic| (intro xs S Q Q' X X' hQ hX; (repeat' first | exact fun h => h | exact hQ _ _ | exact hX _ _ _ _ | refine Exists.imp fun _ => ?_ | refine And.imp ?_ ?_ | refine Or.imp ?_ ?_ | refine forall_imp fun _ => ?_)))

section
variable {P : Program} {w : World} {K : PySem.W.Frag} {mg : Str → Option Value} {base : Heap} {A : Adr}
/-! ### _law_draw -/
abbrev N__law_draw : List Str := ["_law_draws_here", "_law_many", "_law_digit"]
theorem sc__law_draw : FnScope N__law_draw ["_law_draws_here", "_law_many"] (defScope s__law_draw) := ⟨rfl, rfl, rfl, by decide +kernel, rfl, by decide +kernel, by decide +kernel⟩
theorem ok__law_draw (T : Top K mg A) {k : Nat}   : CalleeT P w K mg base (k + 1) "_law_draw" ["_law_draws_here", "_law_many"] (sp_dr) := by
  have nd := sc__law_draw.nd
  refine Def.okT T.d__law_draw sc__law_draw (fun _ _ _ _ _ _ us hl => match us, hl with | [_, _], _ => rfl) (fun xs S Q X h => ?_) ?_ (fun f cdv AA outer s H E hr tk po => have hu := hu_of hr; (ss_cons (s_if (t_cmp op_gt o_gt (e_ix (ix_op hr) o_ix (e_var 0) e_int (fun _ _ => rfl)) e_int (nomark _)) (ss_cons (s_set (i := 2) nd rfl (Or.inl rfl) (e_op KB.md_any o_mod (e_callTy KB.int_any c_int (by rfl) T.b.b_int boot_int (a_cons (e_ix (ix_op hr) o_ix (e_var 0) e_int (fun _ _ => rfl)) a_nil)) (e_var 1)))
      (ss_cons (s_lput (e_var 0) e_int (e_op KB.fd_any o_fd (e_ix (ix_op hr) o_ix (e_var 0) e_int (fun _ _ => rfl)) (e_var 1)))
      (ss_one (s_ret (e_var 2))))) ss_nil)
      (ss_cons (s_lput (e_var 0) e_int (e_op KB.md_any o_mod (e_callTy KB.int_any c_int (by rfl) T.b.b_int boot_int (a_cons (e_op ad_op o_add (e_op ml2_op o_mul2 (e_ix (ix_op hr) o_ix (e_var 0) e_int (fun _ _ => rfl)) e_int) e_int) a_nil)) e_int))
      (ss_cons (s_lput (e_var 0) e_int (e_op KB.md_any o_mod (e_callTy KB.int_any c_int (by rfl) T.b.b_int boot_int (a_cons (e_op ad_op o_add (e_op ml2_op o_mul2 (e_ix (ix_op hr) o_ix (e_var 0) e_int (fun _ _ => rfl)) e_int) e_int) a_nil)) e_int))
      (ss_one (s_ret (e_op KB.md_any o_mod (e_op KB.fd_any o_fd (e_op KB.md_any o_mod (e_callTy KB.int_any c_int (by rfl) T.b.b_int boot_int (a_cons (e_op ad_op o_add (e_op ml2_op o_mul2 (e_ix (ix_op hr) o_ix (e_var 0) e_int (fun _ _ => rfl)) e_int) (e_op KB.fd_any o_fd (e_ix (ix_op hr) o_ix (e_var 0) e_int (fun _ _ => rfl)) e_int)) a_nil)) e_int) e_int) (e_var 1)))))))) ?_
  · obtain ⟨a, m, c, rfl, hS, ⟨g, x, y, rfl, g0, x0, x1, y0, y1⟩, m0, m1, hq⟩ := h
    rfl
  · walk_at "mono"
  · intro xs S Q X cQ cX h
    obtain ⟨a, m, c, rfl, hS, ⟨g, x, y, rfl, g0, x0, x1, y0, y1⟩, m0, m1, hq⟩ := h
    simp only [KQ.startT, List.map_cons, List.map_nil, List.length_cons, List.length_nil, Nat.reduceAdd, Nat.reduceSub, List.replicate_succ, List.replicate_zero, List.cons_append, List.nil_append]
    have e4 := cdiv_ok (i := g) m0 m1
    have e1 := Int.emod_nonneg g (by omega : m ≠ 0)
    have e2 := Int.emod_lt_of_pos g m0
    have e3 := Int.ediv_nonneg g0 (Int.le_of_lt m0)
    have d1 : CDivW ((y * 40692 + 29) % 2147483399) 3 := cdiv_ok (by decide) (by decide)
    have d2 : ∀ i, CDivW i 16 := fun i => cdiv_ok (by decide) (by decide)
    walk_at "vc"
    by_cases hg : 0 < g
    · rw [if_pos hg]
      exact hq _ _ e1 e2 ⟨g / m, x, y, rfl, e3, x0, x1, y0, y1⟩
    · rw [if_neg hg]
      have b1 := Int.emod_nonneg (x * 48271 + 11) (by decide : (2147483647 : Int) ≠ 0)
      have b2 := Int.emod_lt_of_pos (x * 48271 + 11) (by decide : (0 : Int) < 2147483647)
      have b3 := Int.emod_nonneg (y * 40692 + 29) (by decide : (2147483399 : Int) ≠ 0)
      have b4 := Int.emod_lt_of_pos (y * 40692 + 29) (by decide : (0 : Int) < 2147483399)
      exact hq _ _ (Int.emod_nonneg _ (by omega)) (Int.emod_lt_of_pos _ m0) ⟨g, _, _, rfl, g0, b1, by omega, b3, by omega⟩

/-! ### _law_some -/
abbrev N__law_some : List Str := ["_law_draws_here", "_law_things"]
theorem sc__law_some : FnScope N__law_some ["_law_draws_here", "_law_things"] (defScope s__law_some) := ⟨rfl, rfl, rfl, by decide +kernel, rfl, by decide +kernel, by decide +kernel⟩
def sp_pick : TSp := fun xs S Q X => ∃ (a : Addr) (c y : Tr), xs = [.ref a, y] ∧ S a = some c ∧ DrOk c ∧ ((∃ L : List Tr, y = .lst L ∧ 0 < L.length ∧ L.length ≤ 100000 ∧ ∀ (x c' : Tr), x ∈ L → DrOk c' → Q x (put S a c')) ∨
  (∃ z : Str, y = .str z ∧ 0 < z.length ∧ z.length ≤ 100000 ∧ ∀ (n : Nat) (c' : Tr), n ∈ z.cps.toList → DrOk c' → Q (.str ⟨#[n]⟩) (put S a c')))
theorem pick_ok {S : Sto} {a : Addr} {c : Tr} {L : List Tr} {Q : QV} {X : QX} (hS : S a = some c) (hc : DrOk c) (l0 : 0 < L.length) (l1 : L.length ≤ 100000) (h : ∀ x ∈ L, ∀ c', DrOk c' → Q x (put S a c')) : sp_pick [.ref a, .lst L] S Q X := ⟨a, c, _, rfl, hS, hc, .inl ⟨L, rfl, l0, l1, fun x c' hx d => h x hx c' d⟩⟩
theorem ok__law_some (T : Top K mg A) {k : Nat} (C__law_draw : CalleeT P w K mg base k "_law_draw" ["_law_draws_here", "_law_many"] (sp_dr))  : CalleeT P w K mg base (k + 1) "_law_some" ["_law_draws_here", "_law_things"] (sp_pick) := by
  have nd := sc__law_some.nd
  refine Def.okT T.d__law_some sc__law_some (fun _ _ _ _ _ _ us hl => match us, hl with | [_, _], _ => rfl) (fun xs S Q X h => ?_) ?_ (fun f cdv AA outer s H E hr tk po => have hu := hu_of hr; (ss_one (s_ret (e_ix (ix_op hr) o_ix (e_var 1) (e_call C__law_draw (hr.mono (by omega)) (by rfl) tk (a_cons (e_var 0) (a_cons (e_callB len_op c_len (by rfl) T.b.b_len boot_len (a_cons (e_var 1) a_nil)) a_nil))) (fun _ _ => rfl))))) ?_
  · obtain ⟨a, c, y, rfl, hS, hc, hq⟩ := h
    rfl
  · walk_at "mono"
  · intro xs S Q X cQ cX h
    obtain ⟨a, c, y, rfl, hS, hc, hq⟩ := h
    simp only [KQ.startT, List.map_cons, List.map_nil, List.length_cons, List.length_nil, Nat.reduceAdd, Nat.reduceSub, List.replicate_succ, List.replicate_zero, List.cons_append, List.nil_append]
    rcases hq with ⟨L, rfl, l0, l1, hq⟩ | ⟨z, rfl, l0, l1, hq⟩
    · walk_at "vc"
      refine dr_ok hS hc (by omega) (by omega) fun r c1 r0 r1 d1 => ?_
      walk_at "vc"
      exact menu_ex (n := L.length) rfl r0 r1 fun x hx => hq x c1 hx d1
    · walk_at "vc"
      refine ⟨Nat.le_of_lt (szn l1), dr_ok hS hc (by omega) (by omega) fun r c1 r0 r1 d1 => ?_⟩
      walk_at "vc"
      obtain ⟨j, rfl⟩ : ∃ j : Nat, r = (j : Int) := ⟨r.toNat, by omega⟩
      have hj : j < z.cps.toList.length := by have : z.length = z.cps.toList.length := by simp [Str.length]
                                              omega
      refine ⟨Nat.le_of_lt (szn l1), z.cps.toList[j], atI_nat (List.getElem?_eq_getElem hj), hq _ c1 (List.getElem_mem hj) d1⟩

/-! ### _law_ask -/
abbrev N__law_ask : List Str := ["_law_draws_here", "_law_keys_here", "_law_names", "_law_atoms", "_law_form"]
theorem sc__law_ask : FnScope N__law_ask ["_law_draws_here", "_law_keys_here", "_law_names", "_law_atoms"] (defScope s__law_ask) := ⟨rfl, rfl, rfl, by decide +kernel, rfl, by decide +kernel, by decide +kernel⟩
def sp_ask : TSp := fun xs S Q X => ∃ (a : Addr) (c : Tr) (ks : List Key) (ls : List Str) (L : List Tr), xs = [.ref a, .lst (ks.map kT), .lst (ls.map .str), .lst L] ∧ S a = some c ∧ DrOk c ∧ ks ≠ [] ∧ ks.length ≤ 1000 ∧ ls ≠ [] ∧ ls.length ≤ 1000 ∧ L ≠ [] ∧ L.length ≤ 1000 ∧ (∀ x ∈ L, KAtom x) ∧
  ∀ (cn : Cnd) (c' : Tr), CndOk (· ∈ ks) (· ∈ ls) cn → cdep cn = 1 → csz cn = 1 → DrOk c' → Q (askT cn) (put S a c')
theorem kinds_of {x : Tr} (hx : x ∈ [Tr.str (Str.ofString "null"), Tr.str (Str.ofString "true"), Tr.str (Str.ofString "false"), Tr.str (Str.ofString "integer"), Tr.str (Str.ofString "text"), Tr.str (Str.ofString "list"), Tr.str (Str.ofString "tuple"), Tr.str (Str.ofString "table")]) : ∃ z ∈ kindsL, x = .str z := by
  simp only [List.mem_cons, List.not_mem_nil, or_false] at hx
  rcases hx with rfl | rfl | rfl | rfl | rfl | rfl | rfl | rfl <;> exact ⟨_, by decide, rfl⟩
theorem ok__law_ask (T : Top K mg A) {k : Nat} (C__law_draw : CalleeT P w K mg base k "_law_draw" ["_law_draws_here", "_law_many"] (sp_dr)) (C__law_some : CalleeT P w K mg base k "_law_some" ["_law_draws_here", "_law_things"] (sp_pick))  : CalleeT P w K mg base (k + 1) "_law_ask" ["_law_draws_here", "_law_keys_here", "_law_names", "_law_atoms"] (sp_ask) := by
  have nd := sc__law_ask.nd
  refine Def.okT T.d__law_ask sc__law_ask (fun _ _ _ _ _ _ us hl => match us, hl with | [_, _, _, _], _ => rfl) (fun xs S Q X h => ?_) ?_ (fun f cdv AA outer s H E hr tk po => have hu := hu_of hr; (ss_cons (s_set (i := 4) nd rfl (Or.inl rfl) (e_call C__law_draw (hr.mono (by omega)) (by rfl) tk (a_cons (e_var 0) (a_cons e_int a_nil))))
      (ss_cons (s_if (t_cmp (eq_op hr) o_eq (e_var 4) e_int (nomark _)) (ss_one (s_ret (e_tup (a_cons e_str (a_cons (e_call C__law_some (hr.mono (by omega)) (by rfl) tk (a_cons (e_var 0) (a_cons (e_lst (a_cons e_str (a_cons e_str (a_cons e_str (a_cons e_str (a_cons e_str (a_cons e_str (a_cons e_str (a_cons e_str a_nil))))))))) a_nil))) a_nil))))) ss_nil)
      (ss_cons (s_if (t_cmp (eq_op hr) o_eq (e_var 4) e_int (nomark _)) (ss_one (s_ret (e_tup (a_cons e_str (a_cons (e_call C__law_some (hr.mono (by omega)) (by rfl) tk (a_cons (e_var 0) (a_cons (e_var 3) a_nil))) a_nil))))) ss_nil)
      (ss_cons (s_if (t_cmp (eq_op hr) o_eq (e_var 4) e_int (nomark _)) (ss_one (s_ret (e_tup (a_cons e_str (a_cons (e_call C__law_draw (hr.mono (by omega)) (by rfl) tk (a_cons (e_var 0) (a_cons e_int a_nil))) a_nil))))) ss_nil)
      (ss_cons (s_if (t_cmp (eq_op hr) o_eq (e_var 4) e_int (nomark _)) (ss_one (s_ret (e_tup (a_cons e_str (a_cons (e_call C__law_some (hr.mono (by omega)) (by rfl) tk (a_cons (e_var 0) (a_cons (e_slice (e_var 1) o_none (o_some e_int)) a_nil))) (a_cons (e_call C__law_some (hr.mono (by omega)) (by rfl) tk (a_cons (e_var 0) (a_cons (e_slice (e_var 1) o_none (o_some e_int)) a_nil))) a_nil)))))) ss_nil)
      (ss_cons (s_if (t_cmp op_lt o_lt (e_var 4) e_int (nomark _)) (ss_one (s_ret (e_tup (a_cons (e_ix (ix_op hr) o_ix (e_lst (a_cons e_str (a_cons e_str a_nil))) (e_op op_sub o_sub (e_var 4) e_int) (fun _ _ => rfl)) (a_cons (e_call C__law_some (hr.mono (by omega)) (by rfl) tk (a_cons (e_var 0) (a_cons (e_slice (e_var 2) (o_some (e_un un_neg u_neg e_int)) o_none) a_nil))) a_nil))))) ss_nil)
      (ss_cons (s_if (t_cmp (eq_op hr) o_eq (e_var 4) e_int (nomark _)) (ss_one (s_ret (e_tup (a_cons e_str (a_cons (e_call C__law_some (hr.mono (by omega)) (by rfl) tk (a_cons (e_var 0) (a_cons (e_var 2) a_nil))) a_nil))))) ss_nil)
      (ss_cons (s_if (t_cmp (eq_op hr) o_eq (e_var 4) e_int (nomark _)) (ss_one (s_ret (e_tup (a_cons e_str (a_cons (e_call C__law_some (hr.mono (by omega)) (by rfl) tk (a_cons (e_var 0) (a_cons (e_var 1) a_nil))) a_nil))))) ss_nil)
      (ss_one (s_ret (e_tup (a_cons e_str (a_cons (e_call C__law_some (hr.mono (by omega)) (by rfl) tk (a_cons (e_var 0) (a_cons (e_var 1) a_nil))) (a_cons (e_call C__law_some (hr.mono (by omega)) (by rfl) tk (a_cons (e_var 0) (a_cons (e_var 2) a_nil))) a_nil))))))))))))))) ?_
  · obtain ⟨a, c, ks, ls, L, rfl, hS, hc, ne, lk, nl, ll, nL, lL, oL, hq⟩ := h
    rfl
  · walk_at "mono"
  · intro xs S Q X cQ cX h
    obtain ⟨a, c, ks, ls, L, rfl, hS, hc, ne, lk, nl, ll, nL, lL, oL, hq⟩ := h
    simp only [KQ.startT, List.map_cons, List.map_nil, List.length_cons, List.length_nil, Nat.reduceAdd, Nat.reduceSub, List.replicate_succ, List.replicate_zero, List.cons_append, List.nil_append]
    have l0 : 0 < ks.length := List.length_pos_iff.mpr ne
    have l1 : 0 < ls.length := List.length_pos_iff.mpr nl
    have l2 : 0 < L.length := List.length_pos_iff.mpr nL
    replace oL := Hide.mk oL
    walk_at "vn"
    refine dr_ok hS hc (by decide) (by decide) fun r c1 r0 r1 d1 => ?_
    have hq1 : ∀ (cn : Cnd) (c' : Tr), CndOk (· ∈ ks) (· ∈ ls) cn → cdep cn = 1 → csz cn = 1 → DrOk c' → Q (askT cn) (put (put S a c1) a c') := fun cn c' h1 h2 h3 h4 => by rw [put_put]; exact hq cn c' h1 h2 h3 h4
    clear hq
    replace hq1 := Hide.mk hq1
    walk_at "vn"
    have km : ∀ x ∈ ks.map kT, ∃ k ∈ ks, x = kT k := fun x hx => by obtain ⟨k, hk, rfl⟩ := List.mem_map.mp hx; exact ⟨k, hk, rfl⟩
    have lm : ∀ x ∈ ls.map Tr.str, ∃ l ∈ ls, x = .str l := fun x hx => by obtain ⟨l, hl, rfl⟩ := List.mem_map.mp hx; exact ⟨l, hl, rfl⟩
    have lmk : (ks.map kT).length = ks.length := List.length_map _
    have lml : (ls.map Tr.str).length = ls.length := List.length_map _
    have go2 : ∀ (cn : Cnd) (c2 c3 : Tr), CndOk (· ∈ ks) (· ∈ ls) cn → cdep cn = 1 → csz cn = 1 → DrOk c3 → Q (askT cn) (put (put (put S a c1) a c2) a c3) := fun cn c2 c3 h1 h2 h3 h4 => by rw [put_put, ]; have := hq1.go cn c3 h1 h2 h3 h4; rw [put_put] at this ⊢; exact this
    by_cases h0 : r = 0
    · rw [if_pos h0]
      refine pick_ok put_same d1 (by simp) (by simp) fun x hx c2 d2 => ?_
      obtain ⟨z, hz, rfl⟩ := kinds_of hx
      exact hq1.go (.kind z) c2 hz rfl rfl d2
    rw [if_neg h0]
    by_cases h1 : r = 1
    · rw [if_pos h1]
      refine pick_ok put_same d1 l2 (by omega) fun x hx c2 d2 => ?_
      obtain ⟨k, rfl, hk⟩ := oL.go x hx
      exact hq1.go (.equals k) c2 hk rfl rfl d2
    rw [if_neg h1]
    by_cases h2 : r = 2
    · rw [if_pos h2]
      refine dr_ok put_same d1 (by decide) (by decide) fun n c2 n0 n1 d2 => ?_
      exact hq1.go (.size n) c2 ⟨n0, by omega⟩ rfl rfl d2
    rw [if_neg h2]
    by_cases h3 : r = 3
    · rw [if_pos h3]
      have ec : cutT (ks.map kT) none (some 2) = (ks.take 2).map kT := by rw [show (2 : Int) = ((2 : Nat) : Int) from rfl, cut_take, List.map_take]
      rw [ec]
      have lt : 0 < ((ks.take 2).map kT).length := by rw [List.length_map, List.length_take]; omega
      have lt2 : ((ks.take 2).map kT).length ≤ 100000 := by rw [List.length_map, List.length_take]; omega
      refine pick_ok put_same d1 lt lt2 fun x hx c2 d2 => ?_
      refine pick_ok put_same d2 lt lt2 fun y hy c3 d3 => ?_
      obtain ⟨k, hk, rfl⟩ := List.mem_map.mp hx
      obtain ⟨j, hj, rfl⟩ := List.mem_map.mp hy
      exact go2 (.before k j) c2 c3 ⟨List.mem_of_mem_take hk, List.mem_of_mem_take hj⟩ rfl rfl d3
    rw [if_neg h3]
    by_cases h5 : r < 6
    · rw [if_pos h5]
      have lc : 0 < (cutT (ls.map Tr.str) (some (-2)) none).length := by
        unfold cutT
        rw [HT.sIx_none, List.length_take, List.length_drop]
        have e : HT.sIx (ls.map Tr.str).length 0 (some (-2)) = ((-2 : Int) + ((ls.map Tr.str).length : Int)).toNat := rfl
        rw [e]; omega
      have lc2 : (cutT (ls.map Tr.str) (some (-2)) none).length ≤ 100000 := by
        unfold cutT
        rw [HT.sIx_none, List.length_take, List.length_drop]; omega
      have h45 : r = 4 ∨ r = 5 := by omega
      rcases h45 with rfl | rfl
      · refine ⟨_, rfl, pick_ok put_same d1 lc lc2 fun x hx c2 d2 => ?_⟩
        obtain ⟨l, hl, rfl⟩ := lm x (cut_mem hx)
        exact hq1.go (.every l) c2 hl rfl rfl d2
      · refine ⟨_, rfl, pick_ok put_same d1 lc lc2 fun x hx c2 d2 => ?_⟩
        obtain ⟨l, hl, rfl⟩ := lm x (cut_mem hx)
        exact hq1.go (.some l) c2 hl rfl rfl d2
    rw [if_neg h5]
    by_cases h6 : r = 6
    · rw [if_pos h6]
      refine pick_ok put_same d1 (by omega) (by omega) fun x hx c2 d2 => ?_
      obtain ⟨l, hl, rfl⟩ := lm x hx
      exact hq1.go (.first l) c2 hl rfl rfl d2
    rw [if_neg h6]
    by_cases h7 : r = 7
    · rw [if_pos h7]
      refine pick_ok put_same d1 (by omega) (by omega) fun x hx c2 d2 => ?_
      obtain ⟨k, hk, rfl⟩ := km x hx
      exact hq1.go (.has k) c2 hk rfl rfl d2
    rw [if_neg h7]
    refine pick_ok put_same d1 (by omega) (by omega) fun x hx c2 d2 => ?_
    refine pick_ok put_same d2 (by omega) (by omega) fun y hy c3 d3 => ?_
    obtain ⟨k, hk, rfl⟩ := km x hx
    obtain ⟨l, hl, rfl⟩ := lm y hy
    exact go2 (.item k l) c2 c3 ⟨hk, hl⟩ rfl rfl d3

/-! ### _law_draws -/
abbrev N__law_draws : List Str := ["_law_script", "_law_at", "_law_great", "_law_one", "_law_two", "_law_cell"]
theorem sc__law_draws : FnScope N__law_draws ["_law_script", "_law_at"] (defScope s__law_draws) := ⟨rfl, rfl, rfl, by decide +kernel, rfl, by decide +kernel, by decide +kernel⟩
def sp_drs : TSp := fun xs S Q X => ∃ (ns : List Int) (i : Int), xs = [.scr ns, .int i] ∧ ns.length ≤ 63 ∧ 0 ≤ i ∧ i ≤ 1000 ∧ ∀ (p : Addr) (c : Tr), S p = none → DrOk c → Q (.ref p) (put S p c)
theorem mem_cut {xs : List Tr} {lo hi : Option Int} {x : Tr} (h : x ∈ cutT xs lo hi) : x ∈ xs := List.mem_of_mem_drop (List.mem_of_mem_take h)
theorem ok__law_draws (T : Top K mg A) {k : Nat}   : CalleeT P w K mg base (k + 1) "_law_draws" ["_law_script", "_law_at"] (sp_drs) := by
  have nd := sc__law_draws.nd
  refine Def.okT T.d__law_draws sc__law_draws (fun _ _ _ _ _ _ us hl => match us, hl with | [_, _], _ => rfl) (fun xs S Q X h => ?_) ?_ (fun f cdv AA outer s H E hr tk po => have hu := hu_of hr; (ss_cons (s_set (i := 2) nd rfl (Or.inl rfl) e_int)
      (ss_cut (s_if (TPW.pt (w_and (t_cmp op_lt o_lt (e_var 1) (e_callB len_op c_len (by rfl) T.b.b_len boot_len (a_cons (e_var 0) a_nil)) (nomark _)) (w_and1 (TPW.pt (w_or (t_cmp op_ge o_ge (e_ix (ix_op hr) o_ix (e_var 0) (e_var 1) (fun _ _ => rfl)) (e_op op_pow o_pow e_int e_int) (nomark _)) (w_or1 (t_cmp op_le o_le (e_ix (ix_op hr) o_ix (e_var 0) (e_var 1) (fun _ _ => rfl)) (e_un un_neg u_neg (e_op op_pow o_pow e_int e_int)) (nomark _)))))))) (ss_one (s_set (i := 2) nd rfl (Or.inl rfl) (e_callB call_abs c_abs (by rfl) T.b.b_abs boot_abs (a_cons (e_ix (ix_op hr) o_ix (e_var 0) (e_var 1) (fun _ _ => rfl)) a_nil)))) ss_nil)
      (ss_cons (s_par (i := 3) (j := 4) rfl nd rfl rfl (by decide) rfl rfl (a_cons (e_op ad_op o_add e_int (e_op ml2_op o_mul2 e_int (e_var 1))) (a_cons (e_op ad_op o_add e_int (e_op ml2_op o_mul2 e_int (e_var 1))) a_nil)) (fun h => ps_par (by rfl) nd rfl rfl (by decide) rfl rfl h (by rfl)))
      (ss_cons (s_for (.nm 5) po rfl (i_seq (e_slice (e_var 0) o_none (o_some e_int))) (pg_name (i := 5) nd rfl (Or.inl rfl)) (ss_cons (s_set (i := 3) nd rfl (Or.inl rfl) (e_op KB.md_any o_mod (e_callTy KB.int_any c_int (by rfl) T.b.b_int boot_int (a_cons (e_op ad_op o_add (e_op ml2_op o_mul2 (e_var 3) e_int) (e_op KB.md_any o_mod (e_callTy KB.int_any c_int (by rfl) T.b.b_int boot_int (a_cons (e_var 5) a_nil)) e_int)) a_nil)) e_int))
      (ss_one (s_set (i := 4) nd rfl (Or.inl rfl) (e_op KB.md_any o_mod (e_callTy KB.int_any c_int (by rfl) T.b.b_int boot_int (a_cons (e_op ad_op o_add (e_op ad_op o_add (e_op ml2_op o_mul2 (e_var 4) e_int) (e_var 3)) e_int) a_nil)) e_int)))))
      (ss_one (s_ret (e_lstC (a_cons (e_var 2) (a_cons (e_var 3) (a_cons (e_var 4) a_nil))))))))))) ?_
  · obtain ⟨ns, i, rfl, hl, i0, i1, hq⟩ := h
    rfl
  · walk_at "mono"
  · intro xs S Q X cQ cX h
    obtain ⟨ns, i, rfl, hl, i0, i1, hq⟩ := h
    simp only [KQ.startT, List.map_cons, List.map_nil, List.length_cons, List.length_nil, Nat.reduceAdd, Nat.reduceSub, List.replicate_succ, List.replicate_zero, List.cons_append, List.nil_append]
    walk_at "vc"
    intro P hP
    have key : ∀ g : Int, 0 ≤ g → P [some (.scr ns), some (.int i), some (.int g), none, none, none] S := fun g g0 => hP.go _ _ (by
      clear hP
      walk_at "vc"
      refine loop_inv _ (fun j ρ S' => ∃ (x y : Int) (z : Option Tr), ρ = [some (.scr ns), some (.int i), some (.int g), some (.int x), some (.int y), z] ∧ S' = S ∧ 0 ≤ x ∧ x < 2147483648 ∧ 0 ≤ y ∧ y < 2147483648) ?_ ?_ ⟨_, _, _, rfl, rfl, by omega, by omega, by omega, by omega⟩
      · rintro j x ρ S' N hx ⟨x1, y1, z1, rfl, rfl, h1, h2, h3, h4⟩ hN
        obtain ⟨n, _, rfl⟩ := List.mem_map.mp (mem_cut (List.mem_of_getElem? hx))
        walk_at "vc"
        exact hN _ _ ⟨_, _, _, rfl, rfl, Int.emod_nonneg _ (by decide), Int.lt_trans (Int.emod_lt_of_pos _ (by decide)) (by decide), Int.emod_nonneg _ (by decide), Int.lt_trans (Int.emod_lt_of_pos _ (by decide)) (by decide)⟩
      · rintro ρ S' ⟨x1, y1, z1, rfl, rfl, h1, h2, h3, h4⟩
        walk_at "vc"
        intro p hp
        exact hq p _ hp ⟨g, x1, y1, rfl, g0, h1, h2, h3, h4⟩)
    by_cases hi : i < (ns.length : Int)
    · rw [if_pos hi]
      obtain ⟨j, rfl⟩ : ∃ j : Nat, i = (j : Int) := ⟨i.toNat, by omega⟩
      have hj : j < ns.length := by omega
      have en : atI ns (j : Int) = some ns[j] := atI_nat (List.getElem?_eq_getElem hj)
      refine ⟨_, en, ?_⟩
      split
      · exact ⟨_, en, key _ (by omega)⟩
      · refine ⟨_, en, ?_⟩
        split
        · exact ⟨_, en, key _ (by omega)⟩
        · exact key 0 (by decide)
    · rw [if_neg hi]
      exact key 0 (by decide)

/-! ### _law_integer -/
abbrev N__law_integer : List Str := ["_law_draws_here", "_law_size", "_law_number"]
theorem sc__law_integer : FnScope N__law_integer ["_law_draws_here"] (defScope s__law_integer) := ⟨rfl, rfl, rfl, by decide +kernel, rfl, by decide +kernel, by decide +kernel⟩
def sp_dint : TSp := sp_dsome IsNum
theorem ok__law_integer (T : Top K mg A) {k : Nat} (C__law_draw : CalleeT P w K mg base k "_law_draw" ["_law_draws_here", "_law_many"] (sp_dr)) (C__law_some : CalleeT P w K mg base k "_law_some" ["_law_draws_here", "_law_things"] (sp_pick))  : CalleeT P w K mg base (k + 1) "_law_integer" ["_law_draws_here"] (sp_dint) := by
  have nd := sc__law_integer.nd
  refine Def.okT T.d__law_integer sc__law_integer (fun _ _ _ _ _ _ us hl => match us, hl with | [_], _ => rfl) (fun xs S Q X h => ?_) ?_ (fun f cdv AA outer s H E hr tk po => have hu := hu_of hr; (ss_cons (s_set (i := 1) nd rfl (Or.inl rfl) (e_call C__law_some (hr.mono (by omega)) (by rfl) tk (a_cons (e_var 0) (a_cons (e_lst (a_cons e_int (a_cons e_int (a_cons e_int (a_cons (e_op op_pow o_pow e_int e_int) (a_cons (e_op ad_op o_add (e_op op_pow o_pow e_int e_int) e_int) (a_cons (e_op op_pow o_pow e_int e_int) (a_cons (e_op op_pow o_pow e_int e_int) a_nil)))))))) a_nil))))
      (ss_cons (s_set (i := 2) nd rfl (Or.inl rfl) (e_ifExp (t_cmp (eq_op hr) o_eq (e_call C__law_draw (hr.mono (by omega)) (by rfl) tk (a_cons (e_var 0) (a_cons e_int a_nil))) e_int (nomark _)) (e_op op_sub o_sub (e_var 1) e_int) (e_call C__law_draw (hr.mono (by omega)) (by rfl) tk (a_cons (e_var 0) (a_cons (e_var 1) a_nil)))))
      (ss_one (s_ret (e_ifExp (t_cmp (eq_op hr) o_eq (e_call C__law_draw (hr.mono (by omega)) (by rfl) tk (a_cons (e_var 0) (a_cons e_int a_nil))) e_int (nomark _)) (e_un un_neg u_neg (e_var 2)) (e_var 2))))))) ?_
  · obtain ⟨a, c, rfl, hS, hc, hq⟩ := h
    rfl
  · walk_at "mono"
  · intro xs S Q X cQ cX h
    obtain ⟨a, c, rfl, hS, hc, hq⟩ := h
    simp only [KQ.startT, List.map_cons, List.map_nil, List.length_cons, List.length_nil, Nat.reduceAdd, Nat.reduceSub, List.replicate_succ, List.replicate_zero, List.cons_append, List.nil_append]
    walk_at "vn"
    refine ⟨a, c, _, rfl, hS, hc, .inl ⟨_, rfl, by simp, by simp, fun x c1 hx d1 => ?_⟩⟩
    obtain ⟨m, rfl, m0, m1⟩ : ∃ m : Int, x = .int m ∧ 0 < m ∧ m ≤ 1000000000000000000000000000000 := by
      simp only [List.mem_cons, List.not_mem_nil, or_false] at hx
      rcases hx with rfl | rfl | rfl | rfl | rfl | rfl | rfl <;> exact ⟨_, rfl, by decide, by decide⟩
    clear hx
    have key : ∀ (n : Int) (c2 : Tr), 0 ≤ n → n < m → DrOk c2 → sp_dr [.ref a, .int 3] (put S a c2) (fun x S1 => ∃ z, gEq false (vw S1 x) (.int 2) z ∧ ∃ k, z = .bl k ∧ if k = true then Q (.int (-n)) S1 else Q (.int n) S1) (endX X · · · [some (.ref a), some (.int m), some (.int n)] ·) := fun n c2 n0 n1 d2 => by
      refine dr_ok put_same d2 (by decide) (by decide) fun r c3 r0 r1 d3 => ?_
      rw [put_put]
      walk_at "vn"
      split
      · exact hq _ _ ⟨_, rfl, by omega⟩ d3
      · exact hq _ _ ⟨_, rfl, by omega⟩ d3
    walk_at "vn"
    refine dr_ok put_same d1 (by decide) (by decide) fun r c2 r0 r1 d2 => ?_
    rw [put_put]
    walk_at "vn"
    split
    · exact key (m - 1) c2 (by omega) (by omega) d2
    · refine dr_ok put_same d2 m0 m1 fun n c3 n0 n1 d3 => ?_
      rw [put_put]
      walk_at "vn"
      exact key n c3 n0 n1 d3

/-! ### _law_joined -/
abbrev N__law_joined : List Str := ["_law_draws_here", "_law_keys_here", "_law_names", "_law_atoms", "_law_most", "_law_ask_here", "_law_turn", "_law_other", "_law_word"]
theorem sc__law_joined : FnScope N__law_joined ["_law_draws_here", "_law_keys_here", "_law_names", "_law_atoms", "_law_most"] (defScope s__law_joined) := ⟨rfl, rfl, rfl, by decide +kernel, rfl, by decide +kernel, by decide +kernel⟩
def sp_joined : TSp := fun xs S Q X => ∃ (a : Addr) (c : Tr) (ks : List Key) (ls : List Str) (L : List Tr) (m : Int), xs = [.ref a, .lst (ks.map kT), .lst (ls.map .str), .lst L, .int m] ∧ S a = some c ∧ DrOk c ∧ ks ≠ [] ∧ ks.length ≤ 1000 ∧ ls ≠ [] ∧ ls.length ≤ 1000 ∧ L ≠ [] ∧ L.length ≤ 1000 ∧ (∀ x ∈ L, KAtom x) ∧ 0 < m ∧ m ≤ 5 ∧
  ∀ (cn : Cnd) (c' : Tr), CndOk (· ∈ ks) (· ∈ ls) cn → (cdep cn : Int) ≤ 2 * m → (csz cn : Int) ≤ m → DrOk c' → Q (askT cn) (put S a c')
theorem ok__law_joined (T : Top K mg A) {k : Nat} (C__law_ask : CalleeT P w K mg base k "_law_ask" ["_law_draws_here", "_law_keys_here", "_law_names", "_law_atoms"] (sp_ask)) (C__law_draw : CalleeT P w K mg base k "_law_draw" ["_law_draws_here", "_law_many"] (sp_dr)) (C__law_some : CalleeT P w K mg base k "_law_some" ["_law_draws_here", "_law_things"] (sp_pick))  : CalleeT P w K mg base (k + 1) "_law_joined" ["_law_draws_here", "_law_keys_here", "_law_names", "_law_atoms", "_law_most"] (sp_joined) := by
  have nd := sc__law_joined.nd
  refine Def.okT T.d__law_joined sc__law_joined (fun _ _ _ _ _ _ us hl => match us, hl with | [_, _, _, _, _], _ => rfl) (fun xs S Q X h => ?_) ?_ (fun f cdv AA outer s H E hr tk po => have hu := hu_of hr; (ss_cons (s_set (i := 5) nd rfl (Or.inl rfl) (e_call C__law_ask (hr.mono (by omega)) (by rfl) tk (a_cons (e_var 0) (a_cons (e_var 1) (a_cons (e_var 2) (a_cons (e_var 3) a_nil))))))
      (ss_cons (s_for (.nm 6) po rfl (i_rng1 (by rfl) T.b.b_range (a_cons (e_call C__law_draw (hr.mono (by omega)) (by rfl) tk (a_cons (e_var 0) (a_cons (e_var 4) a_nil))) a_nil)) (pg_name (i := 6) nd rfl (Or.inl rfl)) (ss_cons (s_set (i := 7) nd rfl (Or.inl rfl) (e_call C__law_ask (hr.mono (by omega)) (by rfl) tk (a_cons (e_var 0) (a_cons (e_var 1) (a_cons (e_var 2) (a_cons (e_var 3) a_nil))))))
      (ss_cut (s_if (t_cmp (eq_op hr) o_eq (e_call C__law_draw (hr.mono (by omega)) (by rfl) tk (a_cons (e_var 0) (a_cons e_int a_nil))) e_int (nomark _)) (ss_one (s_set (i := 7) nd rfl (Or.inl rfl) (e_tup (a_cons e_str (a_cons (e_var 7) a_nil))))) ss_nil)
      (ss_cons (s_set (i := 8) nd rfl (Or.inl rfl) (e_call C__law_some (hr.mono (by omega)) (by rfl) tk (a_cons (e_var 0) (a_cons (e_lst (a_cons e_str (a_cons e_str a_nil))) a_nil))))
      (ss_cons (s_set (i := 5) nd rfl (Or.inl rfl) (e_ifExp (t_cmp (eq_op hr) o_eq (e_call C__law_draw (hr.mono (by omega)) (by rfl) tk (a_cons (e_var 0) (a_cons e_int a_nil))) e_int (nomark _)) (e_tup (a_cons (e_var 8) (a_cons (e_var 5) (a_cons (e_var 7) a_nil)))) (e_tup (a_cons (e_var 8) (a_cons (e_var 7) (a_cons (e_var 5) a_nil))))))
      (ss_one (s_if (t_cmp (eq_op hr) o_eq (e_call C__law_draw (hr.mono (by omega)) (by rfl) tk (a_cons (e_var 0) (a_cons e_int a_nil))) e_int (nomark _)) (ss_one (s_set (i := 5) nd rfl (Or.inl rfl) (e_tup (a_cons e_str (a_cons (e_var 5) a_nil))))) ss_nil)))))))
      (ss_one (s_ret (e_var 5)))))) ?_
  · obtain ⟨a, c, ks, ls, L, m, rfl, hS, hc, ne, lk, nl, ll, nL, lL, oL, m0, m1, hq⟩ := h
    rfl
  · walk_at "mono"
  · intro xs S Q X cQ cX h
    obtain ⟨a, c, ks, ls, L, m, rfl, hS, hc, ne, lk, nl, ll, nL, lL, oL, m0, m1, hq⟩ := h
    simp only [KQ.startT, List.map_cons, List.map_nil, List.length_cons, List.length_nil, Nat.reduceAdd, Nat.reduceSub, List.replicate_succ, List.replicate_zero, List.cons_append, List.nil_append]
    replace oL := Hide.mk oL
    replace hq := Hide.mk hq
    walk_at "vn"
    refine ⟨a, c, ks, ls, L, rfl, hS, hc, ne, lk, nl, ll, nL, lL, oL.go, fun cn c1 o1 p1 s1 d1 => ?_⟩
    walk_at "vn"
    refine dr_ok put_same d1 m0 (by omega) fun r c2 r0 r1 d2 => ?_
    rw [put_put]
    walk_at "vn"
    refine ⟨by omega, by omega, ?_⟩
    obtain ⟨t, rfl⟩ : ∃ t : Nat, r = (t : Int) := ⟨r.toNat, by omega⟩
    rw [show ((t : Nat) : Int).toNat = t from rfl]
    refine loop_inv _ (fun i ρ S2 => ∃ (d : Cnd) (c3 : Tr) (x6 x7 x8 : Option Tr), ρ = [some (.ref a), some (.lst (ks.map kT)), some (.lst (ls.map .str)), some (.lst L), some (.int m), some (askT d), x6, x7, x8] ∧ S2 = put S a c3 ∧ DrOk c3 ∧ CndOk (· ∈ ks) (· ∈ ls) d ∧ cdep d ≤ 2 + 2 * i ∧ csz d ≤ 1 + i) ?_ ?_ ⟨cn, c2, _, _, _, rfl, rfl, d2, o1, by omega, by omega⟩
    · rintro i x ρ S2 N hx ⟨d, c3, x6, x7, x8, rfl, rfl, d3, od, pd, sd⟩ hN
      obtain ⟨rfl, hi⟩ := rng_at hx
      clear hx
      replace hN := Hide.mk hN
      walk_at "vn"
      refine ⟨a, c3, ks, ls, L, rfl, put_same, d3, ne, lk, nl, ll, nL, lL, oL.go, fun en c4 oe pe se d4 => ?_⟩
      rw [put_put]
      walk_at "vn"
      intro P hP
      have fin : ∀ (f : Cnd) (c6 : Tr) (e7 e8 : Option Tr) (X' : QX), CndOk (· ∈ ks) (· ∈ ls) f → cdep f ≤ 3 + 2 * i → csz f ≤ 2 + i → DrOk c6 → sp_dr [.ref a, .int 4] (put S a c6) (fun x S1 => ∃ z, gEq false (vw S1 x) (.int 3) z ∧ ∃ k, z = .bl k ∧ if k = true then N [some (.ref a), some (.lst (ks.map kT)), some (.lst (ls.map .str)), some (.lst L), some (.int m), some (.tup [.str (Str.ofString "not"), askT f]), some (.int i), e7, e8] S1 else N [some (.ref a), some (.lst (ks.map kT)), some (.lst (ls.map .str)), some (.lst L), some (.int m), some (askT f), some (.int i), e7, e8] S1) X' := fun f c6 e7 e8 X' of_ pf sf d6 => by
        refine dr_ok put_same d6 (by decide) (by decide) fun r c7 r0 r1 d7 => ?_
        rw [put_put]
        walk_at "vn"
        split
        · exact hN.go _ _ ⟨.inv f, c7, _, _, _, rfl, rfl, d7, of_, by simp only [cdep]; omega, by simp only [csz]; omega⟩
        · exact hN.go _ _ ⟨f, c7, _, _, _, rfl, rfl, d7, of_, by omega, by omega⟩
      replace fin := Hide.mk fin
      have key : ∀ (f : Cnd) (c5 : Tr), CndOk (· ∈ ks) (· ∈ ls) f → cdep f ≤ 2 → csz f = 1 → DrOk c5 → P [some (.ref a), some (.lst (ks.map kT)), some (.lst (ls.map .str)), some (.lst L), some (.int m), some (askT d), some (.int i), some (askT f), x8] (put S a c5) := fun f c5 of_ pf sf d5 => hP.go _ _ (by
        clear hP
        walk_at "vn"
        refine pick_ok put_same d5 (by simp) (by simp) fun x hx c6 d6 => ?_
        rw [put_put]
        simp only [List.mem_cons, List.not_mem_nil, or_false] at hx
        rcases hx with rfl | rfl
        · walk_at "vn"
          refine dr_ok put_same d6 (by decide) (by decide) fun r c7 r0 r1 d7 => ?_
          rw [put_put]
          walk_at "vn"
          split
          · exact fin.go (.both d f) c7 _ _ _ ⟨od, of_⟩ (by simp only [cdep]; omega) (by simp only [csz]; omega) d7
          · exact fin.go (.both f d) c7 _ _ _ ⟨of_, od⟩ (by simp only [cdep]; omega) (by simp only [csz]; omega) d7
        · walk_at "vn"
          refine dr_ok put_same d6 (by decide) (by decide) fun r c7 r0 r1 d7 => ?_
          rw [put_put]
          walk_at "vn"
          split
          · exact fin.go (.either d f) c7 _ _ _ ⟨od, of_⟩ (by simp only [cdep]; omega) (by simp only [csz]; omega) d7
          · exact fin.go (.either f d) c7 _ _ _ ⟨of_, od⟩ (by simp only [cdep]; omega) (by simp only [csz]; omega) d7)
      clear hP fin
      refine dr_ok put_same d4 (by decide) (by decide) fun r c5 r0 r1 d5 => ?_
      rw [put_put]
      walk_at "vn"
      split
      · exact key (.inv en) c5 oe (by simp only [cdep]; omega) (by simp only [csz]; omega) d5
      · exact key en c5 oe (by omega) se d5
    · rintro ρ S2 ⟨d, c3, x6, x7, x8, rfl, rfl, d3, od, pd, sd⟩
      rw [rngT_len] at pd sd
      walk_at "vn"
      all_goals exact hq.go d c3 od (by omega) (by omega) d3

/-! ### _law_text -/
abbrev N__law_text : List Str := ["_law_draws_here", "_law_signs", "_law_found", "_law_turn"]
theorem sc__law_text : FnScope N__law_text ["_law_draws_here"] (defScope s__law_text) := ⟨rfl, rfl, rfl, by decide +kernel, rfl, by decide +kernel, by decide +kernel⟩
def sp_dtext : TSp := sp_dsome (IsTxt 300)
abbrev sgnS : String := " !\"#$&'()*+,-./0123456789:;<=>?@ABCDEFGHIJKLMNOPQRSTUVWXYZ[\\]^_`abcdefghijklmnopqrstuvwxyz{|}~"
theorem ok__law_text (T : Top K mg A) {k : Nat} (C__law_draw : CalleeT P w K mg base k "_law_draw" ["_law_draws_here", "_law_many"] (sp_dr)) (C__law_some : CalleeT P w K mg base k "_law_some" ["_law_draws_here", "_law_things"] (sp_pick))  : CalleeT P w K mg base (k + 1) "_law_text" ["_law_draws_here"] (sp_dtext) := by
  have nd := sc__law_text.nd
  refine Def.okT T.d__law_text sc__law_text (fun _ _ _ _ _ _ us hl => match us, hl with | [_], _ => rfl) (fun xs S Q X h => ?_) ?_ (fun f cdv AA outer s H E hr tk po => have hu := hu_of hr; (ss_cons (s_set (i := 1) nd rfl (Or.inl rfl) e_str)
      (ss_cons (s_set (i := 2) nd rfl (Or.inl rfl) e_str)
      (ss_cons (s_for (.nm 3) po rfl (i_rng1 (by rfl) T.b.b_range (a_cons (e_call C__law_draw (hr.mono (by omega)) (by rfl) tk (a_cons (e_var 0) (a_cons e_int a_nil))) a_nil)) (pg_name (i := 3) nd rfl (Or.inl rfl)) (ss_one (s_set (i := 2) nd rfl (Or.inl rfl) (e_op ad_op o_add (e_var 2) (e_call C__law_some (hr.mono (by omega)) (by rfl) tk (a_cons (e_var 0) (a_cons (e_var 1) a_nil)))))))
      (ss_one (s_ret (e_ifExp (t_cmp (eq_op hr) o_eq (e_call C__law_draw (hr.mono (by omega)) (by rfl) tk (a_cons (e_var 0) (a_cons e_int a_nil))) e_int (nomark _)) (e_op ml2_op o_mul2 (e_var 2) e_int) (e_var 2)))))))) ?_
  · obtain ⟨a, c, rfl, hS, hc, hq⟩ := h
    rfl
  · walk_at "mono"
  · intro xs S Q X cQ cX h
    obtain ⟨a, c, rfl, hS, hc, hq⟩ := h
    simp only [KQ.startT, List.map_cons, List.map_nil, List.length_cons, List.length_nil, Nat.reduceAdd, Nat.reduceSub, List.replicate_succ, List.replicate_zero, List.cons_append, List.nil_append]
    walk_at "vc"
    refine dr_ok hS hc (by decide) (by decide) fun r c1 r0 r1 d1 => ?_
    walk_at "vc"
    refine ⟨by omega, by omega, loop_inv _ (fun j ρ S' => ∃ (z : Str) (c2 : Tr) (x : Option Tr), ρ = [some (.ref a), some (.str (Str.ofString sgnS)), some (.str z), x] ∧ S' = put S a c2 ∧ DrOk c2 ∧ Pr z ∧ z.length ≤ j) ?_ ?_ ⟨Str.ofString "", c1, _, rfl, rfl, d1, pr_lit (by decide), by decide⟩⟩
    · rintro j x ρ S' N hx ⟨z, c2, x2, rfl, rfl, d2, pz, lz⟩ hN
      obtain ⟨rfl, hj⟩ := rng_at hx
      walk_at "vc"
      refine ⟨a, c2, _, rfl, put_same, d2, .inr ⟨_, rfl, by decide, by decide, fun n c3 hn d3 => ?_⟩⟩
      rw [put_put]
      walk_at "vc"
      have p1 : Pr (⟨#[n]⟩ : Str) := pr_one (pr_lit (s := sgnS) (by decide) n hn)
      have l1 : (⟨#[n]⟩ : Str).length = 1 := rfl
      refine ⟨?_, hN _ _ ⟨_, c3, _, rfl, rfl, d3, pz.app p1, ?_⟩⟩
      · exact Nat.le_of_lt (szn (by omega))
      · rw [len_app]; omega
    · rintro ρ S' ⟨z, c2, x2, rfl, rfl, d2, pz, lz⟩
      rw [rngT_len] at lz
      walk_at "vc"
      refine dr_ok put_same d2 (by decide) (by decide) fun r2 c3 r20 r21 d3 => ?_
      walk_at "vc"
      have l7 : z.length ≤ 7 := by omega
      split
      · refine ⟨mulOk_of 7 40 l7 (by decide) (by decide) (by decide) (by decide), hq _ _ ⟨_, rfl, tmul_pr pz, ?_⟩ d3⟩
        rw [tmul_len (by decide)]
        show 40 * z.length ≤ 300
        omega
      · exact hq _ _ ⟨_, rfl, pz, by omega⟩ d3

/-! ### _law_keys -/
abbrev N__law_keys : List Str := ["_law_draws_here", "_law_many", "_law_found", "_law_turn", "_law_key", "_law_one"]
theorem sc__law_keys : FnScope N__law_keys ["_law_draws_here", "_law_many"] (defScope s__law_keys) := ⟨rfl, rfl, rfl, by decide +kernel, rfl, by decide +kernel, by decide +kernel⟩
def sp_dkeys : TSp := fun xs S Q X => ∃ (a : Addr) (m : Int) (c : Tr), xs = [.ref a, .int m] ∧ S a = some c ∧ DrOk c ∧ 0 ≤ m ∧ m ≤ 1000 ∧ ∀ (ks : List Key) (c' : Tr), (ks.length : Int) ≤ m → ks.Nodup → (∀ k ∈ ks, KOk k) → (0 < m → ks ≠ []) → DrOk c' → Q (.lst (ks.map kT)) (put S a c')
theorem ok__law_keys (T : Top K mg A) {k : Nat} (C__law_draw : CalleeT P w K mg base k "_law_draw" ["_law_draws_here", "_law_many"] (sp_dr)) (C__law_integer : CalleeT P w K mg base k "_law_integer" ["_law_draws_here"] (sp_dint)) (C__law_text : CalleeT P w K mg base k "_law_text" ["_law_draws_here"] (sp_dtext))  : CalleeT P w K mg base (k + 1) "_law_keys" ["_law_draws_here", "_law_many"] (sp_dkeys) := by
  have nd := sc__law_keys.nd
  refine Def.okT T.d__law_keys sc__law_keys (fun _ _ _ _ _ _ us hl => match us, hl with | [_, _], _ => rfl) (fun xs S Q X h => ?_) ?_ (fun f cdv AA outer s H E hr tk po => have hu := hu_of hr; (ss_cons (s_set (i := 2) nd rfl (Or.inl rfl) (e_lstC a_nil))
      (ss_cons (s_for (.nm 3) po rfl (i_rng1 (by rfl) T.b.b_range (a_cons (e_var 1) a_nil)) (pg_name (i := 3) nd rfl (Or.inl rfl)) (ss_cons (s_set (i := 4) nd rfl (Or.inl rfl) (e_ifExp (t_cmp op_gt o_gt (e_call C__law_draw (hr.mono (by omega)) (by rfl) tk (a_cons (e_var 0) (a_cons e_int a_nil))) e_int (nomark _)) (e_call C__law_integer (hr.mono (by omega)) (by rfl) tk (a_cons (e_var 0) a_nil)) (e_call C__law_text (hr.mono (by omega)) (by rfl) tk (a_cons (e_var 0) a_nil))))
      (ss_cut (s_if (t_cmp (eq_op hr) o_eq (e_call C__law_draw (hr.mono (by omega)) (by rfl) tk (a_cons (e_var 0) (a_cons e_int a_nil))) e_int (nomark _)) (ss_one (s_set (i := 4) nd rfl (Or.inl rfl) (e_callTy str4 c_str4 (by rfl) T.b.b_str boot_str (a_cons (e_var 4) a_nil)))) ss_nil)
      (ss_one (s_for (.nm 5) po rfl (i_seq (e_ifExp (t_cmp (eq_op hr) o_eq (e_call C__law_draw (hr.mono (by omega)) (by rfl) tk (a_cons (e_var 0) (a_cons e_int a_nil))) e_int (nomark _)) (e_lst (a_cons (e_var 4) (a_cons (e_callTy str4 c_str4 (by rfl) T.b.b_str boot_str (a_cons (e_var 4) a_nil)) a_nil))) (e_lst (a_cons (e_var 4) a_nil)))) (pg_name (i := 5) nd rfl (Or.inl rfl)) (ss_one (s_if (t_cmp (notin_op hr) o_in (e_var 5) (e_var 2) (by with_unfolding_all rfl)) (ss_one (s_expr (e_mm m_append (e_var 2) (a_cons (e_var 5) a_nil) (fun ho ha => pe_bm PySem.F.plainAttrs_list PySem.F.slot_list_append PySem.F.type_list_append mt_append ho ha)))) ss_nil)))))))
      (ss_one (s_ret (e_slice (e_var 2) o_none (o_some (e_var 1)))))))) ?_
  · obtain ⟨a, m, c, rfl, hS, hc, m0, m1, hq⟩ := h
    rfl
  · walk_at "mono"
  · intro xs S Q X cQ cX h
    obtain ⟨a, m, c, rfl, hS, hc, m0, m1, hq⟩ := h
    simp only [KQ.startT, List.map_cons, List.map_nil, List.length_cons, List.length_nil, Nat.reduceAdd, Nat.reduceSub, List.replicate_succ, List.replicate_zero, List.cons_append, List.nil_append]
    walk_at "vn"
    intro ln hln
    have nla : ln ≠ a := ne_cell hS hln
    refine ⟨by omega, by omega, loop_inv _ (fun i ρ S' => ∃ (ks : List Key) (x y z : Option Tr) (c2 : Tr), ρ = [some (.ref a), some (.int m), some (.ref ln), x, y, z] ∧ S' = put (put S a c2) ln (.lst (ks.map kT)) ∧ ks.length ≤ 2 * i ∧ ks.Nodup ∧ (∀ k ∈ ks, KOk k) ∧ (0 < i → ks ≠ []) ∧ DrOk c2) ?_ ?_ ⟨[], none, none, none, c, rfl, ?_, Nat.le_refl _, List.nodup_nil, (fun _ h => nomatch h), (fun h => absurd h (Nat.lt_irrefl 0)), hc⟩⟩
    · rintro i x ρ S' N hx ⟨ks, x0, y0, z0, c2, rfl, rfl, lk, nk, ok, ne, d2⟩ hN
      obtain ⟨rfl, hi⟩ := rng_at hx
      clear hx
      have A1 : ∀ c x, put (put S a c) ln x a = some c := fun c x => by rw [put_ne nla.symm]; exact put_same
      have B1 : ∀ c x d, put (put (put S a c) ln x) a d = put (put S a d) ln x := fun c x d => put3 nla _ _ _
      walk_at "vn"
      refine dr_ok (A1 _ _) d2 (by decide) (by decide) fun r c3 r0 r1 d3 => ?_
      rw [B1]
      walk_at "vn"
      split
      · refine dsome_ok (A1 _ _) d3 fun y c4 hy d4 => ?_
        obtain ⟨n, rfl, hn⟩ := hy
        rw [B1]
        walk_at "vn"
        intro P hP
        have key : ∀ (k : Key) (c5 : Tr), KOk k → DrOk c5 → P [some (.ref a), some (.int m), some (.ref ln), some (.int i), some (kT k), z0] (put (put S a c5) ln (.lst (ks.map kT))) := fun k c5 hk d5 => hP.go _ _ (by
          clear hP
          obtain ⟨z4, hz4, ok4⟩ := str_key k hk
          walk_at "vn"
          refine dr_ok (A1 _ _) d5 (by decide) (by decide) fun r3 c6 r30 r31 d6 => ?_
          rw [B1]
          have ev : ∀ S', vw S' (kT k) = kT k := fun S' => by cases k <;> rfl
          walk_at "vn"
          split
          · refine ⟨_, hz4, ?_⟩
            refine loop_inv _ (fun i2 ρ S' => ∃ (js : List Key) (z : Option Tr), ρ = [some (.ref a), some (.int m), some (.ref ln), some (.int i), some (kT k), z] ∧ S' = put (put S a c6) ln (.lst (js.map kT)) ∧ js.length ≤ 2 * i + i2 ∧ js.Nodup ∧ (∀ k ∈ js, KOk k) ∧ (0 < i2 → js ≠ [])) ?_ ?_ ⟨ks, _, rfl, rfl, lk, nk, ok, fun h => absurd h (Nat.lt_irrefl 0)⟩
            · rintro i2 x ρ S' N2 hx ⟨js, z1, rfl, rfl, lj, nj, oj, nej⟩ hN2
              have i2b : i2 < 2 := Nat.lt_of_lt_of_le (List.getElem?_eq_some_iff.mp hx).1 (by simp)
              obtain ⟨k2, rfl, hk2⟩ : ∃ k2 : Key, x = kT k2 ∧ KOk k2 := by
                have hx := List.mem_of_getElem? hx
                simp only [List.mem_cons, List.not_mem_nil, or_false] at hx
                rcases hx with rfl | rfl
                · exact ⟨k, rfl, hk⟩
                · exact ⟨.inr z4, rfl, ok4⟩
              clear hx
              have f1 := kT_flat k2
              have f2 := kT_flats js
              have f3 := kV_in k2 js
              walk_at "vn"
              cases hin : hasK k2 js with
              | true =>
                walk_at "vn"
                exact hN2 _ _ ⟨js, _, rfl, rfl, by omega, nj, oj, fun _ h => by subst h; cases hin⟩
              | false =>
                walk_at "vn"
                refine ⟨szn (by omega), hN2 _ _ ⟨js ++ [k2], _, rfl, by rw [List.map_append]; rfl, by rw [List.length_append]; show js.length + 1 ≤ _; omega, nodup_put nj hin, fun j hj => ?_, fun _ h => by simp at h⟩⟩
                rcases List.mem_append.mp hj with hj | hj
                · exact oj j hj
                · rw [List.mem_singleton.mp hj]; exact hk2
            · rintro ρ S' ⟨js, z1, rfl, rfl, lj, nj, oj, nej⟩
              walk_at "vn"
              exact hN _ _ ⟨js, _, _, _, c6, rfl, rfl, by simp only [List.length_cons, List.length_nil] at lj; omega, nj, oj, fun _ => nej (by simp), d6⟩
          · skip
            refine loop_inv _ (fun i2 ρ S' => ∃ (js : List Key) (z : Option Tr), ρ = [some (.ref a), some (.int m), some (.ref ln), some (.int i), some (kT k), z] ∧ S' = put (put S a c6) ln (.lst (js.map kT)) ∧ js.length ≤ 2 * i + i2 ∧ js.Nodup ∧ (∀ k ∈ js, KOk k) ∧ (0 < i2 → js ≠ [])) ?_ ?_ ⟨ks, _, rfl, rfl, lk, nk, ok, fun h => absurd h (Nat.lt_irrefl 0)⟩
            · rintro i2 x ρ S' N2 hx ⟨js, z1, rfl, rfl, lj, nj, oj, nej⟩ hN2
              have i2b : i2 < 2 := Nat.lt_of_lt_of_le (List.getElem?_eq_some_iff.mp hx).1 (by simp)
              obtain ⟨k2, rfl, hk2⟩ : ∃ k2 : Key, x = kT k2 ∧ KOk k2 := by
                have hx := List.mem_of_getElem? hx
                simp only [List.mem_cons, List.not_mem_nil, or_false] at hx
                subst hx
                exact ⟨k, rfl, hk⟩
              clear hx
              have f1 := kT_flat k2
              have f2 := kT_flats js
              have f3 := kV_in k2 js
              walk_at "vn"
              cases hin : hasK k2 js with
              | true =>
                walk_at "vn"
                exact hN2 _ _ ⟨js, _, rfl, rfl, by omega, nj, oj, fun _ h => by subst h; cases hin⟩
              | false =>
                walk_at "vn"
                refine ⟨szn (by omega), hN2 _ _ ⟨js ++ [k2], _, rfl, by rw [List.map_append]; rfl, by rw [List.length_append]; show js.length + 1 ≤ _; omega, nodup_put nj hin, fun j hj => ?_, fun _ h => by simp at h⟩⟩
                rcases List.mem_append.mp hj with hj | hj
                · exact oj j hj
                · rw [List.mem_singleton.mp hj]; exact hk2
            · rintro ρ S' ⟨js, z1, rfl, rfl, lj, nj, oj, nej⟩
              walk_at "vn"
              exact hN _ _ ⟨js, _, _, _, c6, rfl, rfl, by simp only [List.length_cons, List.length_nil] at lj; omega, nj, oj, fun _ => nej (by simp), d6⟩)
        refine dr_ok (A1 _ _) d4 (by decide) (by decide) fun r2 c5 r20 r21 d5 => ?_
        rw [B1]
        obtain ⟨z5, hz5, ok5⟩ := str_key (.inl n) hn
        walk_at "vn"
        split
        · exact ⟨log_int hn, key (.inr (Str.ofString (toString n))) c5 ⟨pr_int n, Nat.le_trans (len_int (k := 30) (by decide) hn) (by decide)⟩ d5⟩
        · exact key (.inl n) c5 hn d5
      · refine dsome_ok (A1 _ _) d3 fun y c4 hy d4 => ?_
        obtain ⟨zz, rfl, hn⟩ := hy
        rw [B1]
        walk_at "vn"
        intro P hP
        have key : ∀ (k : Key) (c5 : Tr), KOk k → DrOk c5 → P [some (.ref a), some (.int m), some (.ref ln), some (.int i), some (kT k), z0] (put (put S a c5) ln (.lst (ks.map kT))) := fun k c5 hk d5 => hP.go _ _ (by
          clear hP
          obtain ⟨z4, hz4, ok4⟩ := str_key k hk
          walk_at "vn"
          refine dr_ok (A1 _ _) d5 (by decide) (by decide) fun r3 c6 r30 r31 d6 => ?_
          rw [B1]
          have ev : ∀ S', vw S' (kT k) = kT k := fun S' => by cases k <;> rfl
          walk_at "vn"
          split
          · refine ⟨_, hz4, ?_⟩
            refine loop_inv _ (fun i2 ρ S' => ∃ (js : List Key) (z : Option Tr), ρ = [some (.ref a), some (.int m), some (.ref ln), some (.int i), some (kT k), z] ∧ S' = put (put S a c6) ln (.lst (js.map kT)) ∧ js.length ≤ 2 * i + i2 ∧ js.Nodup ∧ (∀ k ∈ js, KOk k) ∧ (0 < i2 → js ≠ [])) ?_ ?_ ⟨ks, _, rfl, rfl, lk, nk, ok, fun h => absurd h (Nat.lt_irrefl 0)⟩
            · rintro i2 x ρ S' N2 hx ⟨js, z1, rfl, rfl, lj, nj, oj, nej⟩ hN2
              have i2b : i2 < 2 := Nat.lt_of_lt_of_le (List.getElem?_eq_some_iff.mp hx).1 (by simp)
              obtain ⟨k2, rfl, hk2⟩ : ∃ k2 : Key, x = kT k2 ∧ KOk k2 := by
                have hx := List.mem_of_getElem? hx
                simp only [List.mem_cons, List.not_mem_nil, or_false] at hx
                rcases hx with rfl | rfl
                · exact ⟨k, rfl, hk⟩
                · exact ⟨.inr z4, rfl, ok4⟩
              clear hx
              have f1 := kT_flat k2
              have f2 := kT_flats js
              have f3 := kV_in k2 js
              walk_at "vn"
              cases hin : hasK k2 js with
              | true =>
                walk_at "vn"
                exact hN2 _ _ ⟨js, _, rfl, rfl, by omega, nj, oj, fun _ h => by subst h; cases hin⟩
              | false =>
                walk_at "vn"
                refine ⟨szn (by omega), hN2 _ _ ⟨js ++ [k2], _, rfl, by rw [List.map_append]; rfl, by rw [List.length_append]; show js.length + 1 ≤ _; omega, nodup_put nj hin, fun j hj => ?_, fun _ h => by simp at h⟩⟩
                rcases List.mem_append.mp hj with hj | hj
                · exact oj j hj
                · rw [List.mem_singleton.mp hj]; exact hk2
            · rintro ρ S' ⟨js, z1, rfl, rfl, lj, nj, oj, nej⟩
              walk_at "vn"
              exact hN _ _ ⟨js, _, _, _, c6, rfl, rfl, by simp only [List.length_cons, List.length_nil] at lj; omega, nj, oj, fun _ => nej (by simp), d6⟩
          · skip
            refine loop_inv _ (fun i2 ρ S' => ∃ (js : List Key) (z : Option Tr), ρ = [some (.ref a), some (.int m), some (.ref ln), some (.int i), some (kT k), z] ∧ S' = put (put S a c6) ln (.lst (js.map kT)) ∧ js.length ≤ 2 * i + i2 ∧ js.Nodup ∧ (∀ k ∈ js, KOk k) ∧ (0 < i2 → js ≠ [])) ?_ ?_ ⟨ks, _, rfl, rfl, lk, nk, ok, fun h => absurd h (Nat.lt_irrefl 0)⟩
            · rintro i2 x ρ S' N2 hx ⟨js, z1, rfl, rfl, lj, nj, oj, nej⟩ hN2
              have i2b : i2 < 2 := Nat.lt_of_lt_of_le (List.getElem?_eq_some_iff.mp hx).1 (by simp)
              obtain ⟨k2, rfl, hk2⟩ : ∃ k2 : Key, x = kT k2 ∧ KOk k2 := by
                have hx := List.mem_of_getElem? hx
                simp only [List.mem_cons, List.not_mem_nil, or_false] at hx
                subst hx
                exact ⟨k, rfl, hk⟩
              clear hx
              have f1 := kT_flat k2
              have f2 := kT_flats js
              have f3 := kV_in k2 js
              walk_at "vn"
              cases hin : hasK k2 js with
              | true =>
                walk_at "vn"
                exact hN2 _ _ ⟨js, _, rfl, rfl, by omega, nj, oj, fun _ h => by subst h; cases hin⟩
              | false =>
                walk_at "vn"
                refine ⟨szn (by omega), hN2 _ _ ⟨js ++ [k2], _, rfl, by rw [List.map_append]; rfl, by rw [List.length_append]; show js.length + 1 ≤ _; omega, nodup_put nj hin, fun j hj => ?_, fun _ h => by simp at h⟩⟩
                rcases List.mem_append.mp hj with hj | hj
                · exact oj j hj
                · rw [List.mem_singleton.mp hj]; exact hk2
            · rintro ρ S' ⟨js, z1, rfl, rfl, lj, nj, oj, nej⟩
              walk_at "vn"
              exact hN _ _ ⟨js, _, _, _, c6, rfl, rfl, by simp only [List.length_cons, List.length_nil] at lj; omega, nj, oj, fun _ => nej (by simp), d6⟩)
        refine dr_ok (A1 _ _) d4 (by decide) (by decide) fun r2 c5 r20 r21 d5 => ?_
        rw [B1]
        obtain ⟨z5, hz5, ok5⟩ := str_key (.inr zz) hn
        walk_at "vn"
        split
        · exact key (.inr zz) c5 hn d5
        · exact key (.inr zz) c5 hn d5
    · rintro ρ S' ⟨ks, x0, y0, z0, c2, rfl, rfl, lk, nk, ok, ne, d2⟩
      rw [rngT_len] at lk ne
      walk_at "vn"
      obtain ⟨mm, rfl⟩ : ∃ mm : Nat, m = (mm : Int) := ⟨m.toNat, by omega⟩
      have ne : 0 < mm → ks ≠ [] := ne
      have np0 : put S a c2 ln = none := by rw [put_ne nla]; exact hln
      rw [cut_take, ← List.map_take]
      refine cQ.drop (sub_new np0) (hq (ks.take mm) c2 (by rw [List.length_take]; omega) (nk.sublist (List.take_sublist _ _)) (fun k h => ok k (List.mem_of_mem_take h)) (fun h z => ?_) d2)
      rcases List.take_eq_nil_iff.mp z with h0 | h0
      · omega
      · exact ne (by omega) h0
    · rw [put_id hS]; rfl

/-! ### Before.__init__ -/
abbrev N_Before___init__ : List Str := ["self", "first", "second"]
theorem sc_Before___init__ : FnScope N_Before___init__ ["self", "first", "second"] (defScope s_Before___init__) := ⟨rfl, rfl, rfl, by decide +kernel, rfl, by decide +kernel, by decide +kernel⟩
theorem ok_Before___init__ (T : Top K mg A) {k : Nat}  : NewT P w K mg base (k + 1) "Before" A.Before (plN A.Before ["first", "second"]) := by
  have nd := sc_Before___init__.nd
  refine DefM.newT T.m_Before___init__ T.c_Before.mak T.c_Before.kp T.c_Before.mg sc_Before___init__ (fun _ _ _ _ _ _ us hl => match us, hl with | [_, _, _], _ => rfl) (fun xs S Q X h => ?_) (tI := (plI2 A.Before ["first", "second"])) ?_ ?_ ⟨fun f cdv AA outer s H E hr tk po => have hu := hu_of hr; (ss_cons (s_fldK (K := K) rfl (e_var 0) (e_var 1) rfl)
      (ss_one (s_fldK (K := K) rfl (e_var 0) (e_var 2) rfl)))⟩ ?_ ?_
  · obtain ⟨a, x0, x1, rfl, hS, hq⟩ := h
    rfl
  · walk_at "mono"
  · walk_at "mono"
  · intro xs S Q X cQ cX h
    obtain ⟨a, x0, x1, rfl, hS, hq⟩ := h
    have hT := And.intro T.f_Before_first <| T.f_Before_second
    simp only [KQ.startT, List.map_cons, List.map_nil, List.length_cons, List.length_nil, Nat.reduceAdd, Nat.reduceSub, List.replicate_succ, List.replicate_zero, List.cons_append, List.nil_append]
    walk_at "vc"
    all_goals (try decide)
  · rintro xs S Q X cQ cX ⟨hl, hq⟩ a n
    match xs, hl with
    | [x0, x1], _ => exact ⟨a, x0, x1, rfl, put_same, rfl, by rw [put_put]; exact cQ.one put_same (sub_new n) n hq⟩

/-! ### Equals.__init__ -/
abbrev N_Equals___init__ : List Str := ["self", "atom"]
theorem sc_Equals___init__ : FnScope N_Equals___init__ ["self", "atom"] (defScope s_Equals___init__) := ⟨rfl, rfl, rfl, by decide +kernel, rfl, by decide +kernel, by decide +kernel⟩
theorem ok_Equals___init__ (T : Top K mg A) {k : Nat}  : NewT P w K mg base (k + 1) "Equals" A.Equals (plN A.Equals ["atom"]) := by
  have nd := sc_Equals___init__.nd
  refine DefM.newT T.m_Equals___init__ T.c_Equals.mak T.c_Equals.kp T.c_Equals.mg sc_Equals___init__ (fun _ _ _ _ _ _ us hl => match us, hl with | [_, _], _ => rfl) (fun xs S Q X h => ?_) (tI := (plI1 A.Equals ["atom"])) ?_ ?_ ⟨fun f cdv AA outer s H E hr tk po => have hu := hu_of hr; (ss_one (s_fldK (K := K) rfl (e_var 0) (e_var 1) rfl))⟩ ?_ ?_
  · obtain ⟨a, x0, rfl, hS, hq⟩ := h
    rfl
  · walk_at "mono"
  · walk_at "mono"
  · intro xs S Q X cQ cX h
    obtain ⟨a, x0, rfl, hS, hq⟩ := h
    have hT :=  T.f_Equals_atom
    simp only [KQ.startT, List.map_cons, List.map_nil, List.length_cons, List.length_nil, Nat.reduceAdd, Nat.reduceSub, List.replicate_succ, List.replicate_zero, List.cons_append, List.nil_append]
    walk_at "vc"
    all_goals (try decide)
  · rintro xs S Q X cQ cX ⟨hl, hq⟩ a n
    match xs, hl with
    | [x0], _ => exact ⟨a, x0, rfl, put_same, rfl, by rw [put_put]; exact cQ.one put_same (sub_new n) n hq⟩

/-! ### Every.__init__ -/
abbrev N_Every___init__ : List Str := ["self", "label"]
theorem sc_Every___init__ : FnScope N_Every___init__ ["self", "label"] (defScope s_Every___init__) := ⟨rfl, rfl, rfl, by decide +kernel, rfl, by decide +kernel, by decide +kernel⟩
theorem ok_Every___init__ (T : Top K mg A) {k : Nat}  : NewT P w K mg base (k + 1) "Every" A.Every (plN A.Every ["label"]) := by
  have nd := sc_Every___init__.nd
  refine DefM.newT T.m_Every___init__ T.c_Every.mak T.c_Every.kp T.c_Every.mg sc_Every___init__ (fun _ _ _ _ _ _ us hl => match us, hl with | [_, _], _ => rfl) (fun xs S Q X h => ?_) (tI := (plI1 A.Every ["label"])) ?_ ?_ ⟨fun f cdv AA outer s H E hr tk po => have hu := hu_of hr; (ss_one (s_fldK (K := K) rfl (e_var 0) (e_var 1) rfl))⟩ ?_ ?_
  · obtain ⟨a, x0, rfl, hS, hq⟩ := h
    rfl
  · walk_at "mono"
  · walk_at "mono"
  · intro xs S Q X cQ cX h
    obtain ⟨a, x0, rfl, hS, hq⟩ := h
    have hT := And.intro T.f_Item_label <| And.intro T.f_First_label <| And.intro T.f_Every_label <| T.f_Some_label
    simp only [KQ.startT, List.map_cons, List.map_nil, List.length_cons, List.length_nil, Nat.reduceAdd, Nat.reduceSub, List.replicate_succ, List.replicate_zero, List.cons_append, List.nil_append]
    walk_at "vc"
    all_goals (try decide)
  · rintro xs S Q X cQ cX ⟨hl, hq⟩ a n
    match xs, hl with
    | [x0], _ => exact ⟨a, x0, rfl, put_same, rfl, by rw [put_put]; exact cQ.one put_same (sub_new n) n hq⟩

/-! ### First.__init__ -/
abbrev N_First___init__ : List Str := ["self", "label"]
theorem sc_First___init__ : FnScope N_First___init__ ["self", "label"] (defScope s_First___init__) := ⟨rfl, rfl, rfl, by decide +kernel, rfl, by decide +kernel, by decide +kernel⟩
theorem ok_First___init__ (T : Top K mg A) {k : Nat}  : NewT P w K mg base (k + 1) "First" A.First (plN A.First ["label"]) := by
  have nd := sc_First___init__.nd
  refine DefM.newT T.m_First___init__ T.c_First.mak T.c_First.kp T.c_First.mg sc_First___init__ (fun _ _ _ _ _ _ us hl => match us, hl with | [_, _], _ => rfl) (fun xs S Q X h => ?_) (tI := (plI1 A.First ["label"])) ?_ ?_ ⟨fun f cdv AA outer s H E hr tk po => have hu := hu_of hr; (ss_one (s_fldK (K := K) rfl (e_var 0) (e_var 1) rfl))⟩ ?_ ?_
  · obtain ⟨a, x0, rfl, hS, hq⟩ := h
    rfl
  · walk_at "mono"
  · walk_at "mono"
  · intro xs S Q X cQ cX h
    obtain ⟨a, x0, rfl, hS, hq⟩ := h
    have hT := And.intro T.f_Item_label <| And.intro T.f_First_label <| And.intro T.f_Every_label <| T.f_Some_label
    simp only [KQ.startT, List.map_cons, List.map_nil, List.length_cons, List.length_nil, Nat.reduceAdd, Nat.reduceSub, List.replicate_succ, List.replicate_zero, List.cons_append, List.nil_append]
    walk_at "vc"
    all_goals (try decide)
  · rintro xs S Q X cQ cX ⟨hl, hq⟩ a n
    match xs, hl with
    | [x0], _ => exact ⟨a, x0, rfl, put_same, rfl, by rw [put_put]; exact cQ.one put_same (sub_new n) n hq⟩

/-! ### Has.__init__ -/
abbrev N_Has___init__ : List Str := ["self", "key"]
theorem sc_Has___init__ : FnScope N_Has___init__ ["self", "key"] (defScope s_Has___init__) := ⟨rfl, rfl, rfl, by decide +kernel, rfl, by decide +kernel, by decide +kernel⟩
theorem ok_Has___init__ (T : Top K mg A) {k : Nat}  : NewT P w K mg base (k + 1) "Has" A.Has (plN A.Has ["key"]) := by
  have nd := sc_Has___init__.nd
  refine DefM.newT T.m_Has___init__ T.c_Has.mak T.c_Has.kp T.c_Has.mg sc_Has___init__ (fun _ _ _ _ _ _ us hl => match us, hl with | [_, _], _ => rfl) (fun xs S Q X h => ?_) (tI := (plI1 A.Has ["key"])) ?_ ?_ ⟨fun f cdv AA outer s H E hr tk po => have hu := hu_of hr; (ss_one (s_fldK (K := K) rfl (e_var 0) (e_var 1) rfl))⟩ ?_ ?_
  · obtain ⟨a, x0, rfl, hS, hq⟩ := h
    rfl
  · walk_at "mono"
  · walk_at "mono"
  · intro xs S Q X cQ cX h
    obtain ⟨a, x0, rfl, hS, hq⟩ := h
    have hT := And.intro T.f_Has_key <| T.f_Item_key
    simp only [KQ.startT, List.map_cons, List.map_nil, List.length_cons, List.length_nil, Nat.reduceAdd, Nat.reduceSub, List.replicate_succ, List.replicate_zero, List.cons_append, List.nil_append]
    walk_at "vc"
    all_goals (try decide)
  · rintro xs S Q X cQ cX ⟨hl, hq⟩ a n
    match xs, hl with
    | [x0], _ => exact ⟨a, x0, rfl, put_same, rfl, by rw [put_put]; exact cQ.one put_same (sub_new n) n hq⟩

/-! ### Item.__init__ -/
abbrev N_Item___init__ : List Str := ["self", "key", "label"]
theorem sc_Item___init__ : FnScope N_Item___init__ ["self", "key", "label"] (defScope s_Item___init__) := ⟨rfl, rfl, rfl, by decide +kernel, rfl, by decide +kernel, by decide +kernel⟩
theorem ok_Item___init__ (T : Top K mg A) {k : Nat}  : NewT P w K mg base (k + 1) "Item" A.Item (plN A.Item ["key", "label"]) := by
  have nd := sc_Item___init__.nd
  refine DefM.newT T.m_Item___init__ T.c_Item.mak T.c_Item.kp T.c_Item.mg sc_Item___init__ (fun _ _ _ _ _ _ us hl => match us, hl with | [_, _, _], _ => rfl) (fun xs S Q X h => ?_) (tI := (plI2 A.Item ["key", "label"])) ?_ ?_ ⟨fun f cdv AA outer s H E hr tk po => have hu := hu_of hr; (ss_cons (s_fldK (K := K) rfl (e_var 0) (e_var 1) rfl)
      (ss_one (s_fldK (K := K) rfl (e_var 0) (e_var 2) rfl)))⟩ ?_ ?_
  · obtain ⟨a, x0, x1, rfl, hS, hq⟩ := h
    rfl
  · walk_at "mono"
  · walk_at "mono"
  · intro xs S Q X cQ cX h
    obtain ⟨a, x0, x1, rfl, hS, hq⟩ := h
    have hT := And.intro T.f_Has_key <| And.intro T.f_Item_key <| And.intro T.f_Item_label <| And.intro T.f_First_label <| And.intro T.f_Every_label <| T.f_Some_label
    simp only [KQ.startT, List.map_cons, List.map_nil, List.length_cons, List.length_nil, Nat.reduceAdd, Nat.reduceSub, List.replicate_succ, List.replicate_zero, List.cons_append, List.nil_append]
    walk_at "vc"
    all_goals (try decide)
  · rintro xs S Q X cQ cX ⟨hl, hq⟩ a n
    match xs, hl with
    | [x0, x1], _ => exact ⟨a, x0, x1, rfl, put_same, rfl, by rw [put_put]; exact cQ.one put_same (sub_new n) n hq⟩

/-! ### BadCondition.__init__ -/
abbrev N_BadCondition___init__ : List Str := ["self", "value"]
theorem sc_BadCondition___init__ : FnScope N_BadCondition___init__ ["self", "value"] (defScope s_BadCondition___init__) := ⟨rfl, rfl, rfl, by decide +kernel, rfl, by decide +kernel, by decide +kernel⟩
theorem ok_BadCondition___init__ (T : Top K mg A) {k : Nat} : ExcT P w K mg base (k + 1) "BadCondition" A.BadCondition ["value"] :=
  DefM.excT T.m_BadCondition___init__ T.ox_BadCondition T.c_BadCondition.mg (List.forall_mem_cons.2 ⟨T.nf_BadCondition_value, fun _ h => nomatch h⟩) sc_BadCondition___init__ (fun _ _ _ _ _ _ us hl => match us, hl with | [_, _], _ => rfl) rfl (by decide) (by decide) (by decide) (fun _ _ _ _ _ h => start_at h) (fun f cdv A outer s H E => (pss_one (ps_ost (pv 0) (pv 1))))

/-! ### Kind.__init__ -/
abbrev N_Kind___init__ : List Str := ["self", "name"]
theorem sc_Kind___init__ : FnScope N_Kind___init__ ["self", "name"] (defScope s_Kind___init__) := ⟨rfl, rfl, rfl, by decide +kernel, rfl, by decide +kernel, by decide +kernel⟩
def sp_kind_init (C B : Addr) : TSp := fun xs S Q X => ∃ (a : Addr) (z : Str), xs = [.ref a, .str z] ∧ S a = some (.ins C [] []) ∧ (z ∈ kindsL → Q .non (put S a (.ins C ["name"] [.str z]))) ∧ (z ∉ kindsL → X (.ref B) ["value"] [.str z] S)
def sp_kindC (C B : Addr) : TSp := fun xs S Q X => ∃ z : Str, xs = [.str z] ∧ (z ∈ kindsL → Q (.ins C ["name"] [.str z]) S) ∧ (z ∉ kindsL → X (.ref B) ["value"] [.str z] S)
theorem ok_Kind___init__ (T : Top K mg A) {k : Nat} (X_BadCondition : ExcT P w K mg base k "BadCondition" A.BadCondition ["value"]) : NewT P w K mg base (k + 1 + 1) "Kind" A.Kind (sp_kindC A.Kind A.BadCondition) := by
  have nd := sc_Kind___init__.nd
  refine DefM.newT T.m_Kind___init__ T.c_Kind.mak T.c_Kind.kp T.c_Kind.mg sc_Kind___init__ (fun _ _ _ _ _ _ us hl => match us, hl with | [_, _], _ => rfl) (fun xs S Q X h => ?_) (tI := (sp_kind_init A.Kind A.BadCondition)) ?_ ?_ ⟨fun f cdv AA outer s H E hr tk po => have hu := hu_of hr; (ss_cons (s_if (t_cmp (notin_op hr) o_in (e_var 1) (e_g_KINDS T) (by with_unfolding_all rfl)) (ss_one (s_raise X_BadCondition rfl (hr.mono (by omega)) (by rfl) tk (a_cons (e_var 1) a_nil))) ss_nil)
      (ss_one (s_fldK (K := K) rfl (e_var 0) (e_var 1) rfl)))⟩ ?_ ?_
  · obtain ⟨a, z, rfl, hS, h1, h2⟩ := h
    rfl
  · walk_at "mono"
  · walk_at "mono"
  · intro xs S Q X cQ cX h
    obtain ⟨a, z, rfl, hS, h1, h2⟩ := h
    have hT :=  T.f_Kind_name
    simp only [KQ.startT, List.map_cons, List.map_nil, List.length_cons, List.length_nil, Nat.reduceAdd, Nat.reduceSub, List.replicate_succ, List.replicate_zero, List.cons_append, List.nil_append]
    walk_at "vc"
    refine ⟨kindsL.map V.str, rfl, ?_⟩
    rw [kinds_in]
    by_cases h : z ∈ kindsL
    · rw [decide_eq_true h, if_neg (by decide)]; exact ⟨by decide, h1 h⟩
    · rw [decide_eq_false h, if_pos rfl]; exact h2 h
  · rintro xs S Q X cQ cX ⟨z, rfl, h1, h2⟩ a n
    exact ⟨a, z, rfl, put_same, fun h => ⟨rfl, by rw [put_put]; exact cQ.one put_same (sub_new n) n (h1 h)⟩, fun h => cX _ _ _ _ _ (sub_new n) (h2 h)⟩

/-! ### Size.__init__ -/
abbrev N_Size___init__ : List Str := ["self", "count"]
theorem sc_Size___init__ : FnScope N_Size___init__ ["self", "count"] (defScope s_Size___init__) := ⟨rfl, rfl, rfl, by decide +kernel, rfl, by decide +kernel, by decide +kernel⟩
def sp_size_init (C B : Addr) : TSp := fun xs S Q X => ∃ (a : Addr) (n : Int), xs = [.ref a, .int n] ∧ S a = some (.ins C [] []) ∧ (0 ≤ n ∧ n ≤ 4 → Q .non (put S a (.ins C ["count"] [.int n]))) ∧ (¬ (0 ≤ n ∧ n ≤ 4) → X (.ref B) ["value"] [.int n] S)
def sp_sizeC (C B : Addr) : TSp := fun xs S Q X => ∃ n : Int, xs = [.int n] ∧ (0 ≤ n ∧ n ≤ 4 → Q (.ins C ["count"] [.int n]) S) ∧ (¬ (0 ≤ n ∧ n ≤ 4) → X (.ref B) ["value"] [.int n] S)
theorem ok_Size___init__ (T : Top K mg A) {k : Nat} (X_BadCondition : ExcT P w K mg base k "BadCondition" A.BadCondition ["value"]) : NewT P w K mg base (k + 1 + 1) "Size" A.Size (sp_sizeC A.Size A.BadCondition) := by
  have nd := sc_Size___init__.nd
  refine DefM.newT T.m_Size___init__ T.c_Size.mak T.c_Size.kp T.c_Size.mg sc_Size___init__ (fun _ _ _ _ _ _ us hl => match us, hl with | [_, _], _ => rfl) (fun xs S Q X h => ?_) (tI := (sp_size_init A.Size A.BadCondition)) ?_ ?_ ⟨fun f cdv AA outer s H E hr tk po => have hu := hu_of hr; (ss_cons (s_if (TPW.pt (w_or (t_cmp op_lt o_lt (e_var 1) e_int (nomark _)) (w_or1 (t_cmp op_gt o_gt (e_var 1) (e_g_MOST_COUNT T) (nomark _))))) (ss_one (s_raise X_BadCondition rfl (hr.mono (by omega)) (by rfl) tk (a_cons (e_var 1) a_nil))) ss_nil)
      (ss_one (s_fldK (K := K) rfl (e_var 0) (e_var 1) rfl)))⟩ ?_ ?_
  · obtain ⟨a, n, rfl, hS, h1, h2⟩ := h
    rfl
  · walk_at "mono"
  · walk_at "mono"
  · intro xs S Q X cQ cX h
    obtain ⟨a, n, rfl, hS, h1, h2⟩ := h
    have hT :=  T.f_Size_count
    simp only [KQ.startT, List.map_cons, List.map_nil, List.length_cons, List.length_nil, Nat.reduceAdd, Nat.reduceSub, List.replicate_succ, List.replicate_zero, List.cons_append, List.nil_append]
    walk_at "vc"
    split
    · exact h2 (by omega)
    · split
      · exact h2 (by omega)
      · exact ⟨by decide, h1 ⟨by omega, by omega⟩⟩
  · rintro xs S Q X cQ cX ⟨z, rfl, h1, h2⟩ a n
    exact ⟨a, z, rfl, put_same, fun h => ⟨rfl, by rw [put_put]; exact cQ.one put_same (sub_new n) n (h1 h)⟩, fun h => cX _ _ _ _ _ (sub_new n) (h2 h)⟩

/-! ### Some.__init__ -/
abbrev N_Some___init__ : List Str := ["self", "label"]
theorem sc_Some___init__ : FnScope N_Some___init__ ["self", "label"] (defScope s_Some___init__) := ⟨rfl, rfl, rfl, by decide +kernel, rfl, by decide +kernel, by decide +kernel⟩
theorem ok_Some___init__ (T : Top K mg A) {k : Nat}  : NewT P w K mg base (k + 1) "Some" A.Some (plN A.Some ["label"]) := by
  have nd := sc_Some___init__.nd
  refine DefM.newT T.m_Some___init__ T.c_Some.mak T.c_Some.kp T.c_Some.mg sc_Some___init__ (fun _ _ _ _ _ _ us hl => match us, hl with | [_, _], _ => rfl) (fun xs S Q X h => ?_) (tI := (plI1 A.Some ["label"])) ?_ ?_ ⟨fun f cdv AA outer s H E hr tk po => have hu := hu_of hr; (ss_one (s_fldK (K := K) rfl (e_var 0) (e_var 1) rfl))⟩ ?_ ?_
  · obtain ⟨a, x0, rfl, hS, hq⟩ := h
    rfl
  · walk_at "mono"
  · walk_at "mono"
  · intro xs S Q X cQ cX h
    obtain ⟨a, x0, rfl, hS, hq⟩ := h
    have hT := And.intro T.f_Item_label <| And.intro T.f_First_label <| And.intro T.f_Every_label <| T.f_Some_label
    simp only [KQ.startT, List.map_cons, List.map_nil, List.length_cons, List.length_nil, Nat.reduceAdd, Nat.reduceSub, List.replicate_succ, List.replicate_zero, List.cons_append, List.nil_append]
    walk_at "vc"
    all_goals (try decide)
  · rintro xs S Q X cQ cX ⟨hl, hq⟩ a n
    match xs, hl with
    | [x0], _ => exact ⟨a, x0, rfl, put_same, rfl, by rw [put_put]; exact cQ.one put_same (sub_new n) n hq⟩

/-! ### Both.__init__ -/
abbrev N_Both___init__ : List Str := ["self", "left", "right"]
theorem sc_Both___init__ : FnScope N_Both___init__ ["self", "left", "right"] (defScope s_Both___init__) := ⟨rfl, rfl, rfl, by decide +kernel, rfl, by decide +kernel, by decide +kernel⟩
theorem ok_Both___init__ (T : Top K mg A) {k : Nat}  : NewT P w K mg base (k + 1) "Both" A.Both (plN A.Both ["left", "right"]) := by
  have nd := sc_Both___init__.nd
  refine DefM.newT T.m_Both___init__ T.c_Both.mak T.c_Both.kp T.c_Both.mg sc_Both___init__ (fun _ _ _ _ _ _ us hl => match us, hl with | [_, _, _], _ => rfl) (fun xs S Q X h => ?_) (tI := (plI2 A.Both ["left", "right"])) ?_ ?_ ⟨fun f cdv AA outer s H E hr tk po => have hu := hu_of hr; (ss_cons (s_fldK (K := K) rfl (e_var 0) (e_var 1) rfl)
      (ss_one (s_fldK (K := K) rfl (e_var 0) (e_var 2) rfl)))⟩ ?_ ?_
  · obtain ⟨a, x0, x1, rfl, hS, hq⟩ := h
    rfl
  · walk_at "mono"
  · walk_at "mono"
  · intro xs S Q X cQ cX h
    obtain ⟨a, x0, x1, rfl, hS, hq⟩ := h
    have hT := And.intro T.f_Both_left <| And.intro T.f_Both_right <| And.intro T.f_Either_left <| T.f_Either_right
    simp only [KQ.startT, List.map_cons, List.map_nil, List.length_cons, List.length_nil, Nat.reduceAdd, Nat.reduceSub, List.replicate_succ, List.replicate_zero, List.cons_append, List.nil_append]
    walk_at "vc"
    all_goals (try decide)
  · rintro xs S Q X cQ cX ⟨hl, hq⟩ a n
    match xs, hl with
    | [x0, x1], _ => exact ⟨a, x0, x1, rfl, put_same, rfl, by rw [put_put]; exact cQ.one put_same (sub_new n) n hq⟩

/-! ### Condition.__and__ -/
abbrev N_Condition___and__ : List Str := ["self", "other"]
theorem sc_Condition___and__ : FnScope N_Condition___and__ ["self", "other"] (defScope s_Condition___and__) := ⟨rfl, rfl, rfl, by decide +kernel, rfl, by decide +kernel, by decide +kernel⟩
def vsp_and (a : CA) (τ : CT) : TSp := fun xs S Q X => ∃ c d : Cnd, c.tag = τ ∧ xs = [cT a c, cT a d] ∧ Q (cT a (.both c d)) S
theorem ok_Condition___and__ (T : Top K mg A) {k : Nat} {C : Addr} {τ : CT} (hD : DefM K C "__and__" "Condition.__and__" s_Condition___and__ []) (cl : Cls K C) (hC : (caA A).adr τ = some C) (hl : anyTag τ = true) (C_Both : NewT P w K mg base k "Both" A.Both (plN A.Both ["left", "right"])) : MthT P w K mg base (k + 1 + 1) C "__and__" ((vsp_and (caA A)) τ) := by
  have nd := sc_Condition___and__.nd
  refine DefM.mth hD cl sc_Condition___and__ (fun _ _ _ _ _ _ us hl => match us, hl with | [_, _], _ => rfl) (fun xs S Q X h => ?_) ?_ ⟨fun f cdv AA outer s H E hr tk po => have hu := hu_of hr; (ss_one (s_ret (e_new C_Both hr (by rfl) tk (a_cons (e_var 0) (a_cons (e_var 1) a_nil)))))⟩ ?_
  · obtain ⟨c, d, ct, rfl, hq⟩ := h
    rfl
  · walk_at "mono"
  · intro xs S Q X cQ cX h
    obtain ⟨c, d, ct, rfl, hq⟩ := h
    simp only [KQ.startT, List.map_cons, List.map_nil, List.length_cons, List.length_nil, Nat.reduceAdd, Nat.reduceSub, List.replicate_succ, List.replicate_zero, List.cons_append, List.nil_append]
    simp only [cT] at hq
    walk_at "vc"
    all_goals exact hq

theorem okv___and__ (T : Top K mg A) {k : Nat} (C_Both : NewT P w K mg base k "Both" A.Both (plN A.Both ["left", "right"])) : ∀ τ C, (caA A).adr τ = some C → MthT P w K mg base (k + 2) C "__and__" ((vsp_and (caA A)) τ) := by
    intro τ C h
    cases τ
    · cases (show some A.Kind = some C from h)
      exact (ok_Condition___and__ (P := P) (w := w) (base := base) T (k := k + 0) (hD := T.m_Kind___and__) (cl := T.c_Kind.ci.cl) (hC := rfl) (hl := rfl) (C_Both.lift (by omega))).lift (by omega)
    · cases (show some A.Equals = some C from h)
      exact (ok_Condition___and__ (P := P) (w := w) (base := base) T (k := k + 0) (hD := T.m_Equals___and__) (cl := T.c_Equals.ci.cl) (hC := rfl) (hl := rfl) (C_Both.lift (by omega))).lift (by omega)
    · cases (show some A.Size = some C from h)
      exact (ok_Condition___and__ (P := P) (w := w) (base := base) T (k := k + 0) (hD := T.m_Size___and__) (cl := T.c_Size.ci.cl) (hC := rfl) (hl := rfl) (C_Both.lift (by omega))).lift (by omega)
    · cases (show some A.Has = some C from h)
      exact (ok_Condition___and__ (P := P) (w := w) (base := base) T (k := k + 0) (hD := T.m_Has___and__) (cl := T.c_Has.ci.cl) (hC := rfl) (hl := rfl) (C_Both.lift (by omega))).lift (by omega)
    · cases (show some A.Item = some C from h)
      exact (ok_Condition___and__ (P := P) (w := w) (base := base) T (k := k + 0) (hD := T.m_Item___and__) (cl := T.c_Item.ci.cl) (hC := rfl) (hl := rfl) (C_Both.lift (by omega))).lift (by omega)
    · cases (show some A.Before = some C from h)
      exact (ok_Condition___and__ (P := P) (w := w) (base := base) T (k := k + 0) (hD := T.m_Before___and__) (cl := T.c_Before.ci.cl) (hC := rfl) (hl := rfl) (C_Both.lift (by omega))).lift (by omega)
    · cases (show some A.First = some C from h)
      exact (ok_Condition___and__ (P := P) (w := w) (base := base) T (k := k + 0) (hD := T.m_First___and__) (cl := T.c_First.ci.cl) (hC := rfl) (hl := rfl) (C_Both.lift (by omega))).lift (by omega)
    · cases (show some A.Every = some C from h)
      exact (ok_Condition___and__ (P := P) (w := w) (base := base) T (k := k + 0) (hD := T.m_Every___and__) (cl := T.c_Every.ci.cl) (hC := rfl) (hl := rfl) (C_Both.lift (by omega))).lift (by omega)
    · cases (show some A.Some = some C from h)
      exact (ok_Condition___and__ (P := P) (w := w) (base := base) T (k := k + 0) (hD := T.m_Some___and__) (cl := T.c_Some.ci.cl) (hC := rfl) (hl := rfl) (C_Both.lift (by omega))).lift (by omega)
    · cases (show some A.Both = some C from h)
      exact (ok_Condition___and__ (P := P) (w := w) (base := base) T (k := k + 0) (hD := T.m_Both___and__) (cl := T.c_Both.ci.cl) (hC := rfl) (hl := rfl) (C_Both.lift (by omega))).lift (by omega)
    · cases (show some A.Either = some C from h)
      exact (ok_Condition___and__ (P := P) (w := w) (base := base) T (k := k + 0) (hD := T.m_Either___and__) (cl := T.c_Either.ci.cl) (hC := rfl) (hl := rfl) (C_Both.lift (by omega))).lift (by omega)
    · cases (show some A.Inverse = some C from h)
      exact (ok_Condition___and__ (P := P) (w := w) (base := base) T (k := k + 0) (hD := T.m_Inverse___and__) (cl := T.c_Inverse.ci.cl) (hC := rfl) (hl := rfl) (C_Both.lift (by omega))).lift (by omega)

/-! ### Inverse.__init__ -/
abbrev N_Inverse___init__ : List Str := ["self", "inner"]
theorem sc_Inverse___init__ : FnScope N_Inverse___init__ ["self", "inner"] (defScope s_Inverse___init__) := ⟨rfl, rfl, rfl, by decide +kernel, rfl, by decide +kernel, by decide +kernel⟩
theorem ok_Inverse___init__ (T : Top K mg A) {k : Nat}  : NewT P w K mg base (k + 1) "Inverse" A.Inverse (plN A.Inverse ["inner"]) := by
  have nd := sc_Inverse___init__.nd
  refine DefM.newT T.m_Inverse___init__ T.c_Inverse.mak T.c_Inverse.kp T.c_Inverse.mg sc_Inverse___init__ (fun _ _ _ _ _ _ us hl => match us, hl with | [_, _], _ => rfl) (fun xs S Q X h => ?_) (tI := (plI1 A.Inverse ["inner"])) ?_ ?_ ⟨fun f cdv AA outer s H E hr tk po => have hu := hu_of hr; (ss_one (s_fldK (K := K) rfl (e_var 0) (e_var 1) rfl))⟩ ?_ ?_
  · obtain ⟨a, x0, rfl, hS, hq⟩ := h
    rfl
  · walk_at "mono"
  · walk_at "mono"
  · intro xs S Q X cQ cX h
    obtain ⟨a, x0, rfl, hS, hq⟩ := h
    have hT :=  T.f_Inverse_inner
    simp only [KQ.startT, List.map_cons, List.map_nil, List.length_cons, List.length_nil, Nat.reduceAdd, Nat.reduceSub, List.replicate_succ, List.replicate_zero, List.cons_append, List.nil_append]
    walk_at "vc"
    all_goals (try decide)
  · rintro xs S Q X cQ cX ⟨hl, hq⟩ a n
    match xs, hl with
    | [x0], _ => exact ⟨a, x0, rfl, put_same, rfl, by rw [put_put]; exact cQ.one put_same (sub_new n) n hq⟩

/-! ### Condition.__invert__ -/
abbrev N_Condition___invert__ : List Str := ["self"]
theorem sc_Condition___invert__ : FnScope N_Condition___invert__ ["self"] (defScope s_Condition___invert__) := ⟨rfl, rfl, rfl, by decide +kernel, rfl, by decide +kernel, by decide +kernel⟩
def vsp_inv (a : CA) (τ : CT) : TSp := fun xs S Q X => ∃ c : Cnd, c.tag = τ ∧ xs = [cT a c] ∧ Q (cT a (.inv c)) S
theorem ok_Condition___invert__ (T : Top K mg A) {k : Nat} {C : Addr} {τ : CT} (hD : DefM K C "__invert__" "Condition.__invert__" s_Condition___invert__ []) (cl : Cls K C) (hC : (caA A).adr τ = some C) (hl : anyTag τ = true) (C_Inverse : NewT P w K mg base k "Inverse" A.Inverse (plN A.Inverse ["inner"])) : MthT P w K mg base (k + 1 + 1) C "__invert__" ((vsp_inv (caA A)) τ) := by
  have nd := sc_Condition___invert__.nd
  refine DefM.mth hD cl sc_Condition___invert__ (fun _ _ _ _ _ _ us hl => match us, hl with | [_], _ => rfl) (fun xs S Q X h => ?_) ?_ ⟨fun f cdv AA outer s H E hr tk po => have hu := hu_of hr; (ss_one (s_ret (e_new C_Inverse hr (by rfl) tk (a_cons (e_var 0) a_nil))))⟩ ?_
  · obtain ⟨c, ct, rfl, hq⟩ := h
    rfl
  · walk_at "mono"
  · intro xs S Q X cQ cX h
    obtain ⟨c, ct, rfl, hq⟩ := h
    simp only [KQ.startT, List.map_cons, List.map_nil, List.length_cons, List.length_nil, Nat.reduceAdd, Nat.reduceSub, List.replicate_succ, List.replicate_zero, List.cons_append, List.nil_append]
    simp only [cT] at hq
    walk_at "vc"
    all_goals exact hq

theorem okv___invert__ (T : Top K mg A) {k : Nat} (C_Inverse : NewT P w K mg base k "Inverse" A.Inverse (plN A.Inverse ["inner"])) : ∀ τ C, (caA A).adr τ = some C → MthT P w K mg base (k + 2) C "__invert__" ((vsp_inv (caA A)) τ) := by
    intro τ C h
    cases τ
    · cases (show some A.Kind = some C from h)
      exact (ok_Condition___invert__ (P := P) (w := w) (base := base) T (k := k + 0) (hD := T.m_Kind___invert__) (cl := T.c_Kind.ci.cl) (hC := rfl) (hl := rfl) (C_Inverse.lift (by omega))).lift (by omega)
    · cases (show some A.Equals = some C from h)
      exact (ok_Condition___invert__ (P := P) (w := w) (base := base) T (k := k + 0) (hD := T.m_Equals___invert__) (cl := T.c_Equals.ci.cl) (hC := rfl) (hl := rfl) (C_Inverse.lift (by omega))).lift (by omega)
    · cases (show some A.Size = some C from h)
      exact (ok_Condition___invert__ (P := P) (w := w) (base := base) T (k := k + 0) (hD := T.m_Size___invert__) (cl := T.c_Size.ci.cl) (hC := rfl) (hl := rfl) (C_Inverse.lift (by omega))).lift (by omega)
    · cases (show some A.Has = some C from h)
      exact (ok_Condition___invert__ (P := P) (w := w) (base := base) T (k := k + 0) (hD := T.m_Has___invert__) (cl := T.c_Has.ci.cl) (hC := rfl) (hl := rfl) (C_Inverse.lift (by omega))).lift (by omega)
    · cases (show some A.Item = some C from h)
      exact (ok_Condition___invert__ (P := P) (w := w) (base := base) T (k := k + 0) (hD := T.m_Item___invert__) (cl := T.c_Item.ci.cl) (hC := rfl) (hl := rfl) (C_Inverse.lift (by omega))).lift (by omega)
    · cases (show some A.Before = some C from h)
      exact (ok_Condition___invert__ (P := P) (w := w) (base := base) T (k := k + 0) (hD := T.m_Before___invert__) (cl := T.c_Before.ci.cl) (hC := rfl) (hl := rfl) (C_Inverse.lift (by omega))).lift (by omega)
    · cases (show some A.First = some C from h)
      exact (ok_Condition___invert__ (P := P) (w := w) (base := base) T (k := k + 0) (hD := T.m_First___invert__) (cl := T.c_First.ci.cl) (hC := rfl) (hl := rfl) (C_Inverse.lift (by omega))).lift (by omega)
    · cases (show some A.Every = some C from h)
      exact (ok_Condition___invert__ (P := P) (w := w) (base := base) T (k := k + 0) (hD := T.m_Every___invert__) (cl := T.c_Every.ci.cl) (hC := rfl) (hl := rfl) (C_Inverse.lift (by omega))).lift (by omega)
    · cases (show some A.Some = some C from h)
      exact (ok_Condition___invert__ (P := P) (w := w) (base := base) T (k := k + 0) (hD := T.m_Some___invert__) (cl := T.c_Some.ci.cl) (hC := rfl) (hl := rfl) (C_Inverse.lift (by omega))).lift (by omega)
    · cases (show some A.Both = some C from h)
      exact (ok_Condition___invert__ (P := P) (w := w) (base := base) T (k := k + 0) (hD := T.m_Both___invert__) (cl := T.c_Both.ci.cl) (hC := rfl) (hl := rfl) (C_Inverse.lift (by omega))).lift (by omega)
    · cases (show some A.Either = some C from h)
      exact (ok_Condition___invert__ (P := P) (w := w) (base := base) T (k := k + 0) (hD := T.m_Either___invert__) (cl := T.c_Either.ci.cl) (hC := rfl) (hl := rfl) (C_Inverse.lift (by omega))).lift (by omega)
    · cases (show some A.Inverse = some C from h)
      exact (ok_Condition___invert__ (P := P) (w := w) (base := base) T (k := k + 0) (hD := T.m_Inverse___invert__) (cl := T.c_Inverse.ci.cl) (hC := rfl) (hl := rfl) (C_Inverse.lift (by omega))).lift (by omega)

/-! ### Either.__init__ -/
abbrev N_Either___init__ : List Str := ["self", "left", "right"]
theorem sc_Either___init__ : FnScope N_Either___init__ ["self", "left", "right"] (defScope s_Either___init__) := ⟨rfl, rfl, rfl, by decide +kernel, rfl, by decide +kernel, by decide +kernel⟩
theorem ok_Either___init__ (T : Top K mg A) {k : Nat}  : NewT P w K mg base (k + 1) "Either" A.Either (plN A.Either ["left", "right"]) := by
  have nd := sc_Either___init__.nd
  refine DefM.newT T.m_Either___init__ T.c_Either.mak T.c_Either.kp T.c_Either.mg sc_Either___init__ (fun _ _ _ _ _ _ us hl => match us, hl with | [_, _, _], _ => rfl) (fun xs S Q X h => ?_) (tI := (plI2 A.Either ["left", "right"])) ?_ ?_ ⟨fun f cdv AA outer s H E hr tk po => have hu := hu_of hr; (ss_cons (s_fldK (K := K) rfl (e_var 0) (e_var 1) rfl)
      (ss_one (s_fldK (K := K) rfl (e_var 0) (e_var 2) rfl)))⟩ ?_ ?_
  · obtain ⟨a, x0, x1, rfl, hS, hq⟩ := h
    rfl
  · walk_at "mono"
  · walk_at "mono"
  · intro xs S Q X cQ cX h
    obtain ⟨a, x0, x1, rfl, hS, hq⟩ := h
    have hT := And.intro T.f_Both_left <| And.intro T.f_Both_right <| And.intro T.f_Either_left <| T.f_Either_right
    simp only [KQ.startT, List.map_cons, List.map_nil, List.length_cons, List.length_nil, Nat.reduceAdd, Nat.reduceSub, List.replicate_succ, List.replicate_zero, List.cons_append, List.nil_append]
    walk_at "vc"
    all_goals (try decide)
  · rintro xs S Q X cQ cX ⟨hl, hq⟩ a n
    match xs, hl with
    | [x0, x1], _ => exact ⟨a, x0, x1, rfl, put_same, rfl, by rw [put_put]; exact cQ.one put_same (sub_new n) n hq⟩

/-! ### Condition.__or__ -/
abbrev N_Condition___or__ : List Str := ["self", "other"]
theorem sc_Condition___or__ : FnScope N_Condition___or__ ["self", "other"] (defScope s_Condition___or__) := ⟨rfl, rfl, rfl, by decide +kernel, rfl, by decide +kernel, by decide +kernel⟩
def vsp_or (a : CA) (τ : CT) : TSp := fun xs S Q X => ∃ c d : Cnd, c.tag = τ ∧ xs = [cT a c, cT a d] ∧ Q (cT a (.either c d)) S
theorem ok_Condition___or__ (T : Top K mg A) {k : Nat} {C : Addr} {τ : CT} (hD : DefM K C "__or__" "Condition.__or__" s_Condition___or__ []) (cl : Cls K C) (hC : (caA A).adr τ = some C) (hl : anyTag τ = true) (C_Either : NewT P w K mg base k "Either" A.Either (plN A.Either ["left", "right"])) : MthT P w K mg base (k + 1 + 1) C "__or__" ((vsp_or (caA A)) τ) := by
  have nd := sc_Condition___or__.nd
  refine DefM.mth hD cl sc_Condition___or__ (fun _ _ _ _ _ _ us hl => match us, hl with | [_, _], _ => rfl) (fun xs S Q X h => ?_) ?_ ⟨fun f cdv AA outer s H E hr tk po => have hu := hu_of hr; (ss_one (s_ret (e_new C_Either hr (by rfl) tk (a_cons (e_var 0) (a_cons (e_var 1) a_nil)))))⟩ ?_
  · obtain ⟨c, d, ct, rfl, hq⟩ := h
    rfl
  · walk_at "mono"
  · intro xs S Q X cQ cX h
    obtain ⟨c, d, ct, rfl, hq⟩ := h
    simp only [KQ.startT, List.map_cons, List.map_nil, List.length_cons, List.length_nil, Nat.reduceAdd, Nat.reduceSub, List.replicate_succ, List.replicate_zero, List.cons_append, List.nil_append]
    simp only [cT] at hq
    walk_at "vc"
    all_goals exact hq

theorem okv___or__ (T : Top K mg A) {k : Nat} (C_Either : NewT P w K mg base k "Either" A.Either (plN A.Either ["left", "right"])) : ∀ τ C, (caA A).adr τ = some C → MthT P w K mg base (k + 2) C "__or__" ((vsp_or (caA A)) τ) := by
    intro τ C h
    cases τ
    · cases (show some A.Kind = some C from h)
      exact (ok_Condition___or__ (P := P) (w := w) (base := base) T (k := k + 0) (hD := T.m_Kind___or__) (cl := T.c_Kind.ci.cl) (hC := rfl) (hl := rfl) (C_Either.lift (by omega))).lift (by omega)
    · cases (show some A.Equals = some C from h)
      exact (ok_Condition___or__ (P := P) (w := w) (base := base) T (k := k + 0) (hD := T.m_Equals___or__) (cl := T.c_Equals.ci.cl) (hC := rfl) (hl := rfl) (C_Either.lift (by omega))).lift (by omega)
    · cases (show some A.Size = some C from h)
      exact (ok_Condition___or__ (P := P) (w := w) (base := base) T (k := k + 0) (hD := T.m_Size___or__) (cl := T.c_Size.ci.cl) (hC := rfl) (hl := rfl) (C_Either.lift (by omega))).lift (by omega)
    · cases (show some A.Has = some C from h)
      exact (ok_Condition___or__ (P := P) (w := w) (base := base) T (k := k + 0) (hD := T.m_Has___or__) (cl := T.c_Has.ci.cl) (hC := rfl) (hl := rfl) (C_Either.lift (by omega))).lift (by omega)
    · cases (show some A.Item = some C from h)
      exact (ok_Condition___or__ (P := P) (w := w) (base := base) T (k := k + 0) (hD := T.m_Item___or__) (cl := T.c_Item.ci.cl) (hC := rfl) (hl := rfl) (C_Either.lift (by omega))).lift (by omega)
    · cases (show some A.Before = some C from h)
      exact (ok_Condition___or__ (P := P) (w := w) (base := base) T (k := k + 0) (hD := T.m_Before___or__) (cl := T.c_Before.ci.cl) (hC := rfl) (hl := rfl) (C_Either.lift (by omega))).lift (by omega)
    · cases (show some A.First = some C from h)
      exact (ok_Condition___or__ (P := P) (w := w) (base := base) T (k := k + 0) (hD := T.m_First___or__) (cl := T.c_First.ci.cl) (hC := rfl) (hl := rfl) (C_Either.lift (by omega))).lift (by omega)
    · cases (show some A.Every = some C from h)
      exact (ok_Condition___or__ (P := P) (w := w) (base := base) T (k := k + 0) (hD := T.m_Every___or__) (cl := T.c_Every.ci.cl) (hC := rfl) (hl := rfl) (C_Either.lift (by omega))).lift (by omega)
    · cases (show some A.Some = some C from h)
      exact (ok_Condition___or__ (P := P) (w := w) (base := base) T (k := k + 0) (hD := T.m_Some___or__) (cl := T.c_Some.ci.cl) (hC := rfl) (hl := rfl) (C_Either.lift (by omega))).lift (by omega)
    · cases (show some A.Both = some C from h)
      exact (ok_Condition___or__ (P := P) (w := w) (base := base) T (k := k + 0) (hD := T.m_Both___or__) (cl := T.c_Both.ci.cl) (hC := rfl) (hl := rfl) (C_Either.lift (by omega))).lift (by omega)
    · cases (show some A.Either = some C from h)
      exact (ok_Condition___or__ (P := P) (w := w) (base := base) T (k := k + 0) (hD := T.m_Either___or__) (cl := T.c_Either.ci.cl) (hC := rfl) (hl := rfl) (C_Either.lift (by omega))).lift (by omega)
    · cases (show some A.Inverse = some C from h)
      exact (ok_Condition___or__ (P := P) (w := w) (base := base) T (k := k + 0) (hD := T.m_Inverse___or__) (cl := T.c_Inverse.ci.cl) (hC := rfl) (hl := rfl) (C_Either.lift (by omega))).lift (by omega)

/-! ### _law_made -/
abbrev N__law_made : List Str := ["_law_ask_here", "_law_word", "_law_one", "_law_two"]
theorem sc__law_made : FnScope N__law_made ["_law_ask_here"] (defScope s__law_made) := ⟨rfl, rfl, rfl, by decide +kernel, rfl, by decide +kernel, by decide +kernel⟩
def sp_made (a : CA) (n : Nat) : TSp := fun xs S Q X => ∃ c : Cnd, xs = [askT c] ∧ COk a c ∧ cdep c ≤ n ∧ Q (cT a c) S
theorem step__law_made (T : Top K mg A) {k n : Nat} (C_Before : NewT P w K mg base k "Before" A.Before (plN A.Before ["first", "second"])) (C_Equals : NewT P w K mg base k "Equals" A.Equals (plN A.Equals ["atom"])) (C_Every : NewT P w K mg base k "Every" A.Every (plN A.Every ["label"])) (C_First : NewT P w K mg base k "First" A.First (plN A.First ["label"])) (C_Has : NewT P w K mg base k "Has" A.Has (plN A.Has ["key"])) (C_Item : NewT P w K mg base k "Item" A.Item (plN A.Item ["key", "label"])) (C_Kind : NewT P w K mg base k "Kind" A.Kind (sp_kindC A.Kind A.BadCondition)) (C_Size : NewT P w K mg base k "Size" A.Size (sp_sizeC A.Size A.BadCondition)) (C_Some : NewT P w K mg base k "Some" A.Some (plN A.Some ["label"])) (V___and__ : ∀ τ C, (caA A).adr τ = some C → MthT P w K mg base k C "__and__" ((vsp_and (caA A)) τ)) (V___invert__ : ∀ τ C, (caA A).adr τ = some C → MthT P w K mg base k C "__invert__" ((vsp_inv (caA A)) τ)) (V___or__ : ∀ τ C, (caA A).adr τ = some C → MthT P w K mg base k C "__or__" ((vsp_or (caA A)) τ)) (C__law_made : CalleeT P w K mg base k "_law_made" ["_law_ask_here"] (sp_made (caA A) n)) : CalleeT P w K mg base (k + 1 + 1) "_law_made" ["_law_ask_here"] (sp_made (caA A) (n + 1)) := by
  have nd := sc__law_made.nd
  refine Def.okT T.d__law_made sc__law_made (fun _ _ _ _ _ _ us hl => match us, hl with | [_], _ => rfl) (fun xs S Q X h => ?_) ?_ (fun f cdv AA outer s H E hr tk po => have hu := hu_of hr; (ss_cons (s_set (i := 1) nd rfl (Or.inl rfl) (e_ix (ix_op hr) o_ix (e_var 0) e_int (fun _ _ => rfl)))
      (ss_cons (s_if (t_cmp (in_op hr) o_in (e_var 1) (e_tup (a_cons e_str (a_cons e_str a_nil))) (by with_unfolding_all rfl)) (ss_cons (s_par (i := 2) (j := 3) rfl nd rfl rfl (by decide) rfl rfl (a_cons (e_call C__law_made (hr.mono (by omega)) (by rfl) tk (a_cons (e_ix (ix_op hr) o_ix (e_var 0) e_int (fun _ _ => rfl)) a_nil)) (a_cons (e_call C__law_made (hr.mono (by omega)) (by rfl) tk (a_cons (e_ix (ix_op hr) o_ix (e_var 0) e_int (fun _ _ => rfl)) a_nil)) a_nil)) (fun h => ps_par (by rfl) nd rfl rfl (by decide) rfl rfl h (by rfl)))
      (ss_one (s_ret (e_ifExp (t_cmp (eq_op hr) o_eq (e_var 1) e_str (nomark _)) (e_obin2 (K := K) rfl (ms := vm (caA A) (vsp_and (caA A))) (fun C t h => by obtain ⟨τ, e, rfl⟩ := h; exact V___and__ τ C e) (hr.mono (by omega)) tk (e_var 2) (e_var 3)) (e_obin2 (K := K) rfl (ms := vm (caA A) (vsp_or (caA A))) (fun C t h => by obtain ⟨τ, e, rfl⟩ := h; exact V___or__ τ C e) (hr.mono (by omega)) tk (e_var 2) (e_var 3)))))) ss_nil)
      (ss_cons (s_if (t_cmp (eq_op hr) o_eq (e_var 1) e_str (nomark _)) (ss_one (s_ret (e_oinv (ms := vm (caA A) (vsp_inv (caA A))) (fun C t h => by obtain ⟨τ, e, rfl⟩ := h; exact V___invert__ τ C e) (hr.mono (by omega)) tk (e_call C__law_made (hr.mono (by omega)) (by rfl) tk (a_cons (e_ix (ix_op hr) o_ix (e_var 0) e_int (fun _ _ => rfl)) a_nil))))) ss_nil)
      (ss_cons (s_if (t_cmp (in_op hr) o_in (e_var 1) (e_tup (a_cons e_str (a_cons e_str a_nil))) (by with_unfolding_all rfl)) (ss_one (s_ret (e_ifExp (t_cmp (eq_op hr) o_eq (e_var 1) e_str (nomark _)) (e_new C_Kind hr (by rfl) tk (a_cons (e_ix (ix_op hr) o_ix (e_var 0) e_int (fun _ _ => rfl)) a_nil)) (e_new C_Equals hr (by rfl) tk (a_cons (e_ix (ix_op hr) o_ix (e_var 0) e_int (fun _ _ => rfl)) a_nil))))) ss_nil)
      (ss_cons (s_if (t_cmp (in_op hr) o_in (e_var 1) (e_tup (a_cons e_str (a_cons e_str a_nil))) (by with_unfolding_all rfl)) (ss_one (s_ret (e_ifExp (t_cmp (eq_op hr) o_eq (e_var 1) e_str (nomark _)) (e_new C_Size hr (by rfl) tk (a_cons (e_ix (ix_op hr) o_ix (e_var 0) e_int (fun _ _ => rfl)) a_nil)) (e_new C_Has hr (by rfl) tk (a_cons (e_ix (ix_op hr) o_ix (e_var 0) e_int (fun _ _ => rfl)) a_nil))))) ss_nil)
      (ss_cons (s_if (t_cmp (in_op hr) o_in (e_var 1) (e_tup (a_cons e_str (a_cons e_str a_nil))) (by with_unfolding_all rfl)) (ss_one (s_ret (e_ifExp (t_cmp (eq_op hr) o_eq (e_var 1) e_str (nomark _)) (e_new C_Item hr (by rfl) tk (a_cons (e_ix (ix_op hr) o_ix (e_var 0) e_int (fun _ _ => rfl)) (a_cons (e_ix (ix_op hr) o_ix (e_var 0) e_int (fun _ _ => rfl)) a_nil))) (e_new C_Before hr (by rfl) tk (a_cons (e_ix (ix_op hr) o_ix (e_var 0) e_int (fun _ _ => rfl)) (a_cons (e_ix (ix_op hr) o_ix (e_var 0) e_int (fun _ _ => rfl)) a_nil)))))) ss_nil)
      (ss_cons (s_if (t_cmp (eq_op hr) o_eq (e_var 1) e_str (nomark _)) (ss_one (s_ret (e_new C_First hr (by rfl) tk (a_cons (e_ix (ix_op hr) o_ix (e_var 0) e_int (fun _ _ => rfl)) a_nil)))) ss_nil)
      (ss_one (s_ret (e_ifExp (t_cmp (eq_op hr) o_eq (e_var 1) e_str (nomark _)) (e_new C_Every hr (by rfl) tk (a_cons (e_ix (ix_op hr) o_ix (e_var 0) e_int (fun _ _ => rfl)) a_nil)) (e_new C_Some hr (by rfl) tk (a_cons (e_ix (ix_op hr) o_ix (e_var 0) e_int (fun _ _ => rfl)) a_nil))))))))))))) ?_
  · obtain ⟨c, rfl, ok, dp, hq⟩ := h
    rfl
  · walk_at "mono"
  · intro xs S Q X cQ cX h
    obtain ⟨c, rfl, ok, dp, hq⟩ := h
    simp only [KQ.startT, List.map_cons, List.map_nil, List.length_cons, List.length_nil, Nat.reduceAdd, Nat.reduceSub, List.replicate_succ, List.replicate_zero, List.cons_append, List.nil_append]
    cases c with
    | both c d =>
      simp only [askT]
      simp only [cdep] at dp
      have ob := T.ob_BitAnd
      replace ob := Hide.mk ob
      walk_at "vl"
      refine ⟨c, rfl, ok.2.1, by omega, d, rfl, ok.2.2, by omega, ?_⟩
      exact ob_go ok.2.1 ok.2.2 ob.go ⟨c, d, rfl, rfl, hq⟩
    | either c d =>
      simp only [askT]
      simp only [cdep] at dp
      have ob := T.ob_BitOr
      replace ob := Hide.mk ob
      walk_at "vl"
      refine ⟨c, rfl, ok.2.1, by omega, d, rfl, ok.2.2, by omega, ?_⟩
      exact ob_go ok.2.1 ok.2.2 ob.go ⟨c, d, rfl, rfl, hq⟩
    | inv c =>
      simp only [askT]
      simp only [cdep] at dp
      walk_at "vl"
      refine ⟨c, rfl, ok.2, by omega, ?_⟩
      exact inv_go ok.2 ⟨c, rfl, rfl, hq⟩
    | kind z =>
      simp only [askT]
      simp only [cT] at hq
      walk_at "vl"
      exact ⟨z, rfl, fun _ => hq, fun h => absurd ok.2 h⟩
    | size n =>
      simp only [askT]
      simp only [cT] at hq
      walk_at "vl"
      exact ⟨n, rfl, fun _ => hq, fun h => absurd ok.2 h⟩
    | _ =>
      simp only [askT]
      simp only [cT] at hq
      walk_at "vl"
      all_goals exact hq
theorem ok__law_made (T : Top K mg A) {k : Nat} (C_Before : NewT P w K mg base k "Before" A.Before (plN A.Before ["first", "second"])) (C_Equals : NewT P w K mg base k "Equals" A.Equals (plN A.Equals ["atom"])) (C_Every : NewT P w K mg base k "Every" A.Every (plN A.Every ["label"])) (C_First : NewT P w K mg base k "First" A.First (plN A.First ["label"])) (C_Has : NewT P w K mg base k "Has" A.Has (plN A.Has ["key"])) (C_Item : NewT P w K mg base k "Item" A.Item (plN A.Item ["key", "label"])) (C_Kind : NewT P w K mg base k "Kind" A.Kind (sp_kindC A.Kind A.BadCondition)) (C_Size : NewT P w K mg base k "Size" A.Size (sp_sizeC A.Size A.BadCondition)) (C_Some : NewT P w K mg base k "Some" A.Some (plN A.Some ["label"])) (V___and__ : ∀ τ C, (caA A).adr τ = some C → MthT P w K mg base k C "__and__" ((vsp_and (caA A)) τ)) (V___invert__ : ∀ τ C, (caA A).adr τ = some C → MthT P w K mg base k C "__invert__" ((vsp_inv (caA A)) τ)) (V___or__ : ∀ τ C, (caA A).adr τ = some C → MthT P w K mg base k C "__or__" ((vsp_or (caA A)) τ)) : ∀ n, CalleeT P w K mg base (k + 2 * n) "_law_made" ["_law_ask_here"] (sp_made (caA A) n)
  | 0 => Def.botT (N := N__law_made) T.d__law_made (fun _ _ _ _ _ _ us hl => match us, hl with | [_], _ => rfl) (fun xs S Q X h => by
      obtain ⟨c, _, _, h, _⟩ := h
      have := cdep_pos c
      omega)
  | n + 1 => by
    have C__law_made_0 := ok__law_made (k := k) T C_Before C_Equals C_Every C_First C_Has C_Item C_Kind C_Size C_Some V___and__ V___invert__ V___or__ n
    exact (step__law_made T (k := k + 2 * n + 0) (C_Before.lift (by omega)) (C_Equals.lift (by omega)) (C_Every.lift (by omega)) (C_First.lift (by omega)) (C_Has.lift (by omega)) (C_Item.lift (by omega)) (C_Kind.lift (by omega)) (C_Size.lift (by omega)) (C_Some.lift (by omega)) (fun τ C h => (V___and__ τ C h).lift (by omega)) (fun τ C h => (V___invert__ τ C h).lift (by omega)) (fun τ C h => (V___or__ τ C h).lift (by omega)) (C__law_made_0.lift (by omega))).lift (by omega)

/-! ### _law_leaves -/
abbrev N__law_leaves : List Str := ["_law_ask_here"]
theorem sc__law_leaves : FnScope N__law_leaves ["_law_ask_here"] (defScope s__law_leaves) := ⟨rfl, rfl, rfl, by decide +kernel, rfl, by decide +kernel, by decide +kernel⟩
theorem flat_lenN {α β : Type} {f : α → List β} {n : Nat} (h : ∀ x, (f x).length ≤ n) : ∀ xs : List α, (xs.flatMap f).length ≤ n * xs.length
  | [] => by simp
  | x :: xs => by
    have := h x
    have := flat_lenN h xs
    rw [List.flatMap_cons, List.length_append, List.length_cons, Nat.mul_add]; omega
theorem ownK_len (c : Cnd) : (ownK c).length ≤ 2 := by cases c <;> simp [ownK]
theorem ownL_len (c : Cnd) : (ownL c).length ≤ 1 := by cases c <;> simp [ownL]
def sp_lleaves (n : Nat) : TSp := fun xs S Q X => ∃ c : Cnd, xs = [askT c] ∧ cdep c ≤ n ∧ csz c ≤ 1000 ∧ Q (.lst ((leavesC c).map askT)) S
theorem step__law_leaves (T : Top K mg A) {k n : Nat}  (C__law_leaves : CalleeT P w K mg base k "_law_leaves" ["_law_ask_here"] (sp_lleaves n)) : CalleeT P w K mg base (k + 1) "_law_leaves" ["_law_ask_here"] (sp_lleaves (n + 1)) := by
  have nd := sc__law_leaves.nd
  refine Def.okT T.d__law_leaves sc__law_leaves (fun _ _ _ _ _ _ us hl => match us, hl with | [_], _ => rfl) (fun xs S Q X h => ?_) ?_ (fun f cdv AA outer s H E hr tk po => have hu := hu_of hr; (ss_cons (s_if (t_cmp (in_op hr) o_in (e_ix (ix_op hr) o_ix (e_var 0) e_int (fun _ _ => rfl)) (e_tup (a_cons e_str (a_cons e_str a_nil))) (by with_unfolding_all rfl)) (ss_one (s_ret (e_op ad_op o_add (e_call C__law_leaves (hr.mono (by omega)) (by rfl) tk (a_cons (e_ix (ix_op hr) o_ix (e_var 0) e_int (fun _ _ => rfl)) a_nil)) (e_call C__law_leaves (hr.mono (by omega)) (by rfl) tk (a_cons (e_ix (ix_op hr) o_ix (e_var 0) e_int (fun _ _ => rfl)) a_nil))))) ss_nil)
      (ss_one (s_ret (e_ifExp (t_cmp (eq_op hr) o_eq (e_ix (ix_op hr) o_ix (e_var 0) e_int (fun _ _ => rfl)) e_str (nomark _)) (e_call C__law_leaves (hr.mono (by omega)) (by rfl) tk (a_cons (e_ix (ix_op hr) o_ix (e_var 0) e_int (fun _ _ => rfl)) a_nil)) (e_lst (a_cons (e_var 0) a_nil))))))) ?_
  · obtain ⟨c, rfl, dp, sz, hq⟩ := h
    rfl
  · walk_at "mono"
  · intro xs S Q X cQ cX h
    obtain ⟨c, rfl, dp, sz, hq⟩ := h
    simp only [KQ.startT, List.map_cons, List.map_nil, List.length_cons, List.length_nil, Nat.reduceAdd, Nat.reduceSub, List.replicate_succ, List.replicate_zero, List.cons_append, List.nil_append]
    cases c with
    | both c d =>
      simp only [leavesC, List.map_append] at hq
      simp only [askT]
      simp only [cdep] at dp
      simp only [csz] at sz
      have l1 := leaves_len c
      have l2 := leaves_len d
      walk_at "vl"
      refine ⟨c, rfl, by omega, by omega, ?_⟩
      walk_at "vl"
      refine ⟨d, rfl, by omega, by omega, ?_⟩
      walk_at "vl"
      all_goals exact Nat.le_of_lt (szn (by omega))
    | either c d =>
      simp only [leavesC, List.map_append] at hq
      simp only [askT]
      simp only [cdep] at dp
      simp only [csz] at sz
      have l1 := leaves_len c
      have l2 := leaves_len d
      walk_at "vl"
      refine ⟨c, rfl, by omega, by omega, ?_⟩
      walk_at "vl"
      refine ⟨d, rfl, by omega, by omega, ?_⟩
      walk_at "vl"
      all_goals exact Nat.le_of_lt (szn (by omega))
    | inv c =>
      simp only [leavesC] at hq
      simp only [askT]
      simp only [cdep] at dp
      simp only [csz] at sz
      walk_at "vl"
      exact ⟨c, rfl, by omega, by omega, hq⟩
    | _ =>
      simp only [leavesC, List.map_cons, List.map_nil, askT] at hq
      simp only [askT]
      walk_at "vl"
      all_goals exact hq
theorem ok__law_leaves (T : Top K mg A) {k : Nat}  : ∀ n, CalleeT P w K mg base (k + 1 * n) "_law_leaves" ["_law_ask_here"] (sp_lleaves n)
  | 0 => Def.botT (N := N__law_leaves) T.d__law_leaves (fun _ _ _ _ _ _ us hl => match us, hl with | [_], _ => rfl) (fun xs S Q X h => by
      obtain ⟨c, _, h, _⟩ := h
      have := cdep_pos c
      omega)
  | n + 1 => by
    have C__law_leaves_0 := ok__law_leaves (k := k) T  n
    exact (step__law_leaves T (k := k + 1 * n + 0) (C__law_leaves_0.lift (by omega))).lift (by omega)

/-! ### _law_mentions -/
abbrev N__law_mentions : List Str := ["_law_ask_here", "_law_keys_here", "_law_names", "_law_leaf", "_law_word", "_law_key", "_law_name"]
theorem sc__law_mentions : FnScope N__law_mentions ["_law_ask_here"] (defScope s__law_mentions) := ⟨rfl, rfl, rfl, by decide +kernel, rfl, by decide +kernel, by decide +kernel⟩
def sp_ment (a : CA) : TSp := fun xs S Q X => ∃ c : Cnd, xs = [askT c] ∧ COk a c ∧ cdep c ≤ 16 ∧ csz c ≤ 100 ∧ Q (.tup [.lst ((keyL c).map kT), .lst ((labL c).map .str)]) S
def wordT : Cnd → Tr
  | .kind _ => .str "kind"
  | .equals _ => .str "equals"
  | .size _ => .str "size"
  | .has _ => .str "has"
  | .item _ _ => .str "item"
  | .before _ _ => .str "before"
  | .first _ => .str "first"
  | .every _ => .str "every"
  | .some _ => .str "some"
  | .both _ _ => .str "and"
  | .either _ _ => .str "or"
  | .inv _ => .str "not"
theorem lab_in {l : Str} {ls : List Str} : inV (V.str l) ((ls.map (Sum.inr : Str → Key)).map kV) = decide (l ∈ ls) := by
  rw [show inV (V.str l) ((ls.map (Sum.inr : Str → Key)).map kV) = hasK (.inr l) (ls.map Sum.inr) from kV_in (.inr l) _]
  by_cases h : l ∈ ls
  · rw [decide_eq_true h]
    exact hasK_iff.mpr (List.mem_map.mpr ⟨l, h, rfl⟩)
  · rw [decide_eq_false h, ← Bool.not_eq_true]
    intro z
    obtain ⟨m, hm, e⟩ := List.mem_map.mp (hasK_iff.mp z)
    cases e
    exact h hm
theorem nubS_one {ls : List Str} {l : Str} (h : l ∈ ls) : nub ls [l] = ls := by rw [nub, if_pos h, nub]
theorem nubS_two {ls : List Str} {l : Str} (h : l ∉ ls) : nub ls [l] = ls ++ [l] := by rw [nub, if_neg h, nub]
theorem nub_one {ks : List Key} {k : Key} (h : hasK k ks = true) : nub ks [k] = ks := by rw [nub, if_pos (hasK_iff.mp h), nub]
theorem nub_two {ks : List Key} {k : Key} (h : hasK k ks = false) : nub ks [k] = ks ++ [k] := by rw [nub, if_neg (fun z => by rw [hasK_iff.mpr z] at h; cases h), nub]
theorem ok__law_mentions (T : Top K mg A) {k : Nat} (C__law_leaves : CalleeT P w K mg base k "_law_leaves" ["_law_ask_here"] (sp_lleaves 16))  : CalleeT P w K mg base (k + 1) "_law_mentions" ["_law_ask_here"] (sp_ment (caA A)) := by
  have nd := sc__law_mentions.nd
  refine Def.okT T.d__law_mentions sc__law_mentions (fun _ _ _ _ _ _ us hl => match us, hl with | [_], _ => rfl) (fun xs S Q X h => ?_) ?_ (fun f cdv AA outer s H E hr tk po => have hu := hu_of hr; (ss_cons (s_par (i := 1) (j := 2) rfl nd rfl rfl (by decide) rfl rfl (a_cons (e_lstC a_nil) (a_cons (e_lstC a_nil) a_nil)) (fun h => ps_par (by rfl) nd rfl rfl (by decide) rfl rfl h (by rfl)))
      (ss_cons (s_for (.nm 3) po rfl (i_seq (e_call C__law_leaves (hr.mono (by omega)) (by rfl) tk (a_cons (e_var 0) a_nil))) (pg_name (i := 3) nd rfl (Or.inl rfl)) (ss_cons (s_set (i := 4) nd rfl (Or.inl rfl) (e_ix (ix_op hr) o_ix (e_var 3) e_int (fun _ _ => rfl)))
      (ss_cut (s_for (.nm 5) po rfl (i_seq (e_ifExp (t_cmp (eq_op hr) o_eq (e_var 4) e_str (nomark _)) (e_callTy (list3 rfl) c_list3 (by rfl) T.b.b_list boot_list (a_cons (e_slice (e_var 3) (o_some e_int) o_none) a_nil)) (e_ifExp (t_cmp (in_op hr) o_in (e_var 4) (e_tup (a_cons e_str (a_cons e_str a_nil))) (by with_unfolding_all rfl)) (e_lst (a_cons (e_ix (ix_op hr) o_ix (e_var 3) e_int (fun _ _ => rfl)) a_nil)) (e_lst a_nil)))) (pg_name (i := 5) nd rfl (Or.inl rfl)) (ss_one (s_if (t_cmp (notin_op hr) o_in (e_var 5) (e_var 1) (by with_unfolding_all rfl)) (ss_one (s_expr (e_mm m_append (e_var 1) (a_cons (e_var 5) a_nil) (fun ho ha => pe_bm PySem.F.plainAttrs_list PySem.F.slot_list_append PySem.F.type_list_append mt_append ho ha)))) ss_nil)))
      (ss_one (s_for (.nm 6) po rfl (i_seq (e_ifExp (t_cmp (in_op hr) o_in (e_var 4) (e_tup (a_cons e_str (a_cons e_str (a_cons e_str (a_cons e_str a_nil))))) (by with_unfolding_all rfl)) (e_lst (a_cons (e_ix (ix_op hr) o_ix (e_var 3) (e_un un_neg u_neg e_int) (fun _ _ => rfl)) a_nil)) (e_lst a_nil))) (pg_name (i := 6) nd rfl (Or.inl rfl)) (ss_one (s_if (t_cmp (notin_op hr) o_in (e_var 6) (e_var 2) (by with_unfolding_all rfl)) (ss_one (s_expr (e_mm m_append (e_var 2) (a_cons (e_var 6) a_nil) (fun ho ha => pe_bm PySem.F.plainAttrs_list PySem.F.slot_list_append PySem.F.type_list_append mt_append ho ha)))) ss_nil)))))))
      (ss_frz (i := 2) (ss_frz (i := 1) (ss_one (s_ret (e_tup (a_cons (e_var 1) (a_cons (e_var 2) a_nil)))))))))) ?_
  · obtain ⟨c, rfl, ok, dp, sz, hq⟩ := h
    rfl
  · walk_at "mono"
  · intro xs S Q X cQ cX h
    obtain ⟨c, rfl, ok, dp, sz, hq⟩ := h
    simp only [KQ.startT, List.map_cons, List.map_nil, List.length_cons, List.length_nil, Nat.reduceAdd, Nat.reduceSub, List.replicate_succ, List.replicate_zero, List.cons_append, List.nil_append]
    replace hq := Hide.mk hq
    walk_at "vl"
    intro p hp q hq'
    have nqp : q ≠ p := ne_cell put_same hq'
    have npq : p ≠ q := nqp.symm
    have lo := leaves_ok ok
    have ll := leaves_len c
    replace lo := Hide.mk lo
    refine ⟨c, rfl, dp, by omega, ?_⟩
    walk_at "vl"
    refine loop_inv _ (fun i ρ S' => ∃ x3 x4 x5 x6, ρ = [some (askT c), some (.ref p), some (.ref q), x3, x4, x5, x6] ∧ S' = put (put S p (.lst ((nub [] (((leavesC c).take i).flatMap ownK)).map kT))) q (.lst ((nub [] (((leavesC c).take i).flatMap ownL)).map .str))) ?_ ?_ ⟨_, _, _, _, rfl, rfl⟩
    · rintro i x ρ S' N hx ⟨x3, x4, x5, x6, rfl, rfl⟩ hN
      rw [List.getElem?_map] at hx
      obtain ⟨d, hd, rfl⟩ := Option.map_eq_some_iff.mp hx
      have hi := (List.getElem?_eq_some_iff.mp hd).1
      have hm := (lo.go d (List.mem_of_getElem? hd)).2
      clear hx
      have et : (leavesC c).take (i + 1) = (leavesC c).take i ++ [d] := by rw [List.take_add_one, hd]; rfl
      have fK : nub [] (((leavesC c).take (i + 1)).flatMap ownK) = nub (nub [] (((leavesC c).take i).flatMap ownK)) (ownK d) := by rw [et, List.flatMap_append, nub_app]; simp
      have fL : nub [] (((leavesC c).take (i + 1)).flatMap ownL) = nub (nub [] (((leavesC c).take i).flatMap ownL)) (ownL d) := by rw [et, List.flatMap_append, nub_app]; simp
      have lK := flat_lenN ownK_len ((leavesC c).take i)
      have lL := flat_lenN ownL_len ((leavesC c).take i)
      have mK := nub_len [] (((leavesC c).take i).flatMap ownK)
      have mL := nub_len [] (((leavesC c).take i).flatMap ownL)
      rw [List.length_take] at lK lL
      simp only [List.length_nil] at mK mL
      rw [fK, fL] at hN
      generalize nub [] (((leavesC c).take i).flatMap ownK) = ks at *
      generalize nub [] (((leavesC c).take i).flatMap ownL) = ls at *
      have lk : ks.length ≤ 500 := by omega
      have lls : ls.length ≤ 500 := by omega
      clear mK mL lK lL et fK fL ll hd
      replace hN := Hide.mk hN
      walk_at "vl"
      refine ⟨wordT d, by clear hN hq lo; cases d <;> (simp only [askT, wordT]; walk_at "vl"), ?_⟩
      intro P hP
      have key2 : ∀ (ks' : List Key) (x5 : Option Tr), ks'.length ≤ 502 → nub ks (ownK d) = ks' → P [some (askT c), some (.ref p), some (.ref q), some (askT d), some (wordT d), x5, x6] (put (put S p (.lst (ks'.map kT))) q (.lst (ls.map .str))) := fun ks' x5 lk' ek => hP.go _ _ (by
        clear hP
        replace hN := fun S2 h => hN.go S2 h
        subst ek
        have fin : ∀ (ls' : List Str) (x6 : Option Tr), nub ls (ownL d) = ls' → N [some (askT c), some (.ref p), some (.ref q), some (askT d), some (wordT d), x5, x6] (put (put S p (.lst ((nub ks (ownK d)).map kT))) q (.lst (ls'.map .str))) := fun ls' x6 e => hN _ _ ⟨_, _, _, _, rfl, by rw [e]⟩
        clear hN
        have f2 := kT_flats (ls.map Sum.inr)
        rw [inr_kT] at f2
        cases d with
        | both c d => cases hm
        | either c d => cases hm
        | inv c => cases hm
        | item k l =>
          simp only [askT, wordT] at fin ⊢
          replace fin := Hide.mk fin
          walk_at "vl"
          refine ⟨_, rfl, ?_⟩
          walk_at "vc"
          rw [lab_in]
          by_cases hl : l ∈ ls
          · rw [decide_eq_true hl]
            exact fin.go ls _ (nubS_one hl)
          · rw [decide_eq_false hl]
            refine ⟨szn (by omega), ?_⟩
            have := fin.go (ls ++ [l]) (some (.str l)) (nubS_two hl)
            rw [List.map_append] at this
            exact this
        | first l =>
          simp only [askT, wordT] at fin ⊢
          replace fin := Hide.mk fin
          walk_at "vl"
          refine ⟨_, rfl, ?_⟩
          walk_at "vc"
          rw [lab_in]
          by_cases hl : l ∈ ls
          · rw [decide_eq_true hl]
            exact fin.go ls _ (nubS_one hl)
          · rw [decide_eq_false hl]
            refine ⟨szn (by omega), ?_⟩
            have := fin.go (ls ++ [l]) (some (.str l)) (nubS_two hl)
            rw [List.map_append] at this
            exact this
        | every l =>
          simp only [askT, wordT] at fin ⊢
          replace fin := Hide.mk fin
          walk_at "vl"
          refine ⟨_, rfl, ?_⟩
          walk_at "vc"
          rw [lab_in]
          by_cases hl : l ∈ ls
          · rw [decide_eq_true hl]
            exact fin.go ls _ (nubS_one hl)
          · rw [decide_eq_false hl]
            refine ⟨szn (by omega), ?_⟩
            have := fin.go (ls ++ [l]) (some (.str l)) (nubS_two hl)
            rw [List.map_append] at this
            exact this
        | some l =>
          simp only [askT, wordT] at fin ⊢
          replace fin := Hide.mk fin
          walk_at "vl"
          refine ⟨_, rfl, ?_⟩
          walk_at "vc"
          rw [lab_in]
          by_cases hl : l ∈ ls
          · rw [decide_eq_true hl]
            exact fin.go ls _ (nubS_one hl)
          · rw [decide_eq_false hl]
            refine ⟨szn (by omega), ?_⟩
            have := fin.go (ls ++ [l]) (some (.str l)) (nubS_two hl)
            rw [List.map_append] at this
            exact this
        | _ =>
          simp only [askT, wordT] at fin ⊢
          replace fin := Hide.mk fin
          walk_at "vl"
          all_goals exact fin.go ls _ rfl)
      cases d with
      | both c d => cases hm
      | either c d => cases hm
      | inv c => cases hm
      | before k j =>
        simp only [askT, wordT] at key2 ⊢
        replace key2 := Hide.mk key2
        have f1 := kT_flat k
        have f2 := kT_flats ks
        have f3 := kV_in k ks
        have hp2 : ∀ c d, put (put S p c) q d p = some c := fun c d => by rw [put_ne npq]; exact put_same
        have hp3 : ∀ a b c, put (put (put S p a) q b) p c = put (put S p c) q b := fun a b c => put3 nqp a b c
        walk_at "vl"
        rw [show cutT [Tr.str (Str.ofString "before"), kT k, kT j] (some 1) none = [kT k, kT j] from rfl]
        have g1 := kT_flat j
        have g3 := kV_in j ks
        have g4 := kT_flats (ks ++ [k])
        have g5 := kV_in j (ks ++ [k])
        simp only [List.map_append, List.map_cons, List.map_nil] at g4 g5
        have nubKJ : nub ks [k, j] = nub (nub ks [k]) [j] := nub_app ks [k] [j]
        replace nubKJ := Hide.mk nubKJ
        walk_at "vc"
        cases hin : hasK k ks with
        | true =>
          walk_at "vc"
          cases hj : hasK j ks with
          | true =>
            walk_at "vc"
            all_goals exact key2.go ks _ (by omega) (nubKJ.go.trans (by rw [nub_one hin, nub_one hj]))
          | false =>
            walk_at "vc"
            refine ⟨szn (by omega), ?_⟩
            have := key2.go (ks ++ [j]) (some (kT j)) (by rw [List.length_append]; show ks.length + 1 ≤ _; omega) (nubKJ.go.trans (by rw [nub_one hin, nub_two hj]))
            rw [List.map_append] at this
            exact this
        | false =>
          have l1 : (ks ++ [k]).length = ks.length + 1 := by rw [List.length_append]; rfl
          walk_at "vc"
          refine ⟨szn (by omega), ?_⟩
          cases hj : hasK j (ks ++ [k]) with
          | true =>
            walk_at "vc"
            have := key2.go (ks ++ [k]) (some (kT j)) (by omega) (nubKJ.go.trans (by rw [nub_two hin, nub_one hj]))
            rw [List.map_append] at this
            exact this
          | false =>
            walk_at "vc"
            refine ⟨szn (by show ks.length + 1 ≤ _; omega), ?_⟩
            have := key2.go (ks ++ [k] ++ [j]) (some (kT j)) (by rw [List.length_append, l1]; show ks.length + 1 + 1 ≤ _; omega) (nubKJ.go.trans (by rw [nub_two hin, nub_two hj]))
            rw [List.map_append, List.map_append] at this
            exact this
      | has k =>
        simp only [askT, wordT] at key2 ⊢
        replace key2 := Hide.mk key2
        have f1 := kT_flat k
        have f2 := kT_flats ks
        have f3 := kV_in k ks
        have hp2 : ∀ c d, put (put S p c) q d p = some c := fun c d => by rw [put_ne npq]; exact put_same
        have hp3 : ∀ a b c, put (put (put S p a) q b) p c = put (put S p c) q b := fun a b c => put3 nqp a b c
        walk_at "vl"
        walk_at "vc"
        cases hin : hasK k ks with
        | true =>
          walk_at "vl"
          all_goals exact key2.go _ _ (by omega) (nub_one hin)
        | false =>
          walk_at "vl"
          refine ⟨szn (by omega), ?_⟩
          have := key2.go (ks ++ [k]) (some (kT k)) (by rw [List.length_append]; show ks.length + 1 ≤ _; omega) (nub_two hin)
          rw [List.map_append] at this
          exact this
      | item k l =>
        simp only [askT, wordT] at key2 ⊢
        replace key2 := Hide.mk key2
        have f1 := kT_flat k
        have f2 := kT_flats ks
        have f3 := kV_in k ks
        have hp2 : ∀ c d, put (put S p c) q d p = some c := fun c d => by rw [put_ne npq]; exact put_same
        have hp3 : ∀ a b c, put (put (put S p a) q b) p c = put (put S p c) q b := fun a b c => put3 nqp a b c
        walk_at "vl"
        walk_at "vc"
        cases hin : hasK k ks with
        | true =>
          walk_at "vl"
          all_goals exact key2.go _ _ (by omega) (nub_one hin)
        | false =>
          walk_at "vl"
          refine ⟨szn (by omega), ?_⟩
          have := key2.go (ks ++ [k]) (some (kT k)) (by rw [List.length_append]; show ks.length + 1 ≤ _; omega) (nub_two hin)
          rw [List.map_append] at this
          exact this
      | _ =>
        simp only [askT, wordT] at key2 ⊢
        replace key2 := Hide.mk key2
        walk_at "vl"
        all_goals exact key2.go _ _ (by omega) rfl
    · rintro ρ S' ⟨x3, x4, x5, x6, rfl, rfl⟩
      rw [List.length_map, List.take_of_length_le (Nat.le_refl _)]
      walk_at "vl"
      have hn : ∀ c, put S p c q = none := fun c => by rw [put_ne nqp] at hq' ⊢; exact hq'
      exact ⟨_, _, Frz.one put_same (sub_new (hn _)) (hn _), _, _, Frz.one put_same (sub_new hp) hp, hq.go⟩

/-! ### without_repeats -/
abbrev N_without_repeats : List Str := ["names", "found", "name"]
theorem sc_without_repeats : FnScope N_without_repeats ["names"] (defScope s_without_repeats) := ⟨rfl, rfl, rfl, by decide +kernel, rfl, by decide +kernel, by decide +kernel⟩
def sp_nub : TSp := fun xs S Q X => ∃ ks : List Key, xs = [.lst (ks.map kT)] ∧ (∀ k ∈ ks, KOk k) ∧ ks.length ≤ 1000 ∧ ∀ p, S p = none → Q (.ref p) (put S p (.lst ((nub [] ks).map kT)))
theorem ok_without_repeats (T : Top K mg A) {k : Nat}   : CalleeT P w K mg base (k + 1) "without_repeats" ["names"] (sp_nub) := by
  have nd := sc_without_repeats.nd
  refine Def.okT T.d_without_repeats sc_without_repeats (fun _ _ _ _ _ _ us hl => match us, hl with | [_], _ => rfl) (fun xs S Q X h => ?_) ?_ (fun f cdv AA outer s H E hr tk po => have hu := hu_of hr; (ss_cons (s_set (i := 1) nd rfl (Or.inl rfl) (e_lstC a_nil))
      (ss_cons (s_for (.nm 2) po rfl (i_seq (e_var 0)) (pg_name (i := 2) nd rfl (Or.inl rfl)) (ss_one (s_if (t_cmp (notin_op hr) o_in (e_var 2) (e_var 1) (by with_unfolding_all rfl)) (ss_one (s_expr (e_mm m_append (e_var 1) (a_cons (e_var 2) a_nil) (fun ho ha => pe_bm PySem.F.plainAttrs_list PySem.F.slot_list_append PySem.F.type_list_append mt_append ho ha)))) ss_nil)))
      (ss_one (s_ret (e_var 1)))))) ?_
  · obtain ⟨ks, rfl, ok, lk, hq⟩ := h
    rfl
  · walk_at "mono"
  · intro xs S Q X cQ cX h
    obtain ⟨ks, rfl, ok, lk, hq⟩ := h
    simp only [KQ.startT, List.map_cons, List.map_nil, List.length_cons, List.length_nil, Nat.reduceAdd, Nat.reduceSub, List.replicate_succ, List.replicate_zero, List.cons_append, List.nil_append]
    replace hq := Hide.mk hq
    walk_at "vc"
    intro p hp
    refine loop_inv _ (fun i ρ S' => ∃ x, ρ = [some (.lst (ks.map kT)), some (.ref p), x] ∧ S' = put S p (.lst ((nub [] (ks.take i)).map kT))) ?_ ?_ ⟨_, rfl, rfl⟩
    · rintro i x ρ S' N hx ⟨x0, rfl, rfl⟩ hN
      rw [List.getElem?_map] at hx
      obtain ⟨k, hk, rfl⟩ := Option.map_eq_some_iff.mp hx
      have hi := (List.getElem?_eq_some_iff.mp hk).1
      clear hx
      have f1 := kT_flat k
      have f2 := kT_flats (nub [] (ks.take i))
      have f3 := kV_in k (nub [] (ks.take i))
      have ln := nub_len [] (ks.take i)
      have et : ks.take (i + 1) = ks.take i ++ [k] := by rw [List.take_add_one, hk]; rfl
      rw [List.length_take] at ln
      simp only [List.length_nil] at ln
      cases hin : hasK k (nub [] (ks.take i)) with
      | true =>
        have e2 := nub_in (hasK_iff.mp hin)
        walk_at "vc"
        all_goals exact hN _ _ ⟨_, rfl, by rw [et, e2]⟩
      | false =>
        have e2 := nub_out (fun z => by rw [hasK_iff.mpr z] at hin; cases hin)
        walk_at "vc"
        exact ⟨szn (by omega), hN _ _ ⟨_, rfl, by rw [et, e2, List.map_append]; rfl⟩⟩
    · rintro ρ S' ⟨x0, rfl, rfl⟩
      rw [List.length_map, List.take_of_length_le (Nat.le_refl _)]
      walk_at "vc"
      exact hq.go p hp

/-! ### Condition.leaves -/
abbrev N_Condition_leaves : List Str := ["self"]
theorem sc_Condition_leaves : FnScope N_Condition_leaves ["self"] (defScope s_Condition_leaves) := ⟨rfl, rfl, rfl, by decide +kernel, rfl, by decide +kernel, by decide +kernel⟩
def vsp_leaves (a : CA) (n : Nat) (τ : CT) : TSp := fun xs S Q X => ∃ c : Cnd, c.tag = τ ∧ xs = [cT a c] ∧ COk a c ∧ cdep c ≤ n ∧ csz c ≤ 1000 ∧ Q (.lst ((leavesC c).map (cT a))) S
theorem ok_Condition_leaves (T : Top K mg A) {k n : Nat} {C : Addr} {τ : CT} (hD : DefM K C "leaves" "Condition.leaves" s_Condition_leaves []) (cl : Cls K C) (hC : (caA A).adr τ = some C) (hl : isLeaf τ = true)  : MthT P w K mg base (k + 1) C "leaves" ((vsp_leaves (caA A) (n + 1)) τ) := by
  have nd := sc_Condition_leaves.nd
  refine DefM.mth hD cl sc_Condition_leaves (fun _ _ _ _ _ _ us hl => match us, hl with | [_], _ => rfl) (fun xs S Q X h => ?_) ?_ ⟨fun f cdv AA outer s H E hr tk po => have hu := hu_of hr; (ss_one (s_ret (e_lst (a_cons (e_var 0) a_nil))))⟩ ?_
  · obtain ⟨c, ct, rfl, ok, dp, sz, hq⟩ := h
    rfl
  · walk_at "mono"
  · intro xs S Q X cQ cX h
    obtain ⟨c, ct, rfl, ok, dp, sz, hq⟩ := h
    simp only [KQ.startT, List.map_cons, List.map_nil, List.length_cons, List.length_nil, Nat.reduceAdd, Nat.reduceSub, List.replicate_succ, List.replicate_zero, List.cons_append, List.nil_append]
    have : leavesC c = [c] := by subst ct; cases c <;> first | rfl | cases hl
    rw [this] at hq
    walk_at "vc"
    exact hq

/-! ### Both.leaves -/
abbrev N_Both_leaves : List Str := ["self"]
theorem sc_Both_leaves : FnScope N_Both_leaves ["self"] (defScope s_Both_leaves) := ⟨rfl, rfl, rfl, by decide +kernel, rfl, by decide +kernel, by decide +kernel⟩
theorem ok_Both_leaves (T : Top K mg A) {k n : Nat}  (V_leaves : ∀ τ C, (caA A).adr τ = some C → MthT P w K mg base k C "leaves" ((vsp_leaves (caA A) n) τ)) : MthT P w K mg base (k + 1) A.Both "leaves" ((vsp_leaves (caA A) (n + 1)) .both) := by
  have nd := sc_Both_leaves.nd
  refine DefM.mth T.m_Both_leaves T.c_Both.ci.cl sc_Both_leaves (fun _ _ _ _ _ _ us hl => match us, hl with | [_], _ => rfl) (fun xs S Q X h => ?_) ?_ ⟨fun f cdv AA outer s H E hr tk po => have hu := hu_of hr; (ss_one (s_ret (e_op ad_op o_add (e_meth0 (ms := vm (caA A) (vsp_leaves (caA A) n)) (fun C t h => by obtain ⟨τ, e, rfl⟩ := h; exact V_leaves τ C e) (hr.mono (by omega)) tk (e_fldK (K := K) rfl (e_var 0) rfl)) (e_meth0 (ms := vm (caA A) (vsp_leaves (caA A) n)) (fun C t h => by obtain ⟨τ, e, rfl⟩ := h; exact V_leaves τ C e) (hr.mono (by omega)) tk (e_fldK (K := K) rfl (e_var 0) rfl)))))⟩ ?_
  · obtain ⟨c, ct, rfl, ok, dp, sz, hq⟩ := h
    rfl
  · walk_at "mono"
  · intro xs S Q X cQ cX h
    obtain ⟨c, ct, rfl, ok, dp, sz, hq⟩ := h
    have hT := And.intro T.f_Both_left <| And.intro T.f_Both_right <| And.intro T.f_Either_left <| T.f_Either_right
    simp only [KQ.startT, List.map_cons, List.map_nil, List.length_cons, List.length_nil, Nat.reduceAdd, Nat.reduceSub, List.replicate_succ, List.replicate_zero, List.cons_append, List.nil_append]
    cases c with
    | both c d =>
      simp only [leavesC, List.map_append] at hq
      simp only [cdep] at dp
      simp only [csz] at sz
      simp only [cT]
      walk_at "vc"
      refine vm_go ok.2.1 (by decide) ⟨c, rfl, rfl, ok.2.1, by omega, by omega, ?_⟩
      walk_at "vc"
      refine vm_go ok.2.2 (by decide) ⟨d, rfl, rfl, ok.2.2, by omega, by omega, ?_⟩
      walk_at "vc"
      exact Nat.le_of_lt (szn (by rw [leaves_len, leaves_len]; omega))
    | _ => cases ct

/-! ### Either.leaves -/
abbrev N_Either_leaves : List Str := ["self"]
theorem sc_Either_leaves : FnScope N_Either_leaves ["self"] (defScope s_Either_leaves) := ⟨rfl, rfl, rfl, by decide +kernel, rfl, by decide +kernel, by decide +kernel⟩
theorem ok_Either_leaves (T : Top K mg A) {k n : Nat}  (V_leaves : ∀ τ C, (caA A).adr τ = some C → MthT P w K mg base k C "leaves" ((vsp_leaves (caA A) n) τ)) : MthT P w K mg base (k + 1) A.Either "leaves" ((vsp_leaves (caA A) (n + 1)) .either) := by
  have nd := sc_Either_leaves.nd
  refine DefM.mth T.m_Either_leaves T.c_Either.ci.cl sc_Either_leaves (fun _ _ _ _ _ _ us hl => match us, hl with | [_], _ => rfl) (fun xs S Q X h => ?_) ?_ ⟨fun f cdv AA outer s H E hr tk po => have hu := hu_of hr; (ss_one (s_ret (e_op ad_op o_add (e_meth0 (ms := vm (caA A) (vsp_leaves (caA A) n)) (fun C t h => by obtain ⟨τ, e, rfl⟩ := h; exact V_leaves τ C e) (hr.mono (by omega)) tk (e_fldK (K := K) rfl (e_var 0) rfl)) (e_meth0 (ms := vm (caA A) (vsp_leaves (caA A) n)) (fun C t h => by obtain ⟨τ, e, rfl⟩ := h; exact V_leaves τ C e) (hr.mono (by omega)) tk (e_fldK (K := K) rfl (e_var 0) rfl)))))⟩ ?_
  · obtain ⟨c, ct, rfl, ok, dp, sz, hq⟩ := h
    rfl
  · walk_at "mono"
  · intro xs S Q X cQ cX h
    obtain ⟨c, ct, rfl, ok, dp, sz, hq⟩ := h
    have hT := And.intro T.f_Both_left <| And.intro T.f_Both_right <| And.intro T.f_Either_left <| T.f_Either_right
    simp only [KQ.startT, List.map_cons, List.map_nil, List.length_cons, List.length_nil, Nat.reduceAdd, Nat.reduceSub, List.replicate_succ, List.replicate_zero, List.cons_append, List.nil_append]
    cases c with
    | either c d =>
      simp only [leavesC, List.map_append] at hq
      simp only [cdep] at dp
      simp only [csz] at sz
      simp only [cT]
      walk_at "vc"
      refine vm_go ok.2.1 (by decide) ⟨c, rfl, rfl, ok.2.1, by omega, by omega, ?_⟩
      walk_at "vc"
      refine vm_go ok.2.2 (by decide) ⟨d, rfl, rfl, ok.2.2, by omega, by omega, ?_⟩
      walk_at "vc"
      exact Nat.le_of_lt (szn (by rw [leaves_len, leaves_len]; omega))
    | _ => cases ct

/-! ### Inverse.leaves -/
abbrev N_Inverse_leaves : List Str := ["self"]
theorem sc_Inverse_leaves : FnScope N_Inverse_leaves ["self"] (defScope s_Inverse_leaves) := ⟨rfl, rfl, rfl, by decide +kernel, rfl, by decide +kernel, by decide +kernel⟩
theorem ok_Inverse_leaves (T : Top K mg A) {k n : Nat}  (V_leaves : ∀ τ C, (caA A).adr τ = some C → MthT P w K mg base k C "leaves" ((vsp_leaves (caA A) n) τ)) : MthT P w K mg base (k + 1) A.Inverse "leaves" ((vsp_leaves (caA A) (n + 1)) .inv) := by
  have nd := sc_Inverse_leaves.nd
  refine DefM.mth T.m_Inverse_leaves T.c_Inverse.ci.cl sc_Inverse_leaves (fun _ _ _ _ _ _ us hl => match us, hl with | [_], _ => rfl) (fun xs S Q X h => ?_) ?_ ⟨fun f cdv AA outer s H E hr tk po => have hu := hu_of hr; (ss_one (s_ret (e_meth0 (ms := vm (caA A) (vsp_leaves (caA A) n)) (fun C t h => by obtain ⟨τ, e, rfl⟩ := h; exact V_leaves τ C e) (hr.mono (by omega)) tk (e_fldK (K := K) rfl (e_var 0) rfl))))⟩ ?_
  · obtain ⟨c, ct, rfl, ok, dp, sz, hq⟩ := h
    rfl
  · walk_at "mono"
  · intro xs S Q X cQ cX h
    obtain ⟨c, ct, rfl, ok, dp, sz, hq⟩ := h
    have hT :=  T.f_Inverse_inner
    simp only [KQ.startT, List.map_cons, List.map_nil, List.length_cons, List.length_nil, Nat.reduceAdd, Nat.reduceSub, List.replicate_succ, List.replicate_zero, List.cons_append, List.nil_append]
    cases c with
    | inv c =>
      simp only [leavesC] at hq
      simp only [cdep] at dp
      simp only [csz] at sz
      simp only [cT]
      walk_at "vc"
      refine vm_go ok.2 (by decide) ⟨c, rfl, rfl, ok.2, by omega, by omega, hq⟩
    | _ => cases ct

theorem okv_leaves (T : Top K mg A) {k : Nat}  : ∀ n, ∀ τ C, (caA A).adr τ = some C → MthT P w K mg base (k + 1 * n) C "leaves" ((vsp_leaves (caA A) n) τ)
  | 0 => by
    intro τ C h
    cases τ
    · cases (show some A.Kind = some C from h)
      exact DefM.mthBot (ps := ["self"]) T.m_Kind_leaves T.c_Kind.ci.cl (fun _ _ _ _ _ _ us hl => match us, hl with | [_], _ => rfl) (fun xs S Q X h => by
        obtain ⟨c, _, _, _, h, _⟩ := h
        have := cdep_pos c
        omega)
    · cases (show some A.Equals = some C from h)
      exact DefM.mthBot (ps := ["self"]) T.m_Equals_leaves T.c_Equals.ci.cl (fun _ _ _ _ _ _ us hl => match us, hl with | [_], _ => rfl) (fun xs S Q X h => by
        obtain ⟨c, _, _, _, h, _⟩ := h
        have := cdep_pos c
        omega)
    · cases (show some A.Size = some C from h)
      exact DefM.mthBot (ps := ["self"]) T.m_Size_leaves T.c_Size.ci.cl (fun _ _ _ _ _ _ us hl => match us, hl with | [_], _ => rfl) (fun xs S Q X h => by
        obtain ⟨c, _, _, _, h, _⟩ := h
        have := cdep_pos c
        omega)
    · cases (show some A.Has = some C from h)
      exact DefM.mthBot (ps := ["self"]) T.m_Has_leaves T.c_Has.ci.cl (fun _ _ _ _ _ _ us hl => match us, hl with | [_], _ => rfl) (fun xs S Q X h => by
        obtain ⟨c, _, _, _, h, _⟩ := h
        have := cdep_pos c
        omega)
    · cases (show some A.Item = some C from h)
      exact DefM.mthBot (ps := ["self"]) T.m_Item_leaves T.c_Item.ci.cl (fun _ _ _ _ _ _ us hl => match us, hl with | [_], _ => rfl) (fun xs S Q X h => by
        obtain ⟨c, _, _, _, h, _⟩ := h
        have := cdep_pos c
        omega)
    · cases (show some A.Before = some C from h)
      exact DefM.mthBot (ps := ["self"]) T.m_Before_leaves T.c_Before.ci.cl (fun _ _ _ _ _ _ us hl => match us, hl with | [_], _ => rfl) (fun xs S Q X h => by
        obtain ⟨c, _, _, _, h, _⟩ := h
        have := cdep_pos c
        omega)
    · cases (show some A.First = some C from h)
      exact DefM.mthBot (ps := ["self"]) T.m_First_leaves T.c_First.ci.cl (fun _ _ _ _ _ _ us hl => match us, hl with | [_], _ => rfl) (fun xs S Q X h => by
        obtain ⟨c, _, _, _, h, _⟩ := h
        have := cdep_pos c
        omega)
    · cases (show some A.Every = some C from h)
      exact DefM.mthBot (ps := ["self"]) T.m_Every_leaves T.c_Every.ci.cl (fun _ _ _ _ _ _ us hl => match us, hl with | [_], _ => rfl) (fun xs S Q X h => by
        obtain ⟨c, _, _, _, h, _⟩ := h
        have := cdep_pos c
        omega)
    · cases (show some A.Some = some C from h)
      exact DefM.mthBot (ps := ["self"]) T.m_Some_leaves T.c_Some.ci.cl (fun _ _ _ _ _ _ us hl => match us, hl with | [_], _ => rfl) (fun xs S Q X h => by
        obtain ⟨c, _, _, _, h, _⟩ := h
        have := cdep_pos c
        omega)
    · cases (show some A.Both = some C from h)
      exact DefM.mthBot (ps := ["self"]) T.m_Both_leaves T.c_Both.ci.cl (fun _ _ _ _ _ _ us hl => match us, hl with | [_], _ => rfl) (fun xs S Q X h => by
        obtain ⟨c, _, _, _, h, _⟩ := h
        have := cdep_pos c
        omega)
    · cases (show some A.Either = some C from h)
      exact DefM.mthBot (ps := ["self"]) T.m_Either_leaves T.c_Either.ci.cl (fun _ _ _ _ _ _ us hl => match us, hl with | [_], _ => rfl) (fun xs S Q X h => by
        obtain ⟨c, _, _, _, h, _⟩ := h
        have := cdep_pos c
        omega)
    · cases (show some A.Inverse = some C from h)
      exact DefM.mthBot (ps := ["self"]) T.m_Inverse_leaves T.c_Inverse.ci.cl (fun _ _ _ _ _ _ us hl => match us, hl with | [_], _ => rfl) (fun xs S Q X h => by
        obtain ⟨c, _, _, _, h, _⟩ := h
        have := cdep_pos c
        omega)
  | n + 1 => by
    have V_leaves_0 := okv_leaves (k := k) T  n
    intro τ C h
    cases τ
    · cases (show some A.Kind = some C from h)
      exact (ok_Condition_leaves (P := P) (w := w) (base := base) T (k := k + 1 * n + 0) (n := n) (hD := T.m_Kind_leaves) (cl := T.c_Kind.ci.cl) (hC := rfl) (hl := rfl) ).lift (by omega)
    · cases (show some A.Equals = some C from h)
      exact (ok_Condition_leaves (P := P) (w := w) (base := base) T (k := k + 1 * n + 0) (n := n) (hD := T.m_Equals_leaves) (cl := T.c_Equals.ci.cl) (hC := rfl) (hl := rfl) ).lift (by omega)
    · cases (show some A.Size = some C from h)
      exact (ok_Condition_leaves (P := P) (w := w) (base := base) T (k := k + 1 * n + 0) (n := n) (hD := T.m_Size_leaves) (cl := T.c_Size.ci.cl) (hC := rfl) (hl := rfl) ).lift (by omega)
    · cases (show some A.Has = some C from h)
      exact (ok_Condition_leaves (P := P) (w := w) (base := base) T (k := k + 1 * n + 0) (n := n) (hD := T.m_Has_leaves) (cl := T.c_Has.ci.cl) (hC := rfl) (hl := rfl) ).lift (by omega)
    · cases (show some A.Item = some C from h)
      exact (ok_Condition_leaves (P := P) (w := w) (base := base) T (k := k + 1 * n + 0) (n := n) (hD := T.m_Item_leaves) (cl := T.c_Item.ci.cl) (hC := rfl) (hl := rfl) ).lift (by omega)
    · cases (show some A.Before = some C from h)
      exact (ok_Condition_leaves (P := P) (w := w) (base := base) T (k := k + 1 * n + 0) (n := n) (hD := T.m_Before_leaves) (cl := T.c_Before.ci.cl) (hC := rfl) (hl := rfl) ).lift (by omega)
    · cases (show some A.First = some C from h)
      exact (ok_Condition_leaves (P := P) (w := w) (base := base) T (k := k + 1 * n + 0) (n := n) (hD := T.m_First_leaves) (cl := T.c_First.ci.cl) (hC := rfl) (hl := rfl) ).lift (by omega)
    · cases (show some A.Every = some C from h)
      exact (ok_Condition_leaves (P := P) (w := w) (base := base) T (k := k + 1 * n + 0) (n := n) (hD := T.m_Every_leaves) (cl := T.c_Every.ci.cl) (hC := rfl) (hl := rfl) ).lift (by omega)
    · cases (show some A.Some = some C from h)
      exact (ok_Condition_leaves (P := P) (w := w) (base := base) T (k := k + 1 * n + 0) (n := n) (hD := T.m_Some_leaves) (cl := T.c_Some.ci.cl) (hC := rfl) (hl := rfl) ).lift (by omega)
    · cases (show some A.Both = some C from h)
      exact (ok_Both_leaves (P := P) (w := w) (base := base) T (k := k + 1 * n + 0) (n := n)  (fun τ C h => (V_leaves_0 τ C h).lift (by omega))).lift (by omega)
    · cases (show some A.Either = some C from h)
      exact (ok_Either_leaves (P := P) (w := w) (base := base) T (k := k + 1 * n + 0) (n := n)  (fun τ C h => (V_leaves_0 τ C h).lift (by omega))).lift (by omega)
    · cases (show some A.Inverse = some C from h)
      exact (ok_Inverse_leaves (P := P) (w := w) (base := base) T (k := k + 1 * n + 0) (n := n)  (fun τ C h => (V_leaves_0 τ C h).lift (by omega))).lift (by omega)

/-! ### Condition.own_keys -/
abbrev N_Condition_own_keys : List Str := ["self"]
theorem sc_Condition_own_keys : FnScope N_Condition_own_keys ["self"] (defScope s_Condition_own_keys) := ⟨rfl, rfl, rfl, by decide +kernel, rfl, by decide +kernel, by decide +kernel⟩
def vsp_ownk (a : CA) (τ : CT) : TSp := fun xs S Q X => ∃ c : Cnd, c.tag = τ ∧ xs = [cT a c] ∧ COk a c ∧ Q (.lst ((ownK c).map kT)) S
def noKey : CT → Bool
  | .has => false
  | .item => false
  | .before => false
  | _ => true
theorem ok_Condition_own_keys (T : Top K mg A) {k : Nat} {C : Addr} {τ : CT} (hD : DefM K C "own_keys" "Condition.own_keys" s_Condition_own_keys []) (cl : Cls K C) (hC : (caA A).adr τ = some C) (hl : noKey τ = true)  : MthT P w K mg base (k + 1) C "own_keys" ((vsp_ownk (caA A)) τ) := by
  have nd := sc_Condition_own_keys.nd
  refine DefM.mth hD cl sc_Condition_own_keys (fun _ _ _ _ _ _ us hl => match us, hl with | [_], _ => rfl) (fun xs S Q X h => ?_) ?_ ⟨fun f cdv AA outer s H E hr tk po => have hu := hu_of hr; (ss_one (s_ret (e_lst a_nil)))⟩ ?_
  · obtain ⟨c, ct, rfl, ok, hq⟩ := h
    rfl
  · walk_at "mono"
  · intro xs S Q X cQ cX h
    obtain ⟨c, ct, rfl, ok, hq⟩ := h
    simp only [KQ.startT, List.map_cons, List.map_nil, List.length_cons, List.length_nil, Nat.reduceAdd, Nat.reduceSub, List.replicate_succ, List.replicate_zero, List.cons_append, List.nil_append]
    have : ownK c = [] := by subst ct; cases c <;> first | rfl | cases hl
    rw [this] at hq
    walk_at "vc"
    all_goals exact hq

/-! ### Has.own_keys -/
abbrev N_Has_own_keys : List Str := ["self"]
theorem sc_Has_own_keys : FnScope N_Has_own_keys ["self"] (defScope s_Has_own_keys) := ⟨rfl, rfl, rfl, by decide +kernel, rfl, by decide +kernel, by decide +kernel⟩
theorem ok_Has_own_keys (T : Top K mg A) {k : Nat}  : MthT P w K mg base (k + 1) A.Has "own_keys" ((vsp_ownk (caA A)) .has) := by
  have nd := sc_Has_own_keys.nd
  refine DefM.mth T.m_Has_own_keys T.c_Has.ci.cl sc_Has_own_keys (fun _ _ _ _ _ _ us hl => match us, hl with | [_], _ => rfl) (fun xs S Q X h => ?_) ?_ ⟨fun f cdv AA outer s H E hr tk po => have hu := hu_of hr; (ss_one (s_ret (e_lst (a_cons (e_fldK (K := K) rfl (e_var 0) rfl) a_nil))))⟩ ?_
  · obtain ⟨c, ct, rfl, ok, hq⟩ := h
    rfl
  · walk_at "mono"
  · intro xs S Q X cQ cX h
    obtain ⟨c, ct, rfl, ok, hq⟩ := h
    have hT := And.intro T.f_Has_key <| T.f_Item_key
    simp only [KQ.startT, List.map_cons, List.map_nil, List.length_cons, List.length_nil, Nat.reduceAdd, Nat.reduceSub, List.replicate_succ, List.replicate_zero, List.cons_append, List.nil_append]
    cases c with
    | has k =>
      simp only [ownK, List.map_cons, List.map_nil] at hq
      simp only [cT]
      walk_at "vc"
      all_goals exact hq
    | _ => cases ct

/-! ### Item.own_keys -/
abbrev N_Item_own_keys : List Str := ["self"]
theorem sc_Item_own_keys : FnScope N_Item_own_keys ["self"] (defScope s_Item_own_keys) := ⟨rfl, rfl, rfl, by decide +kernel, rfl, by decide +kernel, by decide +kernel⟩
theorem ok_Item_own_keys (T : Top K mg A) {k : Nat}  : MthT P w K mg base (k + 1) A.Item "own_keys" ((vsp_ownk (caA A)) .item) := by
  have nd := sc_Item_own_keys.nd
  refine DefM.mth T.m_Item_own_keys T.c_Item.ci.cl sc_Item_own_keys (fun _ _ _ _ _ _ us hl => match us, hl with | [_], _ => rfl) (fun xs S Q X h => ?_) ?_ ⟨fun f cdv AA outer s H E hr tk po => have hu := hu_of hr; (ss_one (s_ret (e_lst (a_cons (e_fldK (K := K) rfl (e_var 0) rfl) a_nil))))⟩ ?_
  · obtain ⟨c, ct, rfl, ok, hq⟩ := h
    rfl
  · walk_at "mono"
  · intro xs S Q X cQ cX h
    obtain ⟨c, ct, rfl, ok, hq⟩ := h
    have hT := And.intro T.f_Has_key <| T.f_Item_key
    simp only [KQ.startT, List.map_cons, List.map_nil, List.length_cons, List.length_nil, Nat.reduceAdd, Nat.reduceSub, List.replicate_succ, List.replicate_zero, List.cons_append, List.nil_append]
    cases c with
    | item k l =>
      simp only [ownK, List.map_cons, List.map_nil] at hq
      simp only [cT]
      walk_at "vc"
      all_goals exact hq
    | _ => cases ct

/-! ### Before.own_keys -/
abbrev N_Before_own_keys : List Str := ["self"]
theorem sc_Before_own_keys : FnScope N_Before_own_keys ["self"] (defScope s_Before_own_keys) := ⟨rfl, rfl, rfl, by decide +kernel, rfl, by decide +kernel, by decide +kernel⟩
theorem ok_Before_own_keys (T : Top K mg A) {k : Nat}  : MthT P w K mg base (k + 1) A.Before "own_keys" ((vsp_ownk (caA A)) .before) := by
  have nd := sc_Before_own_keys.nd
  refine DefM.mth T.m_Before_own_keys T.c_Before.ci.cl sc_Before_own_keys (fun _ _ _ _ _ _ us hl => match us, hl with | [_], _ => rfl) (fun xs S Q X h => ?_) ?_ ⟨fun f cdv AA outer s H E hr tk po => have hu := hu_of hr; (ss_one (s_ret (e_lst (a_cons (e_fldK (K := K) rfl (e_var 0) rfl) (a_cons (e_fldK (K := K) rfl (e_var 0) rfl) a_nil)))))⟩ ?_
  · obtain ⟨c, ct, rfl, ok, hq⟩ := h
    rfl
  · walk_at "mono"
  · intro xs S Q X cQ cX h
    obtain ⟨c, ct, rfl, ok, hq⟩ := h
    have hT := And.intro T.f_Before_first <| T.f_Before_second
    simp only [KQ.startT, List.map_cons, List.map_nil, List.length_cons, List.length_nil, Nat.reduceAdd, Nat.reduceSub, List.replicate_succ, List.replicate_zero, List.cons_append, List.nil_append]
    cases c with
    | before k l =>
      simp only [ownK, List.map_cons, List.map_nil] at hq
      simp only [cT]
      walk_at "vc"
      all_goals exact hq
    | _ => cases ct

theorem okv_own_keys (T : Top K mg A) {k : Nat}  : ∀ τ C, (caA A).adr τ = some C → MthT P w K mg base (k + 1) C "own_keys" ((vsp_ownk (caA A)) τ) := by
    intro τ C h
    cases τ
    · cases (show some A.Kind = some C from h)
      exact (ok_Condition_own_keys (P := P) (w := w) (base := base) T (k := k + 0) (hD := T.m_Kind_own_keys) (cl := T.c_Kind.ci.cl) (hC := rfl) (hl := rfl) ).lift (by omega)
    · cases (show some A.Equals = some C from h)
      exact (ok_Condition_own_keys (P := P) (w := w) (base := base) T (k := k + 0) (hD := T.m_Equals_own_keys) (cl := T.c_Equals.ci.cl) (hC := rfl) (hl := rfl) ).lift (by omega)
    · cases (show some A.Size = some C from h)
      exact (ok_Condition_own_keys (P := P) (w := w) (base := base) T (k := k + 0) (hD := T.m_Size_own_keys) (cl := T.c_Size.ci.cl) (hC := rfl) (hl := rfl) ).lift (by omega)
    · cases (show some A.Has = some C from h)
      exact (ok_Has_own_keys (P := P) (w := w) (base := base) T (k := k + 0) ).lift (by omega)
    · cases (show some A.Item = some C from h)
      exact (ok_Item_own_keys (P := P) (w := w) (base := base) T (k := k + 0) ).lift (by omega)
    · cases (show some A.Before = some C from h)
      exact (ok_Before_own_keys (P := P) (w := w) (base := base) T (k := k + 0) ).lift (by omega)
    · cases (show some A.First = some C from h)
      exact (ok_Condition_own_keys (P := P) (w := w) (base := base) T (k := k + 0) (hD := T.m_First_own_keys) (cl := T.c_First.ci.cl) (hC := rfl) (hl := rfl) ).lift (by omega)
    · cases (show some A.Every = some C from h)
      exact (ok_Condition_own_keys (P := P) (w := w) (base := base) T (k := k + 0) (hD := T.m_Every_own_keys) (cl := T.c_Every.ci.cl) (hC := rfl) (hl := rfl) ).lift (by omega)
    · cases (show some A.Some = some C from h)
      exact (ok_Condition_own_keys (P := P) (w := w) (base := base) T (k := k + 0) (hD := T.m_Some_own_keys) (cl := T.c_Some.ci.cl) (hC := rfl) (hl := rfl) ).lift (by omega)
    · cases (show some A.Both = some C from h)
      exact (ok_Condition_own_keys (P := P) (w := w) (base := base) T (k := k + 0) (hD := T.m_Both_own_keys) (cl := T.c_Both.ci.cl) (hC := rfl) (hl := rfl) ).lift (by omega)
    · cases (show some A.Either = some C from h)
      exact (ok_Condition_own_keys (P := P) (w := w) (base := base) T (k := k + 0) (hD := T.m_Either_own_keys) (cl := T.c_Either.ci.cl) (hC := rfl) (hl := rfl) ).lift (by omega)
    · cases (show some A.Inverse = some C from h)
      exact (ok_Condition_own_keys (P := P) (w := w) (base := base) T (k := k + 0) (hD := T.m_Inverse_own_keys) (cl := T.c_Inverse.ci.cl) (hC := rfl) (hl := rfl) ).lift (by omega)

/-! ### Condition.key_list -/
abbrev N_Condition_key_list : List Str := ["self", "found", "leaf"]
theorem sc_Condition_key_list : FnScope N_Condition_key_list ["self"] (defScope s_Condition_key_list) := ⟨rfl, rfl, rfl, by decide +kernel, rfl, by decide +kernel, by decide +kernel⟩
def vsp_keyl (a : CA) (τ : CT) : TSp := fun xs S Q X => ∃ c : Cnd, c.tag = τ ∧ xs = [cT a c] ∧ COk a c ∧ cdep c ≤ 16 ∧ csz c ≤ 100 ∧ ∀ p, S p = none → Q (.ref p) (put S p (.lst ((keyL c).map kT)))
theorem ownK_ok {a : CA} {c : Cnd} (h : COk a c) : ∀ k ∈ ownK c, KOk k := by
  intro k hk
  cases c with
  | has j => rw [List.mem_singleton.mp hk]; exact h.2
  | item j m => rw [List.mem_singleton.mp hk]; exact h.2.1
  | before i j =>
    simp only [ownK, List.mem_cons, List.not_mem_nil, or_false] at hk
    rcases hk with rfl | rfl
    · exact h.2.1
    · exact h.2.2
  | _ => cases hk
theorem ok_Condition_key_list (T : Top K mg A) {k : Nat} {C : Addr} {τ : CT} (hD : DefM K C "key_list" "Condition.key_list" s_Condition_key_list []) (cl : Cls K C) (hC : (caA A).adr τ = some C) (hl : anyTag τ = true) (C_without_repeats : CalleeT P w K mg base k "without_repeats" ["names"] (sp_nub)) (V_leaves : ∀ τ C, (caA A).adr τ = some C → MthT P w K mg base k C "leaves" ((vsp_leaves (caA A) 16) τ)) (V_own_keys : ∀ τ C, (caA A).adr τ = some C → MthT P w K mg base k C "own_keys" ((vsp_ownk (caA A)) τ)) : MthT P w K mg base (k + 1) C "key_list" ((vsp_keyl (caA A)) τ) := by
  have nd := sc_Condition_key_list.nd
  refine DefM.mth hD cl sc_Condition_key_list (fun _ _ _ _ _ _ us hl => match us, hl with | [_], _ => rfl) (fun xs S Q X h => ?_) ?_ ⟨fun f cdv AA outer s H E hr tk po => have hu := hu_of hr; (ss_cons (s_set (i := 1) nd rfl (Or.inl rfl) (e_lstC a_nil))
      (ss_cons (s_for (.nm 2) po rfl (i_seq (e_meth0 (ms := vm (caA A) (vsp_leaves (caA A) 16)) (fun C t h => by obtain ⟨τ, e, rfl⟩ := h; exact V_leaves τ C e) (hr.mono (by omega)) tk (e_var 0))) (pg_name (i := 2) nd rfl (Or.inl rfl)) (ss_one (s_expr (e_mm m_extend (e_var 1) (a_cons (e_meth0 (ms := vm (caA A) (vsp_ownk (caA A))) (fun C t h => by obtain ⟨τ, e, rfl⟩ := h; exact V_own_keys τ C e) (hr.mono (by omega)) tk (e_var 2)) a_nil) (fun ho ha => pe_bm PySem.F.plainAttrs_list PySem.F.slot_list_extend PySem.F.type_list_extend mt_extend ho ha)))))
      (ss_frz (i := 1) (ss_one (s_ret (e_call C_without_repeats (hr.mono (by omega)) (by rfl) tk (a_cons (e_var 1) a_nil)))))))⟩ ?_
  · obtain ⟨c, ct, rfl, ok, dp, sz, hq⟩ := h
    rfl
  · walk_at "mono"
  · intro xs S Q X cQ cX h
    obtain ⟨c, ct, rfl, ok, dp, sz, hq⟩ := h
    simp only [KQ.startT, List.map_cons, List.map_nil, List.length_cons, List.length_nil, Nat.reduceAdd, Nat.reduceSub, List.replicate_succ, List.replicate_zero, List.cons_append, List.nil_append]
    replace hq := Hide.mk hq
    walk_at "vc"
    intro p hp
    refine vm_go ok (by decide) ⟨c, rfl, rfl, ok, dp, by omega, ?_⟩
    walk_at "vc"
    have lo := leaves_ok ok
    have ll := leaves_len c
    replace lo := Hide.mk lo
    refine loop_inv _ (fun i ρ S' => ∃ x, ρ = [some (cT (caA A) c), some (.ref p), x] ∧ S' = put S p (.lst ((((leavesC c).take i).flatMap ownK).map kT))) ?_ ?_ ⟨_, rfl, rfl⟩
    · rintro i x ρ S' N hx ⟨x0, rfl, rfl⟩ hN
      rw [List.getElem?_map] at hx
      obtain ⟨d, hd, rfl⟩ := Option.map_eq_some_iff.mp hx
      have hi := (List.getElem?_eq_some_iff.mp hd).1
      have hm := List.mem_of_getElem? hd
      clear hx
      have et : (leavesC c).take (i + 1) = (leavesC c).take i ++ [d] := by rw [List.take_add_one, hd]; rfl
      have lf := flat_lenN ownK_len ((leavesC c).take i)
      have l1 := ownK_len d
      rw [List.length_take] at lf
      walk_at "vc"
      refine vm_go (lo.go d hm).1 (by decide) ⟨d, rfl, rfl, (lo.go d hm).1, ?_⟩
      walk_at "vc"
      exact ⟨Nat.le_of_lt (szn (by omega)), hN _ _ ⟨_, rfl, by rw [et, List.flatMap_append, List.map_append]; simp⟩⟩
    · rintro ρ S' ⟨x0, rfl, rfl⟩
      rw [List.length_map, List.take_of_length_le (Nat.le_refl _)]
      walk_at "vc"
      have lf := flat_lenN ownK_len (leavesC c)
      refine ⟨_, _, Frz.one put_same (sub_new hp) hp, (leavesC c).flatMap ownK, rfl, fun k hk => ?_, by omega, fun q hq' => hq.go q hq'⟩
      obtain ⟨d, hd, hl⟩ := List.mem_flatMap.mp hk
      exact ownK_ok (lo.go d hd).1 k hl

theorem okv_key_list (T : Top K mg A) {k : Nat} (C_without_repeats : CalleeT P w K mg base k "without_repeats" ["names"] (sp_nub)) (V_leaves : ∀ τ C, (caA A).adr τ = some C → MthT P w K mg base k C "leaves" ((vsp_leaves (caA A) 16) τ)) (V_own_keys : ∀ τ C, (caA A).adr τ = some C → MthT P w K mg base k C "own_keys" ((vsp_ownk (caA A)) τ)) : ∀ τ C, (caA A).adr τ = some C → MthT P w K mg base (k + 1) C "key_list" ((vsp_keyl (caA A)) τ) := by
    intro τ C h
    cases τ
    · cases (show some A.Kind = some C from h)
      exact (ok_Condition_key_list (P := P) (w := w) (base := base) T (k := k + 0) (hD := T.m_Kind_key_list) (cl := T.c_Kind.ci.cl) (hC := rfl) (hl := rfl) (C_without_repeats.lift (by omega)) (fun τ C h => (V_leaves τ C h).lift (by omega)) (fun τ C h => (V_own_keys τ C h).lift (by omega))).lift (by omega)
    · cases (show some A.Equals = some C from h)
      exact (ok_Condition_key_list (P := P) (w := w) (base := base) T (k := k + 0) (hD := T.m_Equals_key_list) (cl := T.c_Equals.ci.cl) (hC := rfl) (hl := rfl) (C_without_repeats.lift (by omega)) (fun τ C h => (V_leaves τ C h).lift (by omega)) (fun τ C h => (V_own_keys τ C h).lift (by omega))).lift (by omega)
    · cases (show some A.Size = some C from h)
      exact (ok_Condition_key_list (P := P) (w := w) (base := base) T (k := k + 0) (hD := T.m_Size_key_list) (cl := T.c_Size.ci.cl) (hC := rfl) (hl := rfl) (C_without_repeats.lift (by omega)) (fun τ C h => (V_leaves τ C h).lift (by omega)) (fun τ C h => (V_own_keys τ C h).lift (by omega))).lift (by omega)
    · cases (show some A.Has = some C from h)
      exact (ok_Condition_key_list (P := P) (w := w) (base := base) T (k := k + 0) (hD := T.m_Has_key_list) (cl := T.c_Has.ci.cl) (hC := rfl) (hl := rfl) (C_without_repeats.lift (by omega)) (fun τ C h => (V_leaves τ C h).lift (by omega)) (fun τ C h => (V_own_keys τ C h).lift (by omega))).lift (by omega)
    · cases (show some A.Item = some C from h)
      exact (ok_Condition_key_list (P := P) (w := w) (base := base) T (k := k + 0) (hD := T.m_Item_key_list) (cl := T.c_Item.ci.cl) (hC := rfl) (hl := rfl) (C_without_repeats.lift (by omega)) (fun τ C h => (V_leaves τ C h).lift (by omega)) (fun τ C h => (V_own_keys τ C h).lift (by omega))).lift (by omega)
    · cases (show some A.Before = some C from h)
      exact (ok_Condition_key_list (P := P) (w := w) (base := base) T (k := k + 0) (hD := T.m_Before_key_list) (cl := T.c_Before.ci.cl) (hC := rfl) (hl := rfl) (C_without_repeats.lift (by omega)) (fun τ C h => (V_leaves τ C h).lift (by omega)) (fun τ C h => (V_own_keys τ C h).lift (by omega))).lift (by omega)
    · cases (show some A.First = some C from h)
      exact (ok_Condition_key_list (P := P) (w := w) (base := base) T (k := k + 0) (hD := T.m_First_key_list) (cl := T.c_First.ci.cl) (hC := rfl) (hl := rfl) (C_without_repeats.lift (by omega)) (fun τ C h => (V_leaves τ C h).lift (by omega)) (fun τ C h => (V_own_keys τ C h).lift (by omega))).lift (by omega)
    · cases (show some A.Every = some C from h)
      exact (ok_Condition_key_list (P := P) (w := w) (base := base) T (k := k + 0) (hD := T.m_Every_key_list) (cl := T.c_Every.ci.cl) (hC := rfl) (hl := rfl) (C_without_repeats.lift (by omega)) (fun τ C h => (V_leaves τ C h).lift (by omega)) (fun τ C h => (V_own_keys τ C h).lift (by omega))).lift (by omega)
    · cases (show some A.Some = some C from h)
      exact (ok_Condition_key_list (P := P) (w := w) (base := base) T (k := k + 0) (hD := T.m_Some_key_list) (cl := T.c_Some.ci.cl) (hC := rfl) (hl := rfl) (C_without_repeats.lift (by omega)) (fun τ C h => (V_leaves τ C h).lift (by omega)) (fun τ C h => (V_own_keys τ C h).lift (by omega))).lift (by omega)
    · cases (show some A.Both = some C from h)
      exact (ok_Condition_key_list (P := P) (w := w) (base := base) T (k := k + 0) (hD := T.m_Both_key_list) (cl := T.c_Both.ci.cl) (hC := rfl) (hl := rfl) (C_without_repeats.lift (by omega)) (fun τ C h => (V_leaves τ C h).lift (by omega)) (fun τ C h => (V_own_keys τ C h).lift (by omega))).lift (by omega)
    · cases (show some A.Either = some C from h)
      exact (ok_Condition_key_list (P := P) (w := w) (base := base) T (k := k + 0) (hD := T.m_Either_key_list) (cl := T.c_Either.ci.cl) (hC := rfl) (hl := rfl) (C_without_repeats.lift (by omega)) (fun τ C h => (V_leaves τ C h).lift (by omega)) (fun τ C h => (V_own_keys τ C h).lift (by omega))).lift (by omega)
    · cases (show some A.Inverse = some C from h)
      exact (ok_Condition_key_list (P := P) (w := w) (base := base) T (k := k + 0) (hD := T.m_Inverse_key_list) (cl := T.c_Inverse.ci.cl) (hC := rfl) (hl := rfl) (C_without_repeats.lift (by omega)) (fun τ C h => (V_leaves τ C h).lift (by omega)) (fun τ C h => (V_own_keys τ C h).lift (by omega))).lift (by omega)

/-! ### Condition.own_labels -/
abbrev N_Condition_own_labels : List Str := ["self"]
theorem sc_Condition_own_labels : FnScope N_Condition_own_labels ["self"] (defScope s_Condition_own_labels) := ⟨rfl, rfl, rfl, by decide +kernel, rfl, by decide +kernel, by decide +kernel⟩
def vsp_ownl (a : CA) (τ : CT) : TSp := fun xs S Q X => ∃ c : Cnd, c.tag = τ ∧ xs = [cT a c] ∧ COk a c ∧ Q (.lst ((ownL c).map .str)) S
def noLab : CT → Bool
  | .item => false
  | .first => false
  | .every => false
  | .some => false
  | _ => true
theorem ok_Condition_own_labels (T : Top K mg A) {k : Nat} {C : Addr} {τ : CT} (hD : DefM K C "own_labels" "Condition.own_labels" s_Condition_own_labels []) (cl : Cls K C) (hC : (caA A).adr τ = some C) (hl : noLab τ = true)  : MthT P w K mg base (k + 1) C "own_labels" ((vsp_ownl (caA A)) τ) := by
  have nd := sc_Condition_own_labels.nd
  refine DefM.mth hD cl sc_Condition_own_labels (fun _ _ _ _ _ _ us hl => match us, hl with | [_], _ => rfl) (fun xs S Q X h => ?_) ?_ ⟨fun f cdv AA outer s H E hr tk po => have hu := hu_of hr; (ss_one (s_ret (e_lst a_nil)))⟩ ?_
  · obtain ⟨c, ct, rfl, ok, hq⟩ := h
    rfl
  · walk_at "mono"
  · intro xs S Q X cQ cX h
    obtain ⟨c, ct, rfl, ok, hq⟩ := h
    simp only [KQ.startT, List.map_cons, List.map_nil, List.length_cons, List.length_nil, Nat.reduceAdd, Nat.reduceSub, List.replicate_succ, List.replicate_zero, List.cons_append, List.nil_append]
    have : ownL c = [] := by subst ct; cases c <;> first | rfl | cases hl
    rw [this] at hq
    walk_at "vc"
    all_goals exact hq

/-! ### Item.own_labels -/
abbrev N_Item_own_labels : List Str := ["self"]
theorem sc_Item_own_labels : FnScope N_Item_own_labels ["self"] (defScope s_Item_own_labels) := ⟨rfl, rfl, rfl, by decide +kernel, rfl, by decide +kernel, by decide +kernel⟩
theorem ok_Item_own_labels (T : Top K mg A) {k : Nat}  : MthT P w K mg base (k + 1) A.Item "own_labels" ((vsp_ownl (caA A)) .item) := by
  have nd := sc_Item_own_labels.nd
  refine DefM.mth T.m_Item_own_labels T.c_Item.ci.cl sc_Item_own_labels (fun _ _ _ _ _ _ us hl => match us, hl with | [_], _ => rfl) (fun xs S Q X h => ?_) ?_ ⟨fun f cdv AA outer s H E hr tk po => have hu := hu_of hr; (ss_one (s_ret (e_lst (a_cons (e_fldK (K := K) rfl (e_var 0) rfl) a_nil))))⟩ ?_
  · obtain ⟨c, ct, rfl, ok, hq⟩ := h
    rfl
  · walk_at "mono"
  · intro xs S Q X cQ cX h
    obtain ⟨c, ct, rfl, ok, hq⟩ := h
    have hT := And.intro T.f_Item_label <| And.intro T.f_First_label <| And.intro T.f_Every_label <| T.f_Some_label
    simp only [KQ.startT, List.map_cons, List.map_nil, List.length_cons, List.length_nil, Nat.reduceAdd, Nat.reduceSub, List.replicate_succ, List.replicate_zero, List.cons_append, List.nil_append]
    cases c with
    | item k l => simp only [cT]; simp only [ownL, List.map_cons, List.map_nil] at hq; walk_at "vc"; all_goals exact hq
    | _ => cases ct

/-! ### First.own_labels -/
abbrev N_First_own_labels : List Str := ["self"]
theorem sc_First_own_labels : FnScope N_First_own_labels ["self"] (defScope s_First_own_labels) := ⟨rfl, rfl, rfl, by decide +kernel, rfl, by decide +kernel, by decide +kernel⟩
theorem ok_First_own_labels (T : Top K mg A) {k : Nat}  : MthT P w K mg base (k + 1) A.First "own_labels" ((vsp_ownl (caA A)) .first) := by
  have nd := sc_First_own_labels.nd
  refine DefM.mth T.m_First_own_labels T.c_First.ci.cl sc_First_own_labels (fun _ _ _ _ _ _ us hl => match us, hl with | [_], _ => rfl) (fun xs S Q X h => ?_) ?_ ⟨fun f cdv AA outer s H E hr tk po => have hu := hu_of hr; (ss_one (s_ret (e_lst (a_cons (e_fldK (K := K) rfl (e_var 0) rfl) a_nil))))⟩ ?_
  · obtain ⟨c, ct, rfl, ok, hq⟩ := h
    rfl
  · walk_at "mono"
  · intro xs S Q X cQ cX h
    obtain ⟨c, ct, rfl, ok, hq⟩ := h
    have hT := And.intro T.f_Item_label <| And.intro T.f_First_label <| And.intro T.f_Every_label <| T.f_Some_label
    simp only [KQ.startT, List.map_cons, List.map_nil, List.length_cons, List.length_nil, Nat.reduceAdd, Nat.reduceSub, List.replicate_succ, List.replicate_zero, List.cons_append, List.nil_append]
    cases c with
    | first l => simp only [cT]; simp only [ownL, List.map_cons, List.map_nil] at hq; walk_at "vc"; all_goals exact hq
    | _ => cases ct

/-! ### Every.own_labels -/
abbrev N_Every_own_labels : List Str := ["self"]
theorem sc_Every_own_labels : FnScope N_Every_own_labels ["self"] (defScope s_Every_own_labels) := ⟨rfl, rfl, rfl, by decide +kernel, rfl, by decide +kernel, by decide +kernel⟩
theorem ok_Every_own_labels (T : Top K mg A) {k : Nat}  : MthT P w K mg base (k + 1) A.Every "own_labels" ((vsp_ownl (caA A)) .every) := by
  have nd := sc_Every_own_labels.nd
  refine DefM.mth T.m_Every_own_labels T.c_Every.ci.cl sc_Every_own_labels (fun _ _ _ _ _ _ us hl => match us, hl with | [_], _ => rfl) (fun xs S Q X h => ?_) ?_ ⟨fun f cdv AA outer s H E hr tk po => have hu := hu_of hr; (ss_one (s_ret (e_lst (a_cons (e_fldK (K := K) rfl (e_var 0) rfl) a_nil))))⟩ ?_
  · obtain ⟨c, ct, rfl, ok, hq⟩ := h
    rfl
  · walk_at "mono"
  · intro xs S Q X cQ cX h
    obtain ⟨c, ct, rfl, ok, hq⟩ := h
    have hT := And.intro T.f_Item_label <| And.intro T.f_First_label <| And.intro T.f_Every_label <| T.f_Some_label
    simp only [KQ.startT, List.map_cons, List.map_nil, List.length_cons, List.length_nil, Nat.reduceAdd, Nat.reduceSub, List.replicate_succ, List.replicate_zero, List.cons_append, List.nil_append]
    cases c with
    | every l => simp only [cT]; simp only [ownL, List.map_cons, List.map_nil] at hq; walk_at "vc"; all_goals exact hq
    | _ => cases ct

/-! ### Some.own_labels -/
abbrev N_Some_own_labels : List Str := ["self"]
theorem sc_Some_own_labels : FnScope N_Some_own_labels ["self"] (defScope s_Some_own_labels) := ⟨rfl, rfl, rfl, by decide +kernel, rfl, by decide +kernel, by decide +kernel⟩
theorem ok_Some_own_labels (T : Top K mg A) {k : Nat}  : MthT P w K mg base (k + 1) A.Some "own_labels" ((vsp_ownl (caA A)) .some) := by
  have nd := sc_Some_own_labels.nd
  refine DefM.mth T.m_Some_own_labels T.c_Some.ci.cl sc_Some_own_labels (fun _ _ _ _ _ _ us hl => match us, hl with | [_], _ => rfl) (fun xs S Q X h => ?_) ?_ ⟨fun f cdv AA outer s H E hr tk po => have hu := hu_of hr; (ss_one (s_ret (e_lst (a_cons (e_fldK (K := K) rfl (e_var 0) rfl) a_nil))))⟩ ?_
  · obtain ⟨c, ct, rfl, ok, hq⟩ := h
    rfl
  · walk_at "mono"
  · intro xs S Q X cQ cX h
    obtain ⟨c, ct, rfl, ok, hq⟩ := h
    have hT := And.intro T.f_Item_label <| And.intro T.f_First_label <| And.intro T.f_Every_label <| T.f_Some_label
    simp only [KQ.startT, List.map_cons, List.map_nil, List.length_cons, List.length_nil, Nat.reduceAdd, Nat.reduceSub, List.replicate_succ, List.replicate_zero, List.cons_append, List.nil_append]
    cases c with
    | some l => simp only [cT]; simp only [ownL, List.map_cons, List.map_nil] at hq; walk_at "vc"; all_goals exact hq
    | _ => cases ct

theorem okv_own_labels (T : Top K mg A) {k : Nat}  : ∀ τ C, (caA A).adr τ = some C → MthT P w K mg base (k + 1) C "own_labels" ((vsp_ownl (caA A)) τ) := by
    intro τ C h
    cases τ
    · cases (show some A.Kind = some C from h)
      exact (ok_Condition_own_labels (P := P) (w := w) (base := base) T (k := k + 0) (hD := T.m_Kind_own_labels) (cl := T.c_Kind.ci.cl) (hC := rfl) (hl := rfl) ).lift (by omega)
    · cases (show some A.Equals = some C from h)
      exact (ok_Condition_own_labels (P := P) (w := w) (base := base) T (k := k + 0) (hD := T.m_Equals_own_labels) (cl := T.c_Equals.ci.cl) (hC := rfl) (hl := rfl) ).lift (by omega)
    · cases (show some A.Size = some C from h)
      exact (ok_Condition_own_labels (P := P) (w := w) (base := base) T (k := k + 0) (hD := T.m_Size_own_labels) (cl := T.c_Size.ci.cl) (hC := rfl) (hl := rfl) ).lift (by omega)
    · cases (show some A.Has = some C from h)
      exact (ok_Condition_own_labels (P := P) (w := w) (base := base) T (k := k + 0) (hD := T.m_Has_own_labels) (cl := T.c_Has.ci.cl) (hC := rfl) (hl := rfl) ).lift (by omega)
    · cases (show some A.Item = some C from h)
      exact (ok_Item_own_labels (P := P) (w := w) (base := base) T (k := k + 0) ).lift (by omega)
    · cases (show some A.Before = some C from h)
      exact (ok_Condition_own_labels (P := P) (w := w) (base := base) T (k := k + 0) (hD := T.m_Before_own_labels) (cl := T.c_Before.ci.cl) (hC := rfl) (hl := rfl) ).lift (by omega)
    · cases (show some A.First = some C from h)
      exact (ok_First_own_labels (P := P) (w := w) (base := base) T (k := k + 0) ).lift (by omega)
    · cases (show some A.Every = some C from h)
      exact (ok_Every_own_labels (P := P) (w := w) (base := base) T (k := k + 0) ).lift (by omega)
    · cases (show some A.Some = some C from h)
      exact (ok_Some_own_labels (P := P) (w := w) (base := base) T (k := k + 0) ).lift (by omega)
    · cases (show some A.Both = some C from h)
      exact (ok_Condition_own_labels (P := P) (w := w) (base := base) T (k := k + 0) (hD := T.m_Both_own_labels) (cl := T.c_Both.ci.cl) (hC := rfl) (hl := rfl) ).lift (by omega)
    · cases (show some A.Either = some C from h)
      exact (ok_Condition_own_labels (P := P) (w := w) (base := base) T (k := k + 0) (hD := T.m_Either_own_labels) (cl := T.c_Either.ci.cl) (hC := rfl) (hl := rfl) ).lift (by omega)
    · cases (show some A.Inverse = some C from h)
      exact (ok_Condition_own_labels (P := P) (w := w) (base := base) T (k := k + 0) (hD := T.m_Inverse_own_labels) (cl := T.c_Inverse.ci.cl) (hC := rfl) (hl := rfl) ).lift (by omega)

/-! ### Condition.label_list -/
abbrev N_Condition_label_list : List Str := ["self", "found", "leaf"]
theorem sc_Condition_label_list : FnScope N_Condition_label_list ["self"] (defScope s_Condition_label_list) := ⟨rfl, rfl, rfl, by decide +kernel, rfl, by decide +kernel, by decide +kernel⟩
def vsp_labl (a : CA) (τ : CT) : TSp := fun xs S Q X => ∃ c : Cnd, c.tag = τ ∧ xs = [cT a c] ∧ COk a c ∧ cdep c ≤ 16 ∧ csz c ≤ 100 ∧ ∀ p, S p = none → Q (.ref p) (put S p (.lst ((labL c).map .str)))
theorem nub_inr : ∀ (acc xs : List Str), nub (acc.map Sum.inr) (xs.map Sum.inr) = ((nub acc xs).map Sum.inr : List Key)
  | acc, [] => rfl
  | acc, x :: xs => by
    rw [List.map_cons, nub, nub]
    have : (Sum.inr x : Key) ∈ acc.map Sum.inr ↔ x ∈ acc := by simp
    by_cases h : x ∈ acc
    · rw [if_pos h, if_pos (this.mpr h)]; exact nub_inr acc xs
    · rw [if_neg h, if_neg (fun z => h (this.mp z))]
      have := nub_inr (acc ++ [x]) xs
      rw [List.map_append] at this
      exact this
theorem ownL_ok {a : CA} {c : Cnd} (h : COk a c) : ∀ l ∈ ownL c, LOk l := by
  intro l hl
  cases c with
  | item k m => rw [List.mem_singleton.mp hl]; exact h.2.2
  | first m => rw [List.mem_singleton.mp hl]; exact h.2
  | every m => rw [List.mem_singleton.mp hl]; exact h.2
  | some m => rw [List.mem_singleton.mp hl]; exact h.2
  | _ => cases hl
theorem ok_Condition_label_list (T : Top K mg A) {k : Nat} {C : Addr} {τ : CT} (hD : DefM K C "label_list" "Condition.label_list" s_Condition_label_list []) (cl : Cls K C) (hC : (caA A).adr τ = some C) (hl : anyTag τ = true) (C_without_repeats : CalleeT P w K mg base k "without_repeats" ["names"] (sp_nub)) (V_leaves : ∀ τ C, (caA A).adr τ = some C → MthT P w K mg base k C "leaves" ((vsp_leaves (caA A) 16) τ)) (V_own_labels : ∀ τ C, (caA A).adr τ = some C → MthT P w K mg base k C "own_labels" ((vsp_ownl (caA A)) τ)) : MthT P w K mg base (k + 1) C "label_list" ((vsp_labl (caA A)) τ) := by
  have nd := sc_Condition_label_list.nd
  refine DefM.mth hD cl sc_Condition_label_list (fun _ _ _ _ _ _ us hl => match us, hl with | [_], _ => rfl) (fun xs S Q X h => ?_) ?_ ⟨fun f cdv AA outer s H E hr tk po => have hu := hu_of hr; (ss_cons (s_set (i := 1) nd rfl (Or.inl rfl) (e_lstC a_nil))
      (ss_cons (s_for (.nm 2) po rfl (i_seq (e_meth0 (ms := vm (caA A) (vsp_leaves (caA A) 16)) (fun C t h => by obtain ⟨τ, e, rfl⟩ := h; exact V_leaves τ C e) (hr.mono (by omega)) tk (e_var 0))) (pg_name (i := 2) nd rfl (Or.inl rfl)) (ss_one (s_expr (e_mm m_extend (e_var 1) (a_cons (e_meth0 (ms := vm (caA A) (vsp_ownl (caA A))) (fun C t h => by obtain ⟨τ, e, rfl⟩ := h; exact V_own_labels τ C e) (hr.mono (by omega)) tk (e_var 2)) a_nil) (fun ho ha => pe_bm PySem.F.plainAttrs_list PySem.F.slot_list_extend PySem.F.type_list_extend mt_extend ho ha)))))
      (ss_frz (i := 1) (ss_one (s_ret (e_call C_without_repeats (hr.mono (by omega)) (by rfl) tk (a_cons (e_var 1) a_nil)))))))⟩ ?_
  · obtain ⟨c, ct, rfl, ok, dp, sz, hq⟩ := h
    rfl
  · walk_at "mono"
  · intro xs S Q X cQ cX h
    obtain ⟨c, ct, rfl, ok, dp, sz, hq⟩ := h
    simp only [KQ.startT, List.map_cons, List.map_nil, List.length_cons, List.length_nil, Nat.reduceAdd, Nat.reduceSub, List.replicate_succ, List.replicate_zero, List.cons_append, List.nil_append]
    replace hq := Hide.mk hq
    walk_at "vc"
    intro p hp
    refine vm_go ok (by decide) ⟨c, rfl, rfl, ok, dp, by omega, ?_⟩
    walk_at "vc"
    have lo := leaves_ok ok
    have ll := leaves_len c
    replace lo := Hide.mk lo
    refine loop_inv _ (fun i ρ S' => ∃ x, ρ = [some (cT (caA A) c), some (.ref p), x] ∧ S' = put S p (.lst ((((leavesC c).take i).flatMap ownL).map .str))) ?_ ?_ ⟨_, rfl, rfl⟩
    · rintro i x ρ S' N hx ⟨x0, rfl, rfl⟩ hN
      rw [List.getElem?_map] at hx
      obtain ⟨d, hd, rfl⟩ := Option.map_eq_some_iff.mp hx
      have hi := (List.getElem?_eq_some_iff.mp hd).1
      have hm := List.mem_of_getElem? hd
      clear hx
      have et : (leavesC c).take (i + 1) = (leavesC c).take i ++ [d] := by rw [List.take_add_one, hd]; rfl
      have lf := flat_lenN ownL_len ((leavesC c).take i)
      have l1 := ownL_len d
      rw [List.length_take] at lf
      walk_at "vc"
      refine vm_go (lo.go d hm).1 (by decide) ⟨d, rfl, rfl, (lo.go d hm).1, ?_⟩
      walk_at "vc"
      exact ⟨Nat.le_of_lt (szn (by omega)), hN _ _ ⟨_, rfl, by rw [et, List.flatMap_append, List.map_append]; simp⟩⟩
    · rintro ρ S' ⟨x0, rfl, rfl⟩
      rw [List.length_map, List.take_of_length_le (Nat.le_refl _)]
      walk_at "vc"
      have lf := flat_lenN ownL_len (leavesC c)
      refine ⟨_, _, Frz.one put_same (sub_new hp) hp, ((leavesC c).flatMap ownL).map .inr, by rw [inr_kT], fun k hk => ?_, by rw [List.length_map]; omega, fun q hq' => ?_⟩
      · obtain ⟨l, hl, rfl⟩ := List.mem_map.mp hk
        obtain ⟨d, hd, hl⟩ := List.mem_flatMap.mp hl
        exact ownL_ok (lo.go d hd).1 l hl
      · have := nub_inr [] ((leavesC c).flatMap ownL)
        rw [List.map_nil] at this
        rw [this, inr_kT]
        exact hq.go q hq'

theorem okv_label_list (T : Top K mg A) {k : Nat} (C_without_repeats : CalleeT P w K mg base k "without_repeats" ["names"] (sp_nub)) (V_leaves : ∀ τ C, (caA A).adr τ = some C → MthT P w K mg base k C "leaves" ((vsp_leaves (caA A) 16) τ)) (V_own_labels : ∀ τ C, (caA A).adr τ = some C → MthT P w K mg base k C "own_labels" ((vsp_ownl (caA A)) τ)) : ∀ τ C, (caA A).adr τ = some C → MthT P w K mg base (k + 1) C "label_list" ((vsp_labl (caA A)) τ) := by
    intro τ C h
    cases τ
    · cases (show some A.Kind = some C from h)
      exact (ok_Condition_label_list (P := P) (w := w) (base := base) T (k := k + 0) (hD := T.m_Kind_label_list) (cl := T.c_Kind.ci.cl) (hC := rfl) (hl := rfl) (C_without_repeats.lift (by omega)) (fun τ C h => (V_leaves τ C h).lift (by omega)) (fun τ C h => (V_own_labels τ C h).lift (by omega))).lift (by omega)
    · cases (show some A.Equals = some C from h)
      exact (ok_Condition_label_list (P := P) (w := w) (base := base) T (k := k + 0) (hD := T.m_Equals_label_list) (cl := T.c_Equals.ci.cl) (hC := rfl) (hl := rfl) (C_without_repeats.lift (by omega)) (fun τ C h => (V_leaves τ C h).lift (by omega)) (fun τ C h => (V_own_labels τ C h).lift (by omega))).lift (by omega)
    · cases (show some A.Size = some C from h)
      exact (ok_Condition_label_list (P := P) (w := w) (base := base) T (k := k + 0) (hD := T.m_Size_label_list) (cl := T.c_Size.ci.cl) (hC := rfl) (hl := rfl) (C_without_repeats.lift (by omega)) (fun τ C h => (V_leaves τ C h).lift (by omega)) (fun τ C h => (V_own_labels τ C h).lift (by omega))).lift (by omega)
    · cases (show some A.Has = some C from h)
      exact (ok_Condition_label_list (P := P) (w := w) (base := base) T (k := k + 0) (hD := T.m_Has_label_list) (cl := T.c_Has.ci.cl) (hC := rfl) (hl := rfl) (C_without_repeats.lift (by omega)) (fun τ C h => (V_leaves τ C h).lift (by omega)) (fun τ C h => (V_own_labels τ C h).lift (by omega))).lift (by omega)
    · cases (show some A.Item = some C from h)
      exact (ok_Condition_label_list (P := P) (w := w) (base := base) T (k := k + 0) (hD := T.m_Item_label_list) (cl := T.c_Item.ci.cl) (hC := rfl) (hl := rfl) (C_without_repeats.lift (by omega)) (fun τ C h => (V_leaves τ C h).lift (by omega)) (fun τ C h => (V_own_labels τ C h).lift (by omega))).lift (by omega)
    · cases (show some A.Before = some C from h)
      exact (ok_Condition_label_list (P := P) (w := w) (base := base) T (k := k + 0) (hD := T.m_Before_label_list) (cl := T.c_Before.ci.cl) (hC := rfl) (hl := rfl) (C_without_repeats.lift (by omega)) (fun τ C h => (V_leaves τ C h).lift (by omega)) (fun τ C h => (V_own_labels τ C h).lift (by omega))).lift (by omega)
    · cases (show some A.First = some C from h)
      exact (ok_Condition_label_list (P := P) (w := w) (base := base) T (k := k + 0) (hD := T.m_First_label_list) (cl := T.c_First.ci.cl) (hC := rfl) (hl := rfl) (C_without_repeats.lift (by omega)) (fun τ C h => (V_leaves τ C h).lift (by omega)) (fun τ C h => (V_own_labels τ C h).lift (by omega))).lift (by omega)
    · cases (show some A.Every = some C from h)
      exact (ok_Condition_label_list (P := P) (w := w) (base := base) T (k := k + 0) (hD := T.m_Every_label_list) (cl := T.c_Every.ci.cl) (hC := rfl) (hl := rfl) (C_without_repeats.lift (by omega)) (fun τ C h => (V_leaves τ C h).lift (by omega)) (fun τ C h => (V_own_labels τ C h).lift (by omega))).lift (by omega)
    · cases (show some A.Some = some C from h)
      exact (ok_Condition_label_list (P := P) (w := w) (base := base) T (k := k + 0) (hD := T.m_Some_label_list) (cl := T.c_Some.ci.cl) (hC := rfl) (hl := rfl) (C_without_repeats.lift (by omega)) (fun τ C h => (V_leaves τ C h).lift (by omega)) (fun τ C h => (V_own_labels τ C h).lift (by omega))).lift (by omega)
    · cases (show some A.Both = some C from h)
      exact (ok_Condition_label_list (P := P) (w := w) (base := base) T (k := k + 0) (hD := T.m_Both_label_list) (cl := T.c_Both.ci.cl) (hC := rfl) (hl := rfl) (C_without_repeats.lift (by omega)) (fun τ C h => (V_leaves τ C h).lift (by omega)) (fun τ C h => (V_own_labels τ C h).lift (by omega))).lift (by omega)
    · cases (show some A.Either = some C from h)
      exact (ok_Condition_label_list (P := P) (w := w) (base := base) T (k := k + 0) (hD := T.m_Either_label_list) (cl := T.c_Either.ci.cl) (hC := rfl) (hl := rfl) (C_without_repeats.lift (by omega)) (fun τ C h => (V_leaves τ C h).lift (by omega)) (fun τ C h => (V_own_labels τ C h).lift (by omega))).lift (by omega)
    · cases (show some A.Inverse = some C from h)
      exact (ok_Condition_label_list (P := P) (w := w) (base := base) T (k := k + 0) (hD := T.m_Inverse_label_list) (cl := T.c_Inverse.ci.cl) (hC := rfl) (hl := rfl) (C_without_repeats.lift (by omega)) (fun τ C h => (V_leaves τ C h).lift (by omega)) (fun τ C h => (V_own_labels τ C h).lift (by omega))).lift (by omega)

/-! ### law -/
abbrev N_law : List Str := ["_law_script", "_law_at", "_law_draws_here", "_law_keys_here", "_law_names", "_law_atoms", "_law_ask_here", "_law_other", "_law_made_here", "_law_due", "_law_told", "_law_beside", "_law_one", "_law_two", "_law_turned"]
theorem sc_law : FnScope N_law ["_law_script"] (defScope s_law) := ⟨rfl, rfl, rfl, by decide +kernel, rfl, by decide +kernel, by decide +kernel⟩
def mentT (c : Cnd) : Tr := .tup [.lst ((keyL c).map kT), .lst ((labL c).map .str)]
theorem nub_sub {α : Type} [DecidableEq α] : ∀ {acc xs : List α} {x : α}, x ∈ nub acc xs → x ∈ acc ∨ x ∈ xs
  | acc, [], x, h => .inl h
  | acc, y :: xs, x, h => by
    rw [nub] at h
    split at h
    · rcases nub_sub h with h | h
      · exact .inl h
      · exact .inr (.tail _ h)
    · rcases nub_sub h with h | h
      · rcases List.mem_append.mp h with h | h
        · exact .inl h
        · rw [List.mem_singleton.mp h]; exact .inr (.head _)
      · exact .inr (.tail _ h)
theorem ment_eq {a : CA} {n : Bool} {c : Cnd} (ok : COk a c) : gEqD n (mentT c) (mentT c) (.bl (n ^^ true)) := by
  have hk : ∀ k ∈ keyL c, KOk k := fun k hk => by
    rcases nub_sub hk with h | h
    · cases h
    · obtain ⟨d, hd, hl⟩ := List.mem_flatMap.mp h
      exact ownK_ok (leaves_ok ok d hd).1 k hl
  have hl : ∀ k ∈ (labL c).map (Sum.inr : Str → Key), KOk k := fun k hk => by
    obtain ⟨l, hl, rfl⟩ := List.mem_map.mp hk
    rcases nub_sub hl with h | h
    · cases h
    · obtain ⟨d, hd, hl⟩ := List.mem_flatMap.mp h
      exact ownL_ok (leaves_ok ok d hd).1 l hl
  obtain ⟨ds, e1, h1, h2, _⟩ := kT_toD hk
  obtain ⟨es, e2, g1, g2, _⟩ := kT_toD hl
  rw [kPD_toDs] at e1 e2
  cases e1
  cases e2
  have t : toD (mentT c) = some (.tuple [.list ((keyL c).map kPD), .list (((labL c).map Sum.inr).map kPD)]) := by
    have t1 : toD (.lst ((keyL c).map kT)) = some (.list ((keyL c).map kPD)) := by unfold toD; rw [kPD_toDs]; rfl
    have t2 : toD (.lst ((labL c).map .str)) = some (.list (((labL c).map Sum.inr).map kPD)) := by rw [← inr_kT]; unfold toD; rw [kPD_toDs]; rfl
    unfold mentT toD toDs
    rw [t1]
    unfold toDs
    rw [t2]; rfl
  have s : SeqAt.shaped (.tuple [.list ((keyL c).map kPD), .list (((labL c).map Sum.inr).map kPD)]) = true := by
    show ((PyData.canLayAll0 _ && (PyData.canLayAll0 _ && true)) && decide (max (PyData.depthAll _ + 1) (max (PyData.depthAll _ + 1) 0) + 1 ≤ 64)) = true
    rw [h1, g1, decide_eq_true (by omega)]; rfl
  refine ⟨_, _, t, t, s, s, ?_⟩
  show _ = Tr.bl (n ^^ (PyData.eqvAll _ _ && (PyData.eqvAll _ _ && true)))
  rw [kPD_eqv, kPD_eqv]
  simp
theorem q_uOpD {g : Tr → Tr → Tr → Prop} {ta tb : UE} {ρ : Rho} {S : Sto} {Q : QV} {X : QX} : uOpD g ta tb ρ S Q X = (ta ρ S (fun x S1 => tb ρ S1 (fun y S2 => ∃ z, g (dw S2 x) (dw S2 y) z ∧ Q z S2) X) X) := rfl
theorem fresh2 {S' S : Sto} {q1 q2 : Addr} {c1 c2 : Tr} (s : Sub S' S) (h1 : S q1 = none) (h2 : put S q1 c1 q2 = none) : Sub S' (put (put S q1 c1) q2 c2) ∧ put (put S q1 c1) q2 c2 q1 = some c1 ∧ put (put S q1 c1) q2 c2 q2 = some c2 := by
  have n12 : q2 ≠ q1 := ne_cell put_same h2
  have h2' : S q2 = none := by rw [put_ne n12] at h2; exact h2
  exact ⟨Sub.new (Sub.new s (s.noneAt h1)) (s.noneAt h2'), by rw [put_ne n12.symm]; exact put_same, put_same⟩
theorem dw_two {S : Sto} {q1 q2 : Addr} {xs ys : List Tr} (h1 : S q1 = some (.lst xs)) (h2 : S q2 = some (.lst ys)) : dw S (.tup [.ref q1, .ref q2]) = .tup [.lst xs, .lst ys] := by
  show Tr.tup [vw S (.ref q1), vw S (.ref q2)] = _
  rw [vw_refE, vw_refE, h1, h2]; rfl
theorem mem_nub {α : Type} [DecidableEq α] : ∀ {acc xs : List α} {x : α}, x ∈ acc ∨ x ∈ xs → x ∈ nub acc xs
  | acc, [], x, h => by rcases h with h | h; exact h; cases h
  | acc, y :: xs, x, h => by
    rw [nub]
    split
    · rename_i hy
      refine mem_nub ?_
      rcases h with h | h
      · exact .inl h
      · rcases List.mem_cons.mp h with rfl | h
        · exact .inl hy
        · exact .inr h
    · refine mem_nub ?_
      rcases h with h | h
      · exact .inl (List.mem_append_left _ h)
      · rcases List.mem_cons.mp h with rfl | h
        · exact .inl (List.mem_append_right _ (.head _))
        · exact .inr h
theorem nub_all {α : Type} [DecidableEq α] : ∀ {xs acc : List α}, (∀ x ∈ xs, x ∈ acc) → nub acc xs = acc
  | [], acc, h => rfl
  | y :: xs, acc, h => by rw [nub, if_pos (h y (.head _))]; exact nub_all fun x hx => h x (.tail _ hx)
theorem nub_twice {α : Type} [DecidableEq α] {xs : List α} : nub [] (xs ++ xs) = nub [] xs := by
  rw [nub_app]
  exact nub_all fun x hx => mem_nub (.inr hx)
theorem keyL_turn (c : Cnd) : keyL (.either (.inv c) c) = keyL c := by
  show nub [] ((leavesC c ++ leavesC c).flatMap ownK) = _
  rw [List.flatMap_append, nub_twice]; rfl
theorem labL_turn (c : Cnd) : labL (.either (.inv c) c) = labL c := by
  show nub [] ((leavesC c ++ leavesC c).flatMap ownL) = _
  rw [List.flatMap_append, nub_twice]; rfl
theorem ok_law (T : Top K mg A) {k : Nat} (C__law_ask : CalleeT P w K mg base k "_law_ask" ["_law_draws_here", "_law_keys_here", "_law_names", "_law_atoms"] (sp_ask)) (C__law_draws : CalleeT P w K mg base k "_law_draws" ["_law_script", "_law_at"] (sp_drs)) (C__law_integer : CalleeT P w K mg base k "_law_integer" ["_law_draws_here"] (sp_dint)) (C__law_joined : CalleeT P w K mg base k "_law_joined" ["_law_draws_here", "_law_keys_here", "_law_names", "_law_atoms", "_law_most"] (sp_joined)) (C__law_keys : CalleeT P w K mg base k "_law_keys" ["_law_draws_here", "_law_many"] (sp_dkeys)) (C__law_made : CalleeT P w K mg base k "_law_made" ["_law_ask_here"] (sp_made (caA A) 16)) (C__law_mentions : CalleeT P w K mg base k "_law_mentions" ["_law_ask_here"] (sp_ment (caA A))) (C__law_text : CalleeT P w K mg base k "_law_text" ["_law_draws_here"] (sp_dtext)) (V___and__ : ∀ τ C, (caA A).adr τ = some C → MthT P w K mg base k C "__and__" ((vsp_and (caA A)) τ)) (V___invert__ : ∀ τ C, (caA A).adr τ = some C → MthT P w K mg base k C "__invert__" ((vsp_inv (caA A)) τ)) (V___or__ : ∀ τ C, (caA A).adr τ = some C → MthT P w K mg base k C "__or__" ((vsp_or (caA A)) τ)) (V_key_list : ∀ τ C, (caA A).adr τ = some C → MthT P w K mg base k C "key_list" ((vsp_keyl (caA A)) τ)) (V_label_list : ∀ τ C, (caA A).adr τ = some C → MthT P w K mg base k C "label_list" ((vsp_labl (caA A)) τ))  : CalleeT P w K mg base (k + 1 + 1) "law" ["_law_script"] (sp_law) := by
  have nd := sc_law.nd
  refine Def.okT T.d_law sc_law (fun _ _ _ _ _ _ us hl => match us, hl with | [_], _ => rfl) (fun xs S Q X h => ?_) ?_ (fun f cdv AA outer s H E hr tk po => have hu := hu_of hr; (ss_cons (s_for (.nm 1) po rfl (i_rng1 (by rfl) T.b.b_range (a_cons (e_callB (call_max2 rfl) c_mm (by rfl) T.b.b_max boot_max (a_cons e_int (a_cons (e_callB (call_min2 rfl) c_mm (by rfl) T.b.b_min boot_min (a_cons e_int (a_cons (e_callB len_op c_len (by rfl) T.b.b_len boot_len (a_cons (e_var 0) a_nil)) a_nil))) a_nil))) a_nil)) (pg_name (i := 1) nd rfl (Or.inl rfl)) (ss_cons (s_set (i := 2) nd rfl (Or.inl rfl) (e_call C__law_draws (hr.mono (by omega)) (by rfl) tk (a_cons (e_var 0) (a_cons (e_var 1) a_nil))))
      (ss_cons (s_par (i := 3) (j := 4) rfl nd rfl rfl (by decide) rfl rfl (a_cons (e_call C__law_keys (hr.mono (by omega)) (by rfl) tk (a_cons (e_var 2) (a_cons e_int a_nil))) (a_cons (e_lst (a_cons e_str (a_cons e_str (a_cons e_str (a_cons e_str a_nil))))) a_nil)) (fun h => ps_par (by rfl) nd rfl rfl (by decide) rfl rfl h (by rfl)))
      (ss_cons (s_set (i := 5) nd rfl (Or.inl rfl) (e_lst (a_cons (e_call C__law_integer (hr.mono (by omega)) (by rfl) tk (a_cons (e_var 2) a_nil)) (a_cons (e_call C__law_text (hr.mono (by omega)) (by rfl) tk (a_cons (e_var 2) a_nil)) a_nil))))
      (ss_cons (s_set (i := 6) nd rfl (Or.inl rfl) (e_call C__law_joined (hr.mono (by omega)) (by rfl) tk (a_cons (e_var 2) (a_cons (e_var 3) (a_cons (e_var 4) (a_cons (e_var 5) (a_cons e_int a_nil)))))))
      (ss_cons (s_set (i := 7) nd rfl (Or.inl rfl) (e_call C__law_ask (hr.mono (by omega)) (by rfl) tk (a_cons (e_var 2) (a_cons (e_var 3) (a_cons (e_var 4) (a_cons (e_var 5) a_nil))))))
      (ss_cons (s_par (i := 8) (j := 9) rfl nd rfl rfl (by decide) rfl rfl (a_cons (e_call C__law_made (hr.mono (by omega)) (by rfl) tk (a_cons (e_var 6) a_nil)) (a_cons (e_call C__law_mentions (hr.mono (by omega)) (by rfl) tk (a_cons (e_var 6) a_nil)) a_nil)) (fun h => ps_par (by rfl) nd rfl rfl (by decide) rfl rfl h (by rfl)))
      (ss_cons (s_set (i := 10) nd rfl (Or.inl rfl) (e_tup (a_cons (e_meth0 (ms := vm (caA A) (vsp_keyl (caA A))) (fun C t h => by obtain ⟨τ, e, rfl⟩ := h; exact V_key_list τ C e) (hr.mono (by omega)) tk (e_var 8)) (a_cons (e_meth0 (ms := vm (caA A) (vsp_labl (caA A))) (fun C t h => by obtain ⟨τ, e, rfl⟩ := h; exact V_label_list τ C e) (hr.mono (by omega)) tk (e_var 8)) a_nil))))
      (ss_cons (s_if (TPW.pt (w_or (t_not (t_val (e_isi1K (K := K) rfl (by rfl) T.b.b_isinstance (e_var 8) (pe_glob (v := .ref A.Condition) (by rfl) T.c_Condition.mg rfl (by decide)) (.own _)))) (w_or1 (t_cmpD (ne_op hr) (e_var 10) (e_var 9) (nomark _))))) (ss_one (s_ret e_bl)) ss_nil)
      (ss_cons (s_if (TPW.pt (w_or (t_not (t_val (e_callB (g := gIsi K) call_isi c_isi (by rfl) T.b.b_isinstance boot_isinstance (a_cons (e_ix (ix_op hr) o_ix (e_var 10) e_int (fun _ _ => rfl)) (a_cons (e_ty (by rfl) T.b.b_list boot_list) a_nil))))) (w_or1 (t_not (t_val (e_callB (g := gIsi K) call_isi c_isi (by rfl) T.b.b_isinstance boot_isinstance (a_cons (e_ix (ix_op hr) o_ix (e_var 10) e_int (fun _ _ => rfl)) (a_cons (e_ty (by rfl) T.b.b_list boot_list) a_nil)))))))) (ss_one (s_ret e_bl)) ss_nil)
      (ss_cons (s_expr (e_mm m_append (e_ix (ix_op hr) o_ix (e_var 10) e_int (fun _ _ => rfl)) (a_cons e_str a_nil) (fun ho ha => pe_bm PySem.F.plainAttrs_list PySem.F.slot_list_append PySem.F.type_list_append mt_append ho ha)))
      (ss_cons (s_expr (e_mm0 m_clear (e_ix (ix_op hr) o_ix (e_var 10) e_int (fun _ _ => rfl)) (fun ho => pe_bm0 PySem.F.plainAttrs_list PySem.F.slot_list_clear PySem.F.type_list_clear mt_clear ho)))
      (ss_cons (s_if (t_cmpD (ne_op hr) (e_tup (a_cons (e_meth0 (ms := vm (caA A) (vsp_keyl (caA A))) (fun C t h => by obtain ⟨τ, e, rfl⟩ := h; exact V_key_list τ C e) (hr.mono (by omega)) tk (e_var 8)) (a_cons (e_meth0 (ms := vm (caA A) (vsp_labl (caA A))) (fun C t h => by obtain ⟨τ, e, rfl⟩ := h; exact V_label_list τ C e) (hr.mono (by omega)) tk (e_var 8)) a_nil))) (e_var 9) (nomark _)) (ss_one (s_ret e_bl)) ss_nil)
      (ss_cons (s_set (i := 11) nd rfl (Or.inl rfl) (e_call C__law_made (hr.mono (by omega)) (by rfl) tk (a_cons (e_var 7) a_nil)))
      (ss_cons (s_for (.tp [(.nm 12), (.nm 13)]) po rfl (i_seq (e_lst (a_cons (e_tup (a_cons (e_tup (a_cons e_str (a_cons (e_var 6) (a_cons (e_var 7) a_nil)))) (a_cons (e_obin2 (K := K) rfl (ms := vm (caA A) (vsp_and (caA A))) (fun C t h => by obtain ⟨τ, e, rfl⟩ := h; exact V___and__ τ C e) (hr.mono (by omega)) tk (e_var 8) (e_var 11)) a_nil))) (a_cons (e_tup (a_cons (e_tup (a_cons e_str (a_cons (e_var 7) (a_cons (e_var 6) a_nil)))) (a_cons (e_obin2 (K := K) rfl (ms := vm (caA A) (vsp_or (caA A))) (fun C t h => by obtain ⟨τ, e, rfl⟩ := h; exact V___or__ τ C e) (hr.mono (by omega)) tk (e_var 11) (e_var 8)) a_nil))) a_nil)))) (pg_tup rfl (pgs_cons (pg_name (i := 12) nd rfl (Or.inl rfl)) (pgs_cons (pg_name (i := 13) nd rfl (Or.inl rfl)) pgs_nil))) (ss_one (s_if (t_cmpD (ne_op hr) (e_tup (a_cons (e_meth0 (ms := vm (caA A) (vsp_keyl (caA A))) (fun C t h => by obtain ⟨τ, e, rfl⟩ := h; exact V_key_list τ C e) (hr.mono (by omega)) tk (e_var 13)) (a_cons (e_meth0 (ms := vm (caA A) (vsp_labl (caA A))) (fun C t h => by obtain ⟨τ, e, rfl⟩ := h; exact V_label_list τ C e) (hr.mono (by omega)) tk (e_var 13)) a_nil))) (e_call C__law_mentions (hr.mono (by omega)) (by rfl) tk (a_cons (e_var 12) a_nil)) (nomark _)) (ss_one (s_ret e_bl)) ss_nil)))
      (ss_cons (s_set (i := 14) nd rfl (Or.inl rfl) (e_obin2 (K := K) rfl (ms := vm (caA A) (vsp_or (caA A))) (fun C t h => by obtain ⟨τ, e, rfl⟩ := h; exact V___or__ τ C e) (hr.mono (by omega)) tk (e_oinv (ms := vm (caA A) (vsp_inv (caA A))) (fun C t h => by obtain ⟨τ, e, rfl⟩ := h; exact V___invert__ τ C e) (hr.mono (by omega)) tk (e_var 8)) (e_var 8)))
      (ss_cons (s_if (TPW.pt (w_or (t_cmpD (ne_op hr) (e_tup (a_cons (e_meth0 (ms := vm (caA A) (vsp_keyl (caA A))) (fun C t h => by obtain ⟨τ, e, rfl⟩ := h; exact V_key_list τ C e) (hr.mono (by omega)) tk (e_var 14)) (a_cons (e_meth0 (ms := vm (caA A) (vsp_labl (caA A))) (fun C t h => by obtain ⟨τ, e, rfl⟩ := h; exact V_label_list τ C e) (hr.mono (by omega)) tk (e_var 14)) a_nil))) (e_var 9) (nomark _)) (w_or1 (t_cmpD (ne_op hr) (e_tup (a_cons (e_meth0 (ms := vm (caA A) (vsp_keyl (caA A))) (fun C t h => by obtain ⟨τ, e, rfl⟩ := h; exact V_key_list τ C e) (hr.mono (by omega)) tk (e_var 8)) (a_cons (e_meth0 (ms := vm (caA A) (vsp_labl (caA A))) (fun C t h => by obtain ⟨τ, e, rfl⟩ := h; exact V_label_list τ C e) (hr.mono (by omega)) tk (e_var 8)) a_nil))) (e_var 9) (nomark _))))) (ss_one (s_ret e_bl)) ss_nil)
      (ss_one (s_if (t_cmpD (ne_op hr) (e_tup (a_cons (e_meth0 (ms := vm (caA A) (vsp_keyl (caA A))) (fun C t h => by obtain ⟨τ, e, rfl⟩ := h; exact V_key_list τ C e) (hr.mono (by omega)) tk (e_var 11)) (a_cons (e_meth0 (ms := vm (caA A) (vsp_labl (caA A))) (fun C t h => by obtain ⟨τ, e, rfl⟩ := h; exact V_label_list τ C e) (hr.mono (by omega)) tk (e_var 11)) a_nil))) (e_call C__law_mentions (hr.mono (by omega)) (by rfl) tk (a_cons (e_var 7) a_nil)) (nomark _)) (ss_one (s_ret e_bl)) ss_nil)))))))))))))))))))
      (ss_one (s_ret e_bl)))) ?_
  · obtain ⟨ns, rfl, hl, hq⟩ := h
    rfl
  · walk_at "mono"
  · intro xs S Q X cQ cX h
    obtain ⟨ns, rfl, hl, hq⟩ := h
    have hT := And.intro T.c_Condition.ci <| And.intro T.k_NoneType_Condition <| And.intro T.k_bool_Condition <| And.intro T.k_Condition_bool <| And.intro T.k_int_Condition <| And.intro T.k_Condition_int <| And.intro T.k_str_Condition <| And.intro T.k_Condition_str <| And.intro T.k_list_Condition <| And.intro T.k_Condition_list <| And.intro T.k_tuple_Condition <| And.intro T.k_Condition_tuple <| And.intro T.k_dict_Condition <| T.k_Condition_Condition
    simp only [KQ.startT, List.map_cons, List.map_nil, List.length_cons, List.length_nil, Nat.reduceAdd, Nat.reduceSub, List.replicate_succ, List.replicate_zero, List.cons_append, List.nil_append]
    walk_at "vn"
    obtain ⟨m, em, hm⟩ := turns_of ns.length 8 (by decide) (by decide)
    rw [em]
    refine ⟨by omega, by omega, ?_⟩
    rw [show (m : Int).toNat = m from rfl]
    refine loop_inv _ (fun j ρ S' => ∃ (x1 x2 x3 x4 x5 x6 x7 x8 x9 x10 x11 x12 x13 x14 : Option Tr), ρ = [some (.scr ns), x1, x2, x3, x4, x5, x6, x7, x8, x9, x10, x11, x12, x13, x14] ∧ Q (.bl true) S') ?_ ?_ ⟨_, _, _, _, _, _, _, _, _, _, _, _, _, _, rfl, hq⟩
    · rintro jj x ρ S' N hx ⟨x1, x2, x3, x4, x5, x6, x7, x8, x9, x10, x11, x12, x13, x14, rfl, hq'⟩ hN
      obtain ⟨rfl, hj⟩ := rng_at hx
      clear hq em hx
      have fa : ∀ τ, ∃ C, (caA A).adr τ = some C := by intro τ; cases τ <;> exact ⟨_, rfl⟩
      replace fa := Hide.mk fa
      have fin : ∀ (x1 x2 x3 x4 x5 x6 x7 x8 x9 x10 x11 x12 x13 x14 : Option Tr) (S2 : Sto), Sub S' S2 → N [some (.scr ns), x1, x2, x3, x4, x5, x6, x7, x8, x9, x10, x11, x12, x13, x14] S2 := fun x1 x2 x3 x4 x5 x6 x7 x8 x9 x10 x11 x12 x13 x14 S2 h => hN _ _ ⟨_, _, _, _, _, _, _, _, _, _, _, _, _, _, rfl, cQ.drop h hq'⟩
      clear hN hq'
      replace fin := Hide.mk fin
      walk_at "vn"
      refine ⟨ns, jj, rfl, hl, by omega, by omega, fun p c hp hc => ?_⟩
      refine ⟨p, 5, c, rfl, put_same, hc, by decide, by decide, fun ks c1 lk nk ok ne d1 => ?_⟩
      rw [put_put]
      refine dsome_ok put_same d1 fun y c2 hy d2 => ?_
      obtain ⟨n, rfl, hn⟩ := hy
      rw [put_put]
      refine dsome_ok put_same d2 fun y c3 hy d3 => ?_
      obtain ⟨t, rfl, pt, lt⟩ := hy
      rw [put_put]
      have L3 : ∀ x ∈ [Tr.int n, .str t], KAtom x := by
        intro x hx
        simp only [List.mem_cons, List.not_mem_nil, or_false] at hx
        rcases hx with rfl | rfl
        · exact ⟨.inl n, rfl, hn⟩
        · exact ⟨.inr t, rfl, pt, lt⟩
      have p_ok : ∀ l ∈ [("a" : Str), "other", "b", "c"], LOk l := by
        intro l hl
        simp only [List.mem_cons, List.not_mem_nil, or_false] at hl
        rcases hl with rfl | rfl | rfl | rfl
        · exact ⟨pr_lit (s := "a") (by decide), by decide⟩
        · exact ⟨pr_lit (s := "other") (by decide), by decide⟩
        · exact ⟨pr_lit (s := "b") (by decide), by decide⟩
        · exact ⟨pr_lit (s := "c") (by decide), by decide⟩
      have cok : ∀ {c : Cnd}, CndOk (· ∈ ks) (· ∈ [("a" : Str), "other", "b", "c"]) c → COk (caA A) c := fun h => h.cok fa.go ok p_ok
      refine ⟨p, c3, ks, ["a", "other", "b", "c"], _, 3, rfl, put_same, d3, ne (by decide), by omega, by simp, by simp, by simp, by simp, L3, by decide, by decide, fun b1 c4 o1 p1 s1 d4 => ?_⟩
      rw [put_put]
      refine ⟨p, c4, ks, ["a", "other", "b", "c"], _, rfl, put_same, d4, ne (by decide), by omega, by simp, by simp, by simp, by simp, L3, fun b2 c5 o2 p2 s2 d5 => ?_⟩
      rw [put_put]
      replace o1 := cok o1
      replace o2 := cok o2
      clear cok L3 p_ok ok ne
      have cmp : ∀ {c : Cnd} {S2 : Sto} {q1 q2 : Addr}, COk (caA A) c → S2 q1 = some (.lst ((keyL c).map kT)) → S2 q2 = some (.lst ((labL c).map .str)) → gEqD true (dw S2 (.tup [.ref q1, .ref q2])) (dw S2 (mentT c)) (.bl false) := fun o h1 h2 => by
        rw [dw_two h1 h2]
        exact ment_eq (n := true) o
      replace cmp := Hide.mk @cmp
      have kc : ∀ (c : Cnd) (S2 : Sto), ∃ t, tyT K (vw S2 (cT (caA A) c)) t ∧ PySem.W.kitOne K t (Value.ref A.Condition) = some true := fun c S2 => by
        cases c with
        | kind => exact ⟨.ref A.Kind, by have := T.c_Kind.ci; simp only [cT]; walk_at "vc", T.k_Kind_Condition⟩
        | equals => exact ⟨.ref A.Equals, by have := T.c_Equals.ci; simp only [cT]; walk_at "vc", T.k_Equals_Condition⟩
        | size => exact ⟨.ref A.Size, by have := T.c_Size.ci; simp only [cT]; walk_at "vc", T.k_Size_Condition⟩
        | has => exact ⟨.ref A.Has, by have := T.c_Has.ci; simp only [cT]; walk_at "vc", T.k_Has_Condition⟩
        | item => exact ⟨.ref A.Item, by have := T.c_Item.ci; simp only [cT]; walk_at "vc", T.k_Item_Condition⟩
        | before => exact ⟨.ref A.Before, by have := T.c_Before.ci; simp only [cT]; walk_at "vc", T.k_Before_Condition⟩
        | first => exact ⟨.ref A.First, by have := T.c_First.ci; simp only [cT]; walk_at "vc", T.k_First_Condition⟩
        | every => exact ⟨.ref A.Every, by have := T.c_Every.ci; simp only [cT]; walk_at "vc", T.k_Every_Condition⟩
        | some => exact ⟨.ref A.Some, by have := T.c_Some.ci; simp only [cT]; walk_at "vc", T.k_Some_Condition⟩
        | both => exact ⟨.ref A.Both, by have := T.c_Both.ci; simp only [cT]; walk_at "vc", T.k_Both_Condition⟩
        | either => exact ⟨.ref A.Either, by have := T.c_Either.ci; simp only [cT]; walk_at "vc", T.k_Either_Condition⟩
        | inv => exact ⟨.ref A.Inverse, by have := T.c_Inverse.ci; simp only [cT]; walk_at "vc", T.k_Inverse_Condition⟩
      replace kc := Hide.mk kc
      refine ⟨b1, rfl, o1, by omega, ?_⟩
      walk_at "vn"
      refine ⟨b1, rfl, o1, by omega, by omega, ?_⟩
      obtain ⟨due, hdue⟩ : ∃ d, d = mentT b1 := ⟨_, rfl⟩
      rw [show Tr.tup [.lst ((keyL b1).map kT), .lst ((labL b1).map .str)] = due from hdue.symm]
      refine vm_go o1 (by decide) ⟨b1, rfl, rfl, o1, by omega, by omega, fun q1 hq1 => ?_⟩
      refine vm_go o1 (by decide) ⟨b1, rfl, rfl, o1, by omega, by omega, fun q2 hq2 => ?_⟩
      obtain ⟨t1, ht1, ht2⟩ := kc.go b1 (put (put (put S' p c5) q1 (.lst ((keyL b1).map kT))) q2 (.lst ((labL b1).map .str)))
      refine ⟨t1, ht1, true, ht2, ?_⟩
      rw [if_neg (by decide), q_uOpD]
      clear ht1 ht2 t1
      have n12 : q2 ≠ q1 := ne_cell put_same hq2
      have n21 : q1 ≠ q2 := n12.symm
      have z1 : S' q1 = none := (sub_new (c := c5) hp).noneAt hq1
      have z2 : S' q2 = none := (sub_new (c := c5) hp).noneAt (by rw [put_ne n12] at hq2; exact hq2)
      obtain ⟨sub, e1, e2⟩ := fresh2 (c2 := .lst ((labL b1).map .str)) (sub_new (c := c5) hp) hq1 hq2
      generalize put (put (put S' p c5) q1 (.lst ((keyL b1).map kT))) q2 (.lst ((labL b1).map .str)) = S2 at *
      clear hq1 hq2 hp
      have lkb : (keyL b1).length ≤ 2000 := by
        have h1 := nub_len [] ((leavesC b1).flatMap ownK)
        have h2 := flat_lenN ownK_len (leavesC b1)
        have h3 := leaves_len b1
        simp only [List.length_nil] at h1
        show (nub [] _).length ≤ 2000
        omega
      have e3 : ∀ c, put S2 q1 c q2 = some (.lst ((labL b1).map .str)) := fun c => by rw [put_ne n12]; exact e2
      walk_at "vn"
      refine ⟨.bl false, cmp.go o1 e1 e2, false, rfl, ?_⟩
      rw [if_neg (by decide)]
      refine ⟨szn (by omega), ?_⟩
      walk_at "vn"
      refine ⟨[], ⟨.non, rfl, rfl, rfl⟩, ?_⟩
      have sub3 : Sub S' (put (put S2 q1 (.lst ((keyL b1).map kT ++ [Tr.str (Str.ofString "more")]))) q2 (.lst [])) := Sub.new (Sub.new sub z1) z2
      generalize put (put S2 q1 (.lst ((keyL b1).map kT ++ [Tr.str (Str.ofString "more")]))) q2 (.lst []) = S3 at *
      have ob1 := T.ob_BitAnd
      have ob2 := T.ob_BitOr
      replace ob1 := Hide.mk ob1
      replace ob2 := Hide.mk ob2
      clear e1 e2 e3 n12 n21 z1 z2 lkb sub
      rw [q_uOpD]
      walk_at "vn"
      refine vm_go o1 (by decide) ⟨b1, rfl, rfl, o1, by omega, by omega, fun q3 hq3 => ?_⟩
      refine vm_go o1 (by decide) ⟨b1, rfl, rfl, o1, by omega, by omega, fun q4 hq4 => ?_⟩
      obtain ⟨sub4, eq3, eq4⟩ := fresh2 (c1 := .lst ((keyL (b1)).map kT)) (c2 := .lst ((labL (b1)).map .str)) sub3 hq3 hq4
      generalize put (put _ q3 (.lst ((keyL (b1)).map kT))) q4 (.lst ((labL (b1)).map .str)) = S4 at *
      clear hq3 hq4
      walk_at "vn"
      refine ⟨.bl false, cmp.go o1 eq3 eq4, false, rfl, ?_⟩
      clear eq3 eq4
      rw [if_neg (by decide)]
      refine ⟨b2, rfl, o2, by omega, ?_⟩
      refine ob_go o1 o2 ob1.go ⟨b1, b2, rfl, rfl, ?_⟩
      refine ob_go o2 o1 ob2.go ⟨b2, b1, rfl, rfl, ?_⟩
      have oA : COk (caA A) (.both b1 b2) := ⟨fa.go _, o1, o2⟩
      have oE : COk (caA A) (.either b2 b1) := ⟨fa.go _, o2, o1⟩
      have oI : COk (caA A) (.inv b1) := ⟨fa.go _, o1⟩
      have oT : COk (caA A) (.either (.inv b1) b1) := ⟨fa.go _, oI, o1⟩
      walk_at "vc"
      rw [q_uOpD]
      walk_at "vc"
      refine vm_go oA (by decide) ⟨.both b1 b2, rfl, rfl, oA, by simp only [cdep]; omega, by simp only [csz]; omega, fun q5 hq5 => ?_⟩
      refine vm_go oA (by decide) ⟨.both b1 b2, rfl, rfl, oA, by simp only [cdep]; omega, by simp only [csz]; omega, fun q6 hq6 => ?_⟩
      obtain ⟨sub5, eq5, eq6⟩ := fresh2 (c1 := .lst ((keyL (.both b1 b2)).map kT)) (c2 := .lst ((labL (.both b1 b2)).map .str)) sub4 hq5 hq6
      generalize put (put _ q5 (.lst ((keyL (.both b1 b2)).map kT))) q6 (.lst ((labL (.both b1 b2)).map .str)) = S5 at *
      clear hq5 hq6
      refine ⟨.both b1 b2, rfl, oA, by simp only [cdep]; omega, by simp only [csz]; omega, ?_⟩
      refine ⟨.bl false, cmp.go oA eq5 eq6, false, rfl, ?_⟩
      clear eq5 eq6
      rw [if_neg (by decide), q_uOpD]
      walk_at "vc"
      refine vm_go oE (by decide) ⟨.either b2 b1, rfl, rfl, oE, by simp only [cdep]; omega, by simp only [csz]; omega, fun q7 hq7 => ?_⟩
      refine vm_go oE (by decide) ⟨.either b2 b1, rfl, rfl, oE, by simp only [cdep]; omega, by simp only [csz]; omega, fun q8 hq8 => ?_⟩
      obtain ⟨sub6, eq7, eq8⟩ := fresh2 (c1 := .lst ((keyL (.either b2 b1)).map kT)) (c2 := .lst ((labL (.either b2 b1)).map .str)) sub5 hq7 hq8
      generalize put (put _ q7 (.lst ((keyL (.either b2 b1)).map kT))) q8 (.lst ((labL (.either b2 b1)).map .str)) = S6 at *
      clear hq7 hq8
      refine ⟨.either b2 b1, rfl, oE, by simp only [cdep]; omega, by simp only [csz]; omega, ?_⟩
      refine ⟨.bl false, cmp.go oE eq7 eq8, false, rfl, ?_⟩
      clear eq7 eq8
      rw [if_neg (by decide)]
      refine inv_go o1 ⟨b1, rfl, rfl, ?_⟩
      refine ob_go oI o1 ob2.go ⟨.inv b1, b1, rfl, rfl, ?_⟩
      walk_at "vn"
      try rw [q_uOpD]
      walk_at "vn"
      refine vm_go oT (by decide) ⟨.either (.inv b1) b1, rfl, rfl, oT, by simp only [cdep]; omega, by simp only [csz]; omega, fun q9 hq9 => ?_⟩
      refine vm_go oT (by decide) ⟨.either (.inv b1) b1, rfl, rfl, oT, by simp only [cdep]; omega, by simp only [csz]; omega, fun q10 hq10 => ?_⟩
      obtain ⟨sub7, eq9, eq10⟩ := fresh2 (c1 := .lst ((keyL (.either (.inv b1) b1)).map kT)) (c2 := .lst ((labL (.either (.inv b1) b1)).map .str)) sub6 hq9 hq10
      generalize put (put _ q9 (.lst ((keyL (.either (.inv b1) b1)).map kT))) q10 (.lst ((labL (.either (.inv b1) b1)).map .str)) = S7 at *
      clear hq9 hq10
      walk_at "vn"
      rw [keyL_turn] at eq9
      rw [labL_turn] at eq10
      refine ⟨.bl false, cmp.go o1 eq9 eq10, false, rfl, ?_⟩
      clear eq9 eq10
      rw [if_neg (by decide), q_uOpD]
      walk_at "vn"
      refine vm_go o1 (by decide) ⟨b1, rfl, rfl, o1, by omega, by omega, fun q11 hq11 => ?_⟩
      refine vm_go o1 (by decide) ⟨b1, rfl, rfl, o1, by omega, by omega, fun q12 hq12 => ?_⟩
      obtain ⟨sub8, eq11, eq12⟩ := fresh2 (c1 := .lst ((keyL (b1)).map kT)) (c2 := .lst ((labL (b1)).map .str)) sub7 hq11 hq12
      generalize put (put _ q11 (.lst ((keyL (b1)).map kT))) q12 (.lst ((labL (b1)).map .str)) = S8 at *
      clear hq11 hq12
      walk_at "vn"
      refine ⟨.bl false, cmp.go o1 eq11 eq12, false, rfl, ?_⟩
      clear eq11 eq12
      rw [if_neg (by decide), q_uOpD]
      walk_at "vn"
      refine vm_go o2 (by decide) ⟨b2, rfl, rfl, o2, by omega, by omega, fun q13 hq13 => ?_⟩
      refine vm_go o2 (by decide) ⟨b2, rfl, rfl, o2, by omega, by omega, fun q14 hq14 => ?_⟩
      obtain ⟨sub9, eq13, eq14⟩ := fresh2 (c1 := .lst ((keyL (b2)).map kT)) (c2 := .lst ((labL (b2)).map .str)) sub8 hq13 hq14
      generalize put (put _ q13 (.lst ((keyL (b2)).map kT))) q14 (.lst ((labL (b2)).map .str)) = S9 at *
      clear hq13 hq14
      walk_at "vn"
      refine ⟨b2, rfl, o2, by omega, by omega, ?_⟩
      refine ⟨.bl false, cmp.go o2 eq13 eq14, false, rfl, ?_⟩
      rw [if_neg (by decide)]
      exact fin.go _ _ _ _ _ _ _ _ _ _ _ _ _ _ _ sub9
    · rintro ρ S' ⟨x1, x2, x3, x4, x5, x6, x7, x8, x9, x10, x11, x12, x13, x14, rfl, hq'⟩
      walk_at "vn"
      all_goals exact hq'

end
set_option maxHeartbeats 0 in
theorem topK {K : PySem.W.Frag} {h : Heap} {mg : Str → Option Value} (X : K.In h) (G : h.Ns mainGlobals mg) (c : SaysB fbK fnK K) : Top K mg ⟨(), (He.ga K "Condition"), (He.ga K "Both"), (He.ga K "Either"), (He.ga K "Inverse"), (He.ga K "Kind"), (He.ga K "Equals"), (He.ga K "Size"), (He.ga K "Has"), (He.ga K "Item"), (He.ga K "Before"), (He.ga K "First"), (He.ga K "Every"), (He.ga K "Some"), (He.ga K "KeysError"), (He.ga K "BadCondition")⟩ := by
  obtain ⟨fd0, F0⟩ := c.def_ 0 rfl
  obtain ⟨fd1, F1⟩ := c.def_ 1 rfl
  obtain ⟨fd2, F2⟩ := c.def_ 2 rfl
  obtain ⟨fd3, F3⟩ := c.def_ 3 rfl
  obtain ⟨fd4, F4⟩ := c.def_ 4 rfl
  obtain ⟨fd5, F5⟩ := c.def_ 5 rfl
  obtain ⟨fd6, F6⟩ := c.def_ 6 rfl
  obtain ⟨fd7, F7⟩ := c.def_ 7 rfl
  obtain ⟨fd8, F8⟩ := c.def_ 8 rfl
  obtain ⟨fd9, F9⟩ := c.def_ 9 rfl
  obtain ⟨fd10, F10⟩ := c.def_ 10 rfl
  obtain ⟨fd11, F11⟩ := c.def_ 11 rfl
  obtain ⟨fd12, F12⟩ := c.def_ 12 rfl
  obtain ⟨fd13, F13⟩ := c.def_ 13 rfl
  obtain ⟨fd14, F14⟩ := c.def_ 14 rfl
  obtain ⟨fd15, F15⟩ := c.def_ 15 rfl
  obtain ⟨fd16, F16⟩ := c.def_ 16 rfl
  obtain ⟨fd17, F17⟩ := c.def_ 17 rfl
  obtain ⟨fd18, F18⟩ := c.def_ 18 rfl
  obtain ⟨fd19, F19⟩ := c.def_ 19 rfl
  obtain ⟨fd20, F20⟩ := c.def_ 20 rfl
  obtain ⟨fd21, F21⟩ := c.def_ 21 rfl
  obtain ⟨fd22, F22⟩ := c.def_ 22 rfl
  obtain ⟨fd23, F23⟩ := c.def_ 23 rfl
  obtain ⟨fd24, F24⟩ := c.def_ 24 rfl
  obtain ⟨fd25, F25⟩ := c.def_ 25 rfl
  obtain ⟨fd26, F26⟩ := c.def_ 26 rfl
  obtain ⟨fd27, F27⟩ := c.def_ 27 rfl
  obtain ⟨fd28, F28⟩ := c.def_ 28 rfl
  obtain ⟨fd29, F29⟩ := c.def_ 29 rfl
  obtain ⟨fd30, F30⟩ := c.def_ 30 rfl
  obtain ⟨fd31, F31⟩ := c.def_ 31 rfl
  obtain ⟨fd32, F32⟩ := c.def_ 32 rfl
  obtain ⟨fd33, F33⟩ := c.def_ 33 rfl
  obtain ⟨fd34, F34⟩ := c.def_ 34 rfl
  obtain ⟨fd35, F35⟩ := c.def_ 35 rfl
  obtain ⟨fd36, F36⟩ := c.def_ 36 rfl
  obtain ⟨fd37, F37⟩ := c.def_ 37 rfl
  obtain ⟨fd38, F38⟩ := c.def_ 38 rfl
  obtain ⟨fd39, F39⟩ := c.def_ 39 rfl
  obtain ⟨fd40, F40⟩ := c.def_ 40 rfl
  obtain ⟨fd41, F41⟩ := c.def_ 41 rfl
  obtain ⟨fd42, F42⟩ := c.def_ 42 rfl
  obtain ⟨fd43, F43⟩ := c.def_ 43 rfl
  obtain ⟨fd44, F44⟩ := c.def_ 44 rfl
  obtain ⟨fd45, F45⟩ := c.def_ 45 rfl
  obtain ⟨fd46, F46⟩ := c.def_ 46 rfl
  obtain ⟨fd47, F47⟩ := c.def_ 47 rfl
  obtain ⟨fd48, F48⟩ := c.def_ 48 rfl
  obtain ⟨fd49, F49⟩ := c.def_ 49 rfl
  obtain ⟨fd50, F50⟩ := c.def_ 50 rfl
  obtain ⟨fd51, F51⟩ := c.def_ 51 rfl
  obtain ⟨fd52, F52⟩ := c.def_ 52 rfl
  obtain ⟨fd53, F53⟩ := c.def_ 53 rfl
  obtain ⟨fd54, F54⟩ := c.def_ 54 rfl
  obtain ⟨fd55, F55⟩ := c.def_ 55 rfl
  obtain ⟨fd56, F56⟩ := c.def_ 56 rfl
  obtain ⟨fd57, F57⟩ := c.def_ 57 rfl
  obtain ⟨fd58, F58⟩ := c.def_ 58 rfl
  obtain ⟨fd59, F59⟩ := c.def_ 59 rfl
  obtain ⟨fd60, F60⟩ := c.def_ 60 rfl
  obtain ⟨fd61, F61⟩ := c.def_ 61 rfl
  obtain ⟨fd62, F62⟩ := c.def_ 62 rfl
  obtain ⟨fd63, F63⟩ := c.def_ 63 rfl
  obtain ⟨fd64, F64⟩ := c.def_ 64 rfl
  obtain ⟨fd65, F65⟩ := c.def_ 65 rfl
  obtain ⟨fd66, F66⟩ := c.def_ 66 rfl
  obtain ⟨fd67, F67⟩ := c.def_ 67 rfl
  obtain ⟨fd68, F68⟩ := c.def_ 68 rfl
  obtain ⟨fd69, F69⟩ := c.def_ 69 rfl
  obtain ⟨fd70, F70⟩ := c.def_ 70 rfl
  obtain ⟨fd71, F71⟩ := c.def_ 71 rfl
  obtain ⟨fd72, F72⟩ := c.def_ 72 rfl
  obtain ⟨fd73, F73⟩ := c.def_ 73 rfl
  obtain ⟨fd74, F74⟩ := c.def_ 74 rfl
  obtain ⟨fd75, F75⟩ := c.def_ 75 rfl
  obtain ⟨fd76, F76⟩ := c.def_ 76 rfl
  obtain ⟨fd77, F77⟩ := c.def_ 77 rfl
  obtain ⟨fd78, F78⟩ := c.def_ 78 rfl
  obtain ⟨fd79, F79⟩ := c.def_ 79 rfl
  obtain ⟨fd80, F80⟩ := c.def_ 80 rfl
  obtain ⟨fd81, F81⟩ := c.def_ 81 rfl
  obtain ⟨fd82, F82⟩ := c.def_ 82 rfl
  obtain ⟨fd83, F83⟩ := c.def_ 83 rfl
  obtain ⟨fd84, F84⟩ := c.def_ 84 rfl
  obtain ⟨fd85, F85⟩ := c.def_ 85 rfl
  obtain ⟨fd86, F86⟩ := c.def_ 86 rfl
  obtain ⟨fd87, F87⟩ := c.def_ 87 rfl
  obtain ⟨fd88, F88⟩ := c.def_ 88 rfl
  obtain ⟨fd89, F89⟩ := c.def_ 89 rfl
  obtain ⟨fd90, F90⟩ := c.def_ 90 rfl
  obtain ⟨fd91, F91⟩ := c.def_ 91 rfl
  obtain ⟨fd92, F92⟩ := c.def_ 92 rfl
  obtain ⟨fd93, F93⟩ := c.def_ 93 rfl
  obtain ⟨fd94, F94⟩ := c.def_ 94 rfl
  obtain ⟨fd95, F95⟩ := c.def_ 95 rfl
  obtain ⟨fd96, F96⟩ := c.def_ 96 rfl
  obtain ⟨fd97, F97⟩ := c.def_ 97 rfl
  obtain ⟨fd98, F98⟩ := c.def_ 98 rfl
  obtain ⟨fd99, F99⟩ := c.def_ 99 rfl
  obtain ⟨fd100, F100⟩ := c.def_ 100 rfl
  obtain ⟨fd101, F101⟩ := c.def_ 101 rfl
  obtain ⟨fd102, F102⟩ := c.def_ 102 rfl
  obtain ⟨fd103, F103⟩ := c.def_ 103 rfl
  obtain ⟨fd104, F104⟩ := c.def_ 104 rfl
  obtain ⟨fd105, F105⟩ := c.def_ 105 rfl
  obtain ⟨fd106, F106⟩ := c.def_ 106 rfl
  obtain ⟨fd107, F107⟩ := c.def_ 107 rfl
  obtain ⟨fd108, F108⟩ := c.def_ 108 rfl
  obtain ⟨fd109, F109⟩ := c.def_ 109 rfl
  obtain ⟨fd110, F110⟩ := c.def_ 110 rfl
  obtain ⟨fd111, F111⟩ := c.def_ 111 rfl
  obtain ⟨fd112, F112⟩ := c.def_ 112 rfl
  obtain ⟨fd113, F113⟩ := c.def_ 113 rfl
  obtain ⟨fd114, F114⟩ := c.def_ 114 rfl
  obtain ⟨fd115, F115⟩ := c.def_ 115 rfl
  obtain ⟨fd116, F116⟩ := c.def_ 116 rfl
  obtain ⟨fd117, F117⟩ := c.def_ 117 rfl
  obtain ⟨fd118, F118⟩ := c.def_ 118 rfl
  obtain ⟨fd119, F119⟩ := c.def_ 119 rfl
  obtain ⟨fd120, F120⟩ := c.def_ 120 rfl
  obtain ⟨fd121, F121⟩ := c.def_ 121 rfl
  exact ⟨⟨PySem.W.mg_none_of X G (c.at 0 rfl), PySem.W.mg_none_of X G (c.at 1 rfl), PySem.W.mg_none_of X G (c.at 2 rfl), PySem.W.mg_none_of X G (c.at 3 rfl), PySem.W.mg_none_of X G (c.at 4 rfl), PySem.W.mg_none_of X G (c.at 5 rfl), PySem.W.mg_none_of X G (c.at 6 rfl), PySem.W.mg_none_of X G (c.at 7 rfl), PySem.W.mg_none_of X G (c.at 8 rfl), PySem.W.mg_none_of X G (c.at 9 rfl), PySem.W.mg_none_of X G (c.at 10 rfl), PySem.W.mg_none_of X G (c.at 11 rfl), PySem.W.mg_none_of X G (c.at 12 rfl), PySem.W.mg_none_of X G (c.at 13 rfl), PySem.W.mg_none_of X G (c.at 14 rfl), PySem.W.mg_none_of X G (c.at 15 rfl), PySem.W.mg_none_of X G (c.at 16 rfl), PySem.W.mg_none_of X G (c.at 17 rfl), PySem.W.mg_none_of X G (c.at 18 rfl), PySem.W.mg_none_of X G (c.at 19 rfl), PySem.W.mg_none_of X G (c.at 20 rfl)⟩,
    ⟨⟨_, fd0, fun_of F0, PySem.W.mg_of X G (c.at 21 rfl)⟩⟩,
    ⟨⟨_, fd1, fun_of F1, PySem.W.mg_of X G (c.at 22 rfl)⟩⟩,
    ⟨⟨_, fd2, fun_of F2, PySem.W.mg_of X G (c.at 23 rfl)⟩⟩,
    ⟨⟨_, fd3, fun_of F3, PySem.W.mg_of X G (c.at 24 rfl)⟩⟩,
    ⟨⟨_, fd4, fun_of F4, PySem.W.mg_of X G (c.at 25 rfl)⟩⟩,
    ⟨⟨_, fd5, fun_of F5, PySem.W.mg_of X G (c.at 26 rfl)⟩⟩,
    ⟨⟨_, fd6, fun_of F6, PySem.W.mg_of X G (c.at 27 rfl)⟩⟩,
    ⟨⟨_, fd7, fun_of F7, PySem.W.mg_of X G (c.at 28 rfl)⟩⟩,
    ⟨⟨_, fd8, F8, (c.at 29 rfl), (c.at 30 rfl)⟩⟩,
    ⟨⟨_, fd9, F9, (c.at 31 rfl), (c.at 32 rfl)⟩⟩,
    ⟨⟨_, fd10, F10, (c.at 33 rfl), (c.at 34 rfl)⟩⟩,
    ⟨⟨_, fd11, F11, (c.at 35 rfl), (c.at 36 rfl)⟩⟩,
    ⟨⟨_, fd12, F12, (c.at 37 rfl), (c.at 38 rfl)⟩⟩,
    ⟨⟨_, fd13, F13, (c.at 39 rfl), (c.at 40 rfl)⟩⟩,
    ⟨⟨_, fd14, F14, (c.at 41 rfl), (c.at 42 rfl)⟩⟩,
    ⟨⟨_, fd15, F15, (c.at 43 rfl), (c.at 44 rfl)⟩⟩,
    ⟨⟨_, fd16, F16, (c.at 45 rfl), (c.at 46 rfl)⟩⟩,
    ⟨⟨_, fd17, F17, (c.at 47 rfl), (c.at 48 rfl)⟩⟩,
    ⟨⟨_, fd18, F18, (c.at 49 rfl), (c.at 50 rfl)⟩⟩,
    ⟨⟨_, fd19, F19, (c.at 51 rfl), (c.at 52 rfl)⟩⟩,
    ⟨⟨_, fd20, F20, (c.at 53 rfl), (c.at 54 rfl)⟩⟩,
    ⟨⟨_, fd21, fun_of F21, PySem.W.mg_of X G (c.at 55 rfl)⟩⟩,
    ⟨⟨_, fd22, fun_of F22, PySem.W.mg_of X G (c.at 56 rfl)⟩⟩,
    ⟨⟨_, fd23, fun_of F23, PySem.W.mg_of X G (c.at 57 rfl)⟩⟩,
    ⟨⟨_, fd24, fun_of F24, PySem.W.mg_of X G (c.at 58 rfl)⟩⟩,
    ⟨⟨_, fd25, fun_of F25, PySem.W.mg_of X G (c.at 59 rfl)⟩⟩,
    ⟨⟨_, fd26, F26, (c.at 60 rfl), (c.at 61 rfl)⟩⟩,
    ⟨⟨_, fd27, F27, (c.at 62 rfl), (c.at 63 rfl)⟩⟩,
    ⟨⟨_, fd28, F28, (c.at 64 rfl), (c.at 65 rfl)⟩⟩,
    ⟨⟨_, fd29, F29, (c.at 66 rfl), (c.at 67 rfl)⟩⟩,
    ⟨⟨_, fd30, F30, (c.at 68 rfl), (c.at 69 rfl)⟩⟩,
    ⟨⟨_, fd31, F31, (c.at 70 rfl), (c.at 71 rfl)⟩⟩,
    ⟨⟨_, fd32, F32, (c.at 72 rfl), (c.at 73 rfl)⟩⟩,
    ⟨⟨_, fd33, F33, (c.at 74 rfl), (c.at 75 rfl)⟩⟩,
    ⟨⟨_, fd34, F34, (c.at 76 rfl), (c.at 77 rfl)⟩⟩,
    ⟨⟨_, fd35, F35, (c.at 78 rfl), (c.at 79 rfl)⟩⟩,
    ⟨⟨_, fd36, F36, (c.at 80 rfl), (c.at 81 rfl)⟩⟩,
    ⟨⟨_, fd37, F37, (c.at 82 rfl), (c.at 83 rfl)⟩⟩,
    ⟨⟨_, fd38, F38, (c.at 84 rfl), (c.at 85 rfl)⟩⟩,
    ⟨⟨_, fd39, F39, (c.at 86 rfl), (c.at 87 rfl)⟩⟩,
    ⟨⟨_, fd40, F40, (c.at 88 rfl), (c.at 89 rfl)⟩⟩,
    ⟨⟨_, fd41, F41, (c.at 90 rfl), (c.at 91 rfl)⟩⟩,
    ⟨⟨_, fd42, F42, (c.at 92 rfl), (c.at 93 rfl)⟩⟩,
    ⟨⟨_, fd43, F43, (c.at 94 rfl), (c.at 95 rfl)⟩⟩,
    ⟨⟨_, fd44, F44, (c.at 96 rfl), (c.at 97 rfl)⟩⟩,
    ⟨⟨_, fd45, F45, (c.at 98 rfl), (c.at 99 rfl)⟩⟩,
    ⟨⟨_, fd46, F46, (c.at 100 rfl), (c.at 101 rfl)⟩⟩,
    ⟨⟨_, fd47, F47, (c.at 102 rfl), (c.at 103 rfl)⟩⟩,
    ⟨⟨_, fd48, F48, (c.at 104 rfl), (c.at 105 rfl)⟩⟩,
    ⟨⟨_, fd49, F49, (c.at 106 rfl), (c.at 107 rfl)⟩⟩,
    ⟨⟨_, fd50, F50, (c.at 108 rfl), (c.at 109 rfl)⟩⟩,
    ⟨⟨_, fd51, F51, (c.at 110 rfl), (c.at 111 rfl)⟩⟩,
    ⟨⟨_, fd52, F52, (c.at 112 rfl), (c.at 113 rfl)⟩⟩,
    ⟨⟨_, fd53, F53, (c.at 114 rfl), (c.at 115 rfl)⟩⟩,
    ⟨⟨_, fd54, F54, (c.at 116 rfl), (c.at 117 rfl)⟩⟩,
    ⟨⟨_, fd55, F55, (c.at 118 rfl), (c.at 119 rfl)⟩⟩,
    ⟨⟨_, fd56, F56, (c.at 120 rfl), (c.at 121 rfl)⟩⟩,
    ⟨⟨_, fd57, F57, (c.at 122 rfl), (c.at 123 rfl)⟩⟩,
    ⟨⟨_, fd58, F58, (c.at 124 rfl), (c.at 125 rfl)⟩⟩,
    ⟨⟨_, fd59, F59, (c.at 126 rfl), (c.at 127 rfl)⟩⟩,
    ⟨⟨_, fd60, F60, (c.at 128 rfl), (c.at 129 rfl)⟩⟩,
    ⟨⟨_, fd61, F61, (c.at 130 rfl), (c.at 131 rfl)⟩⟩,
    ⟨⟨_, fd62, F62, (c.at 132 rfl), (c.at 133 rfl)⟩⟩,
    ⟨⟨_, fd63, F63, (c.at 134 rfl), (c.at 135 rfl)⟩⟩,
    ⟨⟨_, fd64, F64, (c.at 136 rfl), (c.at 137 rfl)⟩⟩,
    ⟨⟨_, fd65, F65, (c.at 138 rfl), (c.at 139 rfl)⟩⟩,
    ⟨⟨_, fd66, F66, (c.at 140 rfl), (c.at 141 rfl)⟩⟩,
    ⟨⟨_, fd67, F67, (c.at 142 rfl), (c.at 143 rfl)⟩⟩,
    ⟨⟨_, fd68, F68, (c.at 144 rfl), (c.at 145 rfl)⟩⟩,
    ⟨⟨_, fd69, F69, (c.at 146 rfl), (c.at 147 rfl)⟩⟩,
    ⟨⟨_, fd70, F70, (c.at 148 rfl), (c.at 149 rfl)⟩⟩,
    ⟨⟨_, fd71, F71, (c.at 150 rfl), (c.at 151 rfl)⟩⟩,
    ⟨⟨_, fd72, F72, (c.at 152 rfl), (c.at 153 rfl)⟩⟩,
    ⟨⟨_, fd73, F73, (c.at 154 rfl), (c.at 155 rfl)⟩⟩,
    ⟨⟨_, fd74, F74, (c.at 156 rfl), (c.at 157 rfl)⟩⟩,
    ⟨⟨_, fd75, F75, (c.at 158 rfl), (c.at 159 rfl)⟩⟩,
    ⟨⟨_, fd76, F76, (c.at 160 rfl), (c.at 161 rfl)⟩⟩,
    ⟨⟨_, fd77, F77, (c.at 162 rfl), (c.at 163 rfl)⟩⟩,
    ⟨⟨_, fd78, F78, (c.at 164 rfl), (c.at 165 rfl)⟩⟩,
    ⟨⟨_, fd79, F79, (c.at 166 rfl), (c.at 167 rfl)⟩⟩,
    ⟨⟨_, fd80, F80, (c.at 168 rfl), (c.at 169 rfl)⟩⟩,
    ⟨⟨_, fd81, F81, (c.at 170 rfl), (c.at 171 rfl)⟩⟩,
    ⟨⟨_, fd82, F82, (c.at 172 rfl), (c.at 173 rfl)⟩⟩,
    ⟨⟨_, fd83, F83, (c.at 174 rfl), (c.at 175 rfl)⟩⟩,
    ⟨⟨_, fd84, F84, (c.at 176 rfl), (c.at 177 rfl)⟩⟩,
    ⟨⟨_, fd85, F85, (c.at 178 rfl), (c.at 179 rfl)⟩⟩,
    ⟨⟨_, fd86, F86, (c.at 180 rfl), (c.at 181 rfl)⟩⟩,
    ⟨⟨_, fd87, F87, (c.at 182 rfl), (c.at 183 rfl)⟩⟩,
    ⟨⟨_, fd88, F88, (c.at 184 rfl), (c.at 185 rfl)⟩⟩,
    ⟨⟨_, fd89, F89, (c.at 186 rfl), (c.at 187 rfl)⟩⟩,
    ⟨⟨_, fd90, F90, (c.at 188 rfl), (c.at 189 rfl)⟩⟩,
    ⟨⟨_, fd91, F91, (c.at 190 rfl), (c.at 191 rfl)⟩⟩,
    ⟨⟨_, fd92, F92, (c.at 192 rfl), (c.at 193 rfl)⟩⟩,
    ⟨⟨_, fd93, F93, (c.at 194 rfl), (c.at 195 rfl)⟩⟩,
    ⟨⟨_, fd94, F94, (c.at 196 rfl), (c.at 197 rfl)⟩⟩,
    ⟨⟨_, fd95, F95, (c.at 198 rfl), (c.at 199 rfl)⟩⟩,
    ⟨⟨_, fd96, F96, (c.at 200 rfl), (c.at 201 rfl)⟩⟩,
    ⟨⟨_, fd97, F97, (c.at 202 rfl), (c.at 203 rfl)⟩⟩,
    ⟨⟨_, fd98, F98, (c.at 204 rfl), (c.at 205 rfl)⟩⟩,
    ⟨⟨_, fd99, F99, (c.at 206 rfl), (c.at 207 rfl)⟩⟩,
    ⟨⟨_, fd100, F100, (c.at 208 rfl), (c.at 209 rfl)⟩⟩,
    ⟨⟨_, fd101, F101, (c.at 210 rfl), (c.at 211 rfl)⟩⟩,
    ⟨⟨_, fd102, F102, (c.at 212 rfl), (c.at 213 rfl)⟩⟩,
    ⟨⟨_, fd103, F103, (c.at 214 rfl), (c.at 215 rfl)⟩⟩,
    ⟨⟨_, fd104, F104, (c.at 216 rfl), (c.at 217 rfl)⟩⟩,
    ⟨⟨_, fd105, F105, (c.at 218 rfl), (c.at 219 rfl)⟩⟩,
    ⟨⟨_, fd106, F106, (c.at 220 rfl), (c.at 221 rfl)⟩⟩,
    ⟨⟨_, fd107, F107, (c.at 222 rfl), (c.at 223 rfl)⟩⟩,
    ⟨⟨_, fd108, F108, (c.at 224 rfl), (c.at 225 rfl)⟩⟩,
    ⟨⟨_, fd109, F109, (c.at 226 rfl), (c.at 227 rfl)⟩⟩,
    ⟨⟨_, fd110, F110, (c.at 228 rfl), (c.at 229 rfl)⟩⟩,
    ⟨⟨_, fd111, F111, (c.at 230 rfl), (c.at 231 rfl)⟩⟩,
    ⟨⟨_, fd112, F112, (c.at 232 rfl), (c.at 233 rfl)⟩⟩,
    ⟨⟨_, fd113, F113, (c.at 234 rfl), (c.at 235 rfl)⟩⟩,
    ⟨⟨_, fd114, F114, (c.at 236 rfl), (c.at 237 rfl)⟩⟩,
    ⟨⟨_, fd115, F115, (c.at 238 rfl), (c.at 239 rfl)⟩⟩,
    ⟨⟨_, fd116, F116, (c.at 240 rfl), (c.at 241 rfl)⟩⟩,
    ⟨⟨_, fd117, F117, (c.at 242 rfl), (c.at 243 rfl)⟩⟩,
    ⟨⟨_, fd118, F118, (c.at 244 rfl), (c.at 245 rfl)⟩⟩,
    ⟨⟨_, fd119, F119, (c.at 246 rfl), (c.at 247 rfl)⟩⟩,
    ⟨⟨_, fd120, F120, (c.at 248 rfl), (c.at 249 rfl)⟩⟩,
    ⟨⟨_, fd121, F121, (c.at 250 rfl), (c.at 251 rfl)⟩⟩,
    ⟨PySem.W.mg_of X G (c.at 252 rfl), ⟨⟨(c.at 253 rfl), (c.at 254 rfl), (c.at 255 rfl), (c.at 256 rfl)⟩, (c.at 257 rfl), (c.at 258 rfl), (c.at 259 rfl), (c.at 260 rfl)⟩, (c.at 261 rfl), (c.at 262 rfl)⟩,
    ⟨PySem.W.mg_of X G (c.at 263 rfl), ⟨⟨(c.at 264 rfl), (c.at 265 rfl), (c.at 266 rfl), (c.at 267 rfl)⟩, (c.at 268 rfl), (c.at 258 rfl), (c.at 259 rfl), (c.at 269 rfl)⟩, (c.at 270 rfl), (c.at 271 rfl)⟩,
    ⟨PySem.W.mg_of X G (c.at 272 rfl), ⟨⟨(c.at 273 rfl), (c.at 274 rfl), (c.at 275 rfl), (c.at 276 rfl)⟩, (c.at 277 rfl), (c.at 258 rfl), (c.at 259 rfl), (c.at 278 rfl)⟩, (c.at 279 rfl), (c.at 280 rfl)⟩,
    ⟨PySem.W.mg_of X G (c.at 281 rfl), ⟨⟨(c.at 282 rfl), (c.at 283 rfl), (c.at 284 rfl), (c.at 285 rfl)⟩, (c.at 286 rfl), (c.at 258 rfl), (c.at 259 rfl), (c.at 287 rfl)⟩, (c.at 288 rfl), (c.at 289 rfl)⟩,
    ⟨PySem.W.mg_of X G (c.at 290 rfl), ⟨⟨(c.at 291 rfl), (c.at 292 rfl), (c.at 293 rfl), (c.at 294 rfl)⟩, (c.at 295 rfl), (c.at 258 rfl), (c.at 259 rfl), (c.at 296 rfl)⟩, (c.at 297 rfl), (c.at 298 rfl)⟩,
    ⟨PySem.W.mg_of X G (c.at 299 rfl), ⟨⟨(c.at 300 rfl), (c.at 301 rfl), (c.at 302 rfl), (c.at 303 rfl)⟩, (c.at 304 rfl), (c.at 258 rfl), (c.at 259 rfl), (c.at 305 rfl)⟩, (c.at 306 rfl), (c.at 307 rfl)⟩,
    ⟨PySem.W.mg_of X G (c.at 308 rfl), ⟨⟨(c.at 309 rfl), (c.at 310 rfl), (c.at 311 rfl), (c.at 312 rfl)⟩, (c.at 313 rfl), (c.at 258 rfl), (c.at 259 rfl), (c.at 314 rfl)⟩, (c.at 315 rfl), (c.at 316 rfl)⟩,
    ⟨PySem.W.mg_of X G (c.at 317 rfl), ⟨⟨(c.at 318 rfl), (c.at 319 rfl), (c.at 320 rfl), (c.at 321 rfl)⟩, (c.at 322 rfl), (c.at 258 rfl), (c.at 259 rfl), (c.at 323 rfl)⟩, (c.at 324 rfl), (c.at 325 rfl)⟩,
    ⟨PySem.W.mg_of X G (c.at 326 rfl), ⟨⟨(c.at 327 rfl), (c.at 328 rfl), (c.at 329 rfl), (c.at 330 rfl)⟩, (c.at 331 rfl), (c.at 258 rfl), (c.at 259 rfl), (c.at 332 rfl)⟩, (c.at 333 rfl), (c.at 334 rfl)⟩,
    ⟨PySem.W.mg_of X G (c.at 335 rfl), ⟨⟨(c.at 336 rfl), (c.at 337 rfl), (c.at 338 rfl), (c.at 339 rfl)⟩, (c.at 340 rfl), (c.at 258 rfl), (c.at 259 rfl), (c.at 341 rfl)⟩, (c.at 342 rfl), (c.at 343 rfl)⟩,
    ⟨PySem.W.mg_of X G (c.at 344 rfl), ⟨⟨(c.at 345 rfl), (c.at 346 rfl), (c.at 347 rfl), (c.at 348 rfl)⟩, (c.at 349 rfl), (c.at 258 rfl), (c.at 259 rfl), (c.at 350 rfl)⟩, (c.at 351 rfl), (c.at 352 rfl)⟩,
    ⟨PySem.W.mg_of X G (c.at 353 rfl), ⟨⟨(c.at 354 rfl), (c.at 355 rfl), (c.at 356 rfl), (c.at 357 rfl)⟩, (c.at 358 rfl), (c.at 258 rfl), (c.at 259 rfl), (c.at 359 rfl)⟩, (c.at 360 rfl), (c.at 361 rfl)⟩,
    ⟨PySem.W.mg_of X G (c.at 362 rfl), ⟨⟨(c.at 363 rfl), (c.at 364 rfl), (c.at 365 rfl), (c.at 366 rfl)⟩, (c.at 367 rfl), (c.at 258 rfl), (c.at 259 rfl), (c.at 368 rfl)⟩, (c.at 369 rfl), (c.at 370 rfl)⟩,
    ⟨PySem.W.mg_of X G (c.at 371 rfl)⟩,
    ⟨PySem.W.mg_of X G (c.at 372 rfl)⟩,
    ⟨oexB_ok (c.fact 373 rfl), (c.at 374 rfl), (c.at 375 rfl), (c.at 376 rfl), (c.at 377 rfl)⟩,
    (c.at 378 rfl),
    (c.at 379 rfl),
    (c.at 380 rfl),
    (c.at 381 rfl),
    (c.at 382 rfl),
    (c.at 383 rfl),
    (c.at 384 rfl),
    (c.at 385 rfl),
    (c.at 386 rfl),
    (c.at 387 rfl),
    (c.at 388 rfl),
    (c.at 389 rfl),
    (c.at 390 rfl),
    ⟨⟨(c.at 264 rfl), (c.at 265 rfl), (c.at 266 rfl), (c.at 267 rfl)⟩, (show PySem.W.findIn K (.ref (He.ga K "Both")) "left" = some none from (c.at 391 rfl))⟩,
    ⟨⟨(c.at 264 rfl), (c.at 265 rfl), (c.at 266 rfl), (c.at 267 rfl)⟩, (show PySem.W.findIn K (.ref (He.ga K "Both")) "right" = some none from (c.at 392 rfl))⟩,
    (c.at 393 rfl),
    (c.at 394 rfl),
    (c.at 395 rfl),
    (c.at 396 rfl),
    (c.at 397 rfl),
    (c.at 398 rfl),
    (c.at 399 rfl),
    (c.at 400 rfl),
    (c.at 401 rfl),
    (c.at 402 rfl),
    (c.at 403 rfl),
    (c.at 404 rfl),
    (c.at 405 rfl),
    (c.at 406 rfl),
    (c.at 407 rfl),
    ⟨⟨(c.at 273 rfl), (c.at 274 rfl), (c.at 275 rfl), (c.at 276 rfl)⟩, (show PySem.W.findIn K (.ref (He.ga K "Either")) "left" = some none from (c.at 408 rfl))⟩,
    ⟨⟨(c.at 273 rfl), (c.at 274 rfl), (c.at 275 rfl), (c.at 276 rfl)⟩, (show PySem.W.findIn K (.ref (He.ga K "Either")) "right" = some none from (c.at 409 rfl))⟩,
    (c.at 410 rfl),
    (c.at 411 rfl),
    (c.at 412 rfl),
    (c.at 413 rfl),
    (c.at 414 rfl),
    (c.at 415 rfl),
    (c.at 416 rfl),
    (c.at 417 rfl),
    (c.at 418 rfl),
    (c.at 419 rfl),
    (c.at 420 rfl),
    (c.at 421 rfl),
    (c.at 422 rfl),
    (c.at 423 rfl),
    (c.at 424 rfl),
    ⟨⟨(c.at 282 rfl), (c.at 283 rfl), (c.at 284 rfl), (c.at 285 rfl)⟩, (show PySem.W.findIn K (.ref (He.ga K "Inverse")) "inner" = some none from (c.at 425 rfl))⟩,
    (c.at 426 rfl),
    (c.at 427 rfl),
    (c.at 428 rfl),
    (c.at 429 rfl),
    (c.at 430 rfl),
    (c.at 431 rfl),
    (c.at 432 rfl),
    (c.at 433 rfl),
    (c.at 434 rfl),
    (c.at 435 rfl),
    (c.at 436 rfl),
    (c.at 437 rfl),
    (c.at 438 rfl),
    (c.at 439 rfl),
    (c.at 440 rfl),
    ⟨⟨(c.at 291 rfl), (c.at 292 rfl), (c.at 293 rfl), (c.at 294 rfl)⟩, (show PySem.W.findIn K (.ref (He.ga K "Kind")) "name" = some none from (c.at 441 rfl))⟩,
    (c.at 442 rfl),
    (c.at 443 rfl),
    (c.at 444 rfl),
    (c.at 445 rfl),
    (c.at 446 rfl),
    (c.at 447 rfl),
    (c.at 448 rfl),
    (c.at 449 rfl),
    (c.at 450 rfl),
    (c.at 451 rfl),
    (c.at 452 rfl),
    (c.at 453 rfl),
    (c.at 454 rfl),
    (c.at 455 rfl),
    (c.at 456 rfl),
    ⟨⟨(c.at 300 rfl), (c.at 301 rfl), (c.at 302 rfl), (c.at 303 rfl)⟩, (show PySem.W.findIn K (.ref (He.ga K "Equals")) "atom" = some none from (c.at 457 rfl))⟩,
    (c.at 458 rfl),
    (c.at 459 rfl),
    (c.at 460 rfl),
    (c.at 461 rfl),
    (c.at 462 rfl),
    (c.at 463 rfl),
    (c.at 464 rfl),
    (c.at 465 rfl),
    (c.at 466 rfl),
    (c.at 467 rfl),
    (c.at 468 rfl),
    (c.at 469 rfl),
    (c.at 470 rfl),
    (c.at 471 rfl),
    (c.at 472 rfl),
    ⟨⟨(c.at 309 rfl), (c.at 310 rfl), (c.at 311 rfl), (c.at 312 rfl)⟩, (show PySem.W.findIn K (.ref (He.ga K "Size")) "count" = some none from (c.at 473 rfl))⟩,
    (c.at 474 rfl),
    (c.at 475 rfl),
    (c.at 476 rfl),
    (c.at 477 rfl),
    (c.at 478 rfl),
    (c.at 479 rfl),
    (c.at 480 rfl),
    (c.at 481 rfl),
    (c.at 482 rfl),
    (c.at 483 rfl),
    (c.at 484 rfl),
    (c.at 485 rfl),
    (c.at 486 rfl),
    (c.at 487 rfl),
    (c.at 488 rfl),
    ⟨⟨(c.at 318 rfl), (c.at 319 rfl), (c.at 320 rfl), (c.at 321 rfl)⟩, (show PySem.W.findIn K (.ref (He.ga K "Has")) "key" = some none from (c.at 489 rfl))⟩,
    (c.at 490 rfl),
    (c.at 491 rfl),
    (c.at 492 rfl),
    (c.at 493 rfl),
    (c.at 494 rfl),
    (c.at 495 rfl),
    (c.at 496 rfl),
    (c.at 497 rfl),
    (c.at 498 rfl),
    (c.at 499 rfl),
    (c.at 500 rfl),
    (c.at 501 rfl),
    (c.at 502 rfl),
    (c.at 503 rfl),
    (c.at 504 rfl),
    ⟨⟨(c.at 327 rfl), (c.at 328 rfl), (c.at 329 rfl), (c.at 330 rfl)⟩, (show PySem.W.findIn K (.ref (He.ga K "Item")) "key" = some none from (c.at 505 rfl))⟩,
    ⟨⟨(c.at 327 rfl), (c.at 328 rfl), (c.at 329 rfl), (c.at 330 rfl)⟩, (show PySem.W.findIn K (.ref (He.ga K "Item")) "label" = some none from (c.at 506 rfl))⟩,
    (c.at 507 rfl),
    (c.at 508 rfl),
    (c.at 509 rfl),
    (c.at 510 rfl),
    (c.at 511 rfl),
    (c.at 512 rfl),
    (c.at 513 rfl),
    (c.at 514 rfl),
    (c.at 515 rfl),
    (c.at 516 rfl),
    (c.at 517 rfl),
    (c.at 518 rfl),
    (c.at 519 rfl),
    (c.at 520 rfl),
    (c.at 521 rfl),
    ⟨⟨(c.at 336 rfl), (c.at 337 rfl), (c.at 338 rfl), (c.at 339 rfl)⟩, (show PySem.W.findIn K (.ref (He.ga K "Before")) "first" = some none from (c.at 522 rfl))⟩,
    ⟨⟨(c.at 336 rfl), (c.at 337 rfl), (c.at 338 rfl), (c.at 339 rfl)⟩, (show PySem.W.findIn K (.ref (He.ga K "Before")) "second" = some none from (c.at 523 rfl))⟩,
    (c.at 524 rfl),
    (c.at 525 rfl),
    (c.at 526 rfl),
    (c.at 527 rfl),
    (c.at 528 rfl),
    (c.at 529 rfl),
    (c.at 530 rfl),
    (c.at 531 rfl),
    (c.at 532 rfl),
    (c.at 533 rfl),
    (c.at 534 rfl),
    (c.at 535 rfl),
    (c.at 536 rfl),
    (c.at 537 rfl),
    (c.at 538 rfl),
    ⟨⟨(c.at 345 rfl), (c.at 346 rfl), (c.at 347 rfl), (c.at 348 rfl)⟩, (show PySem.W.findIn K (.ref (He.ga K "First")) "label" = some none from (c.at 539 rfl))⟩,
    (c.at 540 rfl),
    (c.at 541 rfl),
    (c.at 542 rfl),
    (c.at 543 rfl),
    (c.at 544 rfl),
    (c.at 545 rfl),
    (c.at 546 rfl),
    (c.at 547 rfl),
    (c.at 548 rfl),
    (c.at 549 rfl),
    (c.at 550 rfl),
    (c.at 551 rfl),
    (c.at 552 rfl),
    (c.at 553 rfl),
    (c.at 554 rfl),
    ⟨⟨(c.at 354 rfl), (c.at 355 rfl), (c.at 356 rfl), (c.at 357 rfl)⟩, (show PySem.W.findIn K (.ref (He.ga K "Every")) "label" = some none from (c.at 555 rfl))⟩,
    (c.at 556 rfl),
    (c.at 557 rfl),
    (c.at 558 rfl),
    (c.at 559 rfl),
    (c.at 560 rfl),
    (c.at 561 rfl),
    (c.at 562 rfl),
    (c.at 563 rfl),
    (c.at 564 rfl),
    (c.at 565 rfl),
    (c.at 566 rfl),
    (c.at 567 rfl),
    (c.at 568 rfl),
    (c.at 569 rfl),
    (c.at 570 rfl),
    ⟨⟨(c.at 363 rfl), (c.at 364 rfl), (c.at 365 rfl), (c.at 366 rfl)⟩, (show PySem.W.findIn K (.ref (He.ga K "Some")) "label" = some none from (c.at 571 rfl))⟩,
    (c.at 572 rfl),
    (c.at 573 rfl),
    (c.at 574 rfl),
    (c.at 575 rfl),
    (c.at 576 rfl),
    (c.at 577 rfl),
    (c.at 578 rfl),
    (c.at 579 rfl),
    (c.at 580 rfl),
    (c.at 581 rfl),
    (c.at 582 rfl),
    (c.at 583 rfl),
    (c.at 584 rfl),
    (c.at 585 rfl),
    (c.at 586 rfl),
    ⟨(c.at 587 rfl), (c.at 588 rfl), (c.at 375 rfl), (c.at 589 rfl), (c.at 590 rfl), (c.at 258 rfl), (c.at 259 rfl), (c.at 591 rfl)⟩,
    (c.at 592 rfl),
    gloB_ok (t := .tup [.str "null", .str "true", .str "false", .str "integer", .str "text", .str "list", .str "tuple", .str "table"]) X G (c.fact 593 rfl),
    gloB_ok (t := .int 4) X G (c.fact 594 rfl)⟩
theorem lawK {P : Program} {w : World} {K : PySem.W.Frag} {mg : Str → Option Value} {A : Adr} (T : Top K mg A) (base : Heap) : CalleeT P w K mg base 37 "law" ["_law_script"] (sp_law) := by
  have C__law_draw := ok__law_draw (P := P) (w := w) (base := base) (k := 0) T 
  have C__law_some := ok__law_some (P := P) (w := w) (base := base) (k := 1) T (C__law_draw.lift (by decide : 1 ≤ 1))
  have C__law_ask := ok__law_ask (P := P) (w := w) (base := base) (k := 2) T (C__law_draw.lift (by decide : 1 ≤ 2)) (C__law_some.lift (by decide : 2 ≤ 2))
  have C__law_draws := ok__law_draws (P := P) (w := w) (base := base) (k := 0) T 
  have C__law_integer := ok__law_integer (P := P) (w := w) (base := base) (k := 2) T (C__law_draw.lift (by decide : 1 ≤ 2)) (C__law_some.lift (by decide : 2 ≤ 2))
  have C__law_joined := ok__law_joined (P := P) (w := w) (base := base) (k := 3) T (C__law_ask.lift (by decide : 3 ≤ 3)) (C__law_draw.lift (by decide : 1 ≤ 3)) (C__law_some.lift (by decide : 2 ≤ 3))
  have C__law_text := ok__law_text (P := P) (w := w) (base := base) (k := 2) T (C__law_draw.lift (by decide : 1 ≤ 2)) (C__law_some.lift (by decide : 2 ≤ 2))
  have C__law_keys := ok__law_keys (P := P) (w := w) (base := base) (k := 3) T (C__law_draw.lift (by decide : 1 ≤ 3)) (C__law_integer.lift (by decide : 3 ≤ 3)) (C__law_text.lift (by decide : 3 ≤ 3))
  have C_Before := ok_Before___init__ (P := P) (w := w) (base := base) (k := 0) T 
  have C_Equals := ok_Equals___init__ (P := P) (w := w) (base := base) (k := 0) T 
  have C_Every := ok_Every___init__ (P := P) (w := w) (base := base) (k := 0) T 
  have C_First := ok_First___init__ (P := P) (w := w) (base := base) (k := 0) T 
  have C_Has := ok_Has___init__ (P := P) (w := w) (base := base) (k := 0) T 
  have C_Item := ok_Item___init__ (P := P) (w := w) (base := base) (k := 0) T 
  have X_BadCondition := ok_BadCondition___init__ (P := P) (w := w) (base := base) (k := 0) T
  have C_Kind := ok_Kind___init__ (P := P) (w := w) (base := base) (k := 1) T (X_BadCondition.lift (by decide : 1 ≤ 1))
  have C_Size := ok_Size___init__ (P := P) (w := w) (base := base) (k := 1) T (X_BadCondition.lift (by decide : 1 ≤ 1))
  have C_Some := ok_Some___init__ (P := P) (w := w) (base := base) (k := 0) T 
  have C_Both := ok_Both___init__ (P := P) (w := w) (base := base) (k := 0) T 
  have V___and__ := okv___and__ (P := P) (w := w) (base := base) (k := 1) T (C_Both.lift (by decide : 1 ≤ 1))
  have C_Inverse := ok_Inverse___init__ (P := P) (w := w) (base := base) (k := 0) T 
  have V___invert__ := okv___invert__ (P := P) (w := w) (base := base) (k := 1) T (C_Inverse.lift (by decide : 1 ≤ 1))
  have C_Either := ok_Either___init__ (P := P) (w := w) (base := base) (k := 0) T 
  have V___or__ := okv___or__ (P := P) (w := w) (base := base) (k := 1) T (C_Either.lift (by decide : 1 ≤ 1))
  have C__law_made := ok__law_made (P := P) (w := w) (base := base) (k := 3) T (C_Before.lift (by decide : 1 ≤ 3)) (C_Equals.lift (by decide : 1 ≤ 3)) (C_Every.lift (by decide : 1 ≤ 3)) (C_First.lift (by decide : 1 ≤ 3)) (C_Has.lift (by decide : 1 ≤ 3)) (C_Item.lift (by decide : 1 ≤ 3)) (C_Kind.lift (by decide : 3 ≤ 3)) (C_Size.lift (by decide : 3 ≤ 3)) (C_Some.lift (by decide : 1 ≤ 3)) (fun τ C h => (V___and__ τ C h).lift (by decide : 3 ≤ 3)) (fun τ C h => (V___invert__ τ C h).lift (by decide : 3 ≤ 3)) (fun τ C h => (V___or__ τ C h).lift (by decide : 3 ≤ 3)) 16
  have C__law_leaves := ok__law_leaves (P := P) (w := w) (base := base) (k := 0) T  16
  have C__law_mentions := ok__law_mentions (P := P) (w := w) (base := base) (k := 16) T (C__law_leaves.lift (by decide : 16 ≤ 16))
  have C_without_repeats := ok_without_repeats (P := P) (w := w) (base := base) (k := 0) T 
  have V_leaves := okv_leaves (P := P) (w := w) (base := base) (k := 0) T  16
  have V_own_keys := okv_own_keys (P := P) (w := w) (base := base) (k := 0) T 
  have V_key_list := okv_key_list (P := P) (w := w) (base := base) (k := 16) T (C_without_repeats.lift (by decide : 1 ≤ 16)) (fun τ C h => (V_leaves τ C h).lift (by decide : 16 ≤ 16)) (fun τ C h => (V_own_keys τ C h).lift (by decide : 1 ≤ 16))
  have V_own_labels := okv_own_labels (P := P) (w := w) (base := base) (k := 0) T 
  have V_label_list := okv_label_list (P := P) (w := w) (base := base) (k := 16) T (C_without_repeats.lift (by decide : 1 ≤ 16)) (fun τ C h => (V_leaves τ C h).lift (by decide : 16 ≤ 16)) (fun τ C h => (V_own_labels τ C h).lift (by decide : 1 ≤ 16))
  have C_law := ok_law (P := P) (w := w) (base := base) (k := 35) T (C__law_ask.lift (by decide : 3 ≤ 35)) (C__law_draws.lift (by decide : 1 ≤ 35)) (C__law_integer.lift (by decide : 3 ≤ 35)) (C__law_joined.lift (by decide : 4 ≤ 35)) (C__law_keys.lift (by decide : 4 ≤ 35)) (C__law_made.lift (by decide : 35 ≤ 35)) (C__law_mentions.lift (by decide : 17 ≤ 35)) (C__law_text.lift (by decide : 3 ≤ 35)) (fun τ C h => (V___and__ τ C h).lift (by decide : 3 ≤ 35)) (fun τ C h => (V___invert__ τ C h).lift (by decide : 3 ≤ 35)) (fun τ C h => (V___or__ τ C h).lift (by decide : 3 ≤ 35)) (fun τ C h => (V_key_list τ C h).lift (by decide : 17 ≤ 35)) (fun τ C h => (V_label_list τ C h).lift (by decide : 17 ≤ 35))
  exact C_law
theorem endK {w : World} {K : PySem.W.Frag} {h : Heap} {mg : Str → Option Value} {fa : Addr} (X : K.In h) (G : h.Ns mainGlobals mg) (hfa : mg "law" = some (.ref fa)) (c : SaysB fbK fnK K) : ∃ (K : PySem.W.Frag) (fd : FuncData) (sp : Sp), K.In h ∧ (∀ (s : Shared) (u : Value), BindsTo s fd ⟨[u], []⟩ [("_law_script", u)]) ∧ (∀ (H : Hp) (a : Addr) (ns : List Int), ns.length ≤ 63 → Only H → SqL K H a (ns.map V.int) → sp [.ref a] H (fun v _ => v = .bl true) fun _ _ _ => False) ∧ ∀ base : Heap, K.In base → base.Ns mainGlobals mg → FnOk PySem.Challenge.rw_keysthroughtext_k39_what_conditions_ment.prog w K mg base (L2N.CX PySem.Challenge.rw_keysthroughtext_k39_what_conditions_ment.prog w) 37 fa fd ["_law_script"] sp := by
  have T := topK X G c
  obtain ⟨f, fd, F, g⟩ := T.d_law.ex
  have e := hfa.symm.trans g
  cases e
  obtain ⟨oc, od, kV, doc, pm, an, cdv, ct, osl, rfl, lk, hcd⟩ := id F.ex
  exact ⟨K, _, lSp K sp_law, X, fun s v => .of_eq rfl, fun H a ns hl _ hS => law_start hl hS, fun base _ _ => calleeT_fn F g (lawK T base)⟩
end K39
open PySem PySem.W PySem.Calls PyProof.Rows
set_option maxRecDepth 100000 in
set_option maxHeartbeats 0 in
theorem PySem.Challenge.cw_keysthroughtext_k39_what_conditions_ment_holds : PySem.Challenge.rw_keysthroughtext_k39_what_conditions_ment.Holds := by
  refine K39.finK.2 ?_
  delta K39.finK
  dsimp only
  refine KQ.walk_ofW (l := PySem.Challenge.rw_keysthroughtext_k39_what_conditions_ment) (n := 63) (k := 37) (x := "_law_script") (CX := fun w => L2N.CX PySem.Challenge.rw_keysthroughtext_k39_what_conditions_ment.prog w) rfl (by decide) (by kernel_rfl) ⟨rfl, by decide, by decide⟩ ?F (fun _ _ _ _ _ h => KQ.law_noexc h)
  intro w mg fa h Y G hmg0
  obtain ⟨KX, c0⟩ := Y
  have c := K39.saysX w h c0
  have hmg : mg ("law" : PySem.Str) = some (.ref fa) := by
    have e : (HandSHeadRun.topDef (OpenLaw.row PySem.Challenge.rw_keysthroughtext_k39_what_conditions_ment).prog 33).name = ("law" : PySem.Str) := by kernel_rfl
    rw [← e]
    exact hmg0
  exact K39.endK KX G hmg c
