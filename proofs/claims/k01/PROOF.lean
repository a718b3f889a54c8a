import PyProof.Rows.All
import Wide.All
import OpenK.AllK
import Wide.FinOn
import HandS.ForMost
import HandS.Wide
import HandS.IsInst
import HandS.StrMore
import HandS.Style
import HandS.RaiseMore
import HandS.EndBits
import HandS.Deep
import HandS.ReplaceLit
import HandS.ReplaceList
import HandS.Defaults
import PySem.Challenge.RW_keysthroughtext_k01_kinds
set_option Elab.async false
set_option linter.all false
set_option maxRecDepth 100000
set_option maxHeartbeats 4000000
namespace KB
open PySem PySem.Spec PyProof.Rows L2
/-! ### defs of the module, called by name -/
structure Def (K : PySem.W.Frag) (mg : Str → Option Value) (x : Str) (st : Stmt) : Prop where
  ex : ∃ (f : Addr) (fd : FuncData), Fun K x x st f fd ∧ mg x = some (.ref f)
structure Callee (P : Program) (w : World) (K : PySem.W.Frag) (mg : Str → Option Value) (base : Heap) (k : Nat) (x : Str) (ps : List Str) (sp : Sp) : Prop where
  ex : ∃ (f : Addr) (fd : FuncData), mg x = some (.ref f) ∧ PySem.W.keepIn K (.ref f) = true ∧ Binds K fd ps [] ∧ FnOk P w K mg base CX0 k f fd ps sp ∧ ∃ oc od osl, K.lookup f = some ⟨oc, od, .func fd, osl⟩
section
variable {P : Program} {w : World} {K : PySem.W.Frag} {mg : Str → Option Value} {base : Heap}
theorem Def.ok {x : Str} {st : Stmt} {N ps : List Str} {k : Nat} {sp : Sp} (D : Def K mg x st) (S : FnScope N ps (defScope st))
    (hb : ∀ (kV doc pm : Value) (an : Option Addr) (cdv ct : Value) (us : List Value), us.length = ps.length → bindArgs (PySem.W.fnOf x x (defArgs st) (defBody st) (defScope st) .none kV doc pm an cdv ct) ⟨us, []⟩ = pure (ps.zip us))
    (len : ∀ vs H Q E, sp vs H Q E → vs.length = ps.length)
    (hbody : ∀ (f : Addr) (cdv : Value) (A : Around) (outer : List Env) (s : Shared) (H : Hp) (vs : List V) (Q : VK) (E : XK), Room k (A.deeper (envOfC x (defScope st) s.heap.objs.size f cdv)) → sp vs H Q E →
      ∃ t, PSs (cxOf CX0 P w K mg base N x (defScope st) f cdv A outer s H E).nox (defBody st) t ∧ t { nx := fun _ H' => Q .non H', rt := Q } (start N vs) H) : Callee P w K mg base (k + 1) x ps sp := by
  obtain ⟨f, fd, F, g⟩ := D.ex
  have E := F.ex
  obtain ⟨oc, od, kV, doc, pm, an, cdv, ct, osl, e, lk, _⟩ := E
  exact ⟨f, fd, g, F.kp, F.binds hb, F.ok S len (hbody f), oc, od, osl, lk⟩
theorem Callee.mono {x : Str} {ps : List Str} {k : Nat} {sp sp' : Sp} (C : Callee P w K mg base k x ps sp) (h : ∀ vs H Q E, sp' vs H Q E → sp vs H Q E) : Callee P w K mg base k x ps sp' := by
  obtain ⟨f, fd, g, kp, b, F, lk⟩ := C.ex
  exact ⟨f, fd, g, kp, b, ⟨fun vs H Q E q => F.len vs H Q E (h _ _ _ _ q), fun A outer s H as us vs Q E hr e hb r q => F.run A outer s H as us vs Q E hr e hb r (h _ _ _ _ q)⟩, lk⟩
/-- a promise that nobody can ask for -/
theorem Def.bot {x : Str} {st : Stmt} {N ps : List Str} {k : Nat} {sp : Sp} (D : Def K mg x st)
    (hb : ∀ (kV doc pm : Value) (an : Option Addr) (cdv ct : Value) (us : List Value), us.length = ps.length → bindArgs (PySem.W.fnOf x x (defArgs st) (defBody st) (defScope st) .none kV doc pm an cdv ct) ⟨us, []⟩ = pure (ps.zip us))
    (h : ∀ vs H Q E, ¬ sp vs H Q E) : Callee P w K mg base k x ps sp := by
  obtain ⟨f, fd, F, g⟩ := D.ex
  have E := F.ex
  obtain ⟨oc, od, kV, doc, pm, an, cdv, ct, osl, e, lk, _⟩ := E
  exact ⟨f, fd, g, F.kp, F.binds hb, ⟨fun vs H Q E q => (h _ _ _ _ q).elim, fun _ _ _ _ _ _ _ _ _ _ _ _ _ q => (h _ _ _ _ q).elim⟩, oc, od, osl, lk⟩
/-- the built-in names that the module leaves alone -/
structure Bi (mg : Str → Option Value) : Prop where
  b_abs : mg "abs" = none
  b_all : mg "all" = none
  b_any : mg "any" = none
  b_bool : mg "bool" = none
  b_enumerate : mg "enumerate" = none
  b_int : mg "int" = none
  b_isinstance : mg "isinstance" = none
  b_len : mg "len" = none
  b_list : mg "list" = none
  b_max : mg "max" = none
  b_min : mg "min" = none
  b_range : mg "range" = none
  b_set : mg "set" = none
  b_sorted : mg "sorted" = none
  b_str : mg "str" = none
  b_tuple : mg "tuple" = none
  b_zip : mg "zip" = none
  b_iter : mg "iter" = none
end
section
variable {X : Cx}
theorem pe_fn {k : Nat} {x : Str} {ps : List Str} {sp : Sp} {p pos : Pos} {e : Expr} {es : List Expr} {t : TA} (C : Callee X.prog X.w X.K X.mg X.base k x ps sp) (hr : Room k X.A) (hg : Gl X x) (ha : PA X (e :: es) t)
    (hdb : (x == ("__debug__" : Str)) = false := by decide) (he : starEach (e :: es) X.env = (false, eval e X.env) :: starEach es X.env := by rfl) (hpl : (backTo pos (starEach es X.env)).any (·.1) = false := by rfl) :
    PE X (.Call (.Name x p) (e :: es) [] pos) (tCall sp [] E0 t) := by
  obtain ⟨f, fd, g, kp, b, F, _⟩ := C.ex
  exact pe_call F hr hg g kp b .nil pass0 ha hdb he hpl
theorem pe_gi {x : Str} {n : Int} {pos : Pos} (hg : Gl X x) (h : ∃ t, X.mg x = some (.int n t)) (hd : (x == ("__debug__" : Str)) = false := by decide) : PE X (.Name x pos) (tC (.int n)) := by
  obtain ⟨t, e⟩ := h
  exact pe_glob hg e ⟨t, rfl⟩ hd
/-- a written text + e, e wants a token -/
theorem pe_opT {x : Str} {j : Nat} {c0 pos : Pos} {op : Operator} {f : Expr} {r : R2} {tf : TE} (ho : OpR X (binaryOp op) r) (hb : PET X f tf) : PE X (.BinOp (.Constant (.str x) j c0) op f pos) (tOp r (tC (.str x)) tf) :=
  ⟨fun pins s σ H Q I h => wpAny_BinOp (Calls.Constant_str (thn (hb pins { s with toks := s.toks + 1 } σ H _ (by show 1 ≤ s.toks + 1; omega) (I.tok _) h) fun u s2 ⟨y, H2, I2, r2, q2⟩ => ho pins s2 σ H2 (.str x) y _ u Q I2 ⟨_, rfl⟩ r2 q2))⟩
/-! ### what stands behind a statement, under a name -/
structure Cut (u p : L2.St → Hp → Prop) : Prop where
  go : ∀ σ H, u σ H → p σ H
def tCut (t u : TS) : TS := fun D σ H => ∀ p : L2.St → Hp → Prop, Cut (u D) p → t { D with nx := p } σ H
theorem pss_cut1 {st : Stmt} {r : List Stmt} {t u : TS} (h : PS X st t) (hr : PSs X r u) : PSs X (st :: r) (tCut t u) := ⟨fun pins s σ H D I q => (pss_cons h hr).run pins s σ H D I (q (u D) ⟨fun _ _ z => z⟩)⟩
/-! ### rules for more than one kind of value -/
theorem OpR.wk {f : Value → Value → Sem Value} {r r' : R2} (h : OpR X f r) (w : ∀ x y H Q, r' x y H Q → r x y H Q) : OpR X f r' := fun pins s σ H x y v u Q I rx ry q => h pins s σ H x y v u Q I rx ry (w x y H Q q)
theorem CallR.wk {f : Value} {r r' : List V → Hp → VK → Prop} (h : CallR X f r) (w : ∀ xs H Q, r' xs H Q → r xs H Q) : CallR X f r' := fun pins s σ H xs us Q I r1 q => h pins s σ H xs us Q I r1 (w xs H Q q)
theorem CallR.or {f : Value} {r r' : List V → Hp → VK → Prop} (h : CallR X f r) (h' : CallR X f r') : CallR X f (fun xs H Q => r xs H Q ∨ r' xs H Q) := fun pins s σ H xs us Q I r1 q => by
  rcases q with q | q
  · exact h pins s σ H xs us Q I r1 q
  · exact h' pins s σ H xs us Q I r1 q
theorem MtR.wk {id : String} {r r' : V → List V → Hp → VK → Prop} (h : MtR X id r) (w : ∀ x xs H Q, r' x xs H Q → r x xs H Q) : MtR X id r' := fun pins s σ H x xs v us Q I rx r1 q => h pins s σ H x xs v us Q I rx r1 (w x xs H Q q)
theorem IxR.wk {r r' : R2} (h : IxR X r) (w : ∀ x y H Q, r' x y H Q → r x y H Q) : IxR X r' := fun a b pins s σ H x y v u Q I rx ry q => h a b pins s σ H x y v u Q I rx ry (w x y H Q q)
theorem SlR.wk {r r' : V → Option Int → Option Int → Hp → VK → Prop} (h : SlR X r) (w : ∀ x a b H Q, r' x a b H Q → r x a b H Q) : SlR X r' := fun pins s σ H x v vl vu lo hi sl Q I rx hs pl pu q => h pins s σ H x v vl vu lo hi sl Q I rx hs pl pu (w _ _ _ _ _ q)
/-- a + b: ints, texts, two lists -/
def rAd : R2 := fun x y H Q => (∃ i j, x = .int i ∧ y = .int j ∧ Q (.int (i + j)) H) ∨ (∃ i j, x = .str i ∧ y = .str j ∧ i.length + j.length ≤ sizeLine ∧ Q (.str (i ++ j)) H) ∨ rCat x y H Q
theorem ad_any : OpR X (binaryOp .Add) rAd := op_add.or (op_add_str.or op_cat)
def rMl : R2 := fun x y H Q => (∃ i j, x = .int i ∧ y = .int j ∧ (CMul i j ∨ CMulW i j) ∧ Q (.int (i * j)) H) ∨ rRep x y H Q
theorem ml_any : OpR X (binaryOp .Mult) rMl := by
  refine OpR.or (fun pins s σ H x y v u Q I rx ry h => ?_) op_rep
  obtain ⟨i, j, rfl, rfl, c | c, q⟩ := h
  · exact op_mul pins s σ H _ _ v u Q I rx ry ⟨i, j, rfl, rfl, c, q⟩
  · exact op_mulW pins s σ H _ _ v u Q I rx ry ⟨i, j, rfl, rfl, c, q⟩
def rMd : R2 := fun x y H Q => ∃ i j, x = .int i ∧ y = .int j ∧ 0 < j ∧ Q (.int (i % j)) H
theorem md_any : OpR X (binaryOp .Mod) rMd := op_mod
def rFd : R2 := fun x y H Q => ∃ i j, x = .int i ∧ y = .int j ∧ CDivW i j ∧ Q (.int (i / j)) H
theorem fd_any : OpR X (binaryOp .FloorDiv) rFd := op_fdivW
/-- x is y, y one of None, True, False -/
def isK : V → Bool
  | .non => true
  | .bl _ => true
  | _ => false
def rIs (n : Bool) : R2 := fun x y H Q => isK y = true ∧ Q (.bl (n ^^ decide (x = y))) H
theorem is_any : OpR X (compareOp .Is) (rIs false) := by
  intro pins s σ H x y v u Q I rx ry h
  obtain ⟨k, q⟩ := h
  rw [Bool.false_xor] at q
  cases y with
  | non => exact op_isN pins s σ H x .non v u Q I rx ry ⟨rfl, q⟩
  | bl b =>
    cases x with
    | bl a =>
      refine op_isBl pins s σ H (.bl a) (.bl b) v u Q I rx ry ⟨a, b, rfl, rfl, ?_⟩
      have e : decide (V.bl a = V.bl b) = decide (a = b) := by cases a <;> cases b <;> decide
      rw [← e]
      exact q
    | _ =>
      cases ry
      refine wpAny_is_other ?_ ?_ ⟨.bl false, H, I, rfl, q⟩ <;> first
        | (obtain ⟨t, rfl⟩ := rx; first | rfl | (intro z; cases z))
        | (cases rx; first | rfl | (intro z; cases z))
  | _ => cases k
theorem isnt_any : OpR X (compareOp .IsNot) (rIs true) := by
  intro pins s σ H x y v u Q I rx ry h
  obtain ⟨k, q⟩ := h
  rw [Bool.true_xor] at q
  cases y with
  | non => exact op_notN pins s σ H x .non v u Q I rx ry ⟨rfl, q⟩
  | bl b =>
    cases x with
    | bl a =>
      refine op_notBl pins s σ H (.bl a) (.bl b) v u Q I rx ry ⟨a, b, rfl, rfl, ?_⟩
      have e : decide (V.bl a = V.bl b) = decide (a = b) := by cases a <;> cases b <;> decide
      rw [← e]
      exact q
    | _ =>
      cases ry
      refine wpAny_isNot_other ?_ ?_ ⟨.bl true, H, I, rfl, q⟩ <;> first
        | (obtain ⟨t, rfl⟩ := rx; first | rfl | (intro z; cases z))
        | (cases rx; first | rfl | (intro z; cases z))
  | _ => cases k

/-- x == y: two flat ones; data of any depth -/
def rEqA (K : PySem.W.Frag) (n : Bool) : R2 := fun x y H Q => (scal x y = true ∧ Q (.bl (n ^^ decide (x = y))) H) ∨ ((∃ p, x = .ref p ∨ y = .ref p) ∧ ∃ d e, Dp K H x d ∧ Dp K H y e ∧ SeqAt.shaped d = true ∧ SeqAt.shaped e = true ∧ Q (.bl (n ^^ PyData.eqv d e)) H)
theorem eq_any {k : Nat} (hr : Room k X.A) : OpR X (compareOp .Eq) (rEqA X.K false) := OpR.wk (OpR.or op_eq (op_eqD hr.units)) fun x y H Q h => by
  rcases h with ⟨hx, q⟩ | ⟨_, d, e, a, b, c, f, q⟩
  · exact .inl ⟨hx, by simpa using q⟩
  · exact .inr ⟨d, e, a, b, c, f, by simpa using q⟩
theorem ne_any {k : Nat} (hr : Room k X.A) : OpR X (compareOp .NotEq) (rEqA X.K true) := OpR.wk (OpR.or op_ne (op_neD hr.units)) fun x y H Q h => by
  rcases h with ⟨hx, q⟩ | ⟨_, d, e, a, b, c, f, q⟩
  · exact .inl ⟨hx, by simpa using q⟩
  · exact .inr ⟨d, e, a, b, c, f, by simpa using q⟩
/-- x in y: a sign in a text; flat things in a tracked list or tuple -/
def rInA (n : Bool) : R2 := fun x y H Q => (∃ (c : Nat) (z : Str), x = .str ⟨#[c]⟩ ∧ y = .str z ∧ Q (.bl (n ^^ decide (c ∈ z.cps.toList))) H) ∨
  (∃ p xs, y = .ref p ∧ (H p = some (.lst xs) ∨ H p = some (.tup xs)) ∧ flatV x = true ∧ xs.all flatV = true ∧ Q (.bl (n ^^ inV x xs)) H)
theorem in_any : OpR X (compareOp .In) (rInA false) := by
  refine OpR.wk (op_in_sign.or op_in_seq) fun x y H Q h => ?_
  rcases h with ⟨c, z, rfl, rfl, q⟩ | ⟨p, xs, rfl, hp, a, b, q⟩
  · exact .inl ⟨c, z, rfl, rfl, by simpa using q⟩
  · exact .inr ⟨p, xs, rfl, hp.imp (fun h => .inl (.inl h)) (fun h => .inl (.inl h)), a, b, by simpa using q⟩
theorem ni_any : OpR X (compareOp .NotIn) (rInA true) := by
  refine OpR.wk (op_notIn_sign.or op_notIn_seq) fun x y H Q h => ?_
  rcases h with ⟨c, z, rfl, rfl, q⟩ | ⟨p, xs, rfl, hp, a, b, q⟩
  · exact .inl ⟨c, z, rfl, rfl, by simpa using q⟩
  · exact .inr ⟨p, xs, rfl, hp.imp (fun h => .inl (.inl h)) (fun h => .inl (.inl h)), a, b, by simpa using q⟩
/-- x[i]: a tracked list, a tracked tuple, a text -/
def rIxA : R2 := fun x y H Q => (∃ p xs i v, x = .ref p ∧ y = .int i ∧ (H p = some (.lst xs) ∨ H p = some (.tup xs)) ∧ atI xs i = some v ∧ Q v H) ∨ (∃ z i c, x = .str z ∧ y = .int i ∧ z.length ≤ sizeLine ∧ atI z.cps.toList i = some c ∧ Q (.str ⟨#[c]⟩) H)
theorem ix_any : IxR X rIxA := by
  refine IxR.wk ix_seq fun x y H Q h => ?_
  rcases h with ⟨p, xs, i, v, rfl, rfl, h | h, a, q⟩ | h
  · exact .inl ⟨p, xs, i, v, rfl, rfl, .inl (.inl h), a, q⟩
  · exact .inr (.inl ⟨p, xs, i, v, rfl, rfl, .inl (.inl h), a, q⟩)
  · exact .inr (.inr h)
/-- len(x) -/
def rLenA : List V → Hp → VK → Prop := fun vs H Q => (∃ z, vs = [.str z] ∧ z.length ≤ sizeLine ∧ Q (.int z.length) H) ∨ (∃ p xs, vs = [.ref p] ∧ (H p = some (.lst xs) ∨ H p = some (.tup xs)) ∧ Q (.int xs.length) H) ∨ (∃ p kvs, vs = [.ref p] ∧ H p = some (.dK kvs) ∧ Q (.int kvs.length) H)
theorem len_any : CallR X (.builtin "len") rLenA := by
  refine CallR.wk (CallR.or call_len_str (CallR.or call_len_seq call_lenD)) fun vs H Q h => ?_
  rcases h with h | ⟨p, xs, rfl, h | h, q⟩ | ⟨p, kvs, rfl, h, q⟩
  · exact .inl h
  · exact .inr (.inl ⟨p, xs, rfl, .inl (.inl (.inl h)), q⟩)
  · exact .inr (.inl ⟨p, xs, rfl, .inr (.inl (.inl h)), q⟩)
  · exact .inr (.inr ⟨p, kvs, rfl, h, q⟩)
def rIntA : List V → Hp → VK → Prop := fun vs H Q => (∃ i, vs = [.int i] ∧ Q (.int i) H) ∨ (∃ k, vs = [.bl k] ∧ Q (.int (if k then 1 else 0)) H) ∨ (∃ a n, vs = [.str a] ∧ PySem.intText? a = some n ∧ a.length ≤ 640 ∧ Q (.int n) H)
theorem int_any : CallR X (.type "int") rIntA := by
  refine CallR.wk (CallR.or call_int1 call_int_str) fun vs H Q h => ?_
  rcases h with h | h | ⟨a, n, h⟩
  · exact .inl (.inl h)
  · exact .inl (.inr h)
  · exact .inr ⟨a, n, h⟩
def rStrA : List V → Hp → VK → Prop := fun vs H Q => (∃ i, vs = [.int i] ∧ i.natAbs.log2 < 1920 ∧ Q (.str (toString i)) H) ∨ (∃ a, vs = [.str a] ∧ Q (.str a) H)
theorem str_any : CallR X (.type "str") rStrA := CallR.or call_str_int SkE.call_str_str
/-- the name of a value's type, where the value is flat or a tracked list, tuple or dict -/
def TyN (H : Hp) (x : V) (n : String) : Prop := match x with
  | .non => n = "NoneType"
  | .bl _ => n = "bool"
  | .int _ => n = "int"
  | .str _ => n = "str"
  | .ref a => (∃ xs, H a = some (.lst xs) ∧ n = "list") ∨ (∃ xs, H a = some (.tup xs) ∧ n = "tuple") ∨ ∃ kvs, H a = some (.dK kvs) ∧ n = "dict"
  | _ => False
theorem TyN.ty {K : PySem.W.Frag} {H : Hp} {x : V} {n : String} (h : TyN H x n) : TyX K H x (.type n) := by
  unfold TyN at h
  split at h
  · subst h; exact .base .non
  · subst h; exact .base (.bl _)
  · subst h; exact .base (.int _)
  · subst h; exact .base (.str _)
  · rcases h with ⟨xs, e, rfl⟩ | ⟨xs, e, rfl⟩ | ⟨kvs, e, rfl⟩
    · exact .base (.lst e)
    · exact .base (.tup e)
    · exact .base (.dK e)
  · exact h.elim
def rIsiA : List V → Hp → VK → Prop := fun vs H Q => ∃ x T n b, vs = [x, .ty T] ∧ TyN H x n ∧ kitB n T = some b ∧ Q (.bl b) H
theorem isi_any : CallR X (.builtin "isinstance") rIsiA := CallR.wk call_isi fun vs H Q h => by
  obtain ⟨x, T, n, b, rfl, ty, e, q⟩ := h
  exact ⟨x, .ty T, _, _, b, rfl, .ty T, ty.ty, kit_ty e, q⟩
/-- sep.join(xs), xs a tracked list of texts -/
def rJoinA : V → List V → Hp → VK → Prop := fun x xs H Q => ∃ a p, ∃ ys : List Str, x = .str a ∧ xs = [.ref p] ∧ (H p = some (.lst (ys.map V.str)) ∨ H p = some (.tup (ys.map V.str))) ∧ (ys.map (·.length)).sum + ys.length * a.length ≤ 16777216 ∧ Q (.str (Txt.join a ys)) H
theorem mt_joinA : MtR X "str.join" rJoinA := MtR.wk mt_join fun x xs H Q h => by
  obtain ⟨a, p, ys, rfl, rfl, h, z, q⟩ := h
  exact ⟨a, p, ys, rfl, rfl, h.imp (fun h => .inl (.inl h)) (fun h => .inl (.inl h)), z, q⟩
/-- x[a:b]: a text, a tracked list -/
def rSlA : V → Option Int → Option Int → Hp → VK → Prop := fun x lo hi H Q => (∃ z, x = .str z ∧ z.length ≤ sizeLine ∧ Q (.str (cutS z lo hi)) H) ∨ (∃ a xs, x = .ref a ∧ H a = some (.lst xs) ∧ ∀ p, H p = none → Q (.ref p) (upd H p (.lst (cutV xs lo hi))))
theorem sl_any : SlR X rSlA := SlR.wk (SlR.or sl_str sl_list) fun x a b H Q h => by
  rcases h with h | ⟨p, xs, rfl, h, q⟩
  · exact .inl h
  · exact .inr ⟨p, xs, rfl, .inl (.inl h), q⟩
end
end KB
namespace KB
open PySem PySem.Spec PyProof.Rows L2
section
variable {σ : L2.St} {H : Hp} {Q : VK} {D : L2.Ends}
theorem q_var {i : Nat} : tVar i σ H Q = ∃ v, σ[i]? = some (some v) ∧ Q v H := propext Iff.rfl
theorem q_c {v : V} : tC v σ H Q = Q v H := propext Iff.rfl
theorem q_op {r : R2} {ta tb : TE} : tOp r ta tb σ H Q = ta σ H fun x H1 => tb σ H1 fun y H2 => r x y H2 Q := propext Iff.rfl
theorem q_un {r : V → Hp → VK → Prop} {ta : TE} : tUn r ta σ H Q = ta σ H fun x H1 => r x H1 Q := propext Iff.rfl
theorem q_call {sp : Sp} {dvs : List V} {E : XK} {t : TA} : tCall sp dvs E t σ H Q = t σ H fun vs H1 => sp (vs ++ dvs) H1 Q E := propext Iff.rfl
theorem q_cb {r : List V → Hp → VK → Prop} {t : TA} : tCB r t σ H Q = t σ H fun vs H1 => r vs H1 Q := propext Iff.rfl
theorem q_bm0 {K : PySem.W.Frag} {T : String} {r : V → List V → Hp → VK → Prop} {to : TE} : tBM0 K T r to σ H Q = to σ H fun x H1 => tyV K T x H1 ∧ r x [] H1 Q := propext Iff.rfl
theorem q_bm {K : PySem.W.Frag} {T : String} {r : V → List V → Hp → VK → Prop} {to : TE} {t : TA} : tBM K T r to t σ H Q = to σ H fun x H1 => tyV K T x H1 ∧ t σ H1 fun xs H2 => r x xs H2 Q := propext Iff.rfl
theorem q_nil {Q : List V → Hp → Prop} : tNil σ H Q = Q [] H := propext Iff.rfl
theorem q_cons {ta : TE} {tr : TA} {Q : List V → Hp → Prop} : tCons ta tr σ H Q = ta σ H fun x H1 => tr σ H1 fun xs H2 => Q (x :: xs) H2 := propext Iff.rfl
theorem q_tup {t : TA} : tTup t σ H Q = t σ H fun xs H1 => xs.length ≤ sizeLine ∧ ∀ p, H1 p = none → Q (.ref p) (upd H1 p (.tup xs)) := propext Iff.rfl
theorem q_lst {t : TA} : tLst t σ H Q = t σ H fun xs H1 => xs.length ≤ sizeLine ∧ ∀ p, H1 p = none → Q (.ref p) (upd H1 p (.lst xs)) := propext Iff.rfl
theorem q_dget {td ty : TE} : tDGet td ty σ H Q = td σ H fun x H1 => ty σ H1 fun y H2 => ∃ a v, x = .ref a ∧ DGet H2 a y (some v) ∧ Q v H2 := propext Iff.rfl
theorem q_din {td ty : TE} : tDIn ty td σ H Q = ty σ H fun y H1 => td σ H1 fun x H2 => ∃ a o, x = .ref a ∧ DGet H2 a y o ∧ Q (.bl o.isSome) H2 := propext Iff.rfl
theorem q_dnotin {td ty : TE} : tDNotIn ty td σ H Q = ty σ H fun y H1 => td σ H1 fun x H2 => ∃ a o, x = .ref a ∧ DGet H2 a y o ∧ Q (.bl (!o.isSome)) H2 := propext Iff.rfl
theorem q_dput {td ty tv : TE} : sDPut td ty tv D σ H = tv σ H fun v H1 => td σ H1 fun x H2 => ty σ H2 fun y H3 => ∃ a H4, x = .ref a ∧ DPut H3 a y v H4 ∧ D.nx σ H4 := propext Iff.rfl
theorem q_dnew : tDNewK σ H Q = ∀ p, H p = none → Q (.ref p) (upd H p (.dK [])) := propext Iff.rfl
theorem q_seq {t u : TS} : tSeq t u D σ H = t { D with nx := u D } σ H := propext Iff.rfl
theorem q_cut {t u : TS} : tCut t u D σ H = ∀ p : L2.St → Hp → Prop, Cut (u D) p → t { D with nx := p } σ H := propext Iff.rfl
theorem q_asg {te : TE} {i : Nat} : tAsg te (gName i) D σ H = te σ H fun x H1 => D.nx (σ.set i (some x)) H1 := propext Iff.rfl
theorem q_asgT {te : TE} {K : PySem.W.Frag} {n : Nat} {t : TGs} : tAsg te (gTup K n t) D σ H = te σ H fun v H1 => ∃ a xs, v = .ref a ∧ SqT K H1 a xs ∧ xs.length = n ∧ t xs σ H1 D.nx := propext Iff.rfl
theorem q_ret {te : TE} : tRet te D σ H = te σ H D.rt := propext Iff.rfl
theorem q_retN : tRetN D σ H = D.rt .non H := propext Iff.rfl
theorem q_drop {te : TE} : tDrop te D σ H = te σ H fun _ H1 => D.nx σ H1 := propext Iff.rfl
theorem q_next : tNext D σ H = D.nx σ H := propext Iff.rfl
theorem q_brk : tBreak D σ H = D.bk σ H := propext Iff.rfl
theorem q_cont : tCont D σ H = D.ct σ H := propext Iff.rfl
theorem q_ifs {c : TT} {t u : TS} : tIfS c t u D σ H = c σ H fun b H1 => if b = true then t D σ H1 else u D σ H1 := propext Iff.rfl
section
variable {Q : Bool → Hp → Prop} {t u : TT} {te : TE}
theorem q_test : tTest te σ H Q = te σ H fun x H' => ∃ k, x = .bl k ∧ Q k H' := propext Iff.rfl
theorem q_b : tB te σ H Q = te σ H fun x H' => ∃ k, x = .bl k ∧ Q k H' := propext Iff.rfl
theorem q_and : tAnd t u σ H Q = t σ H fun c H1 => if c = true then u σ H1 Q else Q false H1 := propext Iff.rfl
theorem q_or : tOr t u σ H Q = t σ H fun c H1 => if c = true then Q true H1 else u σ H1 Q := propext Iff.rfl
theorem q_not : tNot t σ H Q = t σ H fun c H1 => Q (!c) H1 := propext Iff.rfl
end
theorem q_andV {ta tb : TE} : tAndV ta tb σ H Q = ta σ H fun x H1 => ∃ c, x = .bl c ∧ if c = true then tb σ H1 Q else Q (.bl false) H1 := propext Iff.rfl
theorem q_orV {ta tb : TE} : tOrV ta tb σ H Q = ta σ H fun x H1 => ∃ c, x = .bl c ∧ if c = true then Q (.bl true) H1 else tb σ H1 Q := propext Iff.rfl
theorem q_notV {ta : TE} : tNotV ta σ H Q = ta σ H fun x H1 => ∃ c, x = .bl c ∧ Q (.bl (!c)) H1 := propext Iff.rfl
theorem q_if {t : TT} {ta tb : TE} : tIf t ta tb σ H Q = t σ H fun c H1 => if c = true then ta σ H1 Q else tb σ H1 Q := propext Iff.rfl
theorem q_sl {r : V → Option Int → Option Int → Hp → VK → Prop} {te : TE} {tl th : TO} : tSl r te tl th σ H Q = te σ H fun x H1 => tl σ H1 fun l H2 => th σ H2 fun u H3 => r x l u H3 Q := propext Iff.rfl
theorem q_part {te : TE} {Q : Option Int → Hp → Prop} : tPart te σ H Q = te σ H fun x H1 => ∃ i, x = .int i ∧ Q (some i) H1 := propext Iff.rfl
theorem q_nopart {Q : Option Int → Hp → Prop} : tNoPart σ H Q = Q none H := propext Iff.rfl
theorem q_par {i j : Nat} {ta : TA} : tPar i j ta D σ H = ta σ H fun vs H1 => ∃ v w, vs = [v, w] ∧ D.nx ((σ.set i (some v)).set j (some w)) H1 := propext Iff.rfl
theorem q_disp {trs : List (TE × TE)} : tDisp trs σ H Q = ∀ p, H p = none → tPairs trs σ (upd H p (.dK [])) fun ps H2 => H2 p = some (.dK []) ∧ ∃ kvs : List (Key × V), ps = kvs.map (fun kv => (kV kv.1, kv.2)) ∧ kvs.length ≤ 15 ∧ Q (.ref p) (upd H2 p (.dK (mergeK [] kvs))) := propext Iff.rfl
end
section
variable {x y : V} {H : Hp} {Q : VK}
theorem r_ii {g : Int → Int → V} {i j : Int} : rI0 g (.int i) (.int j) H Q = Q (g i j) H := by
  apply propext
  exact ⟨fun ⟨a, b, e1, e2, q⟩ => by cases e1; cases e2; exact q, fun q => ⟨i, j, rfl, rfl, q⟩⟩
theorem r_i {C : Int → Int → Prop} {g : Int → Int → V} {i j : Int} : rI C g (.int i) (.int j) H Q = (C i j ∧ Q (g i j) H) := by
  apply propext
  exact ⟨fun ⟨a, b, e1, e2, q⟩ => by cases e1; cases e2; exact q, fun q => ⟨i, j, rfl, rfl, q⟩⟩
theorem r_neg {g : Int → V} {i : Int} : rU g (.int i) H Q = Q (g i) H := by
  apply propext
  exact ⟨fun ⟨a, e1, q⟩ => by cases e1; exact q, fun q => ⟨i, rfl, q⟩⟩
theorem r_adI {i j : Int} : rAd (.int i) (.int j) H Q = Q (.int (i + j)) H := by
  apply propext
  constructor
  · rintro (⟨a, b, e1, e2, q⟩ | ⟨a, b, e1, _⟩ | ⟨a, b, c, d, e1, _⟩)
    · cases e1; cases e2; exact q
    · cases e1
    · cases e1
  · exact fun q => .inl ⟨i, j, rfl, rfl, q⟩
theorem r_adS {i j : Str} : rAd (.str i) (.str j) H Q = (i.length + j.length ≤ sizeLine ∧ Q (.str (i ++ j)) H) := by
  apply propext
  constructor
  · rintro (⟨a, b, e1, _⟩ | ⟨a, b, e1, e2, q⟩ | ⟨a, b, c, d, e1, _⟩)
    · cases e1
    · cases e1; cases e2; exact q
    · cases e1
  · exact fun q => .inr (.inl ⟨i, j, rfl, rfl, q⟩)
theorem r_mlI {i j : Int} : rMl (.int i) (.int j) H Q = ((CMul i j ∨ CMulW i j) ∧ Q (.int (i * j)) H) := by
  apply propext
  constructor
  · rintro (⟨a, b, e1, e2, q⟩ | ⟨a, b, c, e1, _⟩)
    · cases e1; cases e2; exact q
    · cases e1
  · exact fun q => .inl ⟨i, j, rfl, rfl, q⟩
theorem r_md {i j : Int} : rMd (.int i) (.int j) H Q = (0 < j ∧ Q (.int (i % j)) H) := by
  apply propext
  exact ⟨fun ⟨a, b, e1, e2, q⟩ => by cases e1; cases e2; exact q, fun q => ⟨i, j, rfl, rfl, q⟩⟩
theorem r_fd {i j : Int} : rFd (.int i) (.int j) H Q = (CDivW i j ∧ Q (.int (i / j)) H) := by
  apply propext
  exact ⟨fun ⟨a, b, e1, e2, q⟩ => by cases e1; cases e2; exact q, fun q => ⟨i, j, rfl, rfl, q⟩⟩
theorem r_is {n : Bool} : rIs n x y H Q = (isK y = true ∧ Q (.bl (n ^^ decide (x = y))) H) := propext Iff.rfl
theorem r_eqS {K : PySem.W.Frag} {n : Bool} (h : scal x y = true) : rEqA K n x y H Q = Q (.bl (n ^^ decide (x = y))) H := by
  apply propext
  constructor
  · rintro (⟨_, q⟩ | ⟨⟨p, e | e⟩, _⟩)
    · exact q
    · subst e; cases y <;> cases h
    · subst e; cases x <;> cases h
  · exact fun q => .inl ⟨h, q⟩
theorem r_ixS {z : Str} {i : Int} : rIxA (.str z) (.int i) H Q = (z.length ≤ sizeLine ∧ ∃ c, atI z.cps.toList i = some c ∧ Q (.str ⟨#[c]⟩) H) := by
  apply propext
  constructor
  · rintro (⟨p, xs, j, v, e1, _⟩ | ⟨a, j, c, e1, e2, h, e, q⟩)
    · cases e1
    · cases e1; cases e2; exact ⟨h, c, e, q⟩
  · rintro ⟨h, c, e, q⟩
    exact .inr ⟨z, i, c, rfl, rfl, h, e, q⟩
theorem r_ixR {p : Addr} {i : Int} : rIxA (.ref p) (.int i) H Q = ∃ xs, (H p = some (.lst xs) ∨ H p = some (.tup xs)) ∧ ∃ v, atI xs i = some v ∧ Q v H := by
  apply propext
  constructor
  · rintro (⟨p', ys, j, v, e1, e2, h2, e, q⟩ | ⟨a, j, c, e1, _⟩)
    · cases e1; cases e2
      exact ⟨ys, h2, v, e, q⟩
    · cases e1
  · rintro ⟨xs, h, v, e, q⟩
    exact .inl ⟨p, xs, i, v, rfl, rfl, h, e, q⟩
theorem r_lenS {z : Str} : rLenA [.str z] H Q = (z.length ≤ sizeLine ∧ Q (.int z.length) H) := by
  apply propext
  constructor
  · rintro (⟨a, e1, q⟩ | ⟨p, xs, e1, _⟩ | ⟨p, xs, e1, _⟩)
    · cases e1; exact q
    · cases e1
    · cases e1
  · exact fun q => .inl ⟨z, rfl, q⟩
theorem r_lenR {p : Addr} : rLenA [.ref p] H Q = ((∃ xs, (H p = some (.lst xs) ∨ H p = some (.tup xs)) ∧ Q (.int xs.length) H) ∨ ∃ kvs, H p = some (.dK kvs) ∧ Q (.int kvs.length) H) := by
  apply propext
  constructor
  · rintro (⟨a, e1, q⟩ | ⟨p, ys, e1, h2, q⟩ | ⟨p, xs, e1, h2, q⟩)
    · cases e1
    · cases e1
      exact .inl ⟨ys, h2, q⟩
    · cases e1
      exact .inr ⟨xs, h2, q⟩
  · rintro (⟨xs, h, q⟩ | ⟨xs, h, q⟩)
    · exact .inr (.inl ⟨p, xs, rfl, h, q⟩)
    · exact .inr (.inr ⟨p, xs, rfl, h, q⟩)
theorem r_intI {i : Int} : rIntA [.int i] H Q = Q (.int i) H := by
  apply propext
  constructor
  · rintro (⟨a, e1, q⟩ | ⟨p, e1, _⟩ | ⟨p, xs, e1, _⟩)
    · cases e1; exact q
    · cases e1
    · cases e1
  · exact fun q => .inl ⟨i, rfl, q⟩
theorem r_intS {a : Str} : rIntA [.str a] H Q = ∃ n, PySem.intText? a = some n ∧ a.length ≤ 640 ∧ Q (.int n) H := by
  apply propext
  constructor
  · rintro (⟨a, e1, q⟩ | ⟨p, e1, _⟩ | ⟨p, n, e1, h⟩)
    · cases e1
    · cases e1
    · cases e1; exact ⟨n, h⟩
  · exact fun ⟨n, h⟩ => .inr (.inr ⟨a, n, rfl, h⟩)
theorem r_strI {i : Int} : rStrA [.int i] H Q = (i.natAbs.log2 < 1920 ∧ Q (.str (toString i)) H) := by
  apply propext
  constructor
  · rintro (⟨a, e1, q⟩ | ⟨p, e1, _⟩)
    · cases e1; exact q
    · cases e1
  · exact fun q => .inl ⟨i, rfl, q⟩
theorem r_strS {a : Str} : rStrA [.str a] H Q = Q (.str a) H := by
  apply propext
  constructor
  · rintro (⟨a, e1, q⟩ | ⟨p, e1, q⟩)
    · cases e1
    · cases e1; exact q
  · exact fun q => .inr ⟨a, rfl, q⟩
theorem r_slS {z : Str} {lo hi : Option Int} : rSlA (.str z) lo hi H Q = (z.length ≤ sizeLine ∧ Q (.str (cutS z lo hi)) H) := by
  apply propext
  constructor
  · rintro (⟨a, e1, q⟩ | ⟨p, xs, e1, _⟩)
    · cases e1; exact q
    · cases e1
  · exact fun q => .inl ⟨z, rfl, q⟩
theorem r_isi {n T : String} {b : Bool} (ht : TyN H x n) (hn : ∀ m, TyN H x m → m = n) (hk : kitB n T = some b) : rIsiA [x, .ty T] H Q = Q (.bl b) H := by
  apply propext
  constructor
  · rintro ⟨y, S, m, c, e1, h1, h2, q⟩
    cases e1
    cases hn m h1
    rw [hk] at h2; cases h2
    exact q
  · exact fun q => ⟨x, T, n, b, rfl, ht, hk, q⟩
theorem kb_NoneType_int : kitB "NoneType" "int" = some false := by decide +kernel
theorem kb_NoneType_str : kitB "NoneType" "str" = some false := by decide +kernel
theorem kb_NoneType_bool : kitB "NoneType" "bool" = some false := by decide +kernel
theorem kb_NoneType_list : kitB "NoneType" "list" = some false := by decide +kernel
theorem kb_NoneType_tuple : kitB "NoneType" "tuple" = some false := by decide +kernel
theorem kb_NoneType_dict : kitB "NoneType" "dict" = some false := by decide +kernel
theorem kb_bool_int : kitB "bool" "int" = some true := by decide +kernel
theorem kb_bool_str : kitB "bool" "str" = some false := by decide +kernel
theorem kb_bool_bool : kitB "bool" "bool" = some true := by decide +kernel
theorem kb_bool_list : kitB "bool" "list" = some false := by decide +kernel
theorem kb_bool_tuple : kitB "bool" "tuple" = some false := by decide +kernel
theorem kb_bool_dict : kitB "bool" "dict" = some false := by decide +kernel
theorem kb_int_int : kitB "int" "int" = some true := by decide +kernel
theorem kb_int_str : kitB "int" "str" = some false := by decide +kernel
theorem kb_int_bool : kitB "int" "bool" = some false := by decide +kernel
theorem kb_int_list : kitB "int" "list" = some false := by decide +kernel
theorem kb_int_tuple : kitB "int" "tuple" = some false := by decide +kernel
theorem kb_int_dict : kitB "int" "dict" = some false := by decide +kernel
theorem kb_str_int : kitB "str" "int" = some false := by decide +kernel
theorem kb_str_str : kitB "str" "str" = some true := by decide +kernel
theorem kb_str_bool : kitB "str" "bool" = some false := by decide +kernel
theorem kb_str_list : kitB "str" "list" = some false := by decide +kernel
theorem kb_str_tuple : kitB "str" "tuple" = some false := by decide +kernel
theorem kb_str_dict : kitB "str" "dict" = some false := by decide +kernel
theorem kb_list_int : kitB "list" "int" = some false := by decide +kernel
theorem kb_list_str : kitB "list" "str" = some false := by decide +kernel
theorem kb_list_bool : kitB "list" "bool" = some false := by decide +kernel
theorem kb_list_list : kitB "list" "list" = some true := by decide +kernel
theorem kb_list_tuple : kitB "list" "tuple" = some false := by decide +kernel
theorem kb_list_dict : kitB "list" "dict" = some false := by decide +kernel
theorem kb_tuple_int : kitB "tuple" "int" = some false := by decide +kernel
theorem kb_tuple_str : kitB "tuple" "str" = some false := by decide +kernel
theorem kb_tuple_bool : kitB "tuple" "bool" = some false := by decide +kernel
theorem kb_tuple_list : kitB "tuple" "list" = some false := by decide +kernel
theorem kb_tuple_tuple : kitB "tuple" "tuple" = some true := by decide +kernel
theorem kb_tuple_dict : kitB "tuple" "dict" = some false := by decide +kernel
theorem kb_dict_int : kitB "dict" "int" = some false := by decide +kernel
theorem kb_dict_str : kitB "dict" "str" = some false := by decide +kernel
theorem kb_dict_bool : kitB "dict" "bool" = some false := by decide +kernel
theorem kb_dict_list : kitB "dict" "list" = some false := by decide +kernel
theorem kb_dict_tuple : kitB "dict" "tuple" = some false := by decide +kernel
theorem kb_dict_dict : kitB "dict" "dict" = some true := by decide +kernel
theorem r_isi_of {n T : String} (hn : ∀ m, TyN H x m ↔ m = n) : rIsiA [x, .ty T] H Q = ∃ b, kitB n T = some b ∧ Q (.bl b) H := by
  apply propext
  constructor
  · rintro ⟨y, S, m, c, e1, h1, h2, q⟩
    cases e1
    cases (hn m).mp h1
    exact ⟨c, h2, q⟩
  · exact fun ⟨b, h, q⟩ => ⟨x, T, n, b, rfl, (hn n).mpr rfl, h, q⟩
theorem r_isi_non {T : String} : rIsiA [.non, .ty T] H Q = ∃ b, kitB "NoneType" T = some b ∧ Q (.bl b) H := r_isi_of fun _ => Iff.rfl
theorem r_isi_bl {k : Bool} {T : String} : rIsiA [.bl k, .ty T] H Q = ∃ b, kitB "bool" T = some b ∧ Q (.bl b) H := r_isi_of fun _ => Iff.rfl
theorem r_isi_int {i : Int} {T : String} : rIsiA [.int i, .ty T] H Q = ∃ b, kitB "int" T = some b ∧ Q (.bl b) H := r_isi_of fun _ => Iff.rfl
theorem r_isi_str {z : Str} {T : String} : rIsiA [.str z, .ty T] H Q = ∃ b, kitB "str" T = some b ∧ Q (.bl b) H := r_isi_of fun _ => Iff.rfl
theorem r_isi_ref {p : Addr} {T : String} : rIsiA [.ref p, .ty T] H Q = ((∃ xs, H p = some (.lst xs) ∧ ∃ b, kitB "list" T = some b ∧ Q (.bl b) H) ∨ (∃ xs, H p = some (.tup xs) ∧ ∃ b, kitB "tuple" T = some b ∧ Q (.bl b) H) ∨ ∃ kvs, H p = some (.dK kvs) ∧ ∃ b, kitB "dict" T = some b ∧ Q (.bl b) H) := by
  apply propext
  constructor
  · rintro ⟨y, S, m, c, e1, h1, h2, q⟩
    cases e1
    rcases h1 with ⟨xs, h1, rfl⟩ | ⟨xs, h1, rfl⟩ | ⟨xs, h1, rfl⟩
    · exact .inl ⟨xs, h1, c, h2, q⟩
    · exact .inr (.inl ⟨xs, h1, c, h2, q⟩)
    · exact .inr (.inr ⟨xs, h1, c, h2, q⟩)
  · rintro (⟨xs, h1, b, h, q⟩ | ⟨xs, h1, b, h, q⟩ | ⟨xs, h1, b, h, q⟩)
    · exact ⟨.ref p, T, _, b, rfl, .inl ⟨xs, h1, rfl⟩, h, q⟩
    · exact ⟨.ref p, T, _, b, rfl, .inr (.inl ⟨xs, h1, rfl⟩), h, q⟩
    · exact ⟨.ref p, T, _, b, rfl, .inr (.inr ⟨xs, h1, rfl⟩), h, q⟩
theorem abs_nat (i : Int) : (if i < 0 then -i else i) = (i.natAbs : Int) := by split <;> omega
theorem r_abs {i : Int} : (∃ j, [V.int i] = [V.int j] ∧ Q (.int (if j < 0 then -j else j)) H) = Q (.int i.natAbs) H := by
  apply propext
  rw [← abs_nat]
  exact ⟨fun ⟨a, e1, q⟩ => by cases e1; exact q, fun q => ⟨i, rfl, q⟩⟩
end
/-! ### dicts by text keys -/
theorem rd_eq {H : Hp} {a : Addr} {u : HO} : Rd H a u = (H a = some u ∨ ∃ o, H a = some (.frz o u)) := propext Iff.rfl
theorem dget_s {H : Hp} {a : Addr} {k : Str} {r : Option V} : DGet H a (.str k) r = ∃ kvs, Rd H a (.dK kvs) ∧ r = valV kvs (.inr k) := by
  apply propext
  constructor
  · rintro (⟨ks, c, h1, h2, h3⟩ | ⟨ks, c, b, h1, h2, _⟩)
    · cases c with
      | inl i => cases h2
      | inr z => cases h2; exact ⟨ks, h1, h3⟩
    · cases h2
  · exact fun ⟨ks, h, e⟩ => .inl ⟨ks, .inr k, h, rfl, e⟩
theorem dget_i {H : Hp} {a : Addr} {k : Int} {r : Option V} : DGet H a (.int k) r = ∃ kvs, Rd H a (.dK kvs) ∧ r = valV kvs (.inl k) := by
  apply propext
  constructor
  · rintro (⟨ks, c, h1, h2, h3⟩ | ⟨ks, c, b, h1, h2, _⟩)
    · cases c with
      | inr i => cases h2
      | inl z => cases h2; exact ⟨ks, h1, h3⟩
    · cases h2
  · exact fun ⟨ks, h, e⟩ => .inl ⟨ks, .inl k, h, rfl, e⟩
theorem dput_s {H : Hp} {a : Addr} {k : Str} {v : V} {R : Hp → Prop} : (∃ H4, DPut H a (.str k) v H4 ∧ R H4) = ∃ kvs, H a = some (.dK kvs) ∧ kvs.length < sizeLine ∧ R (upd H a (.dK (putK kvs (.inr k) v))) := by
  apply propext
  constructor
  · rintro ⟨H4, (⟨ks, c, h1, h2, h3, h4⟩ | ⟨ks, c, b, h1, h2, _⟩), q⟩
    · cases c with
      | inl i => cases h2
      | inr z => cases h2; subst h4; exact ⟨ks, h1, h3, q⟩
    · cases h2
  · exact fun ⟨ks, h, hl, q⟩ => ⟨_, .inl ⟨ks, .inr k, h, rfl, hl, rfl⟩, q⟩
theorem upd_two {H : Hp} {a : Addr} {o u : HO} : upd (upd H a o) a u = upd H a u := by
  funext b
  unfold upd
  split <;> rfl
theorem upd_old {H : Hp} {p a : Addr} {o : HO} (h : H p = none) (ha : (H a).isSome = true) : upd H p o a = H a := upd_ne fun e => by
  subst e
  rw [h] at ha
  cases ha
theorem sizeN {n : Nat} (h : n ≤ 100000) : n < sizeLine := Nat.lt_of_le_of_lt h (by decide)
theorem start0 {N : List Str} {vs : List V} {σ : L2.St} {t : TS} {D : L2.Ends} {H : Hp} (e : L2.start N vs = σ) (h : t D σ H) : t D (L2.start N vs) H := by
  rw [e]
  exact h
/-! ### the source of draws -/
def srcL (c : Addr) (at_ rest seed room long : Int) : List (Key × V) := [(.inr "cells", .ref c), (.inr "at", .int at_), (.inr "rest", .int rest), (.inr "seed", .int seed), (.inr "room", .int room), (.inr "long", .int long)]
def Src (H : Hp) (a c : Addr) (room : Int) : Prop := ∃ (ns : List Int) (at_ rest seed long : Int), H a = some (.dK (srcL c at_ rest seed room long)) ∧ H c = some (.lst (ns.map V.int)) ∧ 0 ≤ at_ ∧ 0 ≤ rest
def Keep (a : Addr) (H H' : Hp) : Prop := ∀ b o, H b = some o → b ≠ a → H' b = some o
theorem src_cells (c : Addr) (a r s m l : Int) : valV (srcL c a r s m l) (.inr "cells") = some (.ref c) := by rfl
theorem src_at (c : Addr) (a r s m l : Int) : valV (srcL c a r s m l) (.inr "at") = some (.int a) := by rfl
theorem src_rest (c : Addr) (a r s m l : Int) : valV (srcL c a r s m l) (.inr "rest") = some (.int r) := by rfl
theorem src_seed (c : Addr) (a r s m l : Int) : valV (srcL c a r s m l) (.inr "seed") = some (.int s) := by rfl
theorem src_room (c : Addr) (a r s m l : Int) : valV (srcL c a r s m l) (.inr "room") = some (.int m) := by rfl
theorem src_long (c : Addr) (a r s m l : Int) : valV (srcL c a r s m l) (.inr "long") = some (.int l) := by rfl
theorem srcp_at (c : Addr) (a r s m l x : Int) : putK (srcL c a r s m l) (.inr "at") (.int x) = srcL c x r s m l := by rfl
theorem srcp_rest (c : Addr) (a r s m l x : Int) : putK (srcL c a r s m l) (.inr "rest") (.int x) = srcL c a x s m l := by rfl
theorem srcp_seed (c : Addr) (a r s m l x : Int) : putK (srcL c a r s m l) (.inr "seed") (.int x) = srcL c a r x m l := by rfl
theorem srcp_room (c : Addr) (a r s m l x : Int) : putK (srcL c a r s m l) (.inr "room") (.int x) = srcL c a r s x l := by rfl
theorem srcp_long (c : Addr) (a r s m l x : Int) : putK (srcL c a r s m l) (.inr "long") (.int x) = srcL c a r s m x := by rfl
theorem src_len (c : Addr) (a r s m l : Int) : ((srcL c a r s m l).length < sizeLine) = True := eq_true (sizeN (by show 6 ≤ 100000; decide))
theorem cmul_r {i j : Int} (h1 : -18446744073709551616 < j) (h2 : j < 18446744073709551616) : (CMul i j ∨ CMulW i j) = True := eq_true (.inl (.inr ⟨h1, h2⟩))
theorem cmul_l {i j : Int} (h1 : -18446744073709551616 < i) (h2 : i < 18446744073709551616) : (CMul i j ∨ CMulW i j) = True := eq_true (.inl (.inl ⟨h1, h2⟩))
theorem cpow_10 {n : Int} (h0 : 0 ≤ n) (h1 : n ≤ 1000) : CPow 10 n = True := eq_true ⟨h0, by omega, by decide⟩
theorem atI_ints {ns : List Int} {i : Int} (h0 : 0 ≤ i) (h1 : i < ns.length) : ∃ n, atI (ns.map V.int) i = some (.int n) := by
  obtain ⟨j, rfl⟩ := Int.eq_ofNat_of_zero_le h0
  have hj : j < ns.length := by omega
  refine ⟨ns[j], ?_⟩
  exact atI_nat (by rw [List.getElem?_map, List.getElem?_eq_getElem hj]; rfl)
theorem Keep.refl (a : Addr) (H : Hp) : Keep a H H := fun _ _ h _ => h
theorem Keep.trans {a : Addr} {H H1 H2 : Hp} (x : Keep a H H1) (y : Keep a H1 H2) : Keep a H H2 := fun b o h n => y b o (x b o h n) n
theorem Keep.upd {a : Addr} {H : Hp} {o : HO} : Keep a H (upd H a o) := fun b u h n => by rw [upd_ne n]; exact h
theorem Keep.new {a p : Addr} {H : Hp} {o : HO} (h : H p = none) : Keep a H (L2.upd H p o) := fun b u e _ => by rw [upd_ne (ne_of_none e h)]; exact e
theorem src_ne {H : Hp} {a c d : Addr} {room : Int} (h : Src H a c room) (hd : H d = none) : d ≠ a ∧ d ≠ c := by
  obtain ⟨ns, at_, rest, seed, long, ha, hc, _⟩ := h
  exact ⟨(ne_of_none ha hd).symm, (ne_of_none hc hd).symm⟩
theorem src_upd {H : Hp} {a c d : Addr} {room : Int} {o : HO} (h : Src H a c room) (na : d ≠ a) (nc : d ≠ c) : Src (L2.upd H d o) a c room := by
  obtain ⟨ns, at_, rest, seed, long, ha, hc, h0, h1⟩ := h
  exact ⟨ns, at_, rest, seed, long, by rw [upd_ne na.symm]; exact ha, by rw [upd_ne nc.symm]; exact hc, h0, h1⟩
theorem src_new {H : Hp} {a c d : Addr} {room : Int} {o : HO} (h : Src H a c room) (hd : H d = none) : Src (L2.upd H d o) a c room := src_upd h (src_ne h hd).1 (src_ne h hd).2
theorem src_same {H H' : Hp} {a c : Addr} {room : Int} (h : Src H a c room) (hk : Same H H') : Src H' a c room := by
  obtain ⟨ns, at_, rest, seed, long, ha, hc, h0, h1⟩ := h
  exact ⟨ns, at_, rest, seed, long, hk _ _ ha, hk _ _ hc, h0, h1⟩
/-- an object that was not there at H changes -/
theorem Keep.mut {a d : Addr} {H H1 H2 : Hp} {o : HO} (k1 : Keep a H H1) (n : d ≠ a) (hd : H1 d = none) (k2 : Keep a H H2) : Keep a H (L2.upd H2 d o) := fun b u h nb => by
  have e : b ≠ d := fun e => by
    subst e
    have := k1 _ _ h nb
    rw [hd] at this
    cases this
  rw [upd_ne e]
  exact k2 b u h nb
theorem Keep.free {a : Addr} {H H' : Hp} (k : Keep a H H') {b : Addr} (n : b ≠ a) (h : H' b = none) : H b = none := by
  cases e : H b with
  | none => rfl
  | some o => rw [k b o e n] at h; cases h
theorem src_mk {H : Hp} {a c : Addr} {ns : List Int} {kvs : List (Key × V)} {at_ rest seed room long : Int} (ha : H a = some (.dK kvs)) (hc : H c = some (.lst (ns.map V.int))) (h0 : 0 ≤ at_) (h1 : 0 ≤ rest) : Src (upd H a (.dK (srcL c at_ rest seed room long))) a c room := by
  have n : c ≠ a := fun e => by
    subst e
    rw [hc] at ha
    cases ha
  exact ⟨ns, at_, rest, seed, long, upd_same, by rw [upd_ne n]; exact hc, h0, h1⟩

theorem r_inS {n : Bool} {c : Nat} {z : Str} {H : Hp} {Q : VK} : rInA n (.str ⟨#[c]⟩) (.str z) H Q = Q (.bl (n ^^ decide (c ∈ z.cps.toList))) H := by
  apply propext
  constructor
  · rintro (⟨d, w, e1, e2, q⟩ | ⟨p, xs, e1, _⟩)
    · cases e1; cases e2; exact q
    · cases e1
  · exact fun q => .inl ⟨c, z, rfl, rfl, q⟩
theorem r_inR {n : Bool} {x : V} {p : Addr} {H : Hp} {Q : VK} : rInA n x (.ref p) H Q = ∃ xs, (H p = some (.lst xs) ∨ H p = some (.tup xs)) ∧ flatV x = true ∧ xs.all flatV = true ∧ Q (.bl (n ^^ inV x xs)) H := by
  apply propext
  constructor
  · rintro (⟨d, w, e1, e2, q⟩ | ⟨p', xs, e1, q⟩)
    · cases e2
    · cases e1; exact ⟨xs, q⟩
  · exact fun ⟨xs, q⟩ => .inr ⟨p, xs, rfl, q⟩
theorem isK_bl {b : Bool} : (isK (.bl b) = true) = True := eq_true rfl
theorem isK_non : (isK .non = true) = True := eq_true rfl
theorem sz0 : (([] : List V).length ≤ sizeLine) = True := eq_true (by show 0 ≤ sizeLine; decide)
theorem sz1 {x0 : V} : (([x0] : List V).length ≤ sizeLine) = True := eq_true (by show 1 ≤ sizeLine; decide)
theorem sz2 {x0 x1 : V} : (([x0, x1] : List V).length ≤ sizeLine) = True := eq_true (by show 2 ≤ sizeLine; decide)
theorem sz3 {x0 x1 x2 : V} : (([x0, x1, x2] : List V).length ≤ sizeLine) = True := eq_true (by show 3 ≤ sizeLine; decide)
theorem sz4 {x0 x1 x2 x3 : V} : (([x0, x1, x2, x3] : List V).length ≤ sizeLine) = True := eq_true (by show 4 ≤ sizeLine; decide)
theorem sz5 {x0 x1 x2 x3 x4 : V} : (([x0, x1, x2, x3, x4] : List V).length ≤ sizeLine) = True := eq_true (by show 5 ≤ sizeLine; decide)
theorem sz6 {x0 x1 x2 x3 x4 x5 : V} : (([x0, x1, x2, x3, x4, x5] : List V).length ≤ sizeLine) = True := eq_true (by show 6 ≤ sizeLine; decide)
theorem sz7 {x0 x1 x2 x3 x4 x5 x6 : V} : (([x0, x1, x2, x3, x4, x5, x6] : List V).length ≤ sizeLine) = True := eq_true (by show 7 ≤ sizeLine; decide)
theorem sz8 {x0 x1 x2 x3 x4 x5 x6 x7 : V} : (([x0, x1, x2, x3, x4, x5, x6, x7] : List V).length ≤ sizeLine) = True := eq_true (by show 8 ≤ sizeLine; decide)
theorem sz9 {x0 x1 x2 x3 x4 x5 x6 x7 x8 : V} : (([x0, x1, x2, x3, x4, x5, x6, x7, x8] : List V).length ≤ sizeLine) = True := eq_true (by show 9 ≤ sizeLine; decide)
theorem sz10 {x0 x1 x2 x3 x4 x5 x6 x7 x8 x9 : V} : (([x0, x1, x2, x3, x4, x5, x6, x7, x8, x9] : List V).length ≤ sizeLine) = True := eq_true (by show 10 ≤ sizeLine; decide)
theorem sz11 {x0 x1 x2 x3 x4 x5 x6 x7 x8 x9 x10 : V} : (([x0, x1, x2, x3, x4, x5, x6, x7, x8, x9, x10] : List V).length ≤ sizeLine) = True := eq_true (by show 11 ≤ sizeLine; decide)
theorem sz12 {x0 x1 x2 x3 x4 x5 x6 x7 x8 x9 x10 x11 : V} : (([x0, x1, x2, x3, x4, x5, x6, x7, x8, x9, x10, x11] : List V).length ≤ sizeLine) = True := eq_true (by show 12 ≤ sizeLine; decide)
theorem tyV_str {K : PySem.W.Frag} {z : Str} {H : Hp} : tyV K "str" (.str z) H = True := eq_true rfl
/-! ### loops -/
def Loop (J : It) (g : TG) (tb : TS) (D : L2.Ends) (σ : L2.St) (H : Hp) : Prop := ∃ W : Nat → Nat → L2.St → Hp → Prop, (∃ m, W 0 m σ H) ∧ ∀ i m σ H, W i m σ H →
  (J.stop i H ∧ D.nx σ H) ∨ (J.go i H ∧ ∃ N : L2.St → Hp → Prop, (∀ σ' H', N σ' H' → ∃ m', m' < m ∧ W (i + 1) m' σ' H') ∧ ∀ x H', J.yld i H x H' → g x σ H' fun σ2 H2 => tb { D with nx := N, ct := N, bk := D.nx } σ2 H2)
def LcLoop (J : It) (g : TG) (tt : TT) (te : TE) (vs : List Nat) (σ : L2.St) (Q : VK) (D : Addr) (H1 : Hp) : Prop := ∃ W : Nat → Nat → Hp → Prop, (∃ m, W 0 m (upd H1 D (.lst []))) ∧ ∀ i m H, W i m H →
  (J.stop i H ∧ Q (.ref D) H) ∨ (J.go i H ∧ ∃ Nx : Hp → Prop, (∀ H', Nx H' → ∃ m', m' < m ∧ W (i + 1) m' H') ∧ ∀ x H', J.yld i H x H' → g x (wipe σ vs) H' fun σ2 H2 => wipe σ2 vs = wipe σ vs ∧ tt σ2 H2 fun b H3 =>
    if b = true then te σ2 H3 fun y H4 => ∃ acc, H4 D = some (.lst acc) ∧ acc.length < sizeLine ∧ Nx (upd H4 D (.lst (acc ++ [y]))) else Nx H3)
section
variable {σ : L2.St} {H : Hp} {Q : VK} {D : L2.Ends} {g : TG} {tb : TS} {R : It → Hp → Prop}
theorem q_for {wi : TI} : tFor wi g tb D σ H = wi σ H fun J H1 => Loop J g tb D σ H1 := propext Iff.rfl
theorem q_lc {wi : TI} {tt : TT} {te : TE} {vs : List Nat} : tLc wi g tt te vs σ H Q = wi σ H fun J H1 => ∀ D, H1 D = none → LcLoop J g tt te vs σ Q D H1 := propext Iff.rfl
theorem q_rng1 {ta : TA} : iRng1 ta σ H R = ta σ H fun vs H1 => ∃ j : Int, vs = [.int j] ∧ -(2 ^ 62) ≤ j ∧ j < 2 ^ 62 ∧ R (Itr 0 j.toNat) H1 := propext Iff.rfl
theorem q_rng2 {ta : TA} : iRng2 ta σ H R = ta σ H fun vs H1 => ∃ i j : Int, vs = [.int i, .int j] ∧ (-(2 ^ 62) ≤ i ∧ i < 2 ^ 62 ∧ -(2 ^ 62) ≤ j ∧ j < 2 ^ 62) ∧ R (Itr i (j - i).toNat) H1 := propext Iff.rfl
theorem q_ilist {K : PySem.W.Frag} {tl : TE} : iList K tl σ H R = tl σ H fun x H1 => ∃ a, x = .ref a ∧ (∃ xs, SqL K H1 a xs) ∧ R (Itl K a) H1 := propext Iff.rfl
theorem q_istr {te : TE} : iStr te σ H R = te σ H fun v H1 => ∃ x, v = .str x ∧ R (Its x) H1 := propext Iff.rfl
theorem lp_range {lo : Int} {n : Nat} (Pv : Nat → L2.St → Hp → Prop) (h0 : Pv 0 σ H)
    (hs : ∀ i σ H, i < n → Pv i σ H → g (.int (lo + i)) σ H fun σ2 H2 => tb { D with nx := Pv (i + 1), ct := Pv (i + 1), bk := D.nx } σ2 H2) (hd : ∀ σ H, Pv n σ H → D.nx σ H) : Loop (Itr lo n) g tb D σ H := for_range Pv h0 hs hd
theorem lp_list {K : PySem.W.Frag} {a : Addr} {xs : List V} (Pv : Nat → L2.St → Hp → Prop) (h0 : Pv 0 σ H) (hl : ∀ i σ H, i ≤ xs.length → Pv i σ H → SqL K H a xs)
    (hs : ∀ i x σ H, xs[i]? = some x → Pv i σ H → g x σ H fun σ2 H2 => tb { D with nx := Pv (i + 1), ct := Pv (i + 1), bk := D.nx } σ2 H2) (hd : ∀ σ H, Pv xs.length σ H → D.nx σ H) : Loop (Itl K a) g tb D σ H := for_list Pv h0 hl hs hd
theorem lp_str {x : Str} (Pv : Nat → L2.St → Hp → Prop) (h0 : Pv 0 σ H)
    (hs : ∀ i c σ H, x.cps.toList[i]? = some c → Pv i σ H → g (.str ⟨#[c]⟩) σ H fun σ2 H2 => tb { D with nx := Pv (i + 1), ct := Pv (i + 1), bk := D.nx } σ2 H2) (hd : ∀ σ H, Pv x.cps.toList.length σ H → D.nx σ H) : Loop (Its x) g tb D σ H := by
  have el : x.cps.toList.length = x.cps.size := Array.length_toList
  refine ⟨fun i m σ H => m = x.cps.size - i ∧ i ≤ x.cps.size ∧ Pv i σ H, ⟨x.cps.size, by simp, Nat.zero_le _, h0⟩, ?_⟩
  rintro i m σ H ⟨rfl, hi, p⟩
  by_cases hlt : i < x.cps.size
  · refine .inr ⟨hlt, Pv (i + 1), fun σ' H' p' => ⟨x.cps.size - (i + 1), by omega, rfl, hlt, p'⟩, fun v H' y => ?_⟩
    obtain ⟨e, c, ec, ev⟩ := y
    subst e ev
    exact hs i c σ _ (by rw [Array.getElem?_toList]; exact ec) p
  · have e : i = x.cps.toList.length := by omega
    subst e
    exact .inl ⟨by show x.cps.size ≤ _; omega, hd σ H p⟩
theorem wipe_one {k : Nat} {v : Option V} : wipe ((wipe σ [k]).set k v) [k] = wipe σ [k] := by
  simp only [wipe, List.set_set]
/-- what a turn of a comprehension is to reach -/
def LcNext (p : Addr) (i : Nat) (G : Nat → List V → Hp → Prop) : VK := fun y H4 => ∃ acc, H4 p = some (.lst acc) ∧ acc.length < sizeLine ∧ ∃ ys, ys.length = i + 1 ∧ upd H4 p (.lst (acc ++ [y])) p = some (.lst ys) ∧ G (i + 1) ys (upd H4 p (.lst (acc ++ [y])))
theorem LcNext.mk {p : Addr} {i : Nat} {G : Nat → List V → Hp → Prop} {y : V} {H4 : Hp} {ys : List V} (h : H4 p = some (.lst ys)) (e : ys.length = i) (hi : i < 100000) (hG : G (i + 1) (ys ++ [y]) (upd H4 p (.lst (ys ++ [y])))) : LcNext p i G y H4 :=
  ⟨ys, h, sizeN (by omega), ys ++ [y], by simp [e], upd_same, hG⟩
/-- [te for k in range], the list so far is told to G -/
theorem lc_r {lo : Int} {n k : Nat} {te : TE} {p : Addr} (G : Nat → List V → Hp → Prop) (h0 : G 0 [] (upd H p (.lst [])))
    (hs : ∀ i ys H, i < n → ys.length = i → H p = some (.lst ys) → G i ys H → te ((wipe σ [k]).set k (some (.int (lo + i)))) H (LcNext p i G))
    (hd : ∀ ys H, ys.length = n → H p = some (.lst ys) → G n ys H → Q (.ref p) H) : LcLoop (Itr lo n) (gName k) tYes te [k] σ Q p H := by
  refine lc_range (Qd := fun H => Q (.ref p) H) (fun i H => ∃ ys, ys.length = i ∧ H p = some (.lst ys) ∧ G i ys H) ⟨[], rfl, upd_same, h0⟩ (fun i H hi ⟨ys, e, hp, hG⟩ => ?_) (fun H ⟨ys, e, hp, hG⟩ => hd ys H e hp hG)
  refine ⟨wipe_one, ?_⟩
  unfold tYes
  simp only [if_true]
  exact hs i ys H hi e hp hG
/-- [te for k in xs], xs a list that stands -/
theorem lc_l {K : PySem.W.Frag} {a p : Addr} {xs : List V} {k : Nat} {te : TE} (G : Nat → List V → Hp → Prop) (h0 : G 0 [] (upd H p (.lst []))) (hl : ∀ i ys H, G i ys H → SqL K H a xs)
    (hs : ∀ i x ys H, xs[i]? = some x → ys.length = i → H p = some (.lst ys) → G i ys H → te ((wipe σ [k]).set k (some x)) H (LcNext p i G))
    (hd : ∀ ys H, ys.length = xs.length → H p = some (.lst ys) → G xs.length ys H → Q (.ref p) H) : LcLoop (Itl K a) (gName k) tYes te [k] σ Q p H := by
  refine lc_list (xs := xs) (Qd := fun H => Q (.ref p) H) (fun i H => ∃ ys, ys.length = i ∧ H p = some (.lst ys) ∧ G i ys H) ⟨[], rfl, upd_same, h0⟩ (fun i H hi ⟨ys, e, hp, hG⟩ => hl i ys H hG) (fun i x H hx ⟨ys, e, hp, hG⟩ => ?_) (fun H ⟨ys, e, hp, hG⟩ => hd ys H e hp hG)
  refine ⟨wipe_one, ?_⟩
  unfold tYes
  simp only [if_true]
  exact hs i x ys H hx e hp hG
/-- [te for g in xs], any target -/
theorem lc_g {K : PySem.W.Frag} {a p : Addr} {xs : List V} {vs : List Nat} {te : TE} (G : Nat → List V → Hp → Prop) (h0 : G 0 [] (upd H p (.lst []))) (hl : ∀ i ys H, G i ys H → SqL K H a xs)
    (hs : ∀ i x ys H, xs[i]? = some x → ys.length = i → H p = some (.lst ys) → G i ys H → g x (wipe σ vs) H fun σ2 H2 => wipe σ2 vs = wipe σ vs ∧ te σ2 H2 (LcNext p i G))
    (hd : ∀ ys H, ys.length = xs.length → H p = some (.lst ys) → G xs.length ys H → Q (.ref p) H) : LcLoop (Itl K a) g tYes te vs σ Q p H := by
  refine lc_list (xs := xs) (Qd := fun H => Q (.ref p) H) (fun i H => ∃ ys, ys.length = i ∧ H p = some (.lst ys) ∧ G i ys H) ⟨[], rfl, upd_same, h0⟩ (fun i H hi ⟨ys, e, hp, hG⟩ => hl i ys H hG) (fun i x H hx ⟨ys, e, hp, hG⟩ => ?_) (fun H ⟨ys, e, hp, hG⟩ => hd ys H e hp hG)
  unfold tYes
  simp only [if_true]
  exact hs i x ys H hx e hp hG
/-- a tracked tuple of two to two names -/
theorem g_two {K : PySem.W.Frag} {i j : Nat} {t : Addr} {x y : V} {R : L2.St → Hp → Prop} (h : H t = some (.tup [x, y])) (r : R ((σ.set i (some x)).set j (some y)) H) : gTup K 2 (gCons (gName i) (gCons (gName j) gNil)) (.ref t) σ H R :=
  ⟨t, [x, y], rfl, .inl (.inl h), rfl, x, [y], rfl, y, [], rfl, rfl, r⟩
end
section
variable {x y : V} {H : Hp} {Q : VK} {K : PySem.W.Frag} {n : Bool}
theorem r_eqII {i j : Int} : rEqA K n (.int i) (.int j) H Q = Q (.bl (n ^^ decide (i = j))) H := by
  rw [r_eqS rfl]
  simp only [V.int.injEq]
theorem r_eqSS {i j : Str} : rEqA K n (.str i) (.str j) H Q = Q (.bl (n ^^ decide (i = j))) H := by
  rw [r_eqS rfl]
  simp only [V.str.injEq]
theorem r_eqBB {i j : Bool} : rEqA K n (.bl i) (.bl j) H Q = Q (.bl (n ^^ decide (i = j))) H := by
  rw [r_eqS rfl]
  simp only [V.bl.injEq]
end
theorem callee_fn {P : Program} {w : World} {K : PySem.W.Frag} {mg : Str → Option Value} {base : Heap} {k : Nat} {x : Str} {ps : List Str} {sp : Sp} {st : Stmt} {f : Addr} {fd : FuncData} (F : Fun K x x st f fd) (g : mg x = some (.ref f)) (C : Callee P w K mg base k x ps sp) : FnOk P w K mg base CX0 k f fd ps sp := by
  obtain ⟨f', fd', g', kp, b, R, oc', od', sl', lk'⟩ := C.ex
  rw [g] at g'
  cases g'
  obtain ⟨oc, od, kV, doc, pm, an, cdv, ct, osl, e, lk, _⟩ := F.ex
  rw [lk] at lk'
  cases lk'
  exact R
theorem app_ok {K : PySem.W.Frag} {H : Hp} {Q : VK} {l : Addr} {xs : List V} {y : V} (h : H l = some (.lst xs)) (hl : xs.length < 100000) (q : Q .non (upd H l (.lst (xs ++ [y])))) : tyV K "list" (.ref l) H ∧ rAppend (.ref l) [y] H Q :=
  ⟨.inl ⟨rfl, _, .inl (.inl h)⟩, l, xs, y, rfl, rfl, h, sizeN (by omega), q⟩
theorem ln0 : ((([] : List V).length : Nat) : Int) = 0 := by rfl
theorem ln1 {x : V} : ((([x] : List V).length : Nat) : Int) = 1 := by rfl
theorem ln2 {x y : V} : ((([x, y] : List V).length : Nat) : Int) = 2 := by rfl
theorem ln3 {x y z : V} : ((([x, y, z] : List V).length : Nat) : Int) = 3 := by rfl
theorem r_adL {p b : Addr} {H : Hp} {Q : VK} : rAd (.ref p) (.ref b) H Q = ∃ xs zs, H p = some (.lst xs) ∧ H b = some (.lst zs) ∧ xs.length + zs.length ≤ sizeLine ∧ ∀ r, H r = none → Q (.ref r) (upd H r (.lst (xs ++ zs))) := by
  apply propext
  constructor
  · rintro (⟨i, j, e1, _⟩ | ⟨i, j, e1, _⟩ | ⟨l, c, xs, zs, e1, e2, h⟩)
    · cases e1
    · cases e1
    · cases e1; cases e2; exact ⟨xs, zs, h⟩
  · exact fun ⟨xs, zs, h⟩ => .inr (.inr ⟨p, b, xs, zs, rfl, rfl, h⟩)
theorem szl {n : Nat} (h : n ≤ 100000) : n ≤ sizeLine := Nat.le_of_lt (sizeN h)
end KB
namespace KB
open PySem PySem.Spec PyProof.Rows L2 TL
/-! ### texts as lists of codes -/
/-- printable signs alone -/
def Pr (z : Str) : Prop := ∀ c ∈ tl z, 32 ≤ c ∧ c < 127
theorem Pr.app {x y : Str} (hx : Pr x) (hy : Pr y) : Pr (x ++ y) := fun c hc => by
  rw [tl_append] at hc
  rcases List.mem_append.mp hc with h | h
  · exact hx c h
  · exact hy c h
theorem pr_one {c : Nat} (h : 32 ≤ c ∧ c < 127) : Pr ⟨#[c]⟩ := fun d hd => by
  have e : d = c := List.mem_singleton.mp hd
  subst e
  exact h
theorem pr_lit {s : String} (h : (s.toList.map Char.toNat).all (fun c => decide (32 ≤ c) && decide (c < 127)) = true) : Pr (Str.ofString s) := fun c hc => by
  rw [tl_ofString] at hc
  have q := List.all_eq_true.mp h c hc
  simpa using q
theorem len_lit (s : String) : (Str.ofString s).length = s.toList.length := by rw [len_tl, tl_ofString, List.length_map]
theorem len_app (x y : Str) : (x ++ y).length = x.length + y.length := by rw [len_tl, tl_append, List.length_append, ← len_tl, ← len_tl]
theorem lit_at {z : Str} {n : Nat} (hn : (tl z).length = n) (h : (tl z).all (fun c => decide (32 ≤ c) && decide (c < 127)) = true) {r : Int} (r0 : 0 ≤ r) (r1 : r < n) : ∃ c, atI z.cps.toList r = some c ∧ 32 ≤ c ∧ c < 127 := by
  obtain ⟨j, rfl⟩ := Int.eq_ofNat_of_zero_le r0
  have hj : j < (tl z).length := by omega
  have q := List.all_eq_true.mp h (tl z)[j] (List.getElem_mem hj)
  simp only [Bool.and_eq_true, decide_eq_true_eq] at q
  exact ⟨(tl z)[j], atI_nat (List.getElem?_eq_getElem hj), q.1, q.2⟩
theorem lit_ex {z : Str} {n : Nat} {R : Nat → Prop} {r : Int} (hn : (tl z).length = n) (h : (tl z).all (fun c => decide (32 ≤ c) && decide (c < 127)) = true) (r0 : 0 ≤ r) (r1 : r < n) (k : ∀ c, 32 ≤ c → c < 127 → R c) : ∃ c, atI z.cps.toList r = some c ∧ R c := by
  obtain ⟨c, e, h1, h2⟩ := lit_at hn h r0 r1
  exact ⟨c, e, k c h1 h2⟩
theorem join_tl (a : Str) (zs : List Str) : tl (Txt.join a zs) = joinL (tl a) (zs.map tl) := by
  rw [join_eq, tl_join]
theorem joinL_nil : ∀ ls : List (List Nat), joinL [] ls = ls.flatten
  | [] => rfl
  | [p] => by simp [joinL]
  | p :: q :: r => by
    show p ++ ([] ++ joinL [] (q :: r)) = _
    rw [joinL_nil (q :: r)]
    simp
theorem join0 (zs : List Str) : tl (Txt.join (Str.ofString "") zs) = (zs.map tl).flatten := by
  rw [join_tl, show tl (Str.ofString "") = [] from by rw [tl_ofString]; rfl, joinL_nil]
theorem join_pr {zs : List Str} (h : ∀ z ∈ zs, Pr z) : Pr (Txt.join (Str.ofString "") zs) := fun c hc => by
  rw [join0] at hc
  obtain ⟨l, hl, h1⟩ := List.mem_flatten.mp hc
  obtain ⟨z, hz, rfl⟩ := List.mem_map.mp hl
  exact h z hz c h1
theorem join_len (zs : List Str) : (Txt.join (Str.ofString "") zs).length = (zs.map (·.length)).sum := by
  rw [len_tl, join0, List.length_flatten, List.map_map]
  refine congrArg List.sum ?_
  exact List.map_congr_left fun z _ => (len_tl z).symm
theorem len_ones {zs : List Str} (h : ∀ z ∈ zs, z.length = 1) : (zs.map (·.length)).sum = zs.length := by
  induction zs with
  | nil => rfl
  | cons z r ih =>
    rw [List.map_cons, List.sum_cons, h z (List.mem_cons_self ..), ih fun z hz => h z (List.mem_cons_of_mem _ hz), List.length_cons]
    omega
theorem tl_neg (n : Nat) (h : 0 < n) : tl (Str.ofString (toString (-(n : Int)))) = 45 :: numL n := by
  obtain ⟨m, rfl⟩ : ∃ m, n = m + 1 := ⟨n - 1, by omega⟩
  have e : toString (-((m + 1 : Nat) : Int)) = "-" ++ toString ((m + 1 : Nat) : Int) := rfl
  rw [e, tl_ofString, String.toList_append, List.map_append]
  rw [show List.map Char.toNat (toString ((m + 1 : Nat) : Int)).toList = numL (m + 1) from (tl_ofString _).symm.trans (tl_num (m + 1))]
  rfl
/-- the codes of str(n) -/
def intL (n : Int) : List Nat := if n < 0 then 45 :: numL n.natAbs else numL n.natAbs
theorem tl_int (n : Int) : tl (Str.ofString (toString n)) = intL n := by
  unfold intL
  split
  · have e : n = -((n.natAbs : Nat) : Int) := by omega
    have h := tl_neg n.natAbs (by omega)
    rw [← e] at h
    exact h
  · have e : n = ((n.natAbs : Nat) : Int) := by omega
    have h := tl_num n.natAbs
    rw [← e] at h
    exact h
theorem intL_sign {n : Int} {c : Nat} (h : c ∈ intL n) : c = 45 ∨ (48 ≤ c ∧ c ≤ 57) := by
  unfold intL at h
  split at h
  · rcases List.mem_cons.mp h with h | h
    · exact .inl h
    · exact .inr (numL_digits _ c h)
  · exact .inr (numL_digits _ c h)
theorem pr_int (n : Int) : Pr (Str.ofString (toString n)) := fun c hc => by
  rw [tl_int] at hc
  have h := intL_sign hc
  omega
theorem len_int {n : Int} {k : Nat} (hk : 0 < k) (h : n.natAbs < 10 ^ k) : (Str.ofString (toString n)).length ≤ k + 1 := by
  rw [len_tl, tl_int]
  have e := numL_len hk h
  unfold intL
  split
  · rw [List.length_cons]; omega
  · omega
theorem log_int {n : Int} (h : n.natAbs < 10 ^ 30) : n.natAbs.log2 < 1920 := by
  by_cases h0 : n.natAbs = 0
  · rw [h0]; decide
  · exact (Nat.log2_lt h0).mpr (Nat.lt_trans h (by decide +kernel))
theorem pow10 {a b : Nat} (h : a ≤ b) : (10 : Int) ^ a ≤ 10 ^ b := by
  have e := Nat.pow_le_pow_right (by decide : 0 < 10) h
  have e2 : ((10 ^ a : Nat) : Int) ≤ ((10 ^ b : Nat) : Int) := Int.ofNat_le.mpr e
  simpa using e2
/-- a key: an integer of at most thirty digits, a printable text -/
def KeyV (v : V) : Prop := (∃ n : Int, v = .int n ∧ n.natAbs < 10 ^ 30) ∨ ∃ z, v = .str z ∧ Pr z ∧ z.length ≤ 300
def okS (m : Nat) (z : Str) : Bool := (tl z).all (fun c => decide (32 ≤ c) && decide (c < 127)) && decide (z.length ≤ m)
theorem okS_pr {m : Nat} {z : Str} (h : okS m z = true) : Pr z ∧ z.length ≤ m := by
  unfold okS at h
  rw [Bool.and_eq_true] at h
  refine ⟨fun c hc => ?_, of_decide_eq_true h.2⟩
  have q := List.all_eq_true.mp h.1 c hc
  simpa using q
def okV (m : Nat) : V → Bool
  | .str z => okS m z
  | _ => false
theorem menu_at {vs : List V} {n : Nat} {r : Int} (hn : vs.length = n) (r0 : 0 ≤ r) (r1 : r < n) : ∃ v ∈ vs, atI vs r = some v := by
  obtain ⟨j, rfl⟩ := Int.eq_ofNat_of_zero_le r0
  have hj : j < vs.length := by omega
  exact ⟨vs[j], List.getElem_mem hj, atI_nat (List.getElem?_eq_getElem hj)⟩
theorem menu_ex {vs : List V} {n : Nat} {r : Int} {R : V → Prop} (hn : vs.length = n) (r0 : 0 ≤ r) (r1 : r < n) (k : ∀ v ∈ vs, R v) : ∃ v, atI vs r = some v ∧ R v := by
  obtain ⟨v, hv, e⟩ := menu_at hn r0 r1
  exact ⟨v, e, k v hv⟩
theorem menu_ok {vs : List V} {m n : Nat} {r : Int} {R : V → Prop} (hn : vs.length = n) (hz : vs.all (okV m) = true) (r0 : 0 ≤ r) (r1 : r < n) (k : ∀ z, Pr z → z.length ≤ m → R (.str z)) : ∃ v, atI vs r = some v ∧ R v := by
  obtain ⟨v, hv, e⟩ := menu_at hn r0 r1
  have q := List.all_eq_true.mp hz v hv
  cases v with
  | str z => exact ⟨_, e, k z (okS_pr q).1 (okS_pr q).2⟩
  | _ => cases q
/-! ### numbers read from digits -/
theorem digitsVal_snoc (l : List Nat) (c : Nat) : NumText.digitsVal (l ++ [c]) = NumText.digitsVal l * 10 + (c - 48) := by
  unfold NumText.digitsVal
  rw [List.foldl_append]
  rfl
theorem rev_ind {α : Type} {p : List α → Prop} (h0 : p []) (h1 : ∀ l a, p l → p (l ++ [a])) (l : List α) : p l := by
  rw [← List.reverse_reverse l]
  induction l.reverse with
  | nil => exact h0
  | cons a r ih => rw [List.reverse_cons]; exact h1 _ _ ih
theorem digitsVal_lt (l : List Nat) : NumText.AllDigits l → NumText.digitsVal l < 10 ^ l.length := by
  refine rev_ind (p := fun l => NumText.AllDigits l → NumText.digitsVal l < 10 ^ l.length) (fun _ => by decide) (fun r c ih hd => ?_) l
  have hc := hd c (by simp)
  have h1 := ih fun d h => hd d (List.mem_append_left _ h)
  rw [digitsVal_snoc, List.length_append, List.length_singleton, Nat.pow_succ]
  omega
theorem digits30 {l : List Nat} (hd : NumText.AllDigits l) (h : l.length ≤ 30) : NumText.digitsVal l < 10 ^ 30 := Nat.lt_of_lt_of_le (digitsVal_lt l hd) (Nat.pow_le_pow_right (by decide) h)
theorem digits_pos (l : List Nat) : NumText.AllDigits l → l ≠ [] → l.head? ≠ some 48 → 0 < NumText.digitsVal l := by
  refine rev_ind (p := fun l => NumText.AllDigits l → l ≠ [] → l.head? ≠ some 48 → 0 < NumText.digitsVal l) (fun _ h _ => absurd rfl h) (fun r c ih hd _ hh => ?_) l
  rw [digitsVal_snoc]
  have hc := hd c (by simp)
  cases r with
  | nil =>
    have : c ≠ 48 := fun e => hh (by simp [e])
    omega
  | cons x r =>
    have := ih (fun d h => hd d (List.mem_append_left _ h)) (by simp) (by simpa using hh)
    omega
theorem numL_back (l : List Nat) : NumText.AllDigits l → l ≠ [] → (l = [48] ∨ l.head? ≠ some 48) → numL (NumText.digitsVal l) = l := by
  refine rev_ind (p := fun l => NumText.AllDigits l → l ≠ [] → (l = [48] ∨ l.head? ≠ some 48) → numL (NumText.digitsVal l) = l) (fun _ h _ => absurd rfl h) (fun r c ih hd _ hh => ?_) l
  have hc := hd c (by simp)
  have hr : NumText.AllDigits r := fun d h => hd d (List.mem_append_left _ h)
  rw [digitsVal_snoc]
  cases r with
  | nil =>
    rw [show NumText.digitsVal [] * 10 + (c - 48) = c - 48 by simp [NumText.digitsVal]]
    rw [numL_lt (by omega)]
    simp
    omega
  | cons x r =>
    have hx : (x :: r).head? ≠ some 48 := by
      rcases hh with hh | hh
      · have := congrArg List.length hh
        simp at this
      · simpa using hh
    have hp := digits_pos (x :: r) hr (by simp) hx
    rw [numL_step (by omega)]
    rw [show (NumText.digitsVal (x :: r) * 10 + (c - 48)) / 10 = NumText.digitsVal (x :: r) by omega, show (NumText.digitsVal (x :: r) * 10 + (c - 48)) % 10 = c - 48 by omega, ih hr (by simp) (.inr hx)]
    congr 2
    omega
/-! ### digit keys -/
def isDg (c : Nat) : Bool := decide (48 ≤ c) && decide (c ≤ 57)
/-- what stands behind a minus sign, or the whole -/
def body (l : List Nat) : List Nat := if l.head? = some 45 then l.tail else l
def digK (l : List Nat) : Bool := decide (body l ≠ []) && decide ((body l).length ≤ 30) && (body l).all isDg && (decide (l = [48]) || decide ((body l).head? ≠ some 48))
theorem digK_int {z : Str} (h : digK (tl z) = true) : ∃ n, PySem.intText? z = some n ∧ Str.ofString (toString n) = z ∧ z.length ≤ 31 ∧ n.natAbs < 10 ^ 30 := by
  unfold digK at h
  simp only [Bool.and_eq_true, decide_eq_true_eq, Bool.or_eq_true] at h
  obtain ⟨⟨⟨h1, h2⟩, h3⟩, h4⟩ := h
  have hd : NumText.AllDigits (body (tl z)) := fun c hc => by
    have q := List.all_eq_true.mp h3 c hc
    simpa [isDg] using q
  by_cases hm : (tl z).head? = some 45
  · obtain ⟨r, er⟩ : ∃ r, tl z = 45 :: r := by
      cases e : tl z with
      | nil => rw [e] at hm; cases hm
      | cons x r => rw [e] at hm; cases hm; exact ⟨r, rfl⟩
    have eb : body (tl z) = r := by unfold body; rw [if_pos hm, er]; rfl
    rw [eb] at h1 h2 hd h4
    have h0 : r.head? ≠ some 48 := by
      rcases h4 with h4 | h4
      · rw [er] at h4; cases h4
      · exact h4
    have hp := digits_pos r hd h1 h0
    have hl : z.length ≤ 31 := by rw [len_tl, er, List.length_cons]; omega
    refine ⟨-((NumText.digitsVal r : Nat) : Int), intText_neg er hd h1 (by omega), ext_tl ?_, hl, by have := digits30 hd h2; omega⟩
    rw [tl_neg _ hp, er, numL_back r hd h1 (.inr h0)]
  · have eb : body (tl z) = tl z := by unfold body; rw [if_neg hm]
    rw [eb] at h1 h2 hd h4
    have hl : z.length ≤ 31 := by rw [len_tl]; omega
    refine ⟨((NumText.digitsVal (tl z) : Nat) : Int), intText_digits hd h1 (by omega), ext_tl ?_, hl, by have := digits30 hd h2; omega⟩
    rw [tl_num, numL_back _ hd h1 h4]
theorem uni_dig : ∀ c : Nat, c < 127 → Unicode.isDigit c = isDg c := by decide +kernel
theorem pr_body {z : Str} (h : Pr z) : ∀ c ∈ body (tl z), 32 ≤ c ∧ c < 127 := fun c hc => by
  unfold body at hc
  split at hc
  · exact h c (List.mem_of_mem_tail hc)
  · exact h c hc
theorem isdigit_pr {z : Str} (h : ∀ c ∈ tl z, 32 ≤ c ∧ c < 127) : Txt.isdigit z = (decide (tl z ≠ []) && (tl z).all isDg) := by
  have e1 : (decide (z.length > 0)) = decide (tl z ≠ []) := by
    rw [len_tl]
    cases tl z <;> simp
  have e2 : z.cps.all Unicode.isDigit = (tl z).all isDg := by
    rw [← Array.all_toList]
    rw [Bool.eq_iff_iff, List.all_eq_true, List.all_eq_true]
    exact ⟨fun q c hc => by rw [← uni_dig c (h c hc).2]; exact q c hc, fun q c hc => by rw [uni_dig c (h c hc).2]; exact q c hc⟩
  unfold Txt.isdigit
  rw [e1, e2]
theorem rm_minus (z : Str) : tl (Txt.removeprefix z (Str.ofString "-")) = body (tl z) := by
  rw [PySem.StrLaws.removeprefix_eq]
  have hm : (Str.ofString "-").length = 1 := by decide +kernel
  have hs : Builtin.Str.subAt z (Str.ofString "-") 0 = decide ((tl z).head? = some 45) := by
    unfold Builtin.Str.subAt
    rw [hm]
    have e : (z.cps.extract 0 (0 + 1)).toList = (tl z).take 1 := by simp [tl]
    have e2 : (Str.ofString "-").cps = #[45] := by decide +kernel
    rw [e2]
    have e3 : (z.cps.extract 0 (0 + 1) == #[45]) = ((tl z).take 1 == [45]) := by
      rw [← e]
      rw [Bool.eq_iff_iff, beq_iff_eq, beq_iff_eq]
      exact ⟨fun h => by rw [h], fun h => Array.toList_inj.mp h⟩
    rw [e3]
    cases tl z with
    | nil => rfl
    | cons x r =>
      rw [Bool.eq_iff_iff, beq_iff_eq, decide_eq_true_eq]
      simp
  rw [hs, hm]
  unfold body
  by_cases h : (tl z).head? = some 45
  · have hl : 0 + 1 ≤ z.length := by
      rw [len_tl]
      cases e : tl z with
      | nil => rw [e] at h; cases h
      | cons x r => simp
    rw [decide_eq_true hl, decide_eq_true h, Bool.and_self, if_pos (rfl : true = true), if_pos h]
    show ((tl z).drop 1).take (z.length - 1) = (tl z).tail
    rw [List.drop_one, List.take_of_length_le (by rw [List.length_tail, len_tl]; exact Nat.le_refl _)]
  · rw [decide_eq_false h, Bool.and_false, if_neg Bool.false_ne_true, if_neg h]
/-- the code at 0 -/
theorem atI_head {l : List Nat} (h : l ≠ []) : ∃ c, atI l 0 = some c ∧ l.head? = some c := by
  cases l with
  | nil => exact absurd rfl h
  | cons x r => exact ⟨x, atI_nat (j := 0) rfl, rfl⟩
theorem one_eq {c d : Nat} {s : String} (h : tl (Str.ofString s) = [d]) : decide ((⟨#[c]⟩ : Str) = Str.ofString s) = decide (c = d) := by
  rw [Bool.eq_iff_iff, decide_eq_true_eq, decide_eq_true_eq]
  constructor
  · intro e
    have e2 := congrArg tl e
    rw [h] at e2
    cases e2
    rfl
  · rintro rfl
    exact ext_tl (by rw [h])
theorem one_iff {c d : Nat} {s : String} (h : tl (Str.ofString s) = [d]) : ((⟨#[c]⟩ : Str) = Str.ofString s) ↔ c = d := by
  have e := one_eq (c := c) h
  by_cases h1 : c = d
  · rw [decide_eq_true h1] at e; exact iff_of_true (of_decide_eq_true e) h1
  · rw [decide_eq_false h1] at e; exact iff_of_false (of_decide_eq_false e) h1
theorem str_eq_iff {z : Str} {s : String} {l : List Nat} (h : tl (Str.ofString s) = l) : (z = Str.ofString s) ↔ tl z = l := by
  constructor
  · rintro rfl
    exact h
  · intro e
    exact ext_tl (by rw [h, e])
theorem tl_cutS (z : Str) (lo hi : Option Int) : tl (cutS z lo hi) = ((tl z).drop (HT.sIx z.length 0 lo)).take (HT.sIx z.length z.length hi - HT.sIx z.length 0 lo) := rfl
theorem cut_head (z : Str) : tl (cutS z none (some 1)) = (tl z).take 1 := by
  rw [tl_cutS, HT.sIx_none, show HT.sIx z.length z.length (some 1) = min 1 z.length from HT.sIx_nat _ _ 1, len_tl, List.drop_zero]
  cases tl z <;> simp
theorem cut_tail (z : Str) : tl (cutS z (some 1) none) = (tl z).tail := by
  rw [tl_cutS, HT.sIx_none, show HT.sIx z.length 0 (some 1) = min 1 z.length from HT.sIx_nat _ _ 1, len_tl]
  cases tl z with
  | nil => rfl
  | cons x r =>
    rw [show min 1 (x :: r).length = 1 by rw [List.length_cons]; omega]
    show List.take ((x :: r).length - 1) r = r
    rw [List.length_cons, Nat.add_sub_cancel]
    exact List.take_length
theorem take1_eq {l : List Nat} {c : Nat} : l.take 1 = [c] ↔ l.head? = some c := by
  cases l <;> simp
theorem body_len (l : List Nat) : (body l).length ≤ l.length := by
  unfold body
  split
  · rw [List.length_tail]; omega
  · exact Nat.le_refl _
theorem dg_mem (c : Nat) : (c ∈ (Str.ofString "0123456789").cps.toList) ↔ isDg c = true := by
  rw [show (Str.ofString "0123456789").cps.toList = [48, 49, 50, 51, 52, 53, 54, 55, 56, 57] by decide +kernel]
  simp only [isDg, Bool.and_eq_true, decide_eq_true_eq, List.mem_cons, List.not_mem_nil, or_false]
  omega
end KB
namespace KB
open PySem PySem.Spec PyProof.Rows L2 TL
/-! ### raw values -/
inductive Raw where
  | non
  | bl (b : Bool)
  | int (n : Int)
  | str (z : Str)
  | row (rs : List Raw)
  | tab (zs : List Str) (rs : List Raw)
mutual
def Rp (H : Hp) : Raw → V → Prop
  | .non, v => v = .non
  | .bl b, v => v = .bl b
  | .int n, v => v = .int n
  | .str z, v => v = .str z
  | .row rs, v => ∃ t l vs, v = .ref t ∧ H t = some (.tup [.str "row", .ref l]) ∧ H l = some (.lst vs) ∧ RpL H rs vs
  | .tab zs rs, v => ∃ t l vs, v = .ref t ∧ H t = some (.tup [.str "table", .ref l]) ∧ H l = some (.lst vs) ∧ RpP H rs zs vs
def RpL (H : Hp) : List Raw → List V → Prop
  | [], vs => vs = []
  | r :: rs, vs => ∃ v ws, vs = v :: ws ∧ Rp H r v ∧ RpL H rs ws
def RpP (H : Hp) : List Raw → List Str → List V → Prop
  | [], zs, vs => zs = [] ∧ vs = []
  | r :: rs, zs, vs => ∃ z ys t v ws, zs = z :: ys ∧ vs = .ref t :: ws ∧ H t = some (.tup [.str z, v]) ∧ Rp H r v ∧ RpP H rs ys ws
end
mutual
theorem Rp.mono {H H' : Hp} (s : Same H H') : ∀ (r : Raw) (v : V), Rp H r v → Rp H' r v
  | .non, _, h => h
  | .bl _, _, h => h
  | .int _, _, h => h
  | .str _, _, h => h
  | .row rs, v, h => by
    obtain ⟨t, l, vs, e, h1, h2, h3⟩ := h
    exact ⟨t, l, vs, e, s _ _ h1, s _ _ h2, RpL.mono s rs vs h3⟩
  | .tab zs rs, v, h => by
    obtain ⟨t, l, vs, e, h1, h2, h3⟩ := h
    exact ⟨t, l, vs, e, s _ _ h1, s _ _ h2, RpP.mono s rs zs vs h3⟩
theorem RpL.mono {H H' : Hp} (s : Same H H') : ∀ (rs : List Raw) (vs : List V), RpL H rs vs → RpL H' rs vs
  | [], _, h => h
  | r :: rs, _, h => by
    obtain ⟨v, ws, e, h1, h2⟩ := h
    exact ⟨v, ws, e, Rp.mono s r v h1, RpL.mono s rs ws h2⟩
theorem RpP.mono {H H' : Hp} (s : Same H H') : ∀ (rs : List Raw) (zs : List Str) (vs : List V), RpP H rs zs vs → RpP H' rs zs vs
  | [], _, _, h => h
  | r :: rs, _, _, h => by
    obtain ⟨z, ys, t, v, ws, e1, e2, h0, h1, h2⟩ := h
    exact ⟨z, ys, t, v, ws, e1, e2, s _ _ h0, Rp.mono s r v h1, RpP.mono s rs ys ws h2⟩
end
mutual
def nodes : Raw → Nat
  | .row rs => 1 + nodesL rs
  | .tab _ rs => 1 + nodesL rs
  | _ => 1
def nodesL : List Raw → Nat
  | [] => 0
  | r :: rs => nodes r + nodesL rs
end
mutual
def depth : Raw → Nat
  | .row rs => 1 + depthL rs
  | .tab _ rs => 1 + depthL rs
  | _ => 0
def depthL : List Raw → Nat
  | [] => 0
  | r :: rs => max (depth r) (depthL rs)
end
mutual
def OkR : Raw → Prop
  | .non => True
  | .bl _ => True
  | .int n => n.natAbs < 10 ^ 30
  | .str z => Pr z ∧ z.length ≤ 300
  | .row rs => OkL rs
  | .tab zs rs => OkL rs ∧ zs.length = rs.length ∧ ∀ z ∈ zs, Pr z ∧ z.length ≤ 300
def OkL : List Raw → Prop
  | [] => True
  | r :: rs => OkR r ∧ OkL rs
end
theorem RpL.len {H : Hp} : ∀ {rs : List Raw} {vs : List V}, RpL H rs vs → vs.length = rs.length
  | [], _, h => by cases h; rfl
  | r :: rs, _, h => by
    obtain ⟨v, ws, rfl, h1, h2⟩ := h
    rw [List.length_cons, List.length_cons, h2.len]
theorem RpP.len {H : Hp} : ∀ {rs : List Raw} {zs : List Str} {vs : List V}, RpP H rs zs vs → vs.length = rs.length ∧ zs.length = rs.length
  | [], _, _, h => by obtain ⟨rfl, rfl⟩ := h; exact ⟨rfl, rfl⟩
  | r :: rs, _, _, h => by
    obtain ⟨z, ys, t, v, ws, rfl, rfl, h0, h1, h2⟩ := h
    have := h2.len
    simp only [List.length_cons]
    omega
theorem RpL.snoc {H : Hp} : ∀ {rs : List Raw} {vs : List V} {r : Raw} {v : V}, RpL H rs vs → Rp H r v → RpL H (rs ++ [r]) (vs ++ [v])
  | [], _, r, v, h, h1 => by cases h; exact ⟨v, [], rfl, h1, rfl⟩
  | q :: rs, _, r, v, h, h1 => by
    obtain ⟨w, ws, rfl, h2, h3⟩ := h
    exact ⟨w, ws ++ [v], rfl, h2, h3.snoc h1⟩
theorem RpP.snoc {H : Hp} : ∀ {rs : List Raw} {zs : List Str} {vs : List V} {r : Raw} {z : Str} {t : Addr} {v : V}, RpP H rs zs vs → H t = some (.tup [.str z, v]) → Rp H r v → RpP H (rs ++ [r]) (zs ++ [z]) (vs ++ [.ref t])
  | [], _, _, r, z, t, v, h, h0, h1 => by obtain ⟨rfl, rfl⟩ := h; exact ⟨z, [], t, v, [], rfl, rfl, h0, h1, rfl, rfl⟩
  | q :: rs, _, _, r, z, t, v, h, h0, h1 => by
    obtain ⟨y, ys, u, w, ws, rfl, rfl, h3, h4, h5⟩ := h
    exact ⟨y, ys ++ [z], u, w, ws ++ [.ref t], rfl, rfl, h3, h4, h5.snoc h0 h1⟩
theorem RpL.get {H : Hp} : ∀ {rs : List Raw} {vs : List V} {i : Nat} {v : V}, RpL H rs vs → vs[i]? = some v → ∃ r, rs[i]? = some r ∧ Rp H r v
  | [], _, i, v, h, e => by cases h; simp at e
  | q :: rs, _, i, v, h, e => by
    obtain ⟨w, ws, rfl, h2, h3⟩ := h
    cases i with
    | zero => cases e; exact ⟨q, rfl, h2⟩
    | succ i => exact RpL.get (i := i) h3 (by simpa using e)
theorem RpP.get {H : Hp} : ∀ {rs : List Raw} {zs : List Str} {vs : List V} {i : Nat} {v : V}, RpP H rs zs vs → vs[i]? = some v → ∃ r z t u, rs[i]? = some r ∧ zs[i]? = some z ∧ v = .ref t ∧ H t = some (.tup [.str z, u]) ∧ Rp H r u
  | [], _, _, i, v, h, e => by obtain ⟨rfl, rfl⟩ := h; simp at e
  | q :: rs, _, _, i, v, h, e => by
    obtain ⟨y, ys, t, w, ws, rfl, rfl, h3, h4, h5⟩ := h
    cases i with
    | zero => cases e; exact ⟨q, y, t, w, rfl, rfl, rfl, h3, h4⟩
    | succ i => exact RpP.get (i := i) h5 (by simpa using e)
theorem OkL.get : ∀ {rs : List Raw} {i : Nat} {r : Raw}, OkL rs → rs[i]? = some r → OkR r
  | [], i, r, _, e => by simp at e
  | q :: rs, i, r, h, e => by
    cases i with
    | zero => cases e; exact h.1
    | succ i => exact OkL.get (i := i) h.2 (by simpa using e)
theorem OkL.snoc : ∀ {rs : List Raw} {r : Raw}, OkL rs → OkR r → OkL (rs ++ [r])
  | [], r, _, h => ⟨h, trivial⟩
  | q :: rs, r, h, h1 => ⟨h.1, h.2.snoc h1⟩
theorem nodesL_snoc : ∀ (rs : List Raw) (r : Raw), nodesL (rs ++ [r]) = nodesL rs + nodes r
  | [], r => by simp [nodesL]
  | q :: rs, r => by simp only [List.cons_append, nodesL, nodesL_snoc rs r]; omega
theorem depthL_snoc : ∀ (rs : List Raw) (r : Raw), depthL (rs ++ [r]) = max (depthL rs) (depth r)
  | [], r => by simp [depthL]
  | q :: rs, r => by simp only [List.cons_append, depthL, depthL_snoc rs r]; omega
theorem depth_get : ∀ {rs : List Raw} {i : Nat} {r : Raw}, rs[i]? = some r → depth r ≤ depthL rs
  | [], i, r, e => by simp at e
  | q :: rs, i, r, e => by
    cases i with
    | zero => cases e; simp only [depthL]; omega
    | succ i => have := depth_get (rs := rs) (i := i) (by simpa using e); simp only [depthL]; omega
/-! ### parts of heaps -/
/-- all but one address -/
def hid (H : Hp) (d : Addr) : Hp := fun b => if b = d then none else H b
/-- what is new in the second one -/
def new (H H' : Hp) : Hp := fun b => if (H b).isSome then none else H' b
theorem hid_upd {H : Hp} {d : Addr} {o : HO} : hid (upd H d o) d = hid H d := by
  funext b
  unfold hid upd
  split <;> rfl
theorem hid_same {H : Hp} {d : Addr} : Same (hid H d) H := fun b o h => by
  unfold hid at h
  split at h
  · cases h
  · exact h
theorem new_same {H H' : Hp} : Same (new H H') H' := fun b o h => by
  unfold new at h
  split at h
  · cases h
  · exact h
theorem new_hid {H H' : Hp} {d : Addr} {o : HO} (hd : H d = some o) : Same (new H H') (hid H' d) := fun b u h => by
  have e := h
  unfold new at h
  split at h
  · cases h
  · unfold hid
    rw [if_neg]
    · exact h
    · rintro rfl
      rename_i n
      rw [hd] at n
      exact n rfl
theorem hid_get {H : Hp} {d b : Addr} {o : HO} (h : H b = some o) (n : b ≠ d) : hid H d b = some o := by
  unfold hid
  rw [if_neg n]
  exact h
/-- a dict is no part of raw values: what a Keep leaves -/
def noD (H : Hp) : Hp := fun b => match H b with
  | some (.dK _) => none
  | o => o
theorem noD_same {H : Hp} : Same (noD H) H := fun b o h => by
  unfold noD at h
  split at h
  · cases h
  · exact h
mutual
theorem Rp.noD {H : Hp} : ∀ (r : Raw) (v : V), Rp H r v → Rp (noD H) r v
  | .non, _, h => h
  | .bl _, _, h => h
  | .int _, _, h => h
  | .str _, _, h => h
  | .row rs, v, h => by
    obtain ⟨t, l, vs, e, h1, h2, h3⟩ := h
    exact ⟨t, l, vs, e, by unfold KB.noD; rw [h1], by unfold KB.noD; rw [h2], RpL.noD rs vs h3⟩
  | .tab zs rs, v, h => by
    obtain ⟨t, l, vs, e, h1, h2, h3⟩ := h
    exact ⟨t, l, vs, e, by unfold KB.noD; rw [h1], by unfold KB.noD; rw [h2], RpP.noD rs zs vs h3⟩
theorem RpL.noD {H : Hp} : ∀ (rs : List Raw) (vs : List V), RpL H rs vs → RpL (noD H) rs vs
  | [], _, h => h
  | r :: rs, _, h => by
    obtain ⟨v, ws, e, h1, h2⟩ := h
    exact ⟨v, ws, e, Rp.noD r v h1, RpL.noD rs ws h2⟩
theorem RpP.noD {H : Hp} : ∀ (rs : List Raw) (zs : List Str) (vs : List V), RpP H rs zs vs → RpP (noD H) rs zs vs
  | [], _, _, h => h
  | r :: rs, _, _, h => by
    obtain ⟨z, ys, t, v, ws, e1, e2, h0, h1, h2⟩ := h
    exact ⟨z, ys, t, v, ws, e1, e2, by unfold KB.noD; rw [h0], Rp.noD r v h1, RpP.noD rs ys ws h2⟩
end
/-- a leaf -/
def LeafR : Raw → Prop
  | .row _ => False
  | .tab _ _ => False
  | _ => True
theorem leaf_rp {H H' : Hp} : ∀ {r : Raw} {v : V}, LeafR r → Rp H r v → Rp H' r v
  | .non, _, _, h => h
  | .bl _, _, _, h => h
  | .int _, _, _, h => h
  | .str _, _, _, h => h
/-! ### a list of flat things compared with [] -/
def FlatP : V → Prop
  | .non => True
  | .bl _ => True
  | .int _ => True
  | .str z => Pr z
  | _ => False
theorem pr_strOk {z : Str} (h : Pr z) : PyData.strOk z = true := by
  unfold PyData.strOk
  rw [← Array.all_toList, List.all_eq_true]
  intro c hc
  have := (h c hc).2
  exact decide_eq_true (by omega)
theorem dp_flatP {K : PySem.W.Frag} {H : Hp} : ∀ {x : V}, FlatP x → ∃ d : PyData, Dp K H x d ∧ d.canLay0 = true ∧ d.depth ≤ 1
  | .non, _ => ⟨_, .non, rfl, by decide⟩
  | .bl b, _ => ⟨_, .bl b, rfl, Nat.zero_le _⟩
  | .int i, _ => ⟨_, .int i, rfl, Nat.zero_le _⟩
  | .str z, h => ⟨_, .str z, pr_strOk h, Nat.zero_le _⟩
theorem dp_flatL {K : PySem.W.Frag} {H : Hp} : ∀ {xs : List V}, (∀ x ∈ xs, FlatP x) → ∃ ds : List PyData, DpAll K H xs ds ∧ PyData.canLayAll0 ds = true ∧ PyData.depthAll ds ≤ 1 ∧ ds.length = xs.length
  | [], _ => ⟨[], .nil, rfl, Nat.zero_le _, rfl⟩
  | x :: xs, h => by
    obtain ⟨d, h1, h2, h3⟩ := dp_flatP (K := K) (H := H) (h x (List.mem_cons_self ..))
    obtain ⟨ds, g1, g2, g3, g4⟩ := dp_flatL (K := K) (H := H) fun y hy => h y (List.mem_cons_of_mem _ hy)
    refine ⟨d :: ds, .cons h1 g1, ?_, ?_, by simp [g4]⟩
    · show (d.canLay0 && PyData.canLayAll0 ds) = true
      rw [h2, g2]; rfl
    · show max d.depth (PyData.depthAll ds) ≤ 1
      omega
theorem ne_nil {K : PySem.W.Frag} {H : Hp} {Q : VK} {p q : Addr} {xs : List V} (n : Bool) (hp : H p = some (.lst xs)) (hq : H q = some (.lst [])) (hx : ∀ x ∈ xs, FlatP x) (h : Q (.bl (n ^^ xs.isEmpty)) H) : rEqA K n (.ref p) (.ref q) H Q := by
  obtain ⟨ds, g1, g2, g3, g4⟩ := dp_flatL (K := K) (H := H) hx
  refine .inr ⟨⟨p, .inl rfl⟩, .list ds, .list [], .lst (.inl (.inl hp)) g1, .lst (.inl (.inl hq)) .nil, ?_, by decide, ?_⟩
  · show (PyData.canLayAll0 ds && decide (PyData.depth (.list ds) ≤ 64)) = true
    have e : PyData.depth (.list ds) ≤ 64 := by
      show PyData.depthAll ds + 1 ≤ 64
      omega
    rw [g2, decide_eq_true e]; rfl
  · have e : PyData.eqv (.list ds) (.list []) = xs.isEmpty := by
      cases xs <;> cases ds <;> first | rfl | (simp at g4)
    rw [e]
    exact h
/-! ### Keep and raw values -/
theorem keep_noD {a : Addr} {H H' : Hp} {kvs : List (Key × V)} (k : Keep a H H') (ha : H a = some (.dK kvs)) : Same (noD H) H' := fun b o h => by
  have h1 := noD_same b o h
  refine k b o h1 fun e => ?_
  subst e
  unfold noD at h
  rw [ha] at h
  cases h
theorem keep_hid {a d : Addr} {H H' : Hp} {kvs : List (Key × V)} (k : Keep a H H') (ha : H a = some (.dK kvs)) : Same (noD (hid H d)) (hid H' d) := fun b o h => by
  have h1 := noD_same b o h
  have h2 := hid_same b o h1
  have nd : b ≠ d := fun e => by
    subst e
    unfold hid at h1
    rw [if_pos rfl] at h1
    cases h1
  refine hid_get (k b o h2 fun e => ?_) nd
  subst e
  unfold noD at h
  rw [hid_get ha nd] at h
  cases h
theorem src_dk {H : Hp} {a c : Addr} {rm : Int} (h : Src H a c rm) : ∃ kvs, H a = some (.dK kvs) := by
  obtain ⟨ns, at_, rest, seed, long, ha, _⟩ := h
  exact ⟨_, ha⟩
/-- new against an elder heap -/
theorem new_elder {a : Addr} {H H1 H2 : Hp} {o : HO} (k : Keep a H H1) (ha : H1 a = some o) : Same (new H1 H2) (new H H2) := fun b u h => by
  have h1 := new_same b u h
  unfold new at h ⊢
  split at h
  · cases h
  · rename_i n
    rw [if_neg]
    · exact h
    · intro hs
      obtain ⟨x, hx⟩ := Option.isSome_iff_exists.mp hs
      by_cases e : b = a
      · subst e; rw [ha] at n; exact n rfl
      · rw [k b x hx e] at n; exact n rfl
/-! ### a list at d grows by new raw values -/
theorem hid_new_upd {H H' : Hp} {d : Addr} {o : HO} : hid (new H (upd H' d o)) d = hid (new H H') d := by
  funext b
  unfold hid new
  split
  · rfl
  · rename_i n
    rw [upd_ne n]
/-- what stood in the part stands behind a Keep -/
theorem new_keep {a d : Addr} {H H2 H3 : Hp} {kvs : List (Key × V)} (k : Keep a H2 H3) (ha : H2 a = some (.dK kvs)) : Same (noD (hid (new H H2) d)) (hid (new H H3) d) := fun b o h => by
  have h1 := noD_same b o h
  have h2 := hid_same b o h1
  have nd : b ≠ d := fun e => by
    subst e
    unfold hid at h1
    rw [if_pos rfl] at h1
    cases h1
  have h3 := new_same b o h2
  have na : b ≠ a := fun e => by
    subst e
    unfold noD at h
    rw [h1] at h
    rw [ha] at h3
    cases h3
    cases h
  have hn : ¬ (H b).isSome = true := fun z => by
    unfold new at h2
    rw [if_pos z] at h2
    cases h2
  refine hid_get ?_ nd
  unfold new
  rw [if_neg hn]
  exact k b o h3 na
/-- what a call made is of the part -/
theorem new_made {a d : Addr} {H H2 H3 : Hp} {o u : HO} (k : Keep a H H2) (ha : H2 a = some o) (hd : H2 d = some u) : Same (new H2 H3) (hid (new H H3) d) := fun b x h => by
  have h1 := new_elder k ha b x h
  refine hid_get h1 fun e => ?_
  subst e
  unfold new at h
  rw [hd] at h
  cases h
theorem new_of {H H' : Hp} {b : Addr} {o : HO} (h : H b = none) (h' : H' b = some o) : new H H' b = some o := by
  unfold new
  rw [h]
  exact h'
theorem new_more {H H' : Hp} {d t : Addr} {o : HO} (ht : H' t = none) : Same (hid (new H H') d) (hid (new H (upd H' t o)) d) := fun b u h => by
  have h1 := hid_same b u h
  have h2 := new_same b u h1
  have nd : b ≠ d := fun e => by
    subst e
    unfold hid at h
    rw [if_pos rfl] at h
    cases h
  refine hid_get ?_ nd
  unfold new at h1 ⊢
  split at h1
  · cases h1
  · rename_i n
    rw [if_neg n, upd_ne (ne_of_none h2 ht)]
    exact h2
theorem new_keep0 {a : Addr} {H H2 H3 : Hp} {kvs : List (Key × V)} (k : Keep a H2 H3) (ha : H2 a = some (.dK kvs)) : Same (noD (new H H2)) (new H H3) := fun b o h => by
  have h2 := noD_same b o h
  have h3 := new_same b o h2
  have na : b ≠ a := fun e => by
    subst e
    unfold noD at h
    rw [h2] at h
    rw [ha] at h3
    cases h3
    cases h
  have hn : ¬ (H b).isSome = true := fun z => by
    unfold new at h2
    rw [if_pos z] at h2
    cases h2
  unfold new
  rw [if_neg hn]
  exact k b o h3 na
theorem new_more0 {H H' : Hp} {t : Addr} {o : HO} (ht : H' t = none) : Same (new H H') (new H (upd H' t o)) := fun b u h1 => by
  have h2 := new_same b u h1
  unfold new at h1 ⊢
  split at h1
  · cases h1
  · rename_i n
    rw [if_neg n, upd_ne (ne_of_none h2 ht)]
    exact h2
theorem rp_keep {a c : Addr} {rm : Int} {H H2 H3 : Hp} {r : Raw} {v : V} (k : Keep a H2 H3) (s : Src H2 a c rm) (h : Rp (new H H2) r v) : Rp (new H H3) r v := by
  obtain ⟨kvs, ha⟩ := src_dk s
  exact Rp.mono (new_keep0 k ha) _ _ (Rp.noD _ _ h)
/-! ### the same, where nothing that stood changes -/
theorem sm_old {H H2 H3 : Hp} {d : Addr} (s : Same H2 H3) : Same (hid (new H H2) d) (hid (new H H3) d) := fun b o h => by
  have h1 := hid_same b o h
  have h2 := new_same b o h1
  have nd : b ≠ d := fun e => by
    subst e
    unfold hid at h
    rw [if_pos rfl] at h
    cases h
  refine hid_get ?_ nd
  unfold new at h1 ⊢
  split at h1
  · cases h1
  · rename_i n
    rw [if_neg n]
    exact s _ _ h2
theorem sm_made {H H2 H3 : Hp} {d : Addr} {u : HO} (s : Same H H2) (hd : H2 d = some u) : Same (new H2 H3) (hid (new H H3) d) := fun b x h => by
  have h2 := new_same b x h
  have hn : ¬ (H2 b).isSome = true := fun z => by
    unfold new at h
    rw [if_pos z] at h
    cases h
  have nd : b ≠ d := fun e => by
    subst e
    rw [hd] at hn
    exact hn rfl
  refine hid_get ?_ nd
  unfold new
  rw [if_neg]
  · exact h2
  · intro z
    obtain ⟨y, hy⟩ := Option.isSome_iff_exists.mp z
    rw [s b y hy] at hn
    exact hn rfl
theorem sm_new {H : Hp} {p : Addr} {o : HO} (h : H p = none) : Same H (upd H p o) := fun b u e => by
  rw [upd_ne (ne_of_none e h)]
  exact e
/-- an object that was not there at H changes -/
theorem sm_mut {H H2 : Hp} {d : Addr} {o : HO} (hd : H d = none) (s : Same H H2) : Same H (upd H2 d o) := fun b u e => by
  rw [upd_ne (ne_of_none e hd)]
  exact s b u e
end KB
namespace KB
open PySem PySem.Spec PyProof.Rows L2 TL
/-! ### the texts of raw values -/
def escC (c : Nat) : List Nat := if c = 34 ∨ c = 92 then [92, c] else [c]
def esc (l : List Nat) : List Nat := l.flatMap escC
def strL (l : List Nat) : List Nat := 34 :: (esc l ++ [34])
mutual
def rend : Raw → List Nat
  | .non => [110, 117, 108, 108]
  | .bl true => [116, 114, 117, 101]
  | .bl false => [102, 97, 108, 115, 101]
  | .int n => intL n
  | .str z => strL (tl z)
  | .row rs => 91 :: (joinL [44] (rendL rs) ++ [93])
  | .tab zs rs => 123 :: (joinL [44] (rendP rs zs) ++ [125])
def rendL : List Raw → List (List Nat)
  | [] => []
  | r :: rs => rend r :: rendL rs
def rendP : List Raw → List Str → List (List Nat)
  | [], _ => []
  | r :: rs, zs => (strL (tl (zs.headD Str.empty)) ++ 58 :: rend r) :: rendP rs zs.tail
end
theorem esc_len (l : List Nat) : (esc l).length ≤ 2 * l.length := by
  induction l with
  | nil => exact Nat.zero_le _
  | cons c r ih =>
    show (escC c ++ esc r).length ≤ _
    have : (escC c).length ≤ 2 := by unfold escC; split <;> simp
    rw [List.length_append, List.length_cons]
    omega
theorem strL_len (l : List Nat) : (strL l).length ≤ 2 * l.length + 2 := by
  have := esc_len l
  unfold strL
  rw [List.length_cons, List.length_append, List.length_singleton]
  omega
theorem join_sum (s : Nat) : ∀ ls : List (List Nat), (joinL [s] ls).length ≤ (ls.map List.length).sum + ls.length
  | [] => by simp [joinL]
  | [p] => by simp [joinL]
  | p :: q :: r => by
    have ih := join_sum s (q :: r)
    show (p ++ ([s] ++ joinL [s] (q :: r))).length ≤ _
    simp only [List.length_append, List.map_cons, List.sum_cons, List.length_cons, List.length_nil] at ih ⊢
    omega
mutual
theorem rend_len : ∀ r : Raw, OkR r → (rend r).length + 700 ≤ 2000 * nodes r
  | .non, _ => by decide
  | .bl true, _ => by decide
  | .bl false, _ => by decide
  | .int n, h => by
    have := len_int (n := n) (k := 30) (by decide) h
    rw [len_tl, tl_int] at this
    show (intL n).length + 700 ≤ 2000 * 1
    omega
  | .str z, h => by
    have h1 := strL_len (tl z)
    have h2 := h.2
    rw [len_tl] at h2
    show (strL (tl z)).length + 700 ≤ 2000 * 1
    omega
  | .row rs, h => by
    have h1 := rendL_len rs h
    have h2 := join_sum 44 (rendL rs)
    show (91 :: (joinL [44] (rendL rs) ++ [93])).length + 700 ≤ 2000 * (1 + nodesL rs)
    simp only [List.length_cons, List.length_append, List.length_nil]
    omega
  | .tab zs rs, h => by
    have h1 := rendP_len rs zs h.1 h.2.2
    have h2 := join_sum 44 (rendP rs zs)
    show (123 :: (joinL [44] (rendP rs zs) ++ [125])).length + 700 ≤ 2000 * (1 + nodesL rs)
    simp only [List.length_cons, List.length_append, List.length_nil]
    omega
theorem rendL_len : ∀ rs : List Raw, OkL rs → ((rendL rs).map List.length).sum + (rendL rs).length ≤ 2000 * nodesL rs
  | [], _ => Nat.le_refl _
  | r :: rs, h => by
    have h1 := rend_len r h.1
    have h2 := rendL_len rs h.2
    show ((rend r :: rendL rs).map List.length).sum + (rend r :: rendL rs).length ≤ 2000 * (nodes r + nodesL rs)
    simp only [List.map_cons, List.sum_cons, List.length_cons]
    have : 1 ≤ nodes r := by cases r <;> simp [nodes] <;> omega
    omega
theorem rendP_len : ∀ (rs : List Raw) (zs : List Str), OkL rs → (∀ z ∈ zs, Pr z ∧ z.length ≤ 300) → ((rendP rs zs).map List.length).sum + (rendP rs zs).length ≤ 2000 * nodesL rs
  | [], _, _, _ => Nat.zero_le _
  | r :: rs, zs, h, hz => by
    have h1 := rend_len r h.1
    have h2 := rendP_len rs zs.tail h.2 fun z hz' => hz z (List.mem_of_mem_tail hz')
    have h3 := strL_len (tl (zs.headD Str.empty))
    have h4 : (tl (zs.headD Str.empty)).length ≤ 300 := by
      cases zs with
      | nil => decide
      | cons z zs => rw [← len_tl]; exact (hz z (List.mem_cons_self ..)).2
    show (((strL (tl (zs.headD Str.empty)) ++ 58 :: rend r) :: rendP rs zs.tail).map List.length).sum + ((strL (tl (zs.headD Str.empty)) ++ 58 :: rend r) :: rendP rs zs.tail).length ≤ 2000 * (nodes r + nodesL rs)
    simp only [List.map_cons, List.sum_cons, List.length_cons, List.length_append]
    have : 1 ≤ nodes r := by cases r <;> simp [nodes] <;> omega
    omega
end
/-! ### replace -/
theorem repl_one {c : Nat} {z : List Nat} : ∀ l : List Nat, PySem.StrLaws.replL [c] z l = l.flatMap fun d => if d = c then z else [d]
  | [] => PySem.StrLaws.replL_nil
  | d :: r => by
    by_cases h : d = c
    · subst h
      rw [PySem.StrLaws.replL_hit (by simp) (by simp)]
      show z ++ PySem.StrLaws.replL [d] z r = _
      rw [repl_one r, List.flatMap_cons, if_pos rfl]
    · rw [PySem.StrLaws.replL_miss (by simpa using h), repl_one r, List.flatMap_cons, if_neg h]
      rfl
theorem repl_two (x : Str) : tl (Txt.replace (Txt.replace x (Str.ofString "\\") (Str.ofString "\\\\")) (Str.ofString "\"") (Str.ofString "\\\"")) = esc (tl x) := by
  have e1 := PySem.StrLaws.replace_list (x := x) (y := Str.ofString "\\") (z := Str.ofString "\\\\") (by decide +kernel)
  have e2 := PySem.StrLaws.replace_list (x := Txt.replace x (Str.ofString "\\") (Str.ofString "\\\\")) (y := Str.ofString "\"") (z := Str.ofString "\\\"") (by decide +kernel)
  rw [show (Str.ofString "\\").cps.toList = [92] by decide +kernel, show (Str.ofString "\\\\").cps.toList = [92, 92] by decide +kernel, repl_one] at e1
  rw [show (Str.ofString "\"").cps.toList = [34] by decide +kernel, show (Str.ofString "\\\"").cps.toList = [92, 34] by decide +kernel, repl_one, e1] at e2
  show (Txt.replace (Txt.replace x (Str.ofString "\\") (Str.ofString "\\\\")) (Str.ofString "\"") (Str.ofString "\\\"")).cps.toList = esc x.cps.toList
  rw [e2, List.flatMap_assoc]
  unfold esc
  congr 1
  funext c
  unfold escC
  by_cases h : c = 92
  · subst h; decide
  · rw [if_neg h]
    by_cases h2 : c = 34
    · subst h2; decide
    · simp [h, h2]
theorem repl_len1 (x : Str) : (Txt.replace x (Str.ofString "\\") (Str.ofString "\\\\")).length ≤ 2 * x.length := by
  have e1 := PySem.StrLaws.replace_list (x := x) (y := Str.ofString "\\") (z := Str.ofString "\\\\") (by decide +kernel)
  rw [show (Str.ofString "\\").cps.toList = [92] by decide +kernel, show (Str.ofString "\\\\").cps.toList = [92, 92] by decide +kernel, repl_one] at e1
  rw [len_tl, show tl (Txt.replace x (Str.ofString "\\") (Str.ofString "\\\\")) = _ from e1, len_tl]
  show (List.flatMap _ (tl x)).length ≤ _
  induction tl x with
  | nil => exact Nat.zero_le _
  | cons c r ih =>
    rw [List.flatMap_cons, List.length_append, List.length_cons]
    have : (if c = 92 then [92, 92] else [c]).length ≤ 2 := by split <;> simp
    omega
theorem rendL_get : ∀ {rs : List Raw} {i : Nat} {r : Raw}, rs[i]? = some r → (rendL rs)[i]? = some (rend r)
  | [], i, r, e => by simp at e
  | q :: rs, i, r, e => by
    cases i with
    | zero => cases e; rfl
    | succ i => exact rendL_get (rs := rs) (i := i) (by simpa using e)
theorem rendL_length : ∀ rs : List Raw, (rendL rs).length = rs.length
  | [] => rfl
  | r :: rs => by
    show (rend r :: rendL rs).length = _
    rw [List.length_cons, List.length_cons, rendL_length rs]
theorem rendP_get : ∀ {rs : List Raw} {zs : List Str} {i : Nat} {r : Raw} {z : Str}, rs[i]? = some r → zs[i]? = some z → (rendP rs zs)[i]? = some (strL (tl z) ++ 58 :: rend r)
  | [], _, i, r, z, e, _ => by simp at e
  | q :: rs, [], i, r, z, _, e => by simp at e
  | q :: rs, y :: ys, i, r, z, e, e2 => by
    cases i with
    | zero => cases e; cases e2; rfl
    | succ i => exact rendP_get (rs := rs) (zs := ys) (i := i) (by simpa using e) (by simpa using e2)
theorem rendP_length : ∀ (rs : List Raw) (zs : List Str), (rendP rs zs).length = rs.length
  | [], _ => rfl
  | r :: rs, zs => by
    show (_ :: rendP rs zs.tail).length = _
    rw [List.length_cons, List.length_cons, rendP_length rs]
theorem nodes_pos (r : Raw) : 1 ≤ nodes r := by cases r <;> simp [nodes] <;> omega
theorem nodesL_ge : ∀ rs : List Raw, rs.length ≤ nodesL rs
  | [] => Nat.le_refl _
  | r :: rs => by
    have := nodes_pos r
    have := nodesL_ge rs
    show rs.length + 1 ≤ nodes r + nodesL rs
    omega
theorem nodes_get : ∀ {rs : List Raw} {i : Nat} {r : Raw}, rs[i]? = some r → nodes r ≤ nodesL rs
  | [], i, r, e => by simp at e
  | q :: rs, i, r, e => by
    cases i with
    | zero => cases e; show nodes q ≤ nodes q + nodesL rs; omega
    | succ i => have := nodes_get (rs := rs) (i := i) (by simpa using e); show nodes r ≤ nodes q + nodesL rs; omega
/-! ### tokens -/
mutual
def toks : Raw → List (List Nat)
  | .row rs => [91] :: (tokL rs ++ [[93]])
  | .tab zs rs => [123] :: (tokP rs zs ++ [[125]])
  | .non => [rend .non]
  | .bl b => [rend (.bl b)]
  | .int n => [rend (.int n)]
  | .str z => [rend (.str z)]
def tokL : List Raw → List (List Nat)
  | [] => []
  | r :: rs => toks r ++ tokL' rs
def tokL' : List Raw → List (List Nat)
  | [] => []
  | r :: rs => [44] :: (toks r ++ tokL' rs)
def tokP : List Raw → List Str → List (List Nat)
  | [], _ => []
  | r :: rs, zs => strL (tl (zs.headD Str.empty)) :: [58] :: (toks r ++ tokP' rs zs.tail)
def tokP' : List Raw → List Str → List (List Nat)
  | [], _ => []
  | r :: rs, zs => [44] :: strL (tl (zs.headD Str.empty)) :: [58] :: (toks r ++ tokP' rs zs.tail)
end
theorem joinL_cons (p : List Nat) : ∀ ls : List (List Nat), joinL [44] (p :: ls) = p ++ (ls.map (44 :: ·)).flatten
  | [] => by simp [joinL]
  | q :: r => by
    show p ++ ([44] ++ joinL [44] (q :: r)) = _
    rw [joinL_cons q r]
    simp
mutual
theorem toks_rend : ∀ r : Raw, (toks r).flatten = rend r
  | .non => by simp [toks]
  | .bl b => by simp [toks]
  | .int n => by simp [toks]
  | .str z => by simp [toks]
  | .row rs => by
    show ([91] :: (tokL rs ++ [[93]])).flatten = 91 :: (joinL [44] (rendL rs) ++ [93])
    rw [List.flatten_cons, List.flatten_append, tokL_rend rs]
    simp
  | .tab zs rs => by
    show ([123] :: (tokP rs zs ++ [[125]])).flatten = 123 :: (joinL [44] (rendP rs zs) ++ [125])
    rw [List.flatten_cons, List.flatten_append, tokP_rend rs zs]
    simp
theorem tokL_rend : ∀ rs : List Raw, (tokL rs).flatten = joinL [44] (rendL rs)
  | [] => rfl
  | r :: rs => by
    show (toks r ++ tokL' rs).flatten = joinL [44] (rend r :: rendL rs)
    rw [joinL_cons, List.flatten_append, toks_rend r, tokL'_rend rs]
theorem tokL'_rend : ∀ rs : List Raw, (tokL' rs).flatten = ((rendL rs).map (44 :: ·)).flatten
  | [] => rfl
  | r :: rs => by
    show ([44] :: (toks r ++ tokL' rs)).flatten = ((rend r :: rendL rs).map (44 :: ·)).flatten
    rw [List.flatten_cons, List.flatten_append, toks_rend r, tokL'_rend rs, List.map_cons, List.flatten_cons]
    simp
theorem tokP_rend : ∀ (rs : List Raw) (zs : List Str), (tokP rs zs).flatten = joinL [44] (rendP rs zs)
  | [], _ => rfl
  | r :: rs, zs => by
    show (strL (tl (zs.headD Str.empty)) :: [58] :: (toks r ++ tokP' rs zs.tail)).flatten = joinL [44] ((strL (tl (zs.headD Str.empty)) ++ 58 :: rend r) :: rendP rs zs.tail)
    rw [joinL_cons, List.flatten_cons, List.flatten_cons, List.flatten_append, toks_rend r, tokP'_rend rs zs.tail]
    simp
theorem tokP'_rend : ∀ (rs : List Raw) (zs : List Str), (tokP' rs zs).flatten = ((rendP rs zs).map (44 :: ·)).flatten
  | [], _ => rfl
  | r :: rs, zs => by
    show ([44] :: strL (tl (zs.headD Str.empty)) :: [58] :: (toks r ++ tokP' rs zs.tail)).flatten = (((strL (tl (zs.headD Str.empty)) ++ 58 :: rend r) :: rendP rs zs.tail).map (44 :: ·)).flatten
    rw [List.flatten_cons, List.flatten_cons, List.flatten_cons, List.flatten_append, toks_rend r, tokP'_rend rs zs.tail, List.map_cons, List.flatten_cons]
    simp
end
theorem toks_ne (r : Raw) : toks r ≠ [] := by cases r <;> simp [toks]
theorem tokL'_snoc : ∀ (rs : List Raw) (r : Raw), tokL' (rs ++ [r]) = tokL' rs ++ [44] :: toks r
  | [], r => by simp [tokL']
  | q :: rs, r => by
    show [44] :: (toks q ++ tokL' (rs ++ [r])) = ([44] :: (toks q ++ tokL' rs)) ++ [44] :: toks r
    rw [tokL'_snoc rs r]
    simp
theorem tokL_snoc (rs : List Raw) (r : Raw) : tokL (rs ++ [r]) = if rs = [] then toks r else tokL rs ++ [44] :: toks r := by
  cases rs with
  | nil => simp [tokL, tokL']
  | cons q rs =>
    rw [if_neg (by simp)]
    show toks q ++ tokL' (rs ++ [r]) = (toks q ++ tokL' rs) ++ [44] :: toks r
    rw [tokL'_snoc]
    simp
theorem tokL_ne {rs : List Raw} : tokL rs = [] ↔ rs = [] := by
  cases rs with
  | nil => simp [tokL]
  | cons q rs =>
    refine iff_of_false ?_ (by simp)
    show toks q ++ tokL' rs ≠ []
    intro h
    exact toks_ne q (List.append_eq_nil_iff.mp h).1
theorem tokP'_snoc : ∀ (rs : List Raw) (zs : List Str) (r : Raw) (z : Str), zs.length = rs.length → tokP' (rs ++ [r]) (zs ++ [z]) = tokP' rs zs ++ [44] :: strL (tl z) :: [58] :: toks r
  | [], [], r, z, _ => by simp [tokP']
  | q :: rs, y :: ys, r, z, h => by
    show [44] :: strL (tl y) :: [58] :: (toks q ++ tokP' (rs ++ [r]) (ys ++ [z])) = ([44] :: strL (tl y) :: [58] :: (toks q ++ tokP' rs ys)) ++ _
    rw [tokP'_snoc rs ys r z (by simpa using h)]
    simp
  | [], _ :: _, _, _, h => by simp at h
  | _ :: _, [], _, _, h => by simp at h
theorem tokP_snoc (rs : List Raw) (zs : List Str) (r : Raw) (z : Str) (h : zs.length = rs.length) : tokP (rs ++ [r]) (zs ++ [z]) = if rs = [] then strL (tl z) :: [58] :: toks r else tokP rs zs ++ [44] :: strL (tl z) :: [58] :: toks r := by
  cases rs with
  | nil =>
    cases zs with
    | nil => simp [tokP, tokP']
    | cons y ys => simp at h
  | cons q rs =>
    cases zs with
    | nil => simp at h
    | cons y ys =>
      rw [if_neg (by simp)]
      show strL (tl y) :: [58] :: (toks q ++ tokP' (rs ++ [r]) (ys ++ [z])) = (strL (tl y) :: [58] :: (toks q ++ tokP' rs ys)) ++ _
      rw [tokP'_snoc rs ys r z (by simpa using h)]
      simp
theorem tokP_ne {rs : List Raw} {zs : List Str} : tokP rs zs = [] ↔ rs = [] := by
  cases rs with
  | nil => simp [tokP]
  | cons q rs => exact iff_of_false (by simp [tokP]) (by simp)
mutual
theorem toks_len : ∀ r : Raw, (toks r).length ≤ 6 * nodes r - 3
  | .non => by decide
  | .bl b => by simp [toks, nodes]
  | .int n => by simp [toks, nodes]
  | .str z => by simp [toks, nodes]
  | .row rs => by
    have := tokL_len rs
    show ([91] :: (tokL rs ++ [[93]])).length ≤ 6 * (1 + nodesL rs) - 3
    simp only [List.length_cons, List.length_append, List.length_nil]
    omega
  | .tab zs rs => by
    have := tokP_len rs zs
    show ([123] :: (tokP rs zs ++ [[125]])).length ≤ 6 * (1 + nodesL rs) - 3
    simp only [List.length_cons, List.length_append, List.length_nil]
    omega
theorem tokL_len : ∀ rs : List Raw, (tokL rs).length ≤ 6 * nodesL rs
  | [] => Nat.le_refl _
  | r :: rs => by
    have h1 := toks_len r
    have h2 := tokL'_len rs
    have := nodes_pos r
    show (toks r ++ tokL' rs).length ≤ 6 * (nodes r + nodesL rs)
    rw [List.length_append]
    omega
theorem tokL'_len : ∀ rs : List Raw, (tokL' rs).length ≤ 6 * nodesL rs
  | [] => Nat.le_refl _
  | r :: rs => by
    have h1 := toks_len r
    have h2 := tokL'_len rs
    have := nodes_pos r
    show ([44] :: (toks r ++ tokL' rs)).length ≤ 6 * (nodes r + nodesL rs)
    rw [List.length_cons, List.length_append]
    omega
theorem tokP_len : ∀ (rs : List Raw) (zs : List Str), (tokP rs zs).length ≤ 6 * nodesL rs
  | [], _ => Nat.le_refl _
  | r :: rs, zs => by
    have h1 := toks_len r
    have h2 := tokP'_len rs zs.tail
    have := nodes_pos r
    show (strL (tl (zs.headD Str.empty)) :: [58] :: (toks r ++ tokP' rs zs.tail)).length ≤ 6 * (nodes r + nodesL rs)
    simp only [List.length_cons, List.length_append]
    omega
theorem tokP'_len : ∀ (rs : List Raw) (zs : List Str), (tokP' rs zs).length ≤ 6 * nodesL rs
  | [], _ => Nat.le_refl _
  | r :: rs, zs => by
    have h1 := toks_len r
    have h2 := tokP'_len rs zs.tail
    have := nodes_pos r
    show ([44] :: strL (tl (zs.headD Str.empty)) :: [58] :: (toks r ++ tokP' rs zs.tail)).length ≤ 6 * (nodes r + nodesL rs)
    simp only [List.length_cons, List.length_append]
    omega
end
theorem pr_strL {z w : Str} (h : Pr z) (e : tl w = strL (tl z)) : Pr w := fun c hc => by
  rw [e] at hc
  unfold strL at hc
  rcases List.mem_cons.mp hc with hc | hc
  · omega
  rcases List.mem_append.mp hc with hc | hc
  · obtain ⟨d, hd, hc⟩ := List.mem_flatMap.mp hc
    have := h d hd
    unfold escC at hc
    split at hc
    · simp at hc; omega
    · simp at hc; omega
  · have := List.mem_singleton.mp hc
    omega
theorem nodesL_take : ∀ (rs : List Raw) (i : Nat), nodesL (rs.take i) ≤ nodesL rs
  | [], i => by simp
  | r :: rs, 0 => Nat.zero_le _
  | r :: rs, i + 1 => by
    have := nodesL_take rs i
    show nodes r + nodesL (rs.take i) ≤ nodes r + nodesL rs
    omega
end KB
namespace KB
open PySem PySem.Spec PyProof.Rows L2 TL
/-! ### the class Table as the top has made it -/
structure TabC (K : PySem.W.Frag) (mg : Str → Option Value) (C : Addr) : Prop where
  cl : Cls K C
  nH : NoAttr K C "held"
  mgC : mg "Table" = some (.ref C)
  kC : PySem.W.keepIn K (.ref C) = true
  mak : PySem.W.makesIn K C = true
  ha : PySem.W.findIn K (.ref C) "__class__" = some (some (.builtin "object.__class__"))
  hn : PySem.W.specialIn K (.builtin "object.__class__") "__get__" = some (some (.builtin "getset_descriptor.__get__"))
  ht : PySem.W.takesIn K (.builtin "object.__class__") = some true
  hm : PySem.W.mroIn K C (.type "object") = some true
  own : PySem.W.kitOne K (.ref C) (.ref C) = some true
  c_non : PySem.W.kitOne K (.type "NoneType") (.ref C) = some false
  c_bool : PySem.W.kitOne K (.type "bool") (.ref C) = some false
  c_int : PySem.W.kitOne K (.type "int") (.ref C) = some false
  c_str : PySem.W.kitOne K (.type "str") (.ref C) = some false
  c_list : PySem.W.kitOne K (.type "list") (.ref C) = some false
  c_tuple : PySem.W.kitOne K (.type "tuple") (.ref C) = some false
  c_dict : PySem.W.kitOne K (.type "dict") (.ref C) = some false
  t_int : PySem.W.kitOne K (.ref C) (.type "int") = some false
  t_bool : PySem.W.kitOne K (.ref C) (.type "bool") = some false
  t_str : PySem.W.kitOne K (.ref C) (.type "str") = some false
  t_list : PySem.W.kitOne K (.ref C) (.type "list") = some false
  t_tuple : PySem.W.kitOne K (.ref C) (.type "tuple") = some false
theorem TabC.non {K : PySem.W.Frag} {mg : Str → Option Value} {C : Addr} (T : TabC K mg C) {H : Hp} {x : V} {n : String} (h : TyN H x n) : PySem.W.kitOne K (.type n) (.ref C) = some false := by
  unfold TyN at h
  split at h
  · subst h; exact T.c_non
  · subst h; exact T.c_bool
  · subst h; exact T.c_int
  · subst h; exact T.c_str
  · rcases h with ⟨_, _, rfl⟩ | ⟨_, _, rfl⟩ | ⟨_, _, rfl⟩
    · exact T.c_list
    · exact T.c_tuple
    · exact T.c_dict
  · exact h.elim
theorem TyN.one {H : Hp} {x : V} {m n : String} (h : TyN H x m) (g : TyN H x n) : m = n := by
  unfold TyN at h g
  split at h
  · subst h; subst g; rfl
  · subst h; subst g; rfl
  · subst h; subst g; rfl
  · subst h; subst g; rfl
  · rcases h with ⟨_, e, rfl⟩ | ⟨_, e, rfl⟩ | ⟨_, e, rfl⟩ <;> rcases g with ⟨_, e', rfl⟩ | ⟨_, e', rfl⟩ | ⟨_, e', rfl⟩ <;> first | rfl | (rw [e] at e'; cases e')
  · exact h.elim
theorem noTy {H : Hp} {a C dx : Addr} {fs : List (Str × V)} {n : String} (h : H a = some (.ins C dx fs)) (g : TyN H (.ref a) n) : False := by
  rcases (show (∃ xs, H a = some (.lst xs) ∧ n = "list") ∨ (∃ xs, H a = some (.tup xs) ∧ n = "tuple") ∨ ∃ kvs, H a = some (.dK kvs) ∧ n = "dict" from g) with ⟨_, e, _⟩ | ⟨_, e, _⟩ | ⟨_, e, _⟩ <;> (rw [h] at e; cases e)
def isBT (T : String) : Bool := T == "int" || T == "bool" || T == "str" || T == "list" || T == "tuple"
theorem isBT_mem {T : String} (h : isBT T = true) : T = "int" ∨ T = "bool" ∨ T = "str" ∨ T = "list" ∨ T = "tuple" := by
  unfold isBT at h
  simp only [Bool.or_eq_true, beq_iff_eq] at h
  rcases h with (((h | h) | h) | h) | h <;> simp [h]
/-- what isinstance says of a value and a class: a built-in one or Table -/
inductive IsT (C : Addr) (H : Hp) : V → V → Bool → Prop where
  | ty {x : V} {n T : String} {b : Bool} (h : TyN H x n) (k : kitB n T = some b) : IsT C H x (.ty T) b
  | tab {a dx : Addr} {fs : List (Str × V)} {T : String} (h : H a = some (.ins C dx fs)) (k : isBT T = true) : IsT C H (.ref a) (.ty T) false
  | no {x : V} {n : String} (h : TyN H x n) : IsT C H x (.ref C) false
  | own {a dx : Addr} {fs : List (Str × V)} (h : H a = some (.ins C dx fs)) : IsT C H (.ref a) (.ref C) true
theorem IsT.rule {K : PySem.W.Frag} {mg : Str → Option Value} {C : Addr} (T : TabC K mg C) {H : Hp} {x c : V} {b : Bool} (h : IsT C H x c b) : ∃ t u, ClsV c u ∧ TyX K H x t ∧ PySem.W.kitOne K t u = some b := by
  cases h with
  | ty h k => exact ⟨_, _, .ty _, h.ty, kit_ty k⟩
  | tab h k =>
    refine ⟨_, _, .ty _, .base (.ins h T.cl T.ha T.hn T.ht T.hm), ?_⟩
    rcases isBT_mem k with rfl | rfl | rfl | rfl | rfl
    · exact T.t_int
    · exact T.t_bool
    · exact T.t_str
    · exact T.t_list
    · exact T.t_tuple
  | no h => exact ⟨_, _, .own C, h.ty, T.non h⟩
  | own h => exact ⟨_, _, .own C, .base (.ins h T.cl T.ha T.hn T.ht T.hm), T.own⟩
def rIsT (C : Addr) : List V → Hp → VK → Prop := fun vs H Q => ∃ x c b, vs = [x, c] ∧ IsT C H x c b ∧ Q (.bl b) H
def rIsT2 (C : Addr) : List V → Hp → VK → Prop := fun vs H Q => ∃ x p c d b e, vs = [x, .ref p] ∧ H p = some (.tup [c, d]) ∧ IsT C H x c b ∧ IsT C H x d e ∧ Q (.bl (b || e)) H
section
variable {X : Cx} {C : Addr}
theorem tyx_one {K : PySem.W.Frag} {H : Hp} {x : V} {C : Addr} {mg : Str → Option Value} (T : TabC K mg C) {c d : V} {b e : Bool} (h : IsT C H x c b) (h' : IsT C H x d e) : ∃ t u w, ClsV c u ∧ ClsV d w ∧ TyX K H x t ∧ PySem.W.kitOne K t u = some b ∧ PySem.W.kitOne K t w = some e := by
  have key : ∀ {c : V} {b : Bool}, IsT C H x c b → (∀ n, TyN H x n → ∃ u, ClsV c u ∧ PySem.W.kitOne K (.type n) u = some b) := fun {c b} g n hn => by
    clear h h'
    cases g with
    | ty g1 k =>
      have e : n = _ := TyN.one hn g1
      subst e
      exact ⟨_, .ty _, kit_ty k⟩
    | tab g1 k => exact (noTy g1 hn).elim
    | no g1 => exact ⟨_, .own C, T.non hn⟩
    | own g1 => exact (noTy g1 hn).elim
  have key2 : ∀ {c : V} {b : Bool}, IsT C H x c b → (∀ a dx fs, x = .ref a → H a = some (.ins C dx fs) → ∃ u, ClsV c u ∧ PySem.W.kitOne K (.ref C) u = some b) := fun {c b} g a dx fs ex ha => by
    clear h h'
    subst ex
    cases g with
    | ty g1 k => exact (noTy ha g1).elim
    | tab g1 k =>
      rcases isBT_mem k with rfl | rfl | rfl | rfl | rfl
      · exact ⟨_, .ty _, T.t_int⟩
      · exact ⟨_, .ty _, T.t_bool⟩
      · exact ⟨_, .ty _, T.t_str⟩
      · exact ⟨_, .ty _, T.t_list⟩
      · exact ⟨_, .ty _, T.t_tuple⟩
    | no g1 => exact (noTy ha g1).elim
    | own g1 => exact ⟨_, .own C, T.own⟩
  cases h with
  | ty h k =>
    obtain ⟨w, cw, kw⟩ := key h' _ h
    exact ⟨_, _, w, .ty _, cw, h.ty, kit_ty k, kw⟩
  | tab h k =>
    obtain ⟨u, cu, ku⟩ := key2 (IsT.tab (C := C) h k) _ _ _ rfl h
    obtain ⟨w, cw, kw⟩ := key2 h' _ _ _ rfl h
    exact ⟨_, u, w, cu, cw, .base (.ins h T.cl T.ha T.hn T.ht T.hm), ku, kw⟩
  | no h =>
    obtain ⟨w, cw, kw⟩ := key h' _ h
    exact ⟨_, _, w, .own C, cw, h.ty, T.non h, kw⟩
  | own h =>
    obtain ⟨w, cw, kw⟩ := key2 h' _ _ _ rfl h
    exact ⟨_, _, w, .own C, cw, .base (.ins h T.cl T.ha T.hn T.ht T.hm), T.own, kw⟩
theorem isi_T (T : TabC X.K X.mg C) : CallR X (.builtin "isinstance") (rIsT C) := CallR.wk call_isi fun vs H Q h => by
  obtain ⟨x, c, b, rfl, h, q⟩ := h
  obtain ⟨t, u, cv, ty, k⟩ := h.rule T
  exact ⟨x, c, t, u, b, rfl, cv, ty, k, q⟩
theorem isi_T2 (T : TabC X.K X.mg C) : CallR X (.builtin "isinstance") (rIsT2 C) := CallR.wk call_isiT fun vs H Q h => by
  obtain ⟨x, p, c, d, b, e, rfl, hp, h, h', q⟩ := h
  obtain ⟨t, u, w, cu, cw, ty, ku, kw⟩ := tyx_one T h h'
  refine ⟨x, p, [c, d], t, [u, w], b || e, rfl, hp, .cons cu (.cons cw .nil), ty, ?_, q⟩
  refine kitAny_cons ku (fun hb => ?_) (fun hb => by rw [hb]; rfl)
  rw [hb, Bool.false_or]
  exact kitAny_cons kw (fun he => by rw [he]; exact kitAny_nil) (fun he => he)
theorem pe_tabC {pos : Pos} (T : TabC X.K X.mg C) (hg : Gl X "Table") : PE X (.Name "Table" pos) (tC (.ref C)) := pe_glob hg T.mgC rfl (by decide)
end
/-! ### the readings -/
section
variable {C a D : Addr} {H : Hp} {Q : VK} {T : String} {b : Bool} {x c : V}
theorem r_isT : rIsT C [x, c] H Q = ∃ b, IsT C H x c b ∧ Q (.bl b) H := by
  apply propext
  constructor
  · rintro ⟨y, d, b, e, h⟩; cases e; exact ⟨b, h⟩
  · rintro ⟨b, h⟩; exact ⟨x, c, b, rfl, h⟩
theorem r_isT2 {p : Addr} : rIsT2 C [x, .ref p] H Q = ∃ c d, H p = some (.tup [c, d]) ∧ ∃ b, IsT C H x c b ∧ ∃ e, IsT C H x d e ∧ Q (.bl (b || e)) H := by
  apply propext
  constructor
  · rintro ⟨y, p', c, d, b, e, z, h1, h2, h3, q⟩; cases z; exact ⟨c, d, h1, b, h2, e, h3, q⟩
  · rintro ⟨c, d, h1, b, h2, e, h3, q⟩; exact ⟨x, p, c, d, b, e, rfl, h1, h2, h3, q⟩
theorem isT_flat {n : String} (hx : ∀ m, TyN H x m ↔ m = n) (hr : ∀ a, x ≠ .ref a) : IsT C H x (.ty T) b = (kitB n T = some b) := by
  apply propext
  constructor
  · intro h
    cases h with
    | ty h k => cases (hx _).mp h; exact k
    | tab h k => exact absurd rfl (hr _)
  · exact fun h => .ty ((hx n).mpr rfl) h
theorem isT_flatC {n : String} (hx : ∀ m, TyN H x m ↔ m = n) (hr : ∀ a, x ≠ .ref a) : IsT C H x (.ref D) b = (D = C ∧ b = false) := by
  apply propext
  constructor
  · intro h
    cases h with
    | no h => exact ⟨rfl, rfl⟩
    | own h => exact absurd rfl (hr _)
  · rintro ⟨rfl, rfl⟩
    exact .no ((hx n).mpr rfl)
theorem isT_non : IsT C H .non (.ty T) b = (kitB "NoneType" T = some b) := isT_flat (fun _ => Iff.rfl) (fun _ z => nomatch z)
theorem isT_bl {k : Bool} : IsT C H (.bl k) (.ty T) b = (kitB "bool" T = some b) := isT_flat (fun _ => Iff.rfl) (fun _ z => nomatch z)
theorem isT_int {i : Int} : IsT C H (.int i) (.ty T) b = (kitB "int" T = some b) := isT_flat (fun _ => Iff.rfl) (fun _ z => nomatch z)
theorem isT_str {z : Str} : IsT C H (.str z) (.ty T) b = (kitB "str" T = some b) := isT_flat (fun _ => Iff.rfl) (fun _ z => nomatch z)
theorem isC_non : IsT C H .non (.ref D) b = (D = C ∧ b = false) := isT_flatC (n := "NoneType") (fun _ => Iff.rfl) (fun _ z => nomatch z)
theorem isC_bl {k : Bool} : IsT C H (.bl k) (.ref D) b = (D = C ∧ b = false) := isT_flatC (n := "bool") (fun _ => Iff.rfl) (fun _ z => nomatch z)
theorem isC_int {i : Int} : IsT C H (.int i) (.ref D) b = (D = C ∧ b = false) := isT_flatC (n := "int") (fun _ => Iff.rfl) (fun _ z => nomatch z)
theorem isC_str {z : Str} : IsT C H (.str z) (.ref D) b = (D = C ∧ b = false) := isT_flatC (n := "str") (fun _ => Iff.rfl) (fun _ z => nomatch z)
theorem isT_ref : IsT C H (.ref a) (.ty T) b = ((∃ xs, H a = some (.lst xs) ∧ kitB "list" T = some b) ∨ (∃ xs, H a = some (.tup xs) ∧ kitB "tuple" T = some b) ∨ (∃ xs, H a = some (.dK xs) ∧ kitB "dict" T = some b) ∨ ∃ dx fs, H a = some (.ins C dx fs) ∧ isBT T = true ∧ b = false) := by
  apply propext
  constructor
  · intro h
    cases h with
    | ty h k =>
      rcases (show (∃ xs, H a = some (.lst xs) ∧ _ = "list") ∨ (∃ xs, H a = some (.tup xs) ∧ _ = "tuple") ∨ ∃ kvs, H a = some (.dK kvs) ∧ _ = "dict" from h) with ⟨xs, e, rfl⟩ | ⟨xs, e, rfl⟩ | ⟨xs, e, rfl⟩
      · exact .inl ⟨xs, e, k⟩
      · exact .inr (.inl ⟨xs, e, k⟩)
      · exact .inr (.inr (.inl ⟨xs, e, k⟩))
    | tab h k => exact .inr (.inr (.inr ⟨_, _, h, k, rfl⟩))
  · rintro (⟨xs, e, k⟩ | ⟨xs, e, k⟩ | ⟨xs, e, k⟩ | ⟨dx, fs, e, k, rfl⟩)
    · exact .ty (.inl ⟨xs, e, rfl⟩) k
    · exact .ty (.inr (.inl ⟨xs, e, rfl⟩)) k
    · exact .ty (.inr (.inr ⟨xs, e, rfl⟩)) k
    · exact .tab e k
theorem isC_ref : IsT C H (.ref a) (.ref D) b = (D = C ∧ ((∃ xs, H a = some (.lst xs) ∧ b = false) ∨ (∃ xs, H a = some (.tup xs) ∧ b = false) ∨ (∃ xs, H a = some (.dK xs) ∧ b = false) ∨ ∃ dx fs, H a = some (.ins C dx fs) ∧ b = true)) := by
  apply propext
  constructor
  · intro h
    cases h with
    | no h =>
      refine ⟨rfl, ?_⟩
      rcases (show (∃ xs, H a = some (.lst xs) ∧ _ = "list") ∨ (∃ xs, H a = some (.tup xs) ∧ _ = "tuple") ∨ ∃ kvs, H a = some (.dK kvs) ∧ _ = "dict" from h) with ⟨xs, e, _⟩ | ⟨xs, e, _⟩ | ⟨xs, e, _⟩
      · exact .inl ⟨xs, e, rfl⟩
      · exact .inr (.inl ⟨xs, e, rfl⟩)
      · exact .inr (.inr (.inl ⟨xs, e, rfl⟩))
    | own h => exact ⟨rfl, .inr (.inr (.inr ⟨_, _, h, rfl⟩))⟩
  · rintro ⟨rfl, ⟨xs, e, rfl⟩ | ⟨xs, e, rfl⟩ | ⟨xs, e, rfl⟩ | ⟨dx, fs, e, rfl⟩⟩
    · exact .no (n := "list") (.inl ⟨xs, e, rfl⟩)
    · exact .no (n := "tuple") (.inr (.inl ⟨xs, e, rfl⟩))
    · exact .no (n := "dict") (.inr (.inr ⟨xs, e, rfl⟩))
    · exact .own e
theorem bt_int : (isBT "int" = true) = True := eq_true (by decide)
theorem bt_bool : (isBT "bool" = true) = True := eq_true (by decide)
theorem bt_str : (isBT "str" = true) = True := eq_true (by decide)
theorem bt_list : (isBT "list" = true) = True := eq_true (by decide)
theorem bt_tuple : (isBT "tuple" = true) = True := eq_true (by decide)
end
end KB
namespace KB
open PySem PySem.Spec PyProof.Rows L2 TL
/-! ### values of the program -/
inductive Val where
  | non
  | bl (b : Bool)
  | int (n : Int)
  | str (z : Str)
  | lst (vs : List Val)
  | tup (vs : List Val)
  | tab (ks : List Key) (vs : List Val)
mutual
def RpV (C : Addr) (H : Hp) : Val → V → Prop
  | .non, v => v = .non
  | .bl b, v => v = .bl b
  | .int n, v => v = .int n
  | .str z, v => v = .str z
  | .lst vs, v => ∃ a ws, v = .ref a ∧ H a = some (.lst ws) ∧ RpVL C H vs ws
  | .tup vs, v => ∃ a ws, v = .ref a ∧ H a = some (.tup ws) ∧ RpVL C H vs ws
  | .tab ks vs, v => ∃ a dx d ws, v = .ref a ∧ H a = some (.ins C dx [("held", .ref d)]) ∧ H d = some (.dK (ks.zip ws)) ∧ ks.Nodup ∧ ks.length = vs.length ∧ RpVL C H vs ws
def RpVL (C : Addr) (H : Hp) : List Val → List V → Prop
  | [], ws => ws = []
  | v :: vs, ws => ∃ w us, ws = w :: us ∧ RpV C H v w ∧ RpVL C H vs us
end
section
variable {C : Addr} {H H' : Hp}
mutual
theorem RpV.mono (s : Same H H') : ∀ (x : Val) (v : V), RpV C H x v → RpV C H' x v
  | .non, _, h => h
  | .bl _, _, h => h
  | .int _, _, h => h
  | .str _, _, h => h
  | .lst vs, v, h => by
    obtain ⟨a, ws, e, h1, h2⟩ := h
    exact ⟨a, ws, e, s _ _ h1, RpVL.mono s vs ws h2⟩
  | .tup vs, v, h => by
    obtain ⟨a, ws, e, h1, h2⟩ := h
    exact ⟨a, ws, e, s _ _ h1, RpVL.mono s vs ws h2⟩
  | .tab ks vs, v, h => by
    obtain ⟨a, dx, d, ws, e, h1, h2, h3, h4, h5⟩ := h
    exact ⟨a, dx, d, ws, e, s _ _ h1, s _ _ h2, h3, h4, RpVL.mono s vs ws h5⟩
theorem RpVL.mono (s : Same H H') : ∀ (vs : List Val) (ws : List V), RpVL C H vs ws → RpVL C H' vs ws
  | [], _, h => h
  | v :: vs, _, h => by
    obtain ⟨w, us, e, h1, h2⟩ := h
    exact ⟨w, us, e, RpV.mono s v w h1, RpVL.mono s vs us h2⟩
end
theorem RpVL.len : ∀ {vs : List Val} {ws : List V}, RpVL C H vs ws → ws.length = vs.length
  | [], _, h => by cases h; rfl
  | v :: vs, _, h => by
    obtain ⟨w, us, rfl, h1, h2⟩ := h
    rw [List.length_cons, List.length_cons, h2.len]
theorem RpVL.snoc : ∀ {vs : List Val} {ws : List V} {v : Val} {w : V}, RpVL C H vs ws → RpV C H v w → RpVL C H (vs ++ [v]) (ws ++ [w])
  | [], _, v, w, h, h1 => by cases h; exact ⟨w, [], rfl, h1, rfl⟩
  | x :: vs, _, v, w, h, h1 => by
    obtain ⟨y, us, rfl, h2, h3⟩ := h
    exact ⟨y, us ++ [w], rfl, h2, h3.snoc h1⟩
theorem RpVL.get : ∀ {vs : List Val} {ws : List V} {i : Nat} {w : V}, RpVL C H vs ws → ws[i]? = some w → ∃ v, vs[i]? = some v ∧ RpV C H v w
  | [], _, i, w, h, e => by cases h; simp at e
  | x :: vs, _, i, w, h, e => by
    obtain ⟨y, us, rfl, h2, h3⟩ := h
    cases i with
    | zero => cases e; exact ⟨x, rfl, h2⟩
    | succ i => exact RpVL.get (i := i) h3 (by simpa using e)
end
mutual
def vparts : Val → Nat
  | .lst vs => 1 + vpartsL vs
  | .tup vs => 1 + vpartsL vs
  | .tab _ vs => 1 + vpartsL vs
  | _ => 1
def vpartsL : List Val → Nat
  | [] => 0
  | v :: vs => vparts v + vpartsL vs
end
mutual
def vdepth : Val → Nat
  | .lst vs => 1 + vdepthL vs
  | .tup vs => 1 + vdepthL vs
  | .tab _ vs => 1 + vdepthL vs
  | _ => 0
def vdepthL : List Val → Nat
  | [] => 0
  | v :: vs => max (vdepth v) (vdepthL vs)
end
theorem vdepth_get : ∀ {vs : List Val} {i : Nat} {v : Val}, vs[i]? = some v → vdepth v ≤ vdepthL vs
  | [], i, r, e => by simp at e
  | q :: rs, i, r, e => by
    cases i with
    | zero => cases e; simp only [vdepthL]; omega
    | succ i => have := vdepth_get (vs := rs) (i := i) (by simpa using e); simp only [vdepthL]; omega
theorem vparts_pos (v : Val) : 1 ≤ vparts v := by cases v <;> simp [vparts] <;> omega
theorem vpartsL_ge : ∀ vs : List Val, vs.length ≤ vpartsL vs
  | [] => Nat.le_refl _
  | r :: rs => by
    have := vparts_pos r
    have := vpartsL_ge rs
    show rs.length + 1 ≤ vparts r + vpartsL rs
    omega
theorem vparts_get : ∀ {vs : List Val} {i : Nat} {v : Val}, vs[i]? = some v → vparts v ≤ vpartsL vs
  | [], i, r, e => by simp at e
  | q :: rs, i, r, e => by
    cases i with
    | zero => cases e; show vparts q ≤ vparts q + vpartsL rs; omega
    | succ i => have := vparts_get (vs := rs) (i := i) (by simpa using e); show vparts r ≤ vparts q + vpartsL rs; omega
/-! ### a part of the heap, and what is new -/
def plus (G N : Hp) : Hp := fun b => match G b with
  | some o => some o
  | none => N b
theorem plus_l {G N : Hp} : Same G (plus G N) := fun b o h => by unfold plus; rw [h]
/-- what a call made or found is in the part around -/
theorem plus_same {G H H' R : Hp} (g : Same G R) (n : Same (new H H') R) : Same (plus G (new H H')) R := fun b o h => by
  unfold plus at h
  split at h
  · rename_i x e; cases h; exact g b _ e
  · exact n b o h
theorem plus_mono {G H H1 H2 : Hp} (s : Same H1 H2) : Same (plus G (new H H1)) (plus G (new H H2)) := fun b o h => by
  unfold plus at h ⊢
  split at h
  · exact h
  · unfold new at h ⊢
    split at h
    · cases h
    · rename_i n; rw [if_neg n]; exact s b o h
theorem new_hid' {H H2 H' : Hp} {d : Addr} {u : HO} (s : Same H H2) (hd : H2 d = some u) : Same (new H2 H') (hid (new H H') d) := sm_made s hd
theorem lk_held {v : V} : List.lookup (Str.ofString "held") [(Str.ofString "held", v)] = some v := by
  rw [List.lookup_cons, show (Str.ofString "held" == Str.ofString "held") = true by decide +kernel]
section
variable {σ : L2.St} {H : Hp} {Q : VK} {D : L2.Ends} {K : PySem.W.Frag}
theorem q_fld {ta : TE} {f : Str} : tFld K ta f σ H Q = ta σ H fun x H1 => ∃ a C dx fs v, x = .ref a ∧ H1 a = some (.ins C dx fs) ∧ Cls K C ∧ NoAttr K C f ∧ fs.lookup f = some v ∧ Q v H1 := propext Iff.rfl
theorem cx_K {CX : CXT} {P : Program} {w : World} {mg : Str → Option Value} {base : Heap} {N : List Str} {q : Str} {sc : Scope} {f : Addr} {cd : Value} {A : Around} {outer : List Env} {s : Shared} {E : XK} : (cxOf CX P w K mg base N q sc f cd A outer s H E).K = K := rfl
end
/-! ### a class called, a method called -/
structure NewC (P : Program) (w : World) (K : PySem.W.Frag) (mg : Str → Option Value) (base : Heap) (k : Nat) (x : Str) (C : Addr) (sp : Sp) : Prop where
  ex : ∃ (f : Addr) (fd : FuncData) (ps : List Str) (spI : Sp), Mk K C f ∧ mg x = some (.ref C) ∧ Binds K fd ps [] ∧ FnOk P w K mg base CX0 k f fd ps spI ∧
    ∀ vs H Q, sp vs H Q E0 → ∀ a dx, H a = none → H dx = none → dx ≠ a → spI (.ref a :: vs) (upd (upd H dx (.own a)) a (.ins C dx [])) (fun v H2 => v = .non ∧ Q (.ref a) H2) E0
/-- a method by its class -/
structure MthC (P : Program) (w : World) (K : PySem.W.Frag) (mg : Str → Option Value) (base : Heap) (k : Nat) (C : Addr) (m : Str) (ps : List Str) (sp : Sp) : Prop where
  ex : ∃ (f : Addr) (fd : FuncData), Meth K C m f ∧ Binds K fd ps [] ∧ FnOk P w K mg base CX0 k f fd ps sp
/-- a def of a class, as the top has made it (defaults: dvs) -/
structure DefM (K : PySem.W.Frag) (C : Addr) (m qual : Str) (st : Stmt) (dvs : List V) : Prop where
  ex : ∃ (f : Addr) (fd : FuncData), FunD K m qual (defArgs st) (defBody st) (defScope st) dvs [] f fd ∧ PySem.W.findIn K (.ref C) m = some (some (.ref f)) ∧ PySem.W.isFn K (.ref f) = true
section
variable {X : Cx} {k : Nat} {x : Str} {C : Addr} {sp : Sp} {p pos : Pos} {e : Expr} {es : List Expr} {t : TA}
theorem PE.wk {e : Expr} {t t' : TE} (h : PE X e t) (w : ∀ σ H Q, t' σ H Q → t σ H Q) : PE X e t' := ⟨fun pins s σ H Q I q => h.run pins s σ H Q I (w _ _ _ q)⟩
theorem pe_new (N : NewC X.prog X.w X.K X.mg X.base k x C sp) (hr : Room (k + 1) X.A) (hg : Gl X x) (ha : PA X (e :: es) t) (hdb : (x == ("__debug__" : Str)) = false := by decide)
    (he : starEach (e :: es) X.env = (false, eval e X.env) :: starEach es X.env := by rfl) (hpl : (backTo pos (starEach es X.env)).any (·.1) = false := by rfl) : PE X (.Call (.Name x p) (e :: es) [] pos) (tCall sp [] E0 t) := by
  obtain ⟨f, fd, ps, spI, M, g, b, F, w⟩ := N.ex
  refine ⟨fun pins s σ H Q I h => ?_⟩
  refine wpAny_Call_Name_kw (ld_glob I hg g ?_ hdb)
  refine PySem.W.callWith_K (h₀ := X.base) I.ok.mod.kin M.kp (thn (ha.run pos pins s σ H _ I h) fun us s1 ⟨vs, H1, I1, r, q⟩ => ⟨I1.kIn, ?_⟩) he hpl
  exact run_make (dvs := []) (ds := []) M F hr b .nil pass0 I1 r fun a dx h1 h2 h3 => w _ _ _ q a dx h1 h2 h3
theorem pe_mth {m : Str} {ps : List Str} {o : Expr} {to : TE} {apos : Pos} (N : MthC X.prog X.w X.K X.mg X.base k C m ps sp) (cl : Cls X.K C) (hr : Room k X.A) (ho : PE X o to) (ha : PA X (e :: es) t)
    (h1 : ∀ (f : Addr) (fd : FuncData), Meth X.K C m f → Binds X.K fd ps [] → FnOk X.prog X.w X.K X.mg X.base CX0 k f fd ps sp → PE X (.Call (.Attribute o m apos) (e :: es) [] pos) (tMeth C m sp [] E0 to t)) : PE X (.Call (.Attribute o m apos) (e :: es) [] pos) (tMeth C m sp [] E0 to t) := by
  obtain ⟨f, fd, M, b, F⟩ := N.ex
  exact h1 f fd M b F
end
/-! ### for over a list or a tuple -/
def iSeq (K : PySem.W.Frag) (tl : TE) : TI := fun σ H R => tl σ H fun x H1 => ∃ a, x = .ref a ∧ (((∃ xs, SqL K H1 a xs) ∧ R (Itl K a) H1) ∨ ((∃ xs, SqT K H1 a xs) ∧ R (Itt K a) H1))
section
variable {X : Cx} {tg : Expr}
theorem pi_seq {l : Expr} {tl : TE} (hl : PE X l tl) : PI X tg l (iSeq X.K tl) := by
  refine ⟨fun pins s σ H R I h => ?_⟩
  refine thn (hl.run pins s σ H _ I h) fun v s1 ⟨x, H1, I1, r1, q1⟩ => ?_
  obtain ⟨a, e, ⟨⟨xs, hq⟩, q⟩ | ⟨⟨xs, hq⟩, q⟩⟩ := q1
  · subst e
    cases r1
    obtain ⟨its, rv, p, hz⟩ := I1.list hq
    refine wpAny_pyIter_list p.isList ?_
    refine ⟨s1.heap.objs.size, [s1.heap.objs.size], _, _, H1, rfl, I1.kept (t' := s1.toks) fun b o e => Heap.get?_push_of_some _ e, turn_list a _, ⟨_, Heap.get?_push_size _ rfl, rfl, rfl⟩, fun b hb => ?_, q⟩
    have e : b = s1.heap.objs.size := by simpa using hb
    subst e
    exact I1.fpOk (Nat.le_refl _) (I1.hok.fresh (Nat.le_refl _))
  · subst e
    cases r1
    obtain ⟨its, rv, p, hz⟩ := I1.tuple hq
    refine wpAny_pyIter_tuple (show s1.heap.IsTuple a its.toArray from p) ?_
    refine ⟨s1.heap.objs.size, [s1.heap.objs.size], _, _, H1, rfl, I1.kept (t' := s1.toks) fun b o e => Heap.get?_push_of_some _ e, turn_tuple a _, ⟨_, Heap.get?_push_size _ rfl, rfl, rfl⟩, fun b hb => ?_, q⟩
    have e : b = s1.heap.objs.size := by simpa using hb
    subst e
    exact I1.fpOk (Nat.le_refl _) (I1.hok.fresh (Nat.le_refl _))
end
section
variable {P : Program} {w : World} {K : PySem.W.Frag} {mg : Str → Option Value} {base : Heap} {C : Addr}
/-- a class by its __init__ (one default, every argument written) -/
theorem DefM.new {x qual : Str} {st : Stmt} {dv : V} {N ps : List Str} {k : Nat} {sp spI : Sp} (D : DefM K C "__init__" qual st [dv]) (hmk : PySem.W.makesIn K C = true) (hkp : PySem.W.keepIn K (.ref C) = true) (g : mg x = some (.ref C)) (S : FnScope N ps (defScope st))
    (hb : ∀ (T : Addr) (kV doc pm : Value) (an : Option Addr) (cdv ct : Value) (us its : List Value), us.length = ps.length → its.length = 1 →
      ∃ k, bindArgs (PySem.W.fnOf "__init__" qual (defArgs st) (defBody st) (defScope st) (.ref T) kV doc pm an cdv ct) ⟨us, []⟩ = seqItems? (.ref T) >>= k ∧ k (some its.toArray) = pure (ps.zip (us ++ its.drop 1)))
    (len : ∀ vs H Q E, spI vs H Q E → vs.length = ps.length)
    (hbody : ∀ (f : Addr) (cdv : Value) (A : Around) (outer : List Env) (s : Shared) (H : Hp) (vs : List V) (Q : VK) (E : XK), Room k (A.deeper (envOfC qual (defScope st) s.heap.objs.size f cdv)) → spI vs H Q E →
      ∃ t, PSs (cxOf CX0 P w K mg base N qual (defScope st) f cdv A outer s H E).nox (defBody st) t ∧ t { nx := fun _ H' => Q .non H', rt := Q } (start N vs) H)
    (hw : ∀ vs H Q, sp vs H Q E0 → ∀ a dx, H a = none → H dx = none → dx ≠ a → spI (.ref a :: vs) (upd (upd H dx (.own a)) a (.ins C dx [])) (fun v H2 => v = .non ∧ Q (.ref a) H2) E0) : NewC P w K mg base (k + 1) x C sp := by
  obtain ⟨f, fd, F, h1, h2⟩ := D.ex
  obtain ⟨ds, v, b⟩ := F.binds1 (ps := ps) ps.length 1 (by simp) (by simp) (fun T kV doc pm an cdv ct us its h3 h4 => hb T kV doc pm an cdv ct us its h3 h4)
  cases v
  refine ⟨f, fd, ps, spI, ⟨hmk, h1, h2, hkp⟩, g, b, F.ok S len fun cdv A outer s H vs Q E hr hq => ?_, hw⟩
  obtain ⟨t, h, q⟩ := hbody f cdv A outer s H vs Q E hr hq
  exact ⟨t, h.nox, q⟩
end
/-! ### tuple(xs), list(xs) -/
def rTupA : List V → Hp → VK → Prop := fun vs H Q => ∃ p, vs = [.ref p] ∧ ((∃ xs, H p = some (.lst xs) ∧ ∀ l, H l = none → Q (.ref l) (upd H l (.tup xs))) ∨ (∃ xs, H p = some (.tup xs) ∧ Q (.ref p) H))
theorem tuple_any {X : Cx} : CallR X (.type "tuple") rTupA := CallR.wk call_tuple_of fun vs H Q h => by
  obtain ⟨p, rfl, ⟨xs, h, q⟩ | ⟨xs, h, q⟩⟩ := h
  · exact ⟨p, xs, rfl, .inl ⟨.inl (.inl h), q⟩⟩
  · exact ⟨p, xs, rfl, .inr ⟨.inl (.inl h), q⟩⟩
theorem r_tupA {p : Addr} {H : Hp} {Q : VK} : rTupA [.ref p] H Q = ((∃ xs, H p = some (.lst xs) ∧ ∀ l, H l = none → Q (.ref l) (upd H l (.tup xs))) ∨ (∃ xs, H p = some (.tup xs) ∧ Q (.ref p) H)) := by
  apply propext
  constructor
  · rintro ⟨q, e, h⟩; cases e; exact h
  · exact fun h => ⟨p, rfl, h⟩
/-! ### a list at d grows by parts that were there (in G) or are new -/
section
variable {G H H2 H3 : Hp} {d : Addr} {o u : HO}
theorem pl_upd : hid (plus G (new H (upd H3 d o))) d = hid (plus G (new H H3)) d := by
  funext b
  unfold hid
  split
  · rfl
  · rename_i n
    unfold plus new
    rw [upd_ne n]
theorem pl_old (s : Same H2 H3) : Same (hid (plus G (new H H2)) d) (hid (plus G (new H H3)) d) := fun b o h => by
  have nd : b ≠ d := fun e => by
    subst e
    unfold hid at h
    rw [if_pos rfl] at h
    cases h
  exact hid_get (plus_mono s b o (hid_same b o h)) nd
theorem sub_none (g : Same G H) {b : Addr} (h : H b = none) : G b = none := g.free h
theorem pl_get {b : Addr} (hG : G b = none) (hH : H b = none) (h : H3 b = some o) : plus G (new H H3) b = some o := by
  unfold plus
  rw [hG]
  exact new_of hH h
theorem pl_made (g : Same G H) (s : Same H H2) (hH : H d = none) (hd : H2 d = some u) : Same (plus G (new H2 H3)) (hid (plus G (new H H3)) d) := fun b x h => by
  unfold plus at h
  split at h
  · rename_i y e
    cases h
    refine hid_get (plus_l b _ e) fun z => ?_
    subst z
    rw [g.free hH] at e
    cases e
  · rename_i e
    have h1 := new_same b x h
    have hn : ¬ (H2 b).isSome = true := fun z => by
      unfold new at h
      rw [if_pos z] at h
      cases h
    refine hid_get (pl_get e ?_ h1) fun z => ?_
    · cases q : H b with
      | none => rfl
      | some y => rw [s b y q] at hn; exact absurd rfl hn
    · subst z
      rw [hd] at hn
      exact hn rfl
theorem pl_more {t : Addr} (ht : H3 t = none) : Same (hid (plus G (new H H3)) d) (hid (plus G (new H (upd H3 t o))) d) := pl_old (sm_new ht)
end
theorem q_iseq {K : PySem.W.Frag} {tl : TE} {σ : L2.St} {H : Hp} {R : It → Hp → Prop} : iSeq K tl σ H R = tl σ H fun x H1 => ∃ a, x = .ref a ∧ (((∃ xs, SqL K H1 a xs) ∧ R (Itl K a) H1) ∨ ((∃ xs, SqT K H1 a xs) ∧ R (Itt K a) H1)) := propext Iff.rfl
/-- [te for k in xs], xs a tuple that stands -/
theorem lc_t {σ : L2.St} {H : Hp} {Q : VK} {K : PySem.W.Frag} {a p : Addr} {xs : List V} {k : Nat} {te : TE} (G : Nat → List V → Hp → Prop) (h0 : G 0 [] (upd H p (.lst []))) (hl : ∀ i ys H, G i ys H → SqT K H a xs)
    (hs : ∀ i x ys H, xs[i]? = some x → ys.length = i → H p = some (.lst ys) → G i ys H → te ((wipe σ [k]).set k (some x)) H (LcNext p i G))
    (hd : ∀ ys H, ys.length = xs.length → H p = some (.lst ys) → G xs.length ys H → Q (.ref p) H) : LcLoop (Itt K a) (gName k) tYes te [k] σ Q p H := by
  refine lc_tup (xs := xs) (Qd := fun H => Q (.ref p) H) (fun i H => ∃ ys, ys.length = i ∧ H p = some (.lst ys) ∧ G i ys H) ⟨[], rfl, upd_same, h0⟩ (fun i H hi ⟨ys, e, hp, hG⟩ => hl i ys H hG) (fun i x H hx ⟨ys, e, hp, hG⟩ => ?_) (fun H ⟨ys, e, hp, hG⟩ => hd ys H e hp hG)
  refine ⟨wipe_one, ?_⟩
  unfold tYes
  simp only [if_true]
  exact hs i x ys H hx e hp hG
/-! ### dicts by keys -/
theorem dget_k {H : Hp} {a : Addr} {k : Key} {r : Option V} : DGet H a (kV k) r = ∃ kvs, Rd H a (.dK kvs) ∧ r = valV kvs k := by
  cases k with
  | inl i => exact dget_i
  | inr z => exact dget_s
theorem dput_k {H : Hp} {a : Addr} {k : Key} {v : V} {R : Hp → Prop} : (∃ H4, DPut H a (kV k) v H4 ∧ R H4) = ∃ kvs, H a = some (.dK kvs) ∧ kvs.length < sizeLine ∧ R (upd H a (.dK (putK kvs k v))) := by
  apply propext
  constructor
  · rintro ⟨H4, (⟨ks, c, h1, h2, h3, h4⟩ | ⟨ks, c, b, h1, h2, _⟩), q⟩
    · cases k <;> cases c <;> cases h2 <;> (subst h4; exact ⟨ks, h1, h3, q⟩)
    · cases k <;> cases h2
  · exact fun ⟨ks, h, hl, q⟩ => ⟨_, .inl ⟨ks, k, h, rfl, hl, rfl⟩, q⟩
theorem dput_i {H : Hp} {a : Addr} {k : Int} {v : V} {R : Hp → Prop} : (∃ H4, DPut H a (.int k) v H4 ∧ R H4) = ∃ kvs, H a = some (.dK kvs) ∧ kvs.length < sizeLine ∧ R (upd H a (.dK (putK kvs (.inl k) v))) := dput_k (k := .inl k)
/-- entries: a list of pairs -/
def Ents (H : Hp) : List V → List Key → List V → Prop
  | [], ks, ws => ks = [] ∧ ws = []
  | e :: es, ks, ws => ∃ t k ks' w ws', e = .ref t ∧ ks = k :: ks' ∧ ws = w :: ws' ∧ H t = some (.tup [kV k, w]) ∧ Ents H es ks' ws'
theorem Ents.mono {H H' : Hp} (s : Same H H') : ∀ {es : List V} {ks : List Key} {ws : List V}, Ents H es ks ws → Ents H' es ks ws
  | [], _, _, h => h
  | e :: es, _, _, h => by
    obtain ⟨t, k, ks', w, ws', e1, e2, e3, h1, h2⟩ := h
    exact ⟨t, k, ks', w, ws', e1, e2, e3, s _ _ h1, h2.mono s⟩
theorem Ents.get {H : Hp} : ∀ {es : List V} {ks : List Key} {ws : List V} {i : Nat} {e : V}, Ents H es ks ws → es[i]? = some e → ∃ t k w, e = .ref t ∧ ks[i]? = some k ∧ ws[i]? = some w ∧ H t = some (.tup [kV k, w])
  | [], _, _, i, e, h, he => by simp at he
  | x :: es, _, _, i, e, h, he => by
    obtain ⟨t, k, ks', w, ws', rfl, rfl, rfl, h1, h2⟩ := h
    cases i with
    | zero => cases he; exact ⟨t, k, w, rfl, rfl, rfl, h1⟩
    | succ i => exact Ents.get (i := i) h2 (by simpa using he)
theorem Ents.len {H : Hp} : ∀ {es : List V} {ks : List Key} {ws : List V}, Ents H es ks ws → ks.length = es.length ∧ ws.length = es.length
  | [], _, _, h => by obtain ⟨rfl, rfl⟩ := h; exact ⟨rfl, rfl⟩
  | x :: es, _, _, h => by
    obtain ⟨t, k, ks', w, ws', rfl, rfl, rfl, h1, h2⟩ := h
    have := h2.len
    simp only [List.length_cons]
    omega
theorem Ents.snoc {H : Hp} : ∀ {es : List V} {ks : List Key} {ws : List V} {t : Addr} {k : Key} {w : V}, Ents H es ks ws → H t = some (.tup [kV k, w]) → Ents H (es ++ [.ref t]) (ks ++ [k]) (ws ++ [w])
  | [], _, _, t, k, w, h, h1 => by obtain ⟨rfl, rfl⟩ := h; exact ⟨t, k, [], w, [], rfl, rfl, rfl, h1, rfl, rfl⟩
  | x :: es, _, _, t, k, w, h, h1 => by
    obtain ⟨t', k', ks', w', ws', rfl, rfl, rfl, h2, h3⟩ := h
    exact ⟨t', k', ks' ++ [k], w', ws' ++ [w], rfl, rfl, rfl, h2, h3.snoc h1⟩
theorem val_zip_none : ∀ {ks : List Key} {us : List V} {k : Key}, k ∉ ks → valV (ks.zip us) k = none
  | [], _, _, _ => rfl
  | _ :: _, [], _, _ => rfl
  | x :: ks, u :: us, k, h => by
    have h1 : ¬ x = k := fun e => h (by simp [e])
    have ih := val_zip_none (ks := ks) (us := us) (k := k) fun z => h (List.mem_cons_of_mem _ z)
    unfold valV at ih ⊢
    rw [List.zip_cons_cons, List.find?_cons_of_neg (by simpa using h1)]
    exact ih
theorem pl_elder {G H H0 H' : Hp} (s : Same H H0) : Same (plus G (new H0 H')) (plus G (new H H')) := fun b o h => by
  unfold plus at h ⊢
  split at h
  · exact h
  · unfold new at h ⊢
    split at h
    · cases h
    · rename_i n
      rw [if_neg]
      · exact h
      · intro z
        obtain ⟨y, hy⟩ := Option.isSome_iff_exists.mp z
        rw [s b y hy] at n
        exact n rfl
theorem q_sfld {K : PySem.W.Frag} {ta tv : TE} {f : Str} {D : L2.Ends} {σ : L2.St} {H : Hp} : sFld K ta tv f D σ H = tv σ H fun y H1 => ta σ H1 fun x H2 => ∃ a C dx fs, x = .ref a ∧ H2 a = some (.ins C dx fs) ∧ Cls K C ∧ NoAttr K C f ∧ fs.length < 1000 ∧ D.nx σ (upd H2 a (.ins C dx (putF f y fs))) := propext Iff.rfl
theorem q_never {D : L2.Ends} {σ : L2.St} {H : Hp} : tNever D σ H = False := rfl
/-- for over a list or a tuple that stands -/
theorem lp_seq {K : PySem.W.Frag} {l : Addr} {es : List V} {g : TG} {tb : TS} {D : L2.Ends} {σ : L2.St} {H : Hp} (hl : H l = some (.lst es) ∨ H l = some (.tup es)) (Pv : Nat → L2.St → Hp → Prop) (h0 : Pv 0 σ H) (hk : ∀ i σ H', Pv i σ H' → ∀ o, H l = some o → H' l = some o)
    (hs : ∀ i x σ H, es[i]? = some x → Pv i σ H → g x σ H fun σ2 H2 => tb { D with nx := Pv (i + 1), ct := Pv (i + 1), bk := D.nx } σ2 H2) (hd : ∀ σ H, Pv es.length σ H → D.nx σ H) :
    ((∃ xs, SqL K H l xs) ∧ Loop (Itl K l) g tb D σ H) ∨ ((∃ xs, SqT K H l xs) ∧ Loop (Itt K l) g tb D σ H) := by
  rcases hl with hl | hl
  · exact .inl ⟨⟨es, .inl (.inl hl)⟩, for_list (xs := es) Pv h0 (fun i σ H' _ p => .inl (.inl (hk i σ H' p _ hl))) hs hd⟩
  · exact .inr ⟨⟨es, .inl (.inl hl)⟩, for_tup (xs := es) Pv h0 (fun i σ H' _ p => .inl (.inl (hk i σ H' p _ hl))) hs hd⟩
theorem nodup_take {α : Type} : ∀ {ks : List α} {i : Nat} {k : α}, ks.Nodup → ks[i]? = some k → k ∉ ks.take i
  | [], i, k, _, e => by simp at e
  | x :: ks, 0, k, _, _ => by simp
  | x :: ks, i + 1, k, h, e => by
    obtain ⟨h1, h2⟩ := List.nodup_cons.mp h
    have e' : ks[i]? = some k := by simpa using e
    rw [List.take_succ_cons]
    intro z
    rcases List.mem_cons.mp z with z | z
    · subst z; exact h1 (List.mem_of_getElem? e')
    · exact nodup_take h2 e' z
theorem nodup_snoc {α : Type} {ks : List α} {k : α} (h : ks.Nodup) (n : k ∉ ks) : (ks ++ [k]).Nodup := by
  rw [List.nodup_append]
  refine ⟨h, by simp, fun a ha b hb => ?_⟩
  rw [List.mem_singleton.mp hb]
  rintro rfl
  exact n ha
end KB
namespace KB
open PySem PySem.Spec PyProof.Rows L2 TL
/-! ### the models of the law -/
inductive Md where
  | non
  | bl (b : Bool)
  | int (n : Int)
  | str (z : Str)
  | seq (w : Str) (rs : List Md)
  | tab (zs : List Key) (rs : List Md)
mutual
def RpM (H : Hp) : Md → V → Prop
  | .non, v => v = .non
  | .bl b, v => v = .bl b
  | .int n, v => v = .int n
  | .str z, v => v = .str z
  | .seq w rs, v => ∃ t l vs, v = .ref t ∧ H t = some (.tup [.str w, .ref l]) ∧ H l = some (.lst vs) ∧ RpML H rs vs
  | .tab zs rs, v => ∃ t l vs, v = .ref t ∧ H t = some (.tup [.str "table", .ref l]) ∧ H l = some (.lst vs) ∧ RpMP H rs zs vs
def RpML (H : Hp) : List Md → List V → Prop
  | [], vs => vs = []
  | r :: rs, vs => ∃ v ws, vs = v :: ws ∧ RpM H r v ∧ RpML H rs ws
def RpMP (H : Hp) : List Md → List Key → List V → Prop
  | [], zs, vs => zs = [] ∧ vs = []
  | r :: rs, zs, vs => ∃ z ys t v ws, zs = z :: ys ∧ vs = .ref t :: ws ∧ H t = some (.tup [kV z, v]) ∧ RpM H r v ∧ RpMP H rs ys ws
end
mutual
theorem RpM.mono {H H' : Hp} (s : Same H H') : ∀ (r : Md) (v : V), RpM H r v → RpM H' r v
  | .non, _, h => h
  | .bl _, _, h => h
  | .int _, _, h => h
  | .str _, _, h => h
  | .seq w rs, v, h => by
    obtain ⟨t, l, vs, e, h1, h2, h3⟩ := h
    exact ⟨t, l, vs, e, s _ _ h1, s _ _ h2, RpML.mono s rs vs h3⟩
  | .tab zs rs, v, h => by
    obtain ⟨t, l, vs, e, h1, h2, h3⟩ := h
    exact ⟨t, l, vs, e, s _ _ h1, s _ _ h2, RpMP.mono s rs zs vs h3⟩
theorem RpML.mono {H H' : Hp} (s : Same H H') : ∀ (rs : List Md) (vs : List V), RpML H rs vs → RpML H' rs vs
  | [], _, h => h
  | r :: rs, _, h => by
    obtain ⟨v, ws, e, h1, h2⟩ := h
    exact ⟨v, ws, e, RpM.mono s r v h1, RpML.mono s rs ws h2⟩
theorem RpMP.mono {H H' : Hp} (s : Same H H') : ∀ (rs : List Md) (zs : List Key) (vs : List V), RpMP H rs zs vs → RpMP H' rs zs vs
  | [], _, _, h => h
  | r :: rs, _, _, h => by
    obtain ⟨z, ys, t, v, ws, e1, e2, h0, h1, h2⟩ := h
    exact ⟨z, ys, t, v, ws, e1, e2, s _ _ h0, RpM.mono s r v h1, RpMP.mono s rs ys ws h2⟩
end
mutual
def mnodes : Md → Nat
  | .seq _ rs => 1 + mnodesL rs
  | .tab _ rs => 1 + mnodesL rs
  | _ => 1
def mnodesL : List Md → Nat
  | [] => 0
  | r :: rs => mnodes r + mnodesL rs
end
mutual
def mdepth : Md → Nat
  | .seq _ rs => 1 + mdepthL rs
  | .tab _ rs => 1 + mdepthL rs
  | _ => 0
def mdepthL : List Md → Nat
  | [] => 0
  | r :: rs => max (mdepth r) (mdepthL rs)
end
mutual
def OkM : Md → Prop
  | .non => True
  | .bl _ => True
  | .int n => n.natAbs < 10 ^ 30
  | .str z => Pr z ∧ z.length ≤ 300
  | .seq w rs => OkML rs ∧ (w = Str.ofString "tuple" ∨ w = Str.ofString "list")
  | .tab zs rs => OkML rs ∧ zs.length = rs.length ∧ (∀ z ∈ zs, KeyV (kV z)) ∧ zs.Nodup
def OkML : List Md → Prop
  | [] => True
  | r :: rs => OkM r ∧ OkML rs
end
theorem RpML.len {H : Hp} : ∀ {rs : List Md} {vs : List V}, RpML H rs vs → vs.length = rs.length
  | [], _, h => by cases h; rfl
  | r :: rs, _, h => by
    obtain ⟨v, ws, rfl, h1, h2⟩ := h
    rw [List.length_cons, List.length_cons, h2.len]
theorem RpMP.len {H : Hp} : ∀ {rs : List Md} {zs : List Key} {vs : List V}, RpMP H rs zs vs → vs.length = rs.length ∧ zs.length = rs.length
  | [], _, _, h => by obtain ⟨rfl, rfl⟩ := h; exact ⟨rfl, rfl⟩
  | r :: rs, _, _, h => by
    obtain ⟨z, ys, t, v, ws, rfl, rfl, h0, h1, h2⟩ := h
    have := h2.len
    simp only [List.length_cons]
    omega
theorem RpML.snoc {H : Hp} : ∀ {rs : List Md} {vs : List V} {r : Md} {v : V}, RpML H rs vs → RpM H r v → RpML H (rs ++ [r]) (vs ++ [v])
  | [], _, r, v, h, h1 => by cases h; exact ⟨v, [], rfl, h1, rfl⟩
  | q :: rs, _, r, v, h, h1 => by
    obtain ⟨w, ws, rfl, h2, h3⟩ := h
    exact ⟨w, ws ++ [v], rfl, h2, h3.snoc h1⟩
theorem RpMP.snoc {H : Hp} : ∀ {rs : List Md} {zs : List Key} {vs : List V} {r : Md} {z : Key} {t : Addr} {v : V}, RpMP H rs zs vs → H t = some (.tup [kV z, v]) → RpM H r v → RpMP H (rs ++ [r]) (zs ++ [z]) (vs ++ [.ref t])
  | [], _, _, r, z, t, v, h, h0, h1 => by obtain ⟨rfl, rfl⟩ := h; exact ⟨z, [], t, v, [], rfl, rfl, h0, h1, rfl, rfl⟩
  | q :: rs, _, _, r, z, t, v, h, h0, h1 => by
    obtain ⟨y, ys, u, w, ws, rfl, rfl, h3, h4, h5⟩ := h
    exact ⟨y, ys ++ [z], u, w, ws ++ [.ref t], rfl, rfl, h3, h4, h5.snoc h0 h1⟩
theorem RpML.get {H : Hp} : ∀ {rs : List Md} {vs : List V} {i : Nat} {v : V}, RpML H rs vs → vs[i]? = some v → ∃ r, rs[i]? = some r ∧ RpM H r v
  | [], _, i, v, h, e => by cases h; simp at e
  | q :: rs, _, i, v, h, e => by
    obtain ⟨w, ws, rfl, h2, h3⟩ := h
    cases i with
    | zero => cases e; exact ⟨q, rfl, h2⟩
    | succ i => exact RpML.get (i := i) h3 (by simpa using e)
theorem RpMP.get {H : Hp} : ∀ {rs : List Md} {zs : List Key} {vs : List V} {i : Nat} {v : V}, RpMP H rs zs vs → vs[i]? = some v → ∃ r z t u, rs[i]? = some r ∧ zs[i]? = some z ∧ v = .ref t ∧ H t = some (.tup [kV z, u]) ∧ RpM H r u
  | [], _, _, i, v, h, e => by obtain ⟨rfl, rfl⟩ := h; simp at e
  | q :: rs, _, _, i, v, h, e => by
    obtain ⟨y, ys, t, w, ws, rfl, rfl, h3, h4, h5⟩ := h
    cases i with
    | zero => cases e; exact ⟨q, y, t, w, rfl, rfl, rfl, h3, h4⟩
    | succ i => exact RpMP.get (i := i) h5 (by simpa using e)
theorem OkML.get : ∀ {rs : List Md} {i : Nat} {r : Md}, OkML rs → rs[i]? = some r → OkM r
  | [], i, r, _, e => by simp at e
  | q :: rs, i, r, h, e => by
    cases i with
    | zero => cases e; exact h.1
    | succ i => exact OkML.get (i := i) h.2 (by simpa using e)
theorem OkML.snoc : ∀ {rs : List Md} {r : Md}, OkML rs → OkM r → OkML (rs ++ [r])
  | [], r, _, h => ⟨h, trivial⟩
  | q :: rs, r, h, h1 => ⟨h.1, h.2.snoc h1⟩
theorem mnodesL_snoc : ∀ (rs : List Md) (r : Md), mnodesL (rs ++ [r]) = mnodesL rs + mnodes r
  | [], r => by simp [mnodesL]
  | q :: rs, r => by simp only [List.cons_append, mnodesL, mnodesL_snoc rs r]; omega
theorem mdepthL_snoc : ∀ (rs : List Md) (r : Md), mdepthL (rs ++ [r]) = max (mdepthL rs) (mdepth r)
  | [], r => by simp [mdepthL]
  | q :: rs, r => by simp only [List.cons_append, mdepthL, mdepthL_snoc rs r]; omega
theorem mdepth_get : ∀ {rs : List Md} {i : Nat} {r : Md}, rs[i]? = some r → mdepth r ≤ mdepthL rs
  | [], i, r, e => by simp at e
  | q :: rs, i, r, e => by
    cases i with
    | zero => cases e; simp only [mdepthL]; omega
    | succ i => have := mdepth_get (rs := rs) (i := i) (by simpa using e); simp only [mdepthL]; omega
mutual
theorem RpM.noD {H : Hp} : ∀ (r : Md) (v : V), RpM H r v → RpM (noD H) r v
  | .non, _, h => h
  | .bl _, _, h => h
  | .int _, _, h => h
  | .str _, _, h => h
  | .seq w rs, v, h => by
    obtain ⟨t, l, vs, e, h1, h2, h3⟩ := h
    exact ⟨t, l, vs, e, by unfold KB.noD; rw [h1], by unfold KB.noD; rw [h2], RpML.noD rs vs h3⟩
  | .tab zs rs, v, h => by
    obtain ⟨t, l, vs, e, h1, h2, h3⟩ := h
    exact ⟨t, l, vs, e, by unfold KB.noD; rw [h1], by unfold KB.noD; rw [h2], RpMP.noD rs zs vs h3⟩
theorem RpML.noD {H : Hp} : ∀ (rs : List Md) (vs : List V), RpML H rs vs → RpML (noD H) rs vs
  | [], _, h => h
  | r :: rs, _, h => by
    obtain ⟨v, ws, e, h1, h2⟩ := h
    exact ⟨v, ws, e, RpM.noD r v h1, RpML.noD rs ws h2⟩
theorem RpMP.noD {H : Hp} : ∀ (rs : List Md) (zs : List Key) (vs : List V), RpMP H rs zs vs → RpMP (noD H) rs zs vs
  | [], _, _, h => h
  | r :: rs, _, _, h => by
    obtain ⟨z, ys, t, v, ws, e1, e2, h0, h1, h2⟩ := h
    exact ⟨z, ys, t, v, ws, e1, e2, by unfold KB.noD; rw [h0], RpM.noD r v h1, RpMP.noD rs ys ws h2⟩
end
/-- a leaf -/
def LeafM : Md → Prop
  | .seq _ _ => False
  | .tab _ _ => False
  | _ => True
theorem leaf_rpM {H H' : Hp} : ∀ {r : Md} {v : V}, LeafM r → RpM H r v → RpM H' r v
  | .non, _, _, h => h
  | .bl _, _, _, h => h
  | .int _, _, _, h => h
  | .str _, _, _, h => h
theorem rpM_keep {a c : Addr} {rm : Int} {H H2 H3 : Hp} {r : Md} {v : V} (k : Keep a H2 H3) (s : Src H2 a c rm) (h : RpM (new H H2) r v) : RpM (new H H3) r v := by
  obtain ⟨kvs, ha⟩ := src_dk s
  exact RpM.mono (new_keep0 k ha) _ _ (RpM.noD _ _ h)
/-! ### keys -/
theorem key_kV {v : V} (h : KeyV v) : ∃ k : Key, v = kV k := by
  rcases h with ⟨n, rfl, _⟩ | ⟨z, rfl, _⟩
  · exact ⟨.inl n, rfl⟩
  · exact ⟨.inr z, rfl⟩
theorem kV_flat (k : Key) : flatV (kV k) = true := by cases k <;> rfl
theorem kV_flatP {k : Key} (h : KeyV (kV k)) : FlatP (kV k) := by
  cases k with
  | inl n => trivial
  | inr z =>
    rcases h with ⟨n, e, _⟩ | ⟨y, e, hy, _⟩
    · cases e
    · cases e; exact hy
theorem eqV_kV (a b : Key) : eqV (kV a) (kV b) = decide (a = b) := by
  cases a <;> cases b
  · show (_ == _) = _
    rw [Bool.eq_iff_iff, beq_iff_eq, decide_eq_true_eq, Sum.inl.injEq]
  · exact (decide_eq_false (fun h => nomatch h)).symm
  · exact (decide_eq_false (fun h => nomatch h)).symm
  · show (_ == _) = _
    rw [Bool.eq_iff_iff, beq_iff_eq, decide_eq_true_eq, Sum.inr.injEq]
theorem in_kV (k : Key) (ks : List Key) : inV (kV k) (ks.map kV) = true ↔ k ∈ ks := by
  unfold inV
  rw [List.any_eq_true]
  constructor
  · rintro ⟨y, hy, e⟩
    obtain ⟨j, hj, rfl⟩ := List.mem_map.mp hy
    rw [eqV_kV, decide_eq_true_eq] at e
    exact e ▸ hj
  · intro h
    exact ⟨kV k, List.mem_map.mpr ⟨k, h, rfl⟩, by rw [eqV_kV]; exact decide_eq_true rfl⟩
theorem flats_kV (ks : List Key) : (ks.map kV).all flatV = true := by
  rw [List.all_eq_true]
  intro x hx
  obtain ⟨k, _, rfl⟩ := List.mem_map.mp hx
  exact kV_flat k
theorem raw_md {r : Raw} (h : LeafR r) (ok : OkR r) : ∃ m : Md, LeafM m ∧ OkM m ∧ ∀ (H H' : Hp) (v : V), Rp H r v → RpM H' m v := by
  cases r with
  | non => exact ⟨.non, trivial, trivial, fun _ _ _ h => h⟩
  | bl b => exact ⟨.bl b, trivial, trivial, fun _ _ _ h => h⟩
  | int n => exact ⟨.int n, trivial, ok, fun _ _ _ h => h⟩
  | str z => exact ⟨.str z, trivial, ok, fun _ _ _ h => h⟩
  | row _ => exact h.elim
  | tab _ _ => exact h.elim
theorem leafM_nd {m : Md} (h : LeafM m) : mdepth m = 0 ∧ mnodes m = 1 := by
  cases m <;> first | exact h.elim | exact ⟨rfl, rfl⟩
/-! ### the value a model stands for -/
mutual
def valM : Md → Val
  | .non => .non
  | .bl b => .bl b
  | .int n => .int n
  | .str z => .str z
  | .seq w rs => if w = Str.ofString "tuple" then .tup (valML rs) else .lst (valML rs)
  | .tab zs rs => .tab zs (valML rs)
def valML : List Md → List Val
  | [] => []
  | r :: rs => valM r :: valML rs
end
theorem valML_map : ∀ rs : List Md, valML rs = rs.map valM
  | [] => rfl
  | r :: rs => by rw [valML, valML_map rs]; rfl
theorem valML_snoc (rs : List Md) (r : Md) : valML (rs ++ [r]) = valML rs ++ [valM r] := by
  rw [valML_map, valML_map, List.map_append]; rfl
theorem valML_len (rs : List Md) : (valML rs).length = rs.length := by rw [valML_map, List.length_map]
theorem valML_get {rs : List Md} {i : Nat} {r : Md} (h : rs[i]? = some r) : (valML rs)[i]? = some (valM r) := by
  rw [valML_map, List.getElem?_map, h]; rfl
mutual
theorem vdepth_valM : ∀ m : Md, vdepth (valM m) = mdepth m
  | .non => rfl
  | .bl _ => rfl
  | .int _ => rfl
  | .str _ => rfl
  | .seq w rs => by
    rw [valM]
    split <;> (simp only [vdepth, mdepth]; rw [vdepthL_valM rs])
  | .tab zs rs => by rw [valM]; simp only [vdepth, mdepth]; rw [vdepthL_valM rs]
theorem vdepthL_valM : ∀ rs : List Md, vdepthL (valML rs) = mdepthL rs
  | [] => rfl
  | r :: rs => by rw [valML]; simp only [vdepthL, mdepthL]; rw [vdepth_valM r, vdepthL_valM rs]
end
mutual
theorem vparts_valM : ∀ m : Md, vparts (valM m) = mnodes m
  | .non => rfl
  | .bl _ => rfl
  | .int _ => rfl
  | .str _ => rfl
  | .seq w rs => by
    rw [valM]
    split <;> (simp only [vparts, mnodes]; rw [vpartsL_valM rs])
  | .tab zs rs => by rw [valM]; simp only [vparts, mnodes]; rw [vpartsL_valM rs]
theorem vpartsL_valM : ∀ rs : List Md, vpartsL (valML rs) = mnodesL rs
  | [] => rfl
  | r :: rs => by rw [valML]; simp only [vpartsL, mnodesL]; rw [vparts_valM r, vpartsL_valM rs]
end
theorem mnodes_pos (v : Md) : 1 ≤ mnodes v := by cases v <;> simp [mnodes] <;> omega
theorem mnodesL_ge : ∀ vs : List Md, vs.length ≤ mnodesL vs
  | [] => Nat.le_refl _
  | r :: rs => by
    have := mnodes_pos r
    have := mnodesL_ge rs
    show rs.length + 1 ≤ mnodes r + mnodesL rs
    omega
theorem mnodes_get : ∀ {vs : List Md} {i : Nat} {v : Md}, vs[i]? = some v → mnodes v ≤ mnodesL vs
  | [], i, r, e => by simp at e
  | q :: rs, i, r, e => by
    cases i with
    | zero => cases e; show mnodes q ≤ mnodes q + mnodesL rs; omega
    | succ i => have := mnodes_get (vs := rs) (i := i) (by simpa using e); show mnodes r ≤ mnodes q + mnodesL rs; omega
theorem at_0 {x : V} {xs : List V} : atI (x :: xs) 0 = some x := atI_nat (j := 0) rfl
theorem at_1 {x y : V} {xs : List V} : atI (x :: y :: xs) 1 = some y := atI_nat (j := 1) rfl
end KB

local macro_rules | `(tactic| walk_at "vc") => `(tactic| try simp only [KB.q_seq, KB.q_cut, KB.q_asg, KB.q_dget, KB.q_var, KB.q_c, KB.q_ifs, KB.q_test, KB.q_op, KB.q_cb, KB.q_cons, KB.q_nil, KB.q_next, KB.q_brk, KB.q_cont, KB.q_dput, KB.q_din, KB.q_dnotin, KB.q_dnew, KB.q_un, KB.q_ret, KB.q_retN, KB.q_drop, KB.q_call, KB.q_bm, KB.q_bm0, KB.q_lst, KB.q_tup, KB.q_b, KB.q_and, KB.q_or, KB.q_not, KB.q_andV, KB.q_orV, KB.q_notV, KB.q_if, KB.q_sl, KB.q_part, KB.q_nopart, KB.q_par, KB.q_disp,
  KB.q_for, KB.q_lc, KB.q_rng1, KB.q_rng2, KB.q_ilist, KB.q_sfld, KB.at_0, KB.at_1, KB.q_never, KB.dget_k, KB.dput_k, KB.dput_i, Option.isSome_none, Option.isSome_some, and_assoc, KB.cx_K, KB.q_iseq, KB.q_istr, L2.gName,
  KB.r_ii, KB.r_i, KB.r_neg, KB.r_adI, KB.r_adS, KB.r_adL, KB.r_mlI, KB.r_md, KB.r_fd, KB.r_is, KB.r_intI, KB.r_strI, KB.r_strS, KB.r_intS, KB.r_abs, KB.r_lenS, KB.r_ixS, KB.r_slS, KB.r_tupA, KB.r_isT, KB.r_isT2, KB.isT_non, KB.isT_bl, KB.isT_int, KB.isT_str, KB.isC_non, KB.isC_bl, KB.isC_int, KB.isC_str, KB.isT_ref, KB.isC_ref, KB.bt_int, KB.bt_bool, KB.bt_str, KB.bt_list, KB.bt_tuple, KB.q_fld, KB.lk_held, L2.HO.ins.injEq, KB.r_isi_non, KB.r_isi_bl, KB.r_isi_int, KB.r_isi_str, KB.r_isi_ref, KB.kb_NoneType_int, KB.kb_NoneType_str, KB.kb_NoneType_bool, KB.kb_NoneType_list, KB.kb_NoneType_tuple, KB.kb_NoneType_dict, KB.kb_bool_int, KB.kb_bool_str, KB.kb_bool_bool, KB.kb_bool_list, KB.kb_bool_tuple, KB.kb_bool_dict, KB.kb_int_int, KB.kb_int_str, KB.kb_int_bool, KB.kb_int_list, KB.kb_int_tuple, KB.kb_int_dict, KB.kb_str_int, KB.kb_str_str, KB.kb_str_bool, KB.kb_str_list, KB.kb_str_tuple, KB.kb_str_dict, KB.kb_list_int, KB.kb_list_str, KB.kb_list_bool, KB.kb_list_list, KB.kb_list_tuple, KB.kb_list_dict, KB.kb_tuple_int, KB.kb_tuple_str, KB.kb_tuple_bool, KB.kb_tuple_list, KB.kb_tuple_tuple, KB.kb_tuple_dict, KB.kb_dict_int, KB.kb_dict_str, KB.kb_dict_bool, KB.kb_dict_list, KB.kb_dict_tuple, KB.kb_dict_dict, KB.r_lenR, KB.r_ixR, KB.r_eqII, KB.r_eqSS, KB.r_eqBB, KB.rd_eq, KB.dget_s, KB.dget_i, KB.dput_s, KB.upd_two, KB.ln0, KB.ln1, KB.ln2, KB.ln3, decide_true, decide_false, eq_self, KB.sz0, KB.sz1, KB.sz2, KB.sz3, KB.sz4, KB.sz5, KB.sz6, KB.sz7, KB.sz8, KB.sz9, KB.sz10, KB.sz11, KB.sz12, KB.isK_bl, KB.isK_non, not_true_eq_false, not_false_eq_true, KB.r_inS, KB.r_inR, KB.tyV_str, L2.upd_same, KB.src_len, KB.src_at, KB.src_cells, KB.src_rest, KB.src_seed, KB.src_room, KB.src_long, KB.srcp_at, KB.srcp_rest, KB.srcp_seed, KB.srcp_room, KB.srcp_long,
  reduceCtorEq, exists_false, or_false, false_or, false_and, and_false, true_and, and_true, true_or, or_true, if_true, if_false, Bool.false_xor, Bool.true_xor, Bool.not_eq_true', decide_eq_false_iff_not, decide_eq_true_eq, Bool.false_eq_true, Bool.not_true, Bool.not_false, ite_true, ite_false, L2.HO.dK.injEq, L2.HO.lst.injEq, L2.HO.tup.injEq, exists_const,
  List.set_cons_zero, List.set_cons_succ, List.getElem?_cons_zero, List.getElem?_cons_succ, Option.some.injEq, L2.V.int.injEq, L2.V.ref.injEq, L2.V.bl.injEq, L2.V.str.injEq, exists_eq_left', exists_eq_left, exists_eq_right, exists_eq_right', exists_eq, exists_eq', exists_and_left, exists_and_right, List.cons_append, List.nil_append, List.cons.injEq, KB.abs_nat, KB.cmul_r, KB.cmul_l, KB.cpow_10, Int.reduceLT, Int.reduceLE, Int.reduceNeg, Int.reducePow, Int.reduceEq, L2.wipe, List.map_cons, List.map_nil, *])

namespace K01
open PySem PySem.Spec PyProof.Rows L2 KB
def topS (i : Nat) : Stmt := PySem.Challenge.pw_keysthroughtext_k01_kinds.main.body.getD i (.Pass ⟨0, 0, 0, 0⟩)
abbrev s__law_source : Stmt := topS 15
abbrev s__law_more : Stmt := topS 16
abbrev s__law_draw : Stmt := topS 17
abbrev s__law_number : Stmt := topS 18
abbrev s__law_sign : Stmt := topS 19
abbrev s__law_text : Stmt := topS 20
abbrev s__law_leaf : Stmt := topS 25
abbrev s__law_key : Stmt := topS 21
abbrev s__law_digits : Stmt := topS 22
abbrev s__law_twin : Stmt := topS 23
abbrev s__law_keys : Stmt := topS 24
abbrev s__law_model : Stmt := topS 26
abbrev s__law_deep : Stmt := topS 27
abbrev s_kind : Stmt := topS 8
abbrev s_is_integer : Stmt := topS 7
abbrev s_fresh : Stmt := topS 9
abbrev s_Table___init__ : Stmt := inClass (topS 13) 0
abbrev s__law_made : Stmt := topS 28
abbrev s__law_word : Stmt := topS 29
abbrev s__law_kinds_right : Stmt := topS 30
abbrev s_law : Stmt := topS 31
structure Top (K : PySem.W.Frag) (mg : Str → Option Value) (C : Addr) : Prop where
  tb : TabC K mg C
  b : Bi mg
  d__law_source : Def K mg "_law_source" s__law_source
  d__law_more : Def K mg "_law_more" s__law_more
  d__law_draw : Def K mg "_law_draw" s__law_draw
  d__law_number : Def K mg "_law_number" s__law_number
  d__law_sign : Def K mg "_law_sign" s__law_sign
  d__law_text : Def K mg "_law_text" s__law_text
  d__law_leaf : Def K mg "_law_leaf" s__law_leaf
  d__law_key : Def K mg "_law_key" s__law_key
  d__law_digits : Def K mg "_law_digits" s__law_digits
  d__law_twin : Def K mg "_law_twin" s__law_twin
  d__law_keys : Def K mg "_law_keys" s__law_keys
  d__law_model : Def K mg "_law_model" s__law_model
  d__law_deep : Def K mg "_law_deep" s__law_deep
  d_kind : Def K mg "kind" s_kind
  d_is_integer : Def K mg "is_integer" s_is_integer
  d_fresh : Def K mg "fresh" s_fresh
  d__law_made : Def K mg "_law_made" s__law_made
  d__law_word : Def K mg "_law_word" s__law_word
  d__law_kinds_right : Def K mg "_law_kinds_right" s__law_kinds_right
  d_law : Def K mg "law" s_law
  i_Table : ∃ dv, DefM K C "__init__" "Table.__init__" s_Table___init__ [dv]
section
variable {P : Program} {w : World} {K : PySem.W.Frag} {mg : Str → Option Value} {base : Heap} {C : Addr}
/-! ### _law_source -/
abbrev N__law_source : List Str := ["_law_script", "_law_cell"]
theorem sc__law_source : FnScope N__law_source ["_law_script"] (defScope s__law_source) := ⟨rfl, rfl, rfl, by decide +kernel, rfl, by decide +kernel, by decide +kernel⟩
def sp__law_source (K : PySem.W.Frag) : Sp := fun vs H Q _ => ∃ (a : Addr) (ns : List Int), vs = [.ref a] ∧ SqL K H a (ns.map V.int) ∧ ns.length ≤ 63 ∧ ∀ p c H', H p = none → H c = none → Same H H' → Src H' p c 0 → Q (.ref p) H'
theorem ok__law_source (T : Top K mg C)  : Callee P w K mg base 1 "_law_source" ["_law_script"] (sp__law_source K) := by
  refine T.d__law_source.ok sc__law_source (fun _ _ _ _ _ _ us hl => match us, hl with | [_], _ => rfl) (fun vs H Q E h => ?_) (fun f cdv A outer s H vs Q E hr h => ?_)
  · obtain ⟨a, ns, rfl, hS, hl, q⟩ := h
    rfl
  · obtain ⟨a, ns, rfl, hS, hl, q⟩ := h
    have hu := hu_of hr
    have nd := sc__law_source.nd
    refine ⟨_, (pss_one (ps_ret (pe_disp (pps_cons pe_str (pe_lc (own := [("_law_cell", 1)]) rfl nd (pi_list (pv 0)) (blkOk_by (own := [("_law_cell", 1)]) (N := N__law_source) (sc := defScope s__law_source) (by decide +kernel)) (fun _ _ _ _ _ => (pg_name (i := 1) nd rfl (Or.inl rfl) (hf := Or.inr rfl))) (fun _ _ _ _ _ => pts_nil) (fun _ _ _ _ _ => (pe_callTy int_any (by rfl) T.b.b_int boot_int (pa_cons (pv 1) pa_nil)))) (pps_cons pe_str pe_int (pps_cons pe_str pe_int (pps_cons pe_str pe_int (pps_cons pe_str pe_int (pps_cons pe_str pe_int pps_nil)))))) (by rfl) (by rfl) (fun z => by cases z) (by decide)))), ?_⟩
    refine start0 (σ := [some (.ref a), none]) rfl ?_
    walk_at "vc"
    intro p hp
    simp only [tPairs]
    walk_at "vc"
    have s0 : Same H (upd H p (.dK [])) := fun b o h => by rw [upd_ne (ne_of_none h hp)]; exact h
    refine ⟨⟨_, s0.seq hS⟩, fun d hd => ?_⟩
    have ndp : d ≠ p := fun e => by subst e; rw [upd_same] at hd; cases hd
    refine lc_l (xs := ns.map V.int) (fun i ys H2 => ys = (ns.map V.int).take i ∧ H2 p = some (.dK []) ∧ Same H H2) ⟨rfl, by rw [upd_ne ndp.symm, upd_same], fun b o h => ?_⟩ (fun i ys H2 ⟨_, _, s⟩ => s.seq hS) (fun i x ys H2 hx el hy ⟨e, h2, s⟩ => ?_) (fun ys H2 el hy ⟨e, h2, s⟩ => ?_)
    · have e1 := s0 b o h
      rw [upd_ne (ne_of_none e1 hd)]
      exact e1
    · have hi : i < (ns.map V.int).length := (List.getElem?_eq_some_iff.mp hx).1
      obtain ⟨n, rfl⟩ : ∃ n, x = V.int n := by
        rw [List.getElem?_map] at hx
        cases e2 : ns[i]? with
        | none => rw [e2] at hx; cases hx
        | some n => rw [e2] at hx; exact ⟨n, (Option.some.inj hx).symm⟩
      walk_at "vc"
      rw [List.length_map] at hi
      refine LcNext.mk hy el (by omega) ⟨?_, by rw [upd_ne ndp.symm]; exact h2, fun b o h => ?_⟩
      · rw [e, List.take_add_one, hx]
        rfl
      · have nb : b ≠ d := fun e3 => by
          subst e3
          have := s0 _ _ h
          rw [hd] at this
          cases this
        rw [upd_ne nb]
        exact s b o h
    · rw [List.take_of_length_le (Nat.le_refl _)] at e
      subst e
      refine ⟨h2, [(.inr "cells", .ref d), (.inr "at", .int 0), (.inr "rest", .int 0), (.inr "seed", .int 7), (.inr "room", .int 0), (.inr "long", .int 2)], rfl, by show 6 ≤ 15; decide, ?_⟩
      refine q p d _ hp (s0.free hd) (fun b o h => by rw [upd_ne (ne_of_none h hp)]; exact s b o h) ⟨ns, 0, 0, 7, 2, ?_, ?_, by omega, by omega⟩
      · rw [upd_same]
        rfl
      · rw [upd_ne ndp]
        exact hy

/-! ### _law_more -/
abbrev N__law_more : List Str := ["_law_source_here", "_law_cells", "_law_at", "_law_cell", "_law_mixed"]
theorem sc__law_more : FnScope N__law_more ["_law_source_here"] (defScope s__law_more) := ⟨rfl, rfl, rfl, by decide +kernel, rfl, by decide +kernel, by decide +kernel⟩
def sp__law_more (K : PySem.W.Frag) : Sp := fun vs H Q _ => ∃ a c rm, vs = [.ref a] ∧ Src H a c rm ∧ ∀ H', Keep a H H' → Src H' a c rm → Q .non H'
theorem ok__law_more (T : Top K mg C)  : Callee P w K mg base 1 "_law_more" ["_law_source_here"] (sp__law_more K) := by
  refine T.d__law_more.ok sc__law_more (fun _ _ _ _ _ _ us hl => match us, hl with | [_], _ => rfl) (fun vs H Q E h => ?_) (fun f cdv A outer s H vs Q E hr h => ?_)
  · obtain ⟨a, c, rm, rfl, ⟨ns, at_, rest, seed, long, hd, hc, h0, h1⟩, q⟩ := h
    rfl
  · obtain ⟨a, c, rm, rfl, ⟨ns, at_, rest, seed, long, hd, hc, h0, h1⟩, q⟩ := h
    have hu := hu_of hr
    have nd := sc__law_more.nd
    refine ⟨_, (pss_cons (ps_set (i := 1) nd rfl (Or.inl rfl) (pe_dget hu (pv 0) pe_str (fun _ _ => rfl)))
      (pss_cons (ps_set (i := 2) nd rfl (Or.inl rfl) (pe_dget hu (pv 0) pe_str (fun _ _ => rfl)))
      (pss_cons (ps_set (i := 3) nd rfl (Or.inl rfl) (pv 2))
      (pss_cut1 (ps_if (pt_cmpR op_lt (pv 2) (pe_callB len_any (by rfl) T.b.b_len boot_len (pa_cons (pv 1) pa_nil)) (nomark _)) (pss_one (ps_set (i := 3) nd rfl (Or.inl rfl) (pe_ix ix_any (pv 1) (pv 2) (fun _ _ => rfl)))) pss_nil)
      (pss_cons (ps_set (i := 4) nd rfl (Or.inl rfl) (pe_op md_any (pe_callTy int_any (by rfl) T.b.b_int boot_int (pa_cons (pe_op ad_any (pe_op ad_any (pe_op ml_any (pv 3) pe_int) (pe_op ml_any (pe_dget hu (pv 0) pe_str (fun _ _ => rfl)) pe_int)) (pv 2)) pa_nil)) pe_int))
      (pss_cons (ps_dput hu (pv 0) pe_str (pe_op ad_any (pv 2) pe_int) rfl)
      (pss_cons (ps_dput hu (pv 0) pe_str (pv 4) rfl)
      (pss_cons (ps_dput hu (pv 0) pe_str (pe_op ad_any pe_int (pe_op md_any (pe_callTy int_any (by rfl) T.b.b_int boot_int (pa_cons (pe_op ad_any (pe_op ml_any (pv 4) pe_int) pe_int) pa_nil)) pe_int)) rfl)
      (pss_one (ps_if (pt_cmpR op_ge (pe_callB call_abs (by rfl) T.b.b_abs boot_abs (pa_cons (pv 3) pa_nil)) (pe_op op_pow pe_int pe_int) (nomark _)) (pss_one (ps_dput hu (pv 0) pe_str (pe_callB call_abs (by rfl) T.b.b_abs boot_abs (pa_cons (pv 3) pa_nil)) rfl)) pss_nil)))))))))), ?_⟩
    refine start0 (σ := [some (.ref a), none, none, none, none]) rfl ?_
    walk_at "vc"
    have fin : ∀ cell : Int, ((if 10 ^ Int.toNat 18 ≤ (cell.natAbs : Int) then
        Q V.non (upd H a (HO.dK (srcL c (at_ + 1) cell.natAbs ((cell * 48271 + seed * 69621 + at_) % 2147483647) rm long)))
      else Q V.non (upd H a (HO.dK (srcL c (at_ + 1) (1 + ((cell * 48271 + seed * 69621 + at_) % 2147483647 * 16807 + 40692) % 2147483399) ((cell * 48271 + seed * 69621 + at_) % 2147483647) rm long))))) := fun cell => by
      split
      · refine q _ .upd (src_mk hd hc ?_ ?_) <;> omega
      · refine q _ .upd (src_mk hd hc ?_ ?_) <;> omega
    intro p hp
    have key : ∀ cell : Int, p [some (.ref a), some (.ref c), some (.int at_), some (.int cell), none] H := fun cell => hp.go _ _ (by
      walk_at "vc")
    split
    · rename_i hlt
      rw [List.length_map] at hlt
      obtain ⟨cell, e⟩ := atI_ints (ns := ns) h0 hlt
      exact ⟨_, e, key cell⟩
    · exact key at_

/-! ### _law_draw -/
abbrev N__law_draw : List Str := ["_law_source_here", "_law_many", "_law_found"]
theorem sc__law_draw : FnScope N__law_draw ["_law_source_here", "_law_many"] (defScope s__law_draw) := ⟨rfl, rfl, rfl, by decide +kernel, rfl, by decide +kernel, by decide +kernel⟩
def sp__law_draw (K : PySem.W.Frag) : Sp := fun vs H Q _ => ∃ (a c : Addr) (rm m : Int), vs = [.ref a, .int m] ∧ Src H a c rm ∧ 0 < m ∧ m ≤ 10 ^ 31 ∧ ∀ r H', 0 ≤ r → r < m → Keep a H H' → Src H' a c rm → Q (.int r) H'
theorem ok__law_draw (T : Top K mg C) (C__law_more : Callee P w K mg base 1 "_law_more" ["_law_source_here"] (sp__law_more K)) : Callee P w K mg base 2 "_law_draw" ["_law_source_here", "_law_many"] (sp__law_draw K) := by
  refine T.d__law_draw.ok sc__law_draw (fun _ _ _ _ _ _ us hl => match us, hl with | [_, _], _ => rfl) (fun vs H Q E h => ?_) (fun f cdv A outer s H vs Q E hr h => ?_)
  · obtain ⟨a, c, rm, m, rfl, hS, hm, hm2, q⟩ := h
    rfl
  · obtain ⟨a, c, rm, m, rfl, hS, hm, hm2, q⟩ := h
    have hu := hu_of hr
    have nd := sc__law_draw.nd
    refine ⟨_, (pss_cut1 (ps_if (pt_cmpR (eq_any hr) (pe_dget hu (pv 0) pe_str (fun _ _ => rfl)) pe_int (nomark _)) (pss_one (ps_expr (pe_fn C__law_more (hr.mono (by first | decide | omega)) (by rfl) (pa_cons (pv 0) pa_nil)))) pss_nil)
      (pss_cons (ps_set (i := 2) nd rfl (Or.inl rfl) (pe_op md_any (pe_callTy int_any (by rfl) T.b.b_int boot_int (pa_cons (pe_dget hu (pv 0) pe_str (fun _ _ => rfl)) pa_nil)) (pv 1)))
      (pss_cons (ps_dput hu (pv 0) pe_str (pe_op fd_any (pe_dget hu (pv 0) pe_str (fun _ _ => rfl)) (pv 1)) rfl)
      (pss_one (ps_ret (pv 2)))))), ?_⟩
    refine start0 (σ := [some (.ref a), some (.int m), none]) rfl ?_
    have cd : ∀ r, CDivW r m := fun r => wide_div hm (b := 104) (by omega) (by decide) (by decide)
    have fin : ∀ (H1 : Hp) (ns : List Int) (at_ rest seed long : Int), Keep a H H1 → H1 a = some (HO.dK (srcL c at_ rest seed rm long)) → H1 c = some (.lst (ns.map V.int)) → 0 ≤ at_ → 0 ≤ rest → Q (V.int (rest % m)) (upd H1 a (HO.dK (srcL c at_ (rest / m) seed rm long))) :=
      fun H1 ns at_ rest seed long k1 hd hc h0 h1 => q _ _ (Int.emod_nonneg _ (by omega)) (Int.emod_lt_of_pos _ hm) (k1.trans .upd) (src_mk hd hc h0 (Int.ediv_nonneg h1 (by omega)))
    obtain ⟨ns, at_, rest, seed, long, hd, hc, h0, h1⟩ := id hS
    walk_at "vc"
    intro p hp
    have key : ∀ H1, Keep a H H1 → Src H1 a c rm → p [some (.ref a), some (.int m), none] H1 := fun H1 k1 ⟨ns1, at1, rest1, seed1, long1, hd1, hc1, h01, h11⟩ => hp.go _ _ (by
      walk_at "vc"
      exact fin _ _ _ _ _ _ k1 hd1 hc1 h01 h11)
    split
    · exact ⟨a, c, rm, rfl, hS, key⟩
    · exact key _ (.refl _ _) hS

/-! ### _law_number -/
abbrev N__law_number : List Str := ["_law_source_here", "_law_figures", "_law_number_here", "_law_k"]
theorem sc__law_number : FnScope N__law_number ["_law_source_here"] (defScope s__law_number) := ⟨rfl, rfl, rfl, by decide +kernel, rfl, by decide +kernel, by decide +kernel⟩
def inv_number (a c : Addr) (rm f : Int) (H : Hp) (i : Nat) (σ : L2.St) (H2 : Hp) : Prop := ∃ n v, σ = [some (.ref a), some (.int f), some (.int n), v] ∧ 0 ≤ n ∧ n < 10 ^ i ∧ Keep a H H2 ∧ Src H2 a c rm
def sp__law_number (K : PySem.W.Frag) : Sp := fun vs H Q _ => ∃ a c rm, vs = [.ref a] ∧ Src H a c rm ∧ ∀ n H', n.natAbs < 10 ^ 30 → Keep a H H' → Src H' a c rm → Q (.int n) H'
theorem ok__law_number (T : Top K mg C) (C__law_draw : Callee P w K mg base 2 "_law_draw" ["_law_source_here", "_law_many"] (sp__law_draw K)) : Callee P w K mg base 3 "_law_number" ["_law_source_here"] (sp__law_number K) := by
  refine T.d__law_number.ok sc__law_number (fun _ _ _ _ _ _ us hl => match us, hl with | [_], _ => rfl) (fun vs H Q E h => ?_) (fun f cdv A outer s H vs Q E hr h => ?_)
  · obtain ⟨a, c, rm, rfl, hS, q⟩ := h
    rfl
  · obtain ⟨a, c, rm, rfl, hS, q⟩ := h
    have hu := hu_of hr
    have nd := sc__law_number.nd
    refine ⟨_, (pss_cons (ps_set (i := 1) nd rfl (Or.inl rfl) (pe_op ad_any pe_int (pe_fn C__law_draw (hr.mono (by first | decide | omega)) (by rfl) (pa_cons (pv 0) (pa_cons pe_int pa_nil)))))
      (pss_cut1 (ps_if (pt_cmpR (eq_any hr) (pe_fn C__law_draw (hr.mono (by first | decide | omega)) (by rfl) (pa_cons (pv 0) (pa_cons pe_int pa_nil))) pe_int (nomark _)) (pss_one (ps_set (i := 1) nd rfl (Or.inl rfl) (pe_op ad_any pe_int (pe_fn C__law_draw (hr.mono (by first | decide | omega)) (by rfl) (pa_cons (pv 0) (pa_cons pe_int pa_nil)))))) pss_nil)
      (pss_cons (ps_set (i := 2) nd rfl (Or.inl rfl) pe_int)
      (pss_cons (ps_for PassesOwn.never rfl (pi_range1 (by rfl) T.b.b_range (pa_cons (pv 1) pa_nil)) (pg_name (i := 3) nd rfl (Or.inl rfl)) (pss_one (ps_set (i := 2) nd rfl (Or.inl rfl) (pe_op ad_any (pe_op ml_any (pv 2) pe_int) (pe_fn C__law_draw (hr.mono (by first | decide | omega)) (by rfl) (pa_cons (pv 0) (pa_cons pe_int pa_nil)))))))
      (pss_cons (ps_if (pt_cmpR (eq_any hr) (pe_fn C__law_draw (hr.mono (by first | decide | omega)) (by rfl) (pa_cons (pv 0) (pa_cons pe_int pa_nil))) pe_int (nomark _)) (pss_one (ps_ret (pe_un un_neg (pv 2)))) pss_nil)
      (pss_one (ps_ret (pv 2)))))))), ?_⟩
    refine start0 (σ := [some (.ref a), none, none, none]) rfl ?_
    walk_at "vc"
    refine ⟨a, c, rm, 2, rfl, hS, by decide, by decide, fun r H1 r0 r1 k1 s1 => ?_⟩
    walk_at "vc"
    intro p hp
    have key : ∀ (f : Int) (H1 : Hp), 0 ≤ f → f ≤ 30 → Keep a H H1 → Src H1 a c rm → p [some (.ref a), some (.int f), none, none] H1 := fun f H1 f0 f1 k1 s1 => hp.go _ _ (by
      walk_at "vc"
      refine ⟨by omega, by omega, lp_range (inv_number a c rm f H) ⟨0, none, rfl, by omega, by decide, k1, s1⟩ ?_ ?_⟩
      · rintro i σ H2 hi ⟨n, v, rfl, n0, n1, k2, s2⟩
        walk_at "vc"
        refine ⟨a, c, rm, 10, rfl, s2, by decide, by decide, fun r H3 r0 r1 k3 s3 => ?_⟩
        walk_at "vc"
        refine ⟨_, _, rfl, by omega, ?_, k2.trans k3, s3⟩
        rw [Int.pow_succ]
        omega
      · rintro σ H2 ⟨n, v, rfl, n0, n1, k2, s2⟩
        have hp : (10 : Int) ^ f.toNat ≤ 10 ^ 30 := pow10 (by omega)
        walk_at "vc"
        refine ⟨a, c, rm, 3, rfl, s2, by decide, by decide, fun r H3 r0 r1 k3 s3 => ?_⟩
        walk_at "vc"
        split
        · exact q _ _ (by omega) (k2.trans k3) s3
        · exact q _ _ (by omega) (k2.trans k3) s3)
    refine ⟨a, c, rm, 3, rfl, s1, by decide, by decide, fun r2 H2 r20 r21 k2 s2 => ?_⟩
    walk_at "vc"
    split
    · refine ⟨a, c, rm, 30, rfl, s2, by decide, by decide, fun r3 H3 r30 r31 k3 s3 => ?_⟩
      walk_at "vc"
      exact key _ _ (by omega) (by omega) ((k1.trans k2).trans k3) s3
    · exact key _ _ (by omega) (by omega) (k1.trans k2) s2

/-! ### _law_sign -/
abbrev N__law_sign : List Str := ["_law_source_here", "_law_signs"]
theorem sc__law_sign : FnScope N__law_sign ["_law_source_here"] (defScope s__law_sign) := ⟨rfl, rfl, rfl, by decide +kernel, rfl, by decide +kernel, by decide +kernel⟩
def sp__law_sign (K : PySem.W.Frag) : Sp := fun vs H Q _ => ∃ a c rm, vs = [.ref a] ∧ Src H a c rm ∧ ∀ e H', 32 ≤ e → e < 127 → Keep a H H' → Src H' a c rm → Q (.str ⟨#[e]⟩) H'
theorem ok__law_sign (T : Top K mg C) (C__law_draw : Callee P w K mg base 2 "_law_draw" ["_law_source_here", "_law_many"] (sp__law_draw K)) : Callee P w K mg base 3 "_law_sign" ["_law_source_here"] (sp__law_sign K) := by
  refine T.d__law_sign.ok sc__law_sign (fun _ _ _ _ _ _ us hl => match us, hl with | [_], _ => rfl) (fun vs H Q E h => ?_) (fun f cdv A outer s H vs Q E hr h => ?_)
  · obtain ⟨a, c, rm, rfl, hS, q⟩ := h
    rfl
  · obtain ⟨a, c, rm, rfl, hS, q⟩ := h
    have hu := hu_of hr
    have nd := sc__law_sign.nd
    refine ⟨_, (pss_cons (ps_set (i := 1) nd rfl (Or.inl rfl) pe_str)
      (pss_cons (ps_set (i := 1) nd rfl (Or.inl rfl) (pe_op ad_any (pv 1) pe_str))
      (pss_one (ps_ret (pe_ix ix_any (pv 1) (pe_fn C__law_draw (hr.mono (by first | decide | omega)) (by rfl) (pa_cons (pv 0) (pa_cons pe_int pa_nil))) (fun _ _ => rfl)))))), ?_⟩
    refine start0 (σ := [some (.ref a), none]) rfl ?_
    walk_at "vc"
    refine ⟨by decide +kernel, a, c, rm, 94, rfl, hS, by decide, by decide, fun r H1 r0 r1 k1 s1 => ?_⟩
    walk_at "vc"
    refine ⟨by decide +kernel, ?_⟩
    exact lit_ex (n := 94) (by decide +kernel) (by decide +kernel) r0 r1 fun c h1 h2 => q _ _ h1 h2 k1 s1

/-! ### _law_text -/
abbrev N__law_text : List Str := ["_law_source_here", "_law_size", "_law_k"]
theorem sc__law_text : FnScope N__law_text ["_law_source_here"] (defScope s__law_text) := ⟨rfl, rfl, rfl, by decide +kernel, rfl, by decide +kernel, by decide +kernel⟩
def inv_text (a c : Addr) (rm : Int) (H : Hp) (i : Nat) (ys : List V) (H2 : Hp) : Prop := ∃ zs : List Str, ys = zs.map V.str ∧ (∀ z ∈ zs, Pr z ∧ z.length = 1) ∧ Keep a H H2 ∧ Src H2 a c rm
def sp__law_text (K : PySem.W.Frag) : Sp := fun vs H Q _ => ∃ a c rm, vs = [.ref a] ∧ Src H a c rm ∧ ∀ z H', Pr z → z.length ≤ 300 → Keep a H H' → Src H' a c rm → Q (.str z) H'
theorem ok__law_text (T : Top K mg C) (C__law_draw : Callee P w K mg base 2 "_law_draw" ["_law_source_here", "_law_many"] (sp__law_draw K)) (C__law_sign : Callee P w K mg base 3 "_law_sign" ["_law_source_here"] (sp__law_sign K)) : Callee P w K mg base 4 "_law_text" ["_law_source_here"] (sp__law_text K) := by
  refine T.d__law_text.ok sc__law_text (fun _ _ _ _ _ _ us hl => match us, hl with | [_], _ => rfl) (fun vs H Q E h => ?_) (fun f cdv A outer s H vs Q E hr h => ?_)
  · obtain ⟨a, c, rm, rfl, hS, q⟩ := h
    rfl
  · obtain ⟨a, c, rm, rfl, hS, q⟩ := h
    have hu := hu_of hr
    have nd := sc__law_text.nd
    refine ⟨_, (pss_cons (ps_set (i := 1) nd rfl (Or.inl rfl) (pe_fn C__law_draw (hr.mono (by first | decide | omega)) (by rfl) (pa_cons (pv 0) (pa_cons pe_int pa_nil))))
      (pss_cut1 (ps_if (PW.pt (pw_and (pt_cmpR op_gt (pe_dget hu (pv 0) pe_str (fun _ _ => rfl)) pe_int (nomark _)) (pw_and1 (pt_cmpR (eq_any hr) (pe_fn C__law_draw (hr.mono (by first | decide | omega)) (by rfl) (pa_cons (pv 0) (pa_cons pe_int pa_nil))) pe_int (nomark _))))) (pss_cons (ps_dput hu (pv 0) pe_str (pe_op op_sub (pe_dget hu (pv 0) pe_str (fun _ _ => rfl)) pe_int) rfl)
      (pss_one (ps_set (i := 1) nd rfl (Or.inl rfl) (pe_fn C__law_draw (hr.mono (by first | decide | omega)) (by rfl) (pa_cons (pv 0) (pa_cons pe_int pa_nil)))))) pss_nil)
      (pss_one (ps_ret (pe_bm PySem.F.plainAttrs_str PySem.F.slot_str_join PySem.F.type_str_join mt_joinA pe_str (pa_cons (pe_lc (own := [("_law_k", 2)]) rfl nd (pi_range1 (by rfl) T.b.b_range (pa_cons (pv 1) pa_nil)) (blkOk_by (own := [("_law_k", 2)]) (N := N__law_text) (sc := defScope s__law_text) (by decide +kernel)) (fun _ _ _ _ _ => (pg_name (i := 2) nd rfl (Or.inl rfl) (hf := Or.inr rfl))) (fun _ _ _ _ _ => pts_nil) (fun _ _ _ _ _ => (pe_fn C__law_sign (hr.mono (by first | decide | omega)) (by rfl) (pa_cons (pv 0) pa_nil)))) pa_nil)))))), ?_⟩
    refine start0 (σ := [some (.ref a), none, none]) rfl ?_
    walk_at "vc"
    refine ⟨a, c, rm, 5, rfl, hS, by decide, by decide, fun r H1 r0 r1 k1 s1 => ?_⟩
    walk_at "vc"
    intro p hp
    have key : ∀ (r : Int) (H1 : Hp), 0 ≤ r → r ≤ 300 → Keep a H H1 → Src H1 a c rm → p [some (.ref a), some (.int r), none] H1 := fun r H1 r0 r1 k1 s1 => hp.go _ _ (by
      walk_at "vc"
      refine ⟨by omega, by omega, fun d hd => ?_⟩
      obtain ⟨nda, ndc⟩ := src_ne s1 hd
      refine lc_r (inv_text a c rm H) ⟨[], rfl, fun _ h => (nomatch h), k1.trans (.new hd), src_new s1 hd⟩ ?_ ?_
      · rintro i ys H2 hi el hy ⟨zs, rfl, hz, k2, s2⟩
        walk_at "vc"
        refine ⟨a, c, rm, rfl, s2, fun e H3 c0 c1 k3 s3 => ?_⟩
        refine LcNext.mk (k3 _ _ hy nda) el (by omega) ⟨zs ++ [⟨#[e]⟩], by rw [List.map_append]; rfl, fun z h => ?_, ?_, ?_⟩
        · rcases List.mem_append.mp h with h | h
          · exact hz z h
          · rw [List.mem_singleton.mp h]
            exact ⟨pr_one ⟨c0, c1⟩, rfl⟩
        · exact k1.mut nda hd (k2.trans k3)
        · exact src_upd s3 nda ndc
      · rintro ys H2 el hy ⟨zs, rfl, hz, k2, s2⟩
        rw [List.length_map] at el
        refine ⟨_, _, zs, rfl, rfl, .inl hy, ?_, ?_⟩
        · rw [len_ones fun z h => (hz z h).2, el]
          show r.toNat + r.toNat * 0 ≤ 16777216
          omega
        · refine q _ _ (join_pr fun z h => (hz z h).1) ?_ k2 s2
          rw [join_len, len_ones fun z h => (hz z h).2]
          omega)
    obtain ⟨ns, at_, rest, seed, long, hd, hc, h0, h1⟩ := id s1
    walk_at "vc"
    split
    · refine ⟨a, c, rm, 24, rfl, s1, by decide, by decide, fun r2 H2 r20 r21 k2 s2 => ?_⟩
      obtain ⟨ns, at_, rest, seed, long, hd, hc, h0, h1⟩ := id s2
      walk_at "vc"
      split
      · have s3 := src_mk (at_ := at_) (rest := rest) (seed := seed) (room := rm) (long := long - 1) hd hc h0 h1
        refine ⟨a, c, rm, 301, rfl, s3, by decide, by decide, fun r4 H4 r40 r41 k4 s4 => ?_⟩
        walk_at "vc"
        exact key _ _ r40 (by omega) (((k1.trans k2).trans .upd).trans k4) s4
      · exact key _ _ r0 (by omega) (k1.trans k2) s2
    · exact key _ _ r0 (by omega) k1 s1

/-! ### _law_leaf -/
abbrev N__law_leaf : List Str := ["_law_source_here", "_law_shape", "_law_edge"]
theorem sc__law_leaf : FnScope N__law_leaf ["_law_source_here"] (defScope s__law_leaf) := ⟨rfl, rfl, rfl, by decide +kernel, rfl, by decide +kernel, by decide +kernel⟩
def sp__law_leaf (K : PySem.W.Frag) : Sp := fun vs H Q _ => ∃ a c rm, vs = [.ref a] ∧ Src H a c rm ∧ ∀ r v H', LeafR r → OkR r → Rp H' r v → Keep a H H' → Src H' a c rm → Q v H'
theorem ok__law_leaf (T : Top K mg C) (C__law_draw : Callee P w K mg base 2 "_law_draw" ["_law_source_here", "_law_many"] (sp__law_draw K)) (C__law_number : Callee P w K mg base 3 "_law_number" ["_law_source_here"] (sp__law_number K)) (C__law_text : Callee P w K mg base 4 "_law_text" ["_law_source_here"] (sp__law_text K)) : Callee P w K mg base 5 "_law_leaf" ["_law_source_here"] (sp__law_leaf K) := by
  refine T.d__law_leaf.ok sc__law_leaf (fun _ _ _ _ _ _ us hl => match us, hl with | [_], _ => rfl) (fun vs H Q E h => ?_) (fun f cdv A outer s H vs Q E hr h => ?_)
  · obtain ⟨a, c, rm, rfl, hS, q⟩ := h
    rfl
  · obtain ⟨a, c, rm, rfl, hS, q⟩ := h
    have hu := hu_of hr
    have nd := sc__law_leaf.nd
    refine ⟨_, (pss_cons (ps_set (i := 1) nd rfl (Or.inl rfl) (pe_fn C__law_draw (hr.mono (by first | decide | omega)) (by rfl) (pa_cons (pv 0) (pa_cons pe_int pa_nil))))
      (pss_cons (ps_if (pt_cmpR op_lt (pv 1) pe_int (nomark _)) (pss_one (ps_ret pe_non)) pss_nil)
      (pss_cons (ps_if (pt_cmpR (eq_any hr) (pv 1) pe_int (nomark _)) (pss_one (ps_ret (pe_cmpR (eq_any hr) (pe_fn C__law_draw (hr.mono (by first | decide | omega)) (by rfl) (pa_cons (pv 0) (pa_cons pe_int pa_nil))) pe_int (nomark _)))) pss_nil)
      (pss_cons (ps_if (pt_cmpR op_lt (pv 1) pe_int (nomark _)) (pss_one (ps_ret (pe_fn C__law_number (hr.mono (by first | decide | omega)) (by rfl) (pa_cons (pv 0) pa_nil)))) pss_nil)
      (pss_cons (ps_if (pt_cmpR (eq_any hr) (pv 1) pe_int (nomark _)) (pss_cons (ps_set (i := 2) nd rfl (Or.inl rfl) (pe_ix ix_any (pe_lst (pa_cons pe_int (pa_cons pe_int (pa_cons (pe_op op_sub (pe_op op_pow pe_int pe_int) pe_int) (pa_cons (pe_op op_pow pe_int pe_int) (pa_cons (pe_op op_pow pe_int pe_int) (pa_cons (pe_op op_sub (pe_op op_pow pe_int pe_int) pe_int) pa_nil))))))) (pe_fn C__law_draw (hr.mono (by first | decide | omega)) (by rfl) (pa_cons (pv 0) (pa_cons pe_int pa_nil))) (fun _ _ => rfl)))
      (pss_one (ps_ret (pe_op op_sub (pv 2) (pe_op ml_any (pe_op ml_any pe_int (pv 2)) (pe_fn C__law_draw (hr.mono (by first | decide | omega)) (by rfl) (pa_cons (pv 0) (pa_cons pe_int pa_nil)))))))) pss_nil)
      (pss_one (ps_ret (pe_fn C__law_text (hr.mono (by first | decide | omega)) (by rfl) (pa_cons (pv 0) pa_nil))))))))), ?_⟩
    refine start0 (σ := [some (.ref a), none, none]) rfl ?_
    walk_at "vc"
    refine ⟨a, c, rm, 8, rfl, hS, by decide, by decide, fun r H1 r0 r1 k1 s1 => ?_⟩
    walk_at "vc"
    split
    · exact q .non _ _ trivial trivial rfl k1 s1
    split
    · refine ⟨a, c, rm, 2, rfl, s1, by decide, by decide, fun r2 H2 r20 r21 k2 s2 => ?_⟩
      walk_at "vc"
      exact q (.bl _) _ _ trivial trivial rfl (k1.trans k2) s2
    split
    · exact ⟨a, c, rm, rfl, s1, fun n H2 hn k2 s2 => q (.int n) _ _ trivial hn rfl (k1.trans k2) s2⟩
    split
    · refine fun p hp => ⟨a, c, rm, 6, rfl, src_new s1 hp, by decide, by decide, fun r2 H2 r20 r21 k2 s2 => ?_⟩
      have hp2 := k2 p _ upd_same (src_ne s1 hp).1
      walk_at "vc"
      refine menu_ex (n := 6) rfl r20 r21 fun v hv => ?_
      obtain ⟨n, rfl, hn⟩ : ∃ n : Int, v = .int n ∧ 0 ≤ n ∧ n < 10 ^ 30 := by
        have e15 : (10 : Int) ^ Int.toNat 15 = 1000000000000000 := rfl
        have e29 : (10 : Int) ^ Int.toNat 29 = 100000000000000000000000000000 := rfl
        have e30 : (10 : Int) ^ Int.toNat 30 = 1000000000000000000000000000000 := rfl
        rw [e15, e29, e30] at hv
        simp only [List.mem_cons, List.not_mem_nil, or_false] at hv
        rcases hv with h | h | h | h | h | h <;> exact ⟨_, h, by omega, by omega⟩
      walk_at "vc"
      refine ⟨a, c, rm, 2, rfl, s2, by decide, by decide, fun r3 H3 r30 r31 k3 s3 => ?_⟩
      walk_at "vc"
      refine ⟨.inl (.inr ⟨by omega, by omega⟩), q (.int _) _ _ trivial ?_ rfl ((k1.trans (.new hp)).trans (k2.trans k3)) s3⟩
      rcases (show r3 = 0 ∨ r3 = 1 by omega) with h | h <;> (subst h; show Int.natAbs _ < 10 ^ 30; omega)
    · exact ⟨a, c, rm, rfl, s1, fun z H2 hz zl k2 s2 => q (.str z) _ _ trivial ⟨hz, zl⟩ rfl (k1.trans k2) s2⟩

/-! ### _law_key -/
abbrev N__law_key : List Str := ["_law_source_here", "_law_shape", "_law_near"]
theorem sc__law_key : FnScope N__law_key ["_law_source_here"] (defScope s__law_key) := ⟨rfl, rfl, rfl, by decide +kernel, rfl, by decide +kernel, by decide +kernel⟩
def sp__law_key (K : PySem.W.Frag) : Sp := fun vs H Q _ => ∃ a c rm, vs = [.ref a] ∧ Src H a c rm ∧ ∀ v H', KeyV v → Keep a H H' → Src H' a c rm → Q v H'
theorem ok__law_key (T : Top K mg C) (C__law_draw : Callee P w K mg base 2 "_law_draw" ["_law_source_here", "_law_many"] (sp__law_draw K)) (C__law_number : Callee P w K mg base 3 "_law_number" ["_law_source_here"] (sp__law_number K)) (C__law_text : Callee P w K mg base 4 "_law_text" ["_law_source_here"] (sp__law_text K)) : Callee P w K mg base 5 "_law_key" ["_law_source_here"] (sp__law_key K) := by
  refine T.d__law_key.ok sc__law_key (fun _ _ _ _ _ _ us hl => match us, hl with | [_], _ => rfl) (fun vs H Q E h => ?_) (fun f cdv A outer s H vs Q E hr h => ?_)
  · obtain ⟨a, c, rm, rfl, hS, q⟩ := h
    rfl
  · obtain ⟨a, c, rm, rfl, hS, q⟩ := h
    have hu := hu_of hr
    have nd := sc__law_key.nd
    refine ⟨_, (pss_cons (ps_set (i := 1) nd rfl (Or.inl rfl) (pe_fn C__law_draw (hr.mono (by first | decide | omega)) (by rfl) (pa_cons (pv 0) (pa_cons pe_int pa_nil))))
      (pss_cons (ps_if (pt_cmpR op_lt (pv 1) pe_int (nomark _)) (pss_one (ps_ret (pe_fn C__law_number (hr.mono (by first | decide | omega)) (by rfl) (pa_cons (pv 0) pa_nil)))) pss_nil)
      (pss_cons (ps_if (pt_cmpR op_lt (pv 1) pe_int (nomark _)) (pss_one (ps_ret (pe_callTy str_any (by rfl) T.b.b_str boot_str (pa_cons (pe_fn C__law_number (hr.mono (by first | decide | omega)) (by rfl) (pa_cons (pv 0) pa_nil)) pa_nil)))) pss_nil)
      (pss_cons (ps_if (pt_cmpR (eq_any hr) (pv 1) pe_int (nomark _)) (pss_cons (ps_set (i := 2) nd rfl (Or.inl rfl) (pe_ix ix_any (pe_lst (pa_cons pe_str (pa_cons pe_str (pa_cons pe_str (pa_cons pe_str (pa_cons pe_str (pa_cons pe_str (pa_cons pe_str (pa_cons pe_str pa_nil))))))))) (pe_fn C__law_draw (hr.mono (by first | decide | omega)) (by rfl) (pa_cons (pv 0) (pa_cons pe_int pa_nil))) (fun _ _ => rfl)))
      (pss_one (ps_ret (pe_op ad_any (pv 2) (pe_callTy str_any (by rfl) T.b.b_str boot_str (pa_cons (pe_fn C__law_number (hr.mono (by first | decide | omega)) (by rfl) (pa_cons (pv 0) pa_nil)) pa_nil)))))) pss_nil)
      (pss_cons (ps_if (pt_cmpR (eq_any hr) (pv 1) pe_int (nomark _)) (pss_one (ps_ret (pe_ix ix_any (pe_lst (pa_cons pe_str (pa_cons pe_str (pa_cons pe_str (pa_cons pe_str (pa_cons pe_str (pa_cons pe_str (pa_cons pe_str (pa_cons pe_str pa_nil))))))))) (pe_fn C__law_draw (hr.mono (by first | decide | omega)) (by rfl) (pa_cons (pv 0) (pa_cons pe_int pa_nil))) (fun _ _ => rfl)))) pss_nil)
      (pss_one (ps_ret (pe_fn C__law_text (hr.mono (by first | decide | omega)) (by rfl) (pa_cons (pv 0) pa_nil))))))))), ?_⟩
    refine start0 (σ := [some (.ref a), none, none]) rfl ?_
    walk_at "vc"
    refine ⟨a, c, rm, 8, rfl, hS, by decide, by decide, fun r H1 r0 r1 k1 s1 => ?_⟩
    walk_at "vc"
    split
    · exact ⟨a, c, rm, rfl, s1, fun n H2 hn k2 s2 => q _ _ (.inl ⟨n, rfl, hn⟩) (k1.trans k2) s2⟩
    split
    · refine ⟨a, c, rm, rfl, s1, fun n H2 hn k2 s2 => ?_⟩
      walk_at "vc"
      exact ⟨log_int hn, q _ _ (.inr ⟨_, rfl, pr_int n, by have := len_int (k := 30) (by decide) hn; omega⟩) (k1.trans k2) s2⟩
    split
    · refine fun p hp => ⟨a, c, rm, 8, rfl, src_new s1 hp, by decide, by decide, fun r2 H2 r20 r21 k2 s2 => ?_⟩
      have hp2 := k2 p _ upd_same (src_ne s1 hp).1
      walk_at "vc"
      refine menu_ok (n := 8) (m := 2) rfl (by decide +kernel) r20 r21 fun z hz zl => ?_
      refine ⟨a, c, rm, rfl, s2, fun n H3 hn k3 s3 => ?_⟩
      walk_at "vc"
      have hl := len_int (k := 30) (by decide) hn
      refine ⟨log_int hn, Nat.le_of_lt (sizeN (by omega)), q _ _ (.inr ⟨_, rfl, hz.app (pr_int n), by rw [len_app]; omega⟩) ((k1.trans (.new hp)).trans (k2.trans k3)) s3⟩
    split
    · refine fun p hp => ⟨a, c, rm, 8, rfl, src_new s1 hp, by decide, by decide, fun r2 H2 r20 r21 k2 s2 => ?_⟩
      have hp2 := k2 p _ upd_same (src_ne s1 hp).1
      walk_at "vc"
      exact menu_ok (n := 8) (m := 5) rfl (by decide +kernel) r20 r21 fun z hz zl => q _ _ (.inr ⟨_, rfl, hz, by omega⟩) ((k1.trans (.new hp)).trans k2) s2
    · exact ⟨a, c, rm, rfl, s1, fun z H2 hz zl k2 s2 => q _ _ (.inr ⟨_, rfl, hz, zl⟩) (k1.trans k2) s2⟩

/-! ### _law_digits -/
abbrev N__law_digits : List Str := ["_law_key_here", "_law_body", "_law_sign_here"]
theorem sc__law_digits : FnScope N__law_digits ["_law_key_here"] (defScope s__law_digits) := ⟨rfl, rfl, rfl, by decide +kernel, rfl, by decide +kernel, by decide +kernel⟩
def inv_digits (v b : V) (l : List Nat) (H : Hp) (i : Nat) (σ : L2.St) (H2 : Hp) : Prop := ∃ x, σ = [some v, some b, x] ∧ H2 = H ∧ (l.take i).all isDg = true
def sp__law_digits (K : PySem.W.Frag) : Sp := fun vs H Q _ => ∃ v, vs = [v] ∧ ((∃ n : Int, v = .int n ∧ Q (.bl false) H) ∨ ∃ z, v = .str z ∧ z.length ≤ 100000 ∧ Q (.bl (digK (TL.tl z))) H)
theorem ok__law_digits (T : Top K mg C)  : Callee P w K mg base 1 "_law_digits" ["_law_key_here"] (sp__law_digits K) := by
  refine T.d__law_digits.ok sc__law_digits (fun _ _ _ _ _ _ us hl => match us, hl with | [_], _ => rfl) (fun vs H Q E h => ?_) (fun f cdv A outer s H vs Q E hr h => ?_)
  · obtain ⟨v, rfl, h⟩ := h
    rfl
  · obtain ⟨v, rfl, h⟩ := h
    have hu := hu_of hr
    have nd := sc__law_digits.nd
    refine ⟨_, (pss_cons (ps_if (pt_not (pt_val (pe_callB (isi_T T.tb) (by rfl) T.b.b_isinstance boot_isinstance (pa_cons (pv 0) (pa_cons (pe_bltn (v := .ty "str") (by rfl) T.b.b_str boot_str rfl) pa_nil))))) (pss_one (ps_ret pe_bl)) pss_nil)
      (pss_cons (ps_set (i := 1) nd rfl (Or.inl rfl) (pv 0))
      (pss_cut1 (ps_if (pt_cmpR (eq_any hr) (pe_slice sl_any (pv 0) po_none (po_some pe_int)) pe_str (nomark _)) (pss_one (ps_set (i := 1) nd rfl (Or.inl rfl) (pe_slice sl_any (pv 0) (po_some pe_int) po_none))) pss_nil)
      (pss_cons (ps_if (PW.pt (pw_or (pt_cmpR (eq_any hr) (pv 1) pe_str (nomark _)) (pw_or1 (pt_cmpR op_gt (pe_callB len_any (by rfl) T.b.b_len boot_len (pa_cons (pv 1) pa_nil)) pe_int (nomark _))))) (pss_one (ps_ret pe_bl)) pss_nil)
      (pss_cons (ps_for PassesOwn.never rfl (pi_str (pv 1)) (pg_name (i := 2) nd rfl (Or.inl rfl)) (pss_one (ps_if (pt_cmpR ni_any (pv 2) pe_str (by with_unfolding_all rfl)) (pss_one (ps_ret pe_bl)) pss_nil)))
      (pss_one (ps_ret (pe_or (pe_cmpR (eq_any hr) (pv 0) pe_str (nomark _)) (pe_one (pe_cmpR (ne_any hr) (pe_ix ix_any (pv 1) pe_int (fun _ _ => rfl)) pe_str (nomark _))))))))))), ?_⟩
    refine start0 (σ := [some (v), none, none]) rfl ?_
    rcases h with ⟨n, rfl, q⟩ | ⟨z, rfl, hl, q⟩
    · walk_at "vc"
    · walk_at "vc"
      intro p hp
      have ls := body_len (TL.tl z)
      rw [TL.len_tl] at hl
      have key : ∀ b : Str, TL.tl b = body (TL.tl z) → p [some (.str z), some (.str b), none] H := fun b eb => hp.go _ _ (by
        have fin : ∀ x, x = digK (TL.tl z) → Q (.bl x) H := fun x e => by rw [e]; exact q
        unfold digK at fin
        have l2 : b.length ≤ sizeLine := Nat.le_of_lt (sizeN (by rw [TL.len_tl, eb]; omega))
        walk_at "vc"
        simp only [str_eq_iff (s := "") (l := []) (by decide +kernel), eb]
        split
        · rename_i h1
          exact fin _ (by simp [h1])
        rename_i h1
        rw [show (b.length : Int) = ((body (TL.tl z)).length : Int) by rw [TL.len_tl, eb]]
        split
        · exact fin _ (by simp; omega)
        have h3 : (body (TL.tl z)).length ≤ 30 := by omega
        refine lp_str (inv_digits (.str z) (.str b) (body (TL.tl z)) H) ⟨none, rfl, rfl, rfl⟩ ?_ ?_
        · rintro i e σ H2 he ⟨x, rfl, rfl, ha⟩
          rw [show b.cps.toList = body (TL.tl z) from eb] at he
          walk_at "vc"
          simp only [dg_mem]
          split
          · rename_i hn
            refine fin _ ?_
            have : (body (TL.tl z)).all isDg = false := by
              rw [← Bool.not_eq_true]
              exact fun ht => hn (List.all_eq_true.mp ht e (List.mem_of_getElem? he))
            simp [this]
          · rename_i hn
            refine ⟨_, rfl, rfl, ?_⟩
            rw [List.take_add_one, he, List.all_append, ha]
            simpa using hn
        · rintro σ H2 ⟨x, rfl, rfl, ha⟩
          rw [show b.cps.toList = body (TL.tl z) from eb, List.take_of_length_le (Nat.le_refl _)] at ha
          walk_at "vc"
          simp only [str_eq_iff (s := "0") (l := [48]) (by decide +kernel)]
          split
          · rename_i h4
            have h5 : body [48] = [48] := rfl
            refine fin _ ?_
            rw [decide_eq_true h1, decide_eq_true h3, ha, decide_eq_true h4]
            rfl
          · rename_i h4
            obtain ⟨e, e1, e2⟩ := atI_head h1
            refine ⟨e, e1, fin _ ?_⟩
            rw [decide_eq_true h1, decide_eq_true h3, ha, decide_eq_false h4, e2]
            simp [TL.tl])
      have l1 : z.length ≤ sizeLine := Nat.le_of_lt (sizeN (by rw [TL.len_tl]; exact hl))
      refine ⟨l1, ?_⟩
      simp only [str_eq_iff (s := "-") (l := [45]) (by decide +kernel), cut_head, take1_eq]
      split
      · rename_i h
        exact ⟨l1, key _ (by rw [cut_tail, body, if_pos h])⟩
      · rename_i h
        exact key _ (by rw [body, if_neg h])

/-! ### _law_twin -/
abbrev N__law_twin : List Str := ["_law_key_here"]
theorem sc__law_twin : FnScope N__law_twin ["_law_key_here"] (defScope s__law_twin) := ⟨rfl, rfl, rfl, by decide +kernel, rfl, by decide +kernel, by decide +kernel⟩
def sp__law_twin (K : PySem.W.Frag) : Sp := fun vs H Q _ => ∃ v, vs = [v] ∧ KeyV v ∧ ∀ w, KeyV w → Q w H
theorem ok__law_twin (T : Top K mg C) (C__law_digits : Callee P w K mg base 1 "_law_digits" ["_law_key_here"] (sp__law_digits K)) : Callee P w K mg base 2 "_law_twin" ["_law_key_here"] (sp__law_twin K) := by
  refine T.d__law_twin.ok sc__law_twin (fun _ _ _ _ _ _ us hl => match us, hl with | [_], _ => rfl) (fun vs H Q E h => ?_) (fun f cdv A outer s H vs Q E hr h => ?_)
  · obtain ⟨v, rfl, hv, q⟩ := h
    rfl
  · obtain ⟨v, rfl, hv, q⟩ := h
    have hu := hu_of hr
    have nd := sc__law_twin.nd
    refine ⟨_, (pss_cons (ps_if (pt_not (pt_val (pe_callB (isi_T T.tb) (by rfl) T.b.b_isinstance boot_isinstance (pa_cons (pv 0) (pa_cons (pe_bltn (v := .ty "str") (by rfl) T.b.b_str boot_str rfl) pa_nil))))) (pss_one (ps_ret (pe_callTy str_any (by rfl) T.b.b_str boot_str (pa_cons (pv 0) pa_nil)))) pss_nil)
      (pss_cons (ps_if (pt_val (pe_fn C__law_digits (hr.mono (by first | decide | omega)) (by rfl) (pa_cons (pv 0) pa_nil))) (pss_one (ps_ret (pe_callTy int_any (by rfl) T.b.b_int boot_int (pa_cons (pv 0) pa_nil)))) pss_nil)
      (pss_one (ps_ret (pv 0))))), ?_⟩
    refine start0 (σ := [some (v)]) rfl ?_
    rcases hv with ⟨n, rfl, hn⟩ | ⟨z, rfl, hz, zl⟩
    · walk_at "vc"
      exact ⟨log_int hn, q _ (.inr ⟨_, rfl, pr_int n, by have := len_int (k := 30) (by decide) hn; omega⟩)⟩
    · walk_at "vc"
      refine ⟨_, rfl, .inr ⟨z, rfl, by omega, ?_⟩⟩
      cases hd : digK (TL.tl z) with
      | false =>
        walk_at "vc"
        exact q _ (.inr ⟨z, rfl, hz, zl⟩)
      | true =>
        obtain ⟨n, e1, e2, e3, e4⟩ := digK_int hd
        walk_at "vc"
        exact ⟨by omega, q _ (.inl ⟨n, rfl, e4⟩)⟩

/-! ### _law_keys -/
abbrev N__law_keys : List Str := ["_law_source_here", "_law_many", "_law_keys_here", "_law_k", "_law_key_here"]
theorem sc__law_keys : FnScope N__law_keys ["_law_source_here", "_law_many"] (defScope s__law_keys) := ⟨rfl, rfl, rfl, by decide +kernel, rfl, by decide +kernel, by decide +kernel⟩
def inv_keys (a c : Addr) (rm m : Int) (H : Hp) (ln : Addr) (i : Nat) (σ : L2.St) (H2 : Hp) : Prop := ∃ (ks : List Key) (x y : Option V), σ = [some (.ref a), some (.int m), some (.ref ln), x, y] ∧ H2 ln = some (.lst (ks.map kV)) ∧ ks.length ≤ i ∧ ks.Nodup ∧ (∀ k ∈ ks, KeyV (kV k)) ∧ Keep a H H2 ∧ Src H2 a c rm
def sp__law_keys (K : PySem.W.Frag) : Sp := fun vs H Q _ => ∃ (a c : Addr) (rm m : Int), vs = [.ref a, .int m] ∧ Src H a c rm ∧ 0 ≤ m ∧ m ≤ 1000 ∧ ∀ (p : Addr) (ks : List Key) (H' : Hp), H p = none → H' p = some (.lst (ks.map kV)) → (ks.length : Int) ≤ m → ks.Nodup → (∀ k ∈ ks, KeyV (kV k)) → Keep a H H' → Src H' a c rm → Q (.ref p) H'
theorem ok__law_keys (T : Top K mg C) (C__law_key : Callee P w K mg base 5 "_law_key" ["_law_source_here"] (sp__law_key K)) (C__law_draw : Callee P w K mg base 2 "_law_draw" ["_law_source_here", "_law_many"] (sp__law_draw K)) (C__law_twin : Callee P w K mg base 2 "_law_twin" ["_law_key_here"] (sp__law_twin K)) : Callee P w K mg base 6 "_law_keys" ["_law_source_here", "_law_many"] (sp__law_keys K) := by
  refine T.d__law_keys.ok sc__law_keys (fun _ _ _ _ _ _ us hl => match us, hl with | [_, _], _ => rfl) (fun vs H Q E h => ?_) (fun f cdv A outer s H vs Q E hr h => ?_)
  · obtain ⟨a, c, rm, m, rfl, hS, m0, m1, q⟩ := h
    rfl
  · obtain ⟨a, c, rm, m, rfl, hS, m0, m1, q⟩ := h
    have hu := hu_of hr
    have nd := sc__law_keys.nd
    refine ⟨_, (pss_cons (ps_set (i := 2) nd rfl (Or.inl rfl) (pe_lst pa_nil))
      (pss_cons (ps_for PassesOwn.never rfl (pi_range1 (by rfl) T.b.b_range (pa_cons (pv 1) pa_nil)) (pg_name (i := 3) nd rfl (Or.inl rfl)) (pss_cons (ps_set (i := 4) nd rfl (Or.inl rfl) (pe_fn C__law_key (hr.mono (by first | decide | omega)) (by rfl) (pa_cons (pv 0) pa_nil)))
      (pss_cut1 (ps_if (PW.pt (pw_and (pt_cmpR (ne_any hr) (pv 2) (pe_lst pa_nil) (nomark _)) (pw_and1 (pt_cmpR (eq_any hr) (pe_fn C__law_draw (hr.mono (by first | decide | omega)) (by rfl) (pa_cons (pv 0) (pa_cons pe_int pa_nil))) pe_int (nomark _))))) (pss_one (ps_set (i := 4) nd rfl (Or.inl rfl) (pe_fn C__law_twin (hr.mono (by first | decide | omega)) (by rfl) (pa_cons (pe_ix ix_any (pv 2) (pe_fn C__law_draw (hr.mono (by first | decide | omega)) (by rfl) (pa_cons (pv 0) (pa_cons (pe_callB len_any (by rfl) T.b.b_len boot_len (pa_cons (pv 2) pa_nil)) pa_nil))) (fun _ _ => rfl)) pa_nil)))) pss_nil)
      (pss_one (ps_if (pt_cmpR ni_any (pv 4) (pv 2) (by with_unfolding_all rfl)) (pss_one (ps_expr (pe_bm PySem.F.plainAttrs_list PySem.F.slot_list_append PySem.F.type_list_append mt_append (pv 2) (pa_cons (pv 4) pa_nil)))) pss_nil)))))
      (pss_one (ps_ret (pv 2))))), ?_⟩
    refine start0 (σ := [some (.ref a), some (.int m), none, none, none]) rfl ?_
    walk_at "vc"
    intro ln hln
    obtain ⟨nla, nlc⟩ := src_ne hS hln
    refine ⟨by omega, by omega, lp_range (inv_keys a c rm m H ln) ⟨[], none, none, rfl, upd_same, Nat.le_refl _, List.nodup_nil, (fun _ h => nomatch h), .new hln, src_new hS hln⟩ ?_ ?_⟩
    · rintro i σ H3 hi ⟨ks, x, y, rfl, hl, el, nd0, hk, k3, s3⟩
      walk_at "vc"
      refine ⟨a, c, rm, rfl, s3, fun v H4 hv k4 s4 => ?_⟩
      have hl4 := k4 _ _ hl nla
      walk_at "vc"
      intro p hp
      have key : ∀ (v : V) (H5 : Hp), KeyV v → Keep a H H5 → Src H5 a c rm → H5 ln = some (.lst (ks.map kV)) → p [some (.ref a), some (.int m), some (.ref ln), some (.int (0 + i)), some v] H5 := fun v H5 hv k5 s5 hl5 => hp.go _ _ (by
        clear hp
        obtain ⟨k, rfl⟩ := key_kV hv
        have f1 := kV_flat k
        have f2 := flats_kV ks
        walk_at "vc"
        cases hin : inV (kV k) (ks.map kV) with
        | true =>
          walk_at "vc"
          exact ⟨ks, _, _, rfl, hl5, by omega, nd0, hk, k5, s5⟩
        | false =>
          walk_at "vc"
          have hnk : k ∉ ks := fun h => by rw [(in_kV k ks).mpr h] at hin; cases hin
          refine app_ok hl5 (by rw [List.length_map]; omega) ⟨ks ++ [k], _, _, rfl, by rw [upd_same, List.map_append]; rfl, by rw [List.length_append]; show ks.length + 1 ≤ _; omega, nodup_snoc nd0 hnk, fun j hj => ?_, Keep.mut (.refl _ _) nla hln k5, src_upd s5 nla nlc⟩
          rcases List.mem_append.mp hj with hj | hj
          · exact hk j hj
          · rw [List.mem_singleton.mp hj]; exact hv)
      clear hp
      intro pn hpn
      have hln4 : (upd H4 pn (.lst [])) ln = some (.lst (ks.map kV)) := sm_new hpn _ _ hl4
      have k04 : Keep a H (upd H4 pn (.lst [])) := (k3.trans k4).trans (.new hpn)
      have s04 : Src (upd H4 pn (.lst [])) a c rm := src_new s4 hpn
      refine ne_nil true hln4 upd_same (fun x hx => ?_) ?_
      · obtain ⟨w, hw, rfl⟩ := List.mem_map.mp hx
        exact kV_flatP (hk w hw)
      by_cases hzs : ks = []
      · have hne : (ks.map kV).isEmpty = true := by rw [hzs]; rfl
        rw [hne]
        walk_at "vc"
        first | done | exact key v _ hv k04 s04 hln4
      · have hne : (ks.map kV).isEmpty = false := by simpa using hzs
        have hpos : 0 < ks.length := List.length_pos_iff.mpr hzs
        rw [hne]
        walk_at "vc"
        refine ⟨a, c, rm, 3, rfl, s04, by decide, by decide, fun r5 H5 r50 r51 k5 s5 => ?_⟩
        have hl5 := k5 _ _ hln4 nla
        walk_at "vc"
        split
        · refine ⟨a, c, rm, _, rfl, s5, ?_, ?_, fun r6 H6 r60 r61 k6 s6 => ?_⟩
          · rw [List.length_map]; omega
          · rw [List.length_map]; omega
          have hl6 := k6 _ _ hl5 nla
          walk_at "vc"
          refine menu_ex rfl r60 r61 fun v hv => ?_
          obtain ⟨w, hw, rfl⟩ := List.mem_map.mp hv
          refine ⟨_, rfl, hk w hw, fun w2 hw2 => ?_⟩
          walk_at "vc"
          exact key w2 _ hw2 ((k04.trans k5).trans k6) s6 hl6
        · exact key v _ hv (k04.trans k5) s5 hl5
    · rintro σ H3 ⟨ks, x, y, rfl, hl, el, nd0, hk, k3, s3⟩
      walk_at "vc"
      exact q _ ks _ hln hl (by omega) nd0 hk k3 s3

/-! ### _law_model -/
abbrev N__law_model : List Str := ["_law_source_here", "_law_depth", "_law_shape", "_law_many", "_law_k", "_law_key_here"]
theorem sc__law_model : FnScope N__law_model ["_law_source_here", "_law_depth"] (defScope s__law_model) := ⟨rfl, rfl, rfl, by decide +kernel, rfl, by decide +kernel, by decide +kernel⟩
def inv_mrow (a c : Addr) (rm d : Int) (H : Hp) (D : Addr) (i : Nat) (ys : List V) (H2 : Hp) : Prop := ∃ (rs : List Md) (rm2 : Int), RpML (hid (new H H2) D) rs ys ∧ OkML rs ∧ (mdepthL rs : Int) ≤ d - 1 ∧ (mnodesL rs : Int) = rm - rm2 ∧ -12 * (d - 1) - i ≤ rm2 ∧ Keep a H H2 ∧ Src H2 a c rm2
def inv_mtab (a c : Addr) (rm d : Int) (H : Hp) (D ln : Addr) (zs : List Key) (i : Nat) (ys : List V) (H2 : Hp) : Prop := ∃ (rs : List Md) (rm2 : Int), RpMP (hid (new H H2) D) rs (zs.take i) ys ∧ OkML rs ∧ (mdepthL rs : Int) ≤ d - 1 ∧ (mnodesL rs : Int) = rm - rm2 ∧ -12 * (d - 1) - i ≤ rm2 ∧ Keep a H H2 ∧ Src H2 a c rm2 ∧ H2 ln = some (.lst (zs.map kV))
def sp__law_model (K : PySem.W.Frag) (n : Nat) : Sp := fun vs H Q _ => ∃ (a c : Addr) (rm d : Int), vs = [.ref a, .int d] ∧ Src H a c rm ∧ 0 ≤ d ∧ d < n ∧ ∀ r v H' rm', OkM r → (mdepth r : Int) ≤ d → (mnodes r : Int) = rm - rm' → (1 ≤ rm → -12 * d ≤ rm') → (rm ≤ 0 → rm' = rm - 1) → RpM (new H H') r v → Keep a H H' → Src H' a c rm' → Q v H'
theorem step__law_model (T : Top K mg C) (C__law_draw : Callee P w K mg base 2 "_law_draw" ["_law_source_here", "_law_many"] (sp__law_draw K)) (C__law_leaf : Callee P w K mg base 5 "_law_leaf" ["_law_source_here"] (sp__law_leaf K)) (C__law_keys : Callee P w K mg base 6 "_law_keys" ["_law_source_here", "_law_many"] (sp__law_keys K)) (n : Nat) (C__law_model : Callee P w K mg base (6 + n) "_law_model" ["_law_source_here", "_law_depth"] (sp__law_model K n)) : Callee P w K mg base (6 + n + 1) "_law_model" ["_law_source_here", "_law_depth"] (sp__law_model K (n + 1)) := by
  refine T.d__law_model.ok sc__law_model (fun _ _ _ _ _ _ us hl => match us, hl with | [_, _], _ => rfl) (fun vs H Q E h => ?_) (fun f cdv A outer s H vs Q E hr h => ?_)
  · obtain ⟨a, c, rm, d, rfl, hS, hd0, hd1, q⟩ := h
    rfl
  · obtain ⟨a, c, rm, d, rfl, hS, hd0, hd1, q⟩ := h
    have hu := hu_of hr
    have nd := sc__law_model.nd
    refine ⟨_, (pss_cons (ps_dput hu (pv 0) pe_str (pe_op op_sub (pe_dget hu (pv 0) pe_str (fun _ _ => rfl)) pe_int) rfl)
      (pss_cons (ps_set (i := 2) nd rfl (Or.inl rfl) (pe_fn C__law_draw (hr.mono (by first | decide | omega)) (by rfl) (pa_cons (pv 0) (pa_cons pe_int pa_nil))))
      (pss_cons (ps_if (PW.pt (pw_or (pt_cmpR (eq_any hr) (pv 1) pe_int (nomark _)) (pw_or (pt_cmpR op_le (pe_dget hu (pv 0) pe_str (fun _ _ => rfl)) pe_int (nomark _)) (pw_or1 (pt_cmpR op_lt (pv 2) pe_int (nomark _)))))) (pss_one (ps_ret (pe_fn C__law_leaf (hr.mono (by first | decide | omega)) (by rfl) (pa_cons (pv 0) pa_nil)))) pss_nil)
      (pss_cons (ps_set (i := 3) nd rfl (Or.inl rfl) (pe_fn C__law_draw (hr.mono (by first | decide | omega)) (by rfl) (pa_cons (pv 0) (pa_cons pe_int pa_nil))))
      (pss_cut1 (ps_if (pt_cmpR (eq_any hr) (pe_fn C__law_draw (hr.mono (by first | decide | omega)) (by rfl) (pa_cons (pv 0) (pa_cons pe_int pa_nil))) pe_int (nomark _)) (pss_one (ps_set (i := 3) nd rfl (Or.inl rfl) (pe_fn C__law_draw (hr.mono (by first | decide | omega)) (by rfl) (pa_cons (pv 0) (pa_cons pe_int pa_nil))))) pss_nil)
      (pss_cons (ps_if (pt_cmpR (eq_any hr) (pv 2) pe_int (nomark _)) (pss_one (ps_ret (pe_tup (pa_cons pe_str (pa_cons (pe_lc (own := [("_law_k", 4)]) rfl nd (pi_range1 (by rfl) T.b.b_range (pa_cons (pv 3) pa_nil)) (blkOk_by (own := [("_law_k", 4)]) (N := N__law_model) (sc := defScope s__law_model) (by decide +kernel)) (fun _ _ _ _ _ => (pg_name (i := 4) nd rfl (Or.inl rfl) (hf := Or.inr rfl))) (fun _ _ _ _ _ => pts_nil) (fun _ _ _ _ _ => (pe_fn C__law_model (hr.mono (by first | decide | omega)) (by rfl) (pa_cons (pv 0) (pa_cons (pe_op op_sub (pv 1) pe_int) pa_nil))))) pa_nil))))) pss_nil)
      (pss_cons (ps_if (pt_cmpR (eq_any hr) (pv 2) pe_int (nomark _)) (pss_one (ps_ret (pe_tup (pa_cons pe_str (pa_cons (pe_lc (own := [("_law_k", 4)]) rfl nd (pi_range1 (by rfl) T.b.b_range (pa_cons (pv 3) pa_nil)) (blkOk_by (own := [("_law_k", 4)]) (N := N__law_model) (sc := defScope s__law_model) (by decide +kernel)) (fun _ _ _ _ _ => (pg_name (i := 4) nd rfl (Or.inl rfl) (hf := Or.inr rfl))) (fun _ _ _ _ _ => pts_nil) (fun _ _ _ _ _ => (pe_fn C__law_model (hr.mono (by first | decide | omega)) (by rfl) (pa_cons (pv 0) (pa_cons (pe_op op_sub (pv 1) pe_int) pa_nil))))) pa_nil))))) pss_nil)
      (pss_one (ps_ret (pe_tup (pa_cons pe_str (pa_cons (pe_lc (own := [("_law_key_here", 5)]) rfl nd (pi_list (pe_fn C__law_keys (hr.mono (by first | decide | omega)) (by rfl) (pa_cons (pv 0) (pa_cons (pv 3) pa_nil)))) (blkOk_by (own := [("_law_key_here", 5)]) (N := N__law_model) (sc := defScope s__law_model) (by decide +kernel)) (fun _ _ _ _ _ => (pg_name (i := 5) nd rfl (Or.inl rfl) (hf := Or.inr rfl))) (fun _ _ _ _ _ => pts_nil) (fun _ _ _ _ _ => (pe_tup (pa_cons (pv 5) (pa_cons (pe_fn C__law_model (hr.mono (by first | decide | omega)) (by rfl) (pa_cons (pv 0) (pa_cons (pe_op op_sub (pv 1) pe_int) pa_nil))) pa_nil))))) pa_nil)))))))))))), ?_⟩
    refine start0 (σ := [some (.ref a), some (.int d), none, none, none, none]) rfl ?_
    obtain ⟨ns, at_, rest, seed, long, hda, hc, h0, h1⟩ := id hS
    walk_at "vc"
    have sA := src_mk (at_ := at_) (rest := rest) (seed := seed) (room := rm - 1) (long := long) hda hc h0 h1
    refine ⟨a, c, rm - 1, 8, rfl, sA, by decide, by decide, fun r H1 r0 r1 k1 s1 => ?_⟩
    have k01 : Keep a H H1 := Keep.trans .upd k1
    obtain ⟨ns, at_, rest, seed, long, hda1, hc1, h01, h11⟩ := id s1
    have leaf : sp__law_leaf K [V.ref a] H1 Q E0 := ⟨a, c, rm - 1, rfl, s1, fun rr v H2 lf ok rp k2 s2 => by
      obtain ⟨m, lm, okm, rm2⟩ := raw_md lf ok
      obtain ⟨e1, e2⟩ := leafM_nd lm
      exact q m v H2 (rm - 1) okm (by rw [e1]; omega) (by rw [e2]; omega) (by omega) (by omega) (rm2 _ _ _ rp) (k01.trans k2) s2⟩
    walk_at "vc"
    by_cases hd : d = 0
    · rw [if_pos hd]; trivial
    rw [if_neg hd]
    by_cases hr0 : rm - 1 ≤ 0
    · rw [if_pos hr0]; trivial
    rw [if_neg hr0]
    by_cases hr3 : r < 3
    · rw [if_pos hr3]; trivial
    rw [if_neg hr3]
    clear leaf
    refine ⟨a, c, rm - 1, 4, rfl, s1, by decide, by decide, fun m H2 m0 m1 k2 s2 => ?_⟩
    intro p hp
    have key : ∀ (m : Int) (H2 : Hp), 0 ≤ m → m ≤ 12 → Keep a H H2 → Src H2 a c (rm - 1) → p [some (.ref a), some (.int d), some (.int r), some (.int m), none, none] H2 := fun m H2 m0 m1 k2 s2 => hp.go _ _ (by
      clear hp
      have seqs : ∀ (w : Str), (w = Str.ofString "tuple" ∨ w = Str.ofString "list") → ∀ D, H2 D = none → LcLoop (Itr 0 m.toNat) (gName 4) tYes (tCall (sp__law_model K n) [] E0 (tCons (tVar 0) (tCons (tOp (rI0 fun i j => V.int (i - j)) (tVar 1) (tC (V.int 1))) tNil))) [4] [some (.ref a), some (.int d), some (.int r), some (.int m), none, none] (fun x H1 => ∀ p, H1 p = none → Q (.ref p) (upd H1 p (.tup [.str w, x]))) D H2 := fun w hw D hD => by
        obtain ⟨nDa, nDc⟩ := src_ne s2 hD
        have nHD : H D = none := k2.free nDa hD
        refine lc_r (inv_mrow a c (rm - 1) d H D) ⟨[], rm - 1, rfl, trivial, by show (0 : Int) ≤ _; omega, by show ((0 : Nat) : Int) = _; omega, by omega, k2.trans (.new hD), src_new s2 hD⟩ ?_ ?_
        · rintro i ys H3 hi el hy ⟨rs, rm3, rp, ok, dp, nn, bd, k3, s3⟩
          walk_at "vc"
          refine ⟨a, c, rm3, d - 1, rfl, s3, by omega, by omega, fun rr v H4 rm4 ok4 dp4 nn4 b4 b4' rp4 k4 s4 => ?_⟩
          obtain ⟨kvs, ha3⟩ := src_dk s3
          refine LcNext.mk (k4 _ _ hy nDa) el (by omega) ⟨rs ++ [rr], rm4, ?_, ok.snoc ok4, ?_, ?_, ?_, k2.mut nDa hD (k3.trans k4), src_upd s4 nDa nDc⟩
          · rw [hid_new_upd]
            exact (RpML.mono (new_keep k4 ha3) _ _ (RpML.noD _ _ rp)).snoc (RpM.mono (new_made k3 ha3 hy) _ _ rp4)
          · rw [mdepthL_snoc]; omega
          · rw [mnodesL_snoc]; omega
          · omega
        · rintro ys H3 el hy ⟨rs, rm3, rp, ok, dp, nn, bd, k3, s3⟩
          intro t ht
          have nta := (src_ne s3 ht).1
          have ntD : t ≠ D := (ne_of_none hy ht).symm
          have nHt : H t = none := k3.free nta ht
          exact q (.seq w rs) _ _ rm3 ⟨ok, hw⟩ (by show ((1 + mdepthL rs : Nat) : Int) ≤ d; omega) (by show ((1 + mnodesL rs : Nat) : Int) = _; omega) (by omega) (by omega) ⟨t, D, ys, rfl, new_of nHt upd_same, new_of nHD (by rw [upd_ne ntD.symm]; exact hy), RpML.mono (fun b o h => hid_same b o (new_more ht b o h)) _ _ rp⟩ (k3.trans (.new ht)) (src_new s3 ht)
      walk_at "vc"
      split
      · exact ⟨by omega, by omega, seqs _ (.inl rfl)⟩
      split
      · exact ⟨by omega, by omega, seqs _ (.inr rfl)⟩
      · clear seqs
        refine ⟨a, c, rm - 1, m, rfl, s2, m0, by omega, fun ln zs H3 hln hl lz ndz hkz k3' s3 => ?_⟩
        have k3 := k2.trans k3'
        have nla : ln ≠ a := (src_ne s2 hln).1
        walk_at "vc"
        refine ⟨⟨_, .inl (.inl hl)⟩, fun D hD => ?_⟩
        obtain ⟨nDa, nDc⟩ := src_ne s3 hD
        have nHD : H D = none := k3.free nDa hD
        have nDl : D ≠ ln := (ne_of_none hl hD).symm
        refine lc_l (xs := zs.map kV) (inv_mtab a c (rm - 1) d H D ln zs) ⟨[], rm - 1, ⟨rfl, rfl⟩, trivial, by show (0 : Int) ≤ _; omega, by show ((0 : Nat) : Int) = _; omega, by omega, k3.trans (.new hD), src_new s3 hD, by rw [upd_ne nDl.symm]; exact hl⟩ (fun i ys H4 ⟨_, _, _, _, _, _, _, _, _, h⟩ => .inl (.inl h)) ?_ ?_
        · rintro i x ys H4 hx ely hy ⟨rs, rm4, rp, ok, dp, nn, bd, k4, s4, hl4⟩
          have hi : i < zs.length := by have := (List.getElem?_eq_some_iff.mp hx).1; rw [List.length_map] at this; exact this
          obtain ⟨z, rfl, ez⟩ : ∃ z, x = kV z ∧ zs[i]? = some z := by
            rw [List.getElem?_map, List.getElem?_eq_getElem hi] at hx
            exact ⟨zs[i], (Option.some.inj hx).symm, List.getElem?_eq_getElem hi⟩
          walk_at "vc"
          refine ⟨a, c, rm4, d - 1, rfl, s4, by omega, by omega, fun rr v H5 rm5 ok5 dp5 nn5 b5 b5' rp5 k5 s5 => ?_⟩
          walk_at "vc"
          intro t ht
          obtain ⟨kvs, ha4⟩ := src_dk s4
          have nta := (src_ne s5 ht).1
          have hy5 := k5 _ _ hy nDa
          have ntD : t ≠ D := (ne_of_none hy5 ht).symm
          have k05 := k4.trans k5
          refine LcNext.mk (ys := ys) (by rw [upd_ne ntD.symm]; exact hy5) ely (by omega) ⟨rs ++ [rr], rm5, ?_, ok.snoc ok5, ?_, ?_, ?_, k3.mut nDa hD (k05.trans (.new ht)), src_upd (src_new s5 ht) nDa nDc, ?_⟩
          · rw [hid_new_upd, List.take_add_one, ez]
            have sm : Same (hid (new H H5) D) (hid (new H (upd H5 t (.tup [kV z, v]))) D) := new_more ht
            refine RpMP.snoc (RpMP.mono sm _ _ _ (RpMP.mono (new_keep k5 ha4) _ _ _ (RpMP.noD _ _ _ rp))) (v := v) ?_ (RpM.mono sm _ _ (RpM.mono (new_made k4 ha4 hy) _ _ rp5))
            exact hid_get (new_of (k05.free nta ht) upd_same) ntD
          · rw [mdepthL_snoc]; omega
          · rw [mnodesL_snoc]; omega
          · omega
          · rw [upd_ne nDl.symm, upd_ne (ne_of_none (k5 _ _ hl4 nla) ht)]
            exact k5 _ _ hl4 nla
        · rintro ys H4 ely hy ⟨rs, rm4, rp, ok, dp, nn, bd, k4, s4, hl4⟩
          rw [List.length_map] at bd rp
          rw [List.take_of_length_le (Nat.le_refl _)] at rp
          intro t ht
          have nta := (src_ne s4 ht).1
          have ntD : t ≠ D := (ne_of_none hy ht).symm
          have nHt : H t = none := k4.free nta ht
          have lz2 := rp.len.2
          exact q (.tab zs rs) _ _ rm4 ⟨ok, lz2, hkz, ndz⟩ (by show ((1 + mdepthL rs : Nat) : Int) ≤ d; omega) (by show ((1 + mnodesL rs : Nat) : Int) = _; omega) (by omega) (by omega) ⟨t, D, ys, rfl, new_of nHt upd_same, new_of nHD (by rw [upd_ne ntD.symm]; exact hy), RpMP.mono (fun b o h => hid_same b o (new_more ht b o h)) _ _ _ rp⟩ (k4.trans (.new ht)) (src_new s4 ht))
    clear hp
    refine ⟨a, c, rm - 1, 12, rfl, s2, by decide, by decide, fun r2 H3 r20 r21 k3 s3 => ?_⟩
    walk_at "vc"
    split
    · refine ⟨a, c, rm - 1, 13, rfl, s3, by decide, by decide, fun r4 H4 r40 r41 k4 s4 => ?_⟩
      walk_at "vc"
      exact key _ _ r40 (by omega) (((k01.trans k2).trans k3).trans k4) s4
    · exact key _ _ m0 (by omega) ((k01.trans k2).trans k3) s3
theorem ok__law_model (T : Top K mg C) (C__law_draw : Callee P w K mg base 2 "_law_draw" ["_law_source_here", "_law_many"] (sp__law_draw K)) (C__law_leaf : Callee P w K mg base 5 "_law_leaf" ["_law_source_here"] (sp__law_leaf K)) (C__law_keys : Callee P w K mg base 6 "_law_keys" ["_law_source_here", "_law_many"] (sp__law_keys K)) : ∀ n, Callee P w K mg base (6 + n) "_law_model" ["_law_source_here", "_law_depth"] (sp__law_model K n)
  | 0 => T.d__law_model.bot (N := N__law_model) (fun _ _ _ _ _ _ us hl => match us, hl with | [_, _], _ => rfl) (fun vs H Q E h => by
      obtain ⟨a, c, rm, d, _, _, h0, h1, _⟩ := h
      omega)
  | n + 1 => step__law_model T C__law_draw C__law_leaf C__law_keys n (ok__law_model T C__law_draw C__law_leaf C__law_keys n)

/-! ### _law_deep -/
abbrev N__law_deep : List Str := ["_law_source_here", "_law_depth", "_law_room", "_law_model_here", "_law_wraps", "_law_k", "_law_shape"]
theorem sc__law_deep : FnScope N__law_deep ["_law_source_here", "_law_depth", "_law_room"] (defScope s__law_deep) := ⟨rfl, rfl, rfl, by decide +kernel, rfl, by decide +kernel, by decide +kernel⟩
def inv_mdeep (a c : Addr) (rm d rr : Int) (w : V) (H : Hp) (i : Nat) (σ : L2.St) (H2 : Hp) : Prop := ∃ (r : Md) (v : V) (x y : Option V), σ = [some (.ref a), some (.int d), some (.int rr), some v, some w, x, y] ∧ OkM r ∧ (mdepth r : Int) ≤ d + i ∧ (mnodes r : Int) ≤ rr + 12 * d + 1 + i ∧ RpM (new H H2) r v ∧ Keep a H H2 ∧ ∃ rm', Src H2 a c rm'
def sp__law_deep (K : PySem.W.Frag) : Sp := fun vs H Q _ => ∃ (a c : Addr) (rm d rr : Int), vs = [.ref a, .int d, .int rr] ∧ Src H a c rm ∧ 0 ≤ d ∧ d < 5 ∧ 1 ≤ rr ∧ rr ≤ 1000 ∧ ∀ r v H' rm', OkM r → (mdepth r : Int) ≤ 60 → (mnodes r : Int) ≤ rr + 12 * d + 62 → RpM (new H H') r v → Keep a H H' → Src H' a c rm' → Q v H'
theorem ok__law_deep (T : Top K mg C) (C__law_model : Callee P w K mg base 11 "_law_model" ["_law_source_here", "_law_depth"] (sp__law_model K 5)) (C__law_draw : Callee P w K mg base 2 "_law_draw" ["_law_source_here", "_law_many"] (sp__law_draw K)) (C__law_key : Callee P w K mg base 5 "_law_key" ["_law_source_here"] (sp__law_key K)) : Callee P w K mg base 12 "_law_deep" ["_law_source_here", "_law_depth", "_law_room"] (sp__law_deep K) := by
  refine T.d__law_deep.ok sc__law_deep (fun _ _ _ _ _ _ us hl => match us, hl with | [_, _, _], _ => rfl) (fun vs H Q E h => ?_) (fun f cdv A outer s H vs Q E hr h => ?_)
  · obtain ⟨a, c, rm, d, rr, rfl, hS, hd0, hd1, hr0, hr1, q⟩ := h
    rfl
  · obtain ⟨a, c, rm, d, rr, rfl, hS, hd0, hd1, hr0, hr1, q⟩ := h
    have hu := hu_of hr
    have nd := sc__law_deep.nd
    refine ⟨_, (pss_cons (ps_dput hu (pv 0) pe_str (pv 2) rfl)
      (pss_cons (ps_set (i := 3) nd rfl (Or.inl rfl) (pe_fn C__law_model (hr.mono (by first | decide | omega)) (by rfl) (pa_cons (pv 0) (pa_cons (pv 1) pa_nil))))
      (pss_cons (ps_set (i := 4) nd rfl (Or.inl rfl) pe_int)
      (pss_cut1 (ps_if (pt_cmpR (eq_any hr) (pe_fn C__law_draw (hr.mono (by first | decide | omega)) (by rfl) (pa_cons (pv 0) (pa_cons pe_int pa_nil))) pe_int (nomark _)) (pss_one (ps_set (i := 4) nd rfl (Or.inl rfl) (pe_fn C__law_draw (hr.mono (by first | decide | omega)) (by rfl) (pa_cons (pv 0) (pa_cons (pe_op op_sub pe_int (pv 1)) pa_nil))))) pss_nil)
      (pss_cons (ps_for PassesOwn.never rfl (pi_range1 (by rfl) T.b.b_range (pa_cons (pv 4) pa_nil)) (pg_name (i := 5) nd rfl (Or.inl rfl)) (pss_cons (ps_set (i := 6) nd rfl (Or.inl rfl) (pe_fn C__law_draw (hr.mono (by first | decide | omega)) (by rfl) (pa_cons (pv 0) (pa_cons pe_int pa_nil))))
      (pss_one (ps_if (pt_cmpR (eq_any hr) (pv 6) pe_int (nomark _)) (pss_one (ps_set (i := 3) nd rfl (Or.inl rfl) (pe_tup (pa_cons pe_str (pa_cons (pe_lst (pa_cons (pe_tup (pa_cons (pe_fn C__law_key (hr.mono (by first | decide | omega)) (by rfl) (pa_cons (pv 0) pa_nil)) (pa_cons (pv 3) pa_nil))) pa_nil)) pa_nil))))) (pss_one (ps_set (i := 3) nd rfl (Or.inl rfl) (pe_tup (pa_cons (pe_ix ix_any (pe_lst (pa_cons pe_str (pa_cons pe_str pa_nil))) (pv 6) (fun _ _ => rfl)) (pa_cons (pe_lst (pa_cons (pv 3) pa_nil)) pa_nil)))))))))
      (pss_one (ps_ret (pv 3)))))))), ?_⟩
    refine start0 (σ := [some (.ref a), some (.int d), some (.int rr), none, none, none, none]) rfl ?_
    obtain ⟨ns, at_, rest, seed, long, hda, hc, h0, h1⟩ := id hS
    walk_at "vc"
    have sA := src_mk (at_ := at_) (rest := rest) (seed := seed) (room := rr) (long := long) hda hc h0 h1
    refine ⟨a, c, rr, d, rfl, sA, by omega, by omega, fun r v H1 rm1 ok dp nn b1 b2 rp k1 s1 => ?_⟩
    have k01 : Keep a H H1 := Keep.trans .upd k1
    have rp1 : RpM (new H H1) r v := RpM.mono (new_elder (Keep.upd (o := .dK (srcL c at_ rest seed rr long))) upd_same) _ _ rp
    walk_at "vc"
    intro p hp
    have key : ∀ (w : Int) (H2 : Hp), 0 ≤ w → w ≤ 60 - d → RpM (new H H2) r v → Keep a H H2 → Src H2 a c rm1 → p [some (.ref a), some (.int d), some (.int rr), some v, some (.int w), none, none] H2 := fun w H2 w0 w1 rp2 k2 s2 => hp.go _ _ (by
      clear hp
      walk_at "vc"
      refine ⟨by omega, by omega, lp_range (inv_mdeep a c rm d rr (.int w) H) ⟨r, v, none, none, rfl, ok, by omega, by omega, rp2, k2, rm1, s2⟩ ?_ ?_⟩
      · rintro i σ H3 hi ⟨r3, v3, x3, y3, rfl, ok3, dp3, nn3, rp3, k3, rm3, s3⟩
        walk_at "vc"
        refine ⟨a, c, rm3, 3, rfl, s3, by decide, by decide, fun y H4 y0 y1 k4 s4 => ?_⟩
        have rp4 := rpM_keep k4 s3 rp3
        have k04 := k3.trans k4
        walk_at "vc"
        split
        · refine ⟨a, c, rm3, rfl, s4, fun kv H5 hkv k5 s5 => ?_⟩
          have rp5 := rpM_keep k5 s4 rp4
          have k05 := k04.trans k5
          obtain ⟨z, rfl⟩ := key_kV hkv
          intro e he l hl t ht
          have nl : l ≠ e := fun e => by subst e; rw [upd_same] at hl; cases hl
          have nt : t ≠ l := fun e => by subst e; rw [upd_same] at ht; cases ht
          have nte : t ≠ e := fun e => by subst e; rw [upd_ne nt, upd_same] at ht; cases ht
          have s6 := src_new (o := .tup [kV z, v3]) s5 he
          have s7 := src_new (o := .lst [.ref e]) s6 hl
          have s8 := src_new (o := .tup [.str "table", .ref l]) s7 ht
          have k06 := k05.trans (.new (o := .tup [kV z, v3]) he)
          have k07 := k06.trans (.new (o := .lst [.ref e]) hl)
          have he0 := k05.free (src_ne s5 he).1 he
          have hl0 := k06.free (src_ne s6 hl).1 hl
          have ht0 := k07.free (src_ne s7 ht).1 ht
          refine ⟨.tab [z] [r3], _, _, _, rfl, ⟨⟨ok3, trivial⟩, rfl, (fun w hw => by rw [List.mem_singleton.mp hw]; exact hkv), by simp⟩, by simp only [mdepth, mdepthL]; omega, by simp only [mnodes, mnodesL]; omega, ⟨t, l, [.ref e], rfl, new_of ht0 upd_same, new_of hl0 (by rw [upd_ne nt.symm, upd_same]), z, [], e, v3, [], rfl, rfl, new_of he0 (by rw [upd_ne nte.symm, upd_ne nl.symm, upd_same]), ?_, rfl, rfl⟩, k07.trans (.new ht), _, s8⟩
          exact RpM.mono (new_more0 ht) _ _ (RpM.mono (new_more0 hl) _ _ (RpM.mono (new_more0 he) _ _ rp5))
        · rename_i hy2
          intro u hu
          have s40 := src_new (o := .lst [.str "list", .str "tuple"]) s4 hu
          have rp40 := RpM.mono (new_more0 (o := .lst [.str "list", .str "tuple"]) hu) _ _ rp4
          have k040 := k04.trans (.new (o := .lst [.str "list", .str "tuple"]) hu)
          generalize (upd H4 u (.lst [.str "list", .str "tuple"])) = H5 at *
          obtain ⟨z, ez, hz⟩ : ∃ z, atI [V.str (Str.ofString "list"), V.str (Str.ofString "tuple")] y = some (.str z) ∧ (z = Str.ofString "tuple" ∨ z = Str.ofString "list") := by
            have : y = 0 ∨ y = 1 := by omega
            rcases this with rfl | rfl
            · exact ⟨_, rfl, .inr rfl⟩
            · exact ⟨_, rfl, .inl rfl⟩
          refine ⟨_, ez, fun l hl t ht => ?_⟩
          have nt : t ≠ l := fun e => by subst e; rw [upd_same] at ht; cases ht
          have s5 := src_new (o := .lst [v3]) s40 hl
          have s6 := src_new (o := .tup [.str z, .ref l]) s5 ht
          have k06 := (k040.trans (.new (o := .lst [v3]) hl)).trans (.new (o := .tup [.str z, .ref l]) ht)
          have hl0 := k040.free (src_ne s40 hl).1 hl
          have ht0 := (k040.trans (.new hl)).free (src_ne s5 ht).1 ht
          refine ⟨.seq z [r3], _, _, _, rfl, ⟨⟨ok3, trivial⟩, hz⟩, by simp only [mdepth, mdepthL]; omega, by simp only [mnodes, mnodesL]; omega, ⟨t, l, [v3], rfl, new_of ht0 upd_same, new_of hl0 (by rw [upd_ne nt.symm, upd_same]), v3, [], rfl, ?_, rfl⟩, k06, _, s6⟩
          exact RpM.mono (new_more0 ht) _ _ (RpM.mono (new_more0 hl) _ _ rp40)
      · rintro σ H3 ⟨r3, v3, x3, y3, rfl, ok3, dp3, nn3, rp3, k3, rm3, s3⟩
        walk_at "vc"
        exact q r3 v3 H3 rm3 ok3 (by omega) (by omega) rp3 k3 s3)
    clear hp
    refine ⟨a, c, rm1, 8, rfl, s1, by decide, by decide, fun y H2 y0 y1 k2 s2 => ?_⟩
    have rp2 := rpM_keep k2 s1 rp1
    walk_at "vc"
    split
    · refine ⟨a, c, rm1, _, rfl, s2, by omega, by omega, fun w H3 w0 w1 k3 s3 => ?_⟩
      have rp3 := rpM_keep k3 s2 rp2
      walk_at "vc"
      exact key _ _ w0 (by omega) rp3 ((k01.trans k2).trans k3) s3
    · exact key _ _ (by omega) (by omega) rp2 (k01.trans k2) s2

/-! ### kind -/
abbrev N_kind : List Str := ["value"]
theorem sc_kind : FnScope N_kind ["value"] (defScope s_kind) := ⟨rfl, rfl, rfl, by decide +kernel, rfl, by decide +kernel, by decide +kernel⟩
def kindV : Val → String
  | .non => "null"
  | .bl true => "true"
  | .bl false => "false"
  | .int _ => "integer"
  | .str _ => "text"
  | .lst _ => "list"
  | .tup _ => "tuple"
  | .tab _ _ => "table"
def sp_kind (K : PySem.W.Frag) (C : Addr) : Sp := fun vs H Q _ => ∃ x v, vs = [v] ∧ RpV C H x v ∧ Q (.str (Str.ofString (kindV x))) H
theorem ok_kind (T : Top K mg C)  : Callee P w K mg base 1 "kind" ["value"] (sp_kind K C) := by
  refine T.d_kind.ok sc_kind (fun _ _ _ _ _ _ us hl => match us, hl with | [_], _ => rfl) (fun vs H Q E h => ?_) (fun f cdv A outer s H vs Q E hr h => ?_)
  · obtain ⟨x, v, rfl, rp, q⟩ := h
    rfl
  · obtain ⟨x, v, rfl, rp, q⟩ := h
    have hu := hu_of hr
    have nd := sc_kind.nd
    refine ⟨_, (pss_cons (ps_if (pt_cmpR is_any (pv 0) pe_non (nomark _)) (pss_one (ps_ret pe_str)) pss_nil)
      (pss_cons (ps_if (pt_cmpR is_any (pv 0) pe_bl (nomark _)) (pss_one (ps_ret pe_str)) pss_nil)
      (pss_cons (ps_if (pt_cmpR is_any (pv 0) pe_bl (nomark _)) (pss_one (ps_ret pe_str)) pss_nil)
      (pss_cons (ps_if (pt_val (pe_callB (isi_T T.tb) (by rfl) T.b.b_isinstance boot_isinstance (pa_cons (pv 0) (pa_cons (pe_bltn (v := .ty "str") (by rfl) T.b.b_str boot_str rfl) pa_nil)))) (pss_one (ps_ret pe_str)) pss_nil)
      (pss_cons (ps_if (pt_val (pe_callB (isi_T T.tb) (by rfl) T.b.b_isinstance boot_isinstance (pa_cons (pv 0) (pa_cons (pe_bltn (v := .ty "list") (by rfl) T.b.b_list boot_list rfl) pa_nil)))) (pss_one (ps_ret pe_str)) pss_nil)
      (pss_cons (ps_if (pt_val (pe_callB (isi_T T.tb) (by rfl) T.b.b_isinstance boot_isinstance (pa_cons (pv 0) (pa_cons (pe_bltn (v := .ty "tuple") (by rfl) T.b.b_tuple boot_tuple rfl) pa_nil)))) (pss_one (ps_ret pe_str)) pss_nil)
      (pss_cons (ps_if (pt_val (pe_callB (isi_T T.tb) (by rfl) T.b.b_isinstance boot_isinstance (pa_cons (pv 0) (pa_cons (pe_tabC T.tb (by rfl)) pa_nil)))) (pss_one (ps_ret pe_str)) pss_nil)
      (pss_one (ps_ret pe_str))))))))), ?_⟩
    refine start0 (σ := [some (v)]) rfl ?_
    cases x with
    | non => cases rp; walk_at "vc"; first | done | exact q
    | bl b => cases rp; cases b <;> (walk_at "vc"; first | done | exact q)
    | int i => cases rp; walk_at "vc"; first | done | exact q
    | str z => cases rp; walk_at "vc"; first | done | exact q
    | lst vs => obtain ⟨a, ws, rfl, h1, h2⟩ := rp; walk_at "vc"; first | done | exact q
    | tup vs => obtain ⟨a, ws, rfl, h1, h2⟩ := rp; walk_at "vc"; first | done | exact q
    | tab ks vs => obtain ⟨a, dx, d, ws, rfl, h1, h2⟩ := rp; walk_at "vc"; first | done | exact q

/-! ### is_integer -/
abbrev N_is_integer : List Str := ["value"]
theorem sc_is_integer : FnScope N_is_integer ["value"] (defScope s_is_integer) := ⟨rfl, rfl, rfl, by decide +kernel, rfl, by decide +kernel, by decide +kernel⟩
def sp_is_integer (K : PySem.W.Frag) : Sp := fun vs H Q _ => ∃ v, vs = [v] ∧ ((∃ n : Int, v = .int n ∧ Q (.bl true) H) ∨ (v = .non ∧ Q (.bl false) H) ∨ (∃ b, v = .bl b ∧ Q (.bl false) H) ∨ ∃ z, v = .str z ∧ Q (.bl false) H)
theorem ok_is_integer (T : Top K mg C)  : Callee P w K mg base 1 "is_integer" ["value"] (sp_is_integer K) := by
  refine T.d_is_integer.ok sc_is_integer (fun _ _ _ _ _ _ us hl => match us, hl with | [_], _ => rfl) (fun vs H Q E h => ?_) (fun f cdv A outer s H vs Q E hr h => ?_)
  · obtain ⟨v, rfl, h⟩ := h
    rfl
  · obtain ⟨v, rfl, h⟩ := h
    have hu := hu_of hr
    have nd := sc_is_integer.nd
    refine ⟨_, (pss_one (ps_ret (pe_and (pe_callB (isi_T T.tb) (by rfl) T.b.b_isinstance boot_isinstance (pa_cons (pv 0) (pa_cons (pe_bltn (v := .ty "int") (by rfl) T.b.b_int boot_int rfl) pa_nil))) (pe_one (pe_not (pe_callB (isi_T T.tb) (by rfl) T.b.b_isinstance boot_isinstance (pa_cons (pv 0) (pa_cons (pe_bltn (v := .ty "bool") (by rfl) T.b.b_bool boot_bool rfl) pa_nil)))))))), ?_⟩
    refine start0 (σ := [some (v)]) rfl ?_
    rcases h with ⟨n, rfl, q⟩ | ⟨rfl, q⟩ | ⟨b, rfl, q⟩ | ⟨z, rfl, q⟩ <;> (walk_at "vc"; first | done | exact q)

/-! ### fresh -/
abbrev N_fresh : List Str := ["value", "item"]
theorem sc_fresh : FnScope N_fresh ["value"] (defScope s_fresh) := ⟨rfl, rfl, rfl, by decide +kernel, rfl, by decide +kernel, by decide +kernel⟩
def inv_fr (C : Addr) (G : Hp) (vs : List Val) (H : Hp) (D l : Addr) (xs : List V) (i : Nat) (ys : List V) (H2 : Hp) : Prop := RpVL C (hid (plus G (new H H2)) D) (vs.take i) ys ∧ Same H H2
def sp_fresh (K : PySem.W.Frag) (C : Addr) (n : Nat) : Sp := fun vs H Q _ => ∃ (G : Hp) (x : Val) (v : V), vs = [v] ∧ Same G H ∧ RpV C G x v ∧ vdepth x < n ∧ vparts x ≤ 50000 ∧ ∀ w H', Same H H' → RpV C (plus G (new H H')) x w → Q w H'
theorem step_fresh (T : Top K mg C)  (n : Nat) (C_fresh : Callee P w K mg base (0 + n) "fresh" ["value"] (sp_fresh K C n)) : Callee P w K mg base (0 + n + 1) "fresh" ["value"] (sp_fresh K C (n + 1)) := by
  refine T.d_fresh.ok sc_fresh (fun _ _ _ _ _ _ us hl => match us, hl with | [_], _ => rfl) (fun vs H Q E h => ?_) (fun f cdv A outer s H vs Q E hr h => ?_)
  · obtain ⟨G, x, v, rfl, sG, rp, dp, nn, q⟩ := h
    rfl
  · obtain ⟨G, x, v, rfl, sG, rp, dp, nn, q⟩ := h
    have hu := hu_of hr
    have nd := sc_fresh.nd
    refine ⟨_, (pss_cons (ps_if (pt_val (pe_callB (isi_T T.tb) (by rfl) T.b.b_isinstance boot_isinstance (pa_cons (pv 0) (pa_cons (pe_bltn (v := .ty "list") (by rfl) T.b.b_list boot_list rfl) pa_nil)))) (pss_one (ps_ret (pe_lc (own := [("item", 1)]) rfl nd (pi_seq (pv 0)) (blkOk_by (own := [("item", 1)]) (N := N_fresh) (sc := defScope s_fresh) (by decide +kernel)) (fun _ _ _ _ _ => (pg_name (i := 1) nd rfl (Or.inl rfl) (hf := Or.inr rfl))) (fun _ _ _ _ _ => pts_nil) (fun _ _ _ _ _ => (pe_fn C_fresh (hr.mono (by first | decide | omega)) (by rfl) (pa_cons (pv 1) pa_nil)))))) pss_nil)
      (pss_cons (ps_if (pt_val (pe_callB (isi_T T.tb) (by rfl) T.b.b_isinstance boot_isinstance (pa_cons (pv 0) (pa_cons (pe_bltn (v := .ty "tuple") (by rfl) T.b.b_tuple boot_tuple rfl) pa_nil)))) (pss_one (ps_ret (pe_callTy tuple_any (by rfl) T.b.b_tuple boot_tuple (pa_cons (pe_lc (own := [("item", 1)]) rfl nd (pi_seq (pv 0)) (blkOk_by (own := [("item", 1)]) (N := N_fresh) (sc := defScope s_fresh) (by decide +kernel)) (fun _ _ _ _ _ => (pg_name (i := 1) nd rfl (Or.inl rfl) (hf := Or.inr rfl))) (fun _ _ _ _ _ => pts_nil) (fun _ _ _ _ _ => (pe_fn C_fresh (hr.mono (by first | decide | omega)) (by rfl) (pa_cons (pv 1) pa_nil)))) pa_nil)))) pss_nil)
      (pss_one (ps_ret (pv 0))))), ?_⟩
    refine start0 (σ := [some (v), none]) rfl ?_
    have leaf : RpV C H x v → RpV C (plus G (new H H)) x v := fun _ => RpV.mono plus_l _ _ rp
    cases x with
    | non => cases rp; walk_at "vc"; exact q _ _ (.refl _) rfl
    | bl b => cases rp; walk_at "vc"; exact q _ _ (.refl _) rfl
    | int i => cases rp; walk_at "vc"; exact q _ _ (.refl _) rfl
    | str z => cases rp; walk_at "vc"; exact q _ _ (.refl _) rfl
    | tab ks vs =>
      have rp' := RpV.mono (plus_l (N := new H H)) _ _ rp
      obtain ⟨a, dx, d, ws, rfl, h1, h2⟩ := rp
      have h1' := sG _ _ h1
      walk_at "vc"
      exact q _ _ (.refl _) rp'
    | lst vs =>
      clear leaf
      obtain ⟨a, ws, rfl, h1, h2⟩ := rp
      have h1' := sG _ _ h1
      have hn := vpartsL_ge vs
      have hn3 : 1 + vpartsL vs ≤ 50000 := nn
      have hd3 : 1 + vdepthL vs < n + 1 := dp
      have lv := h2.len
      walk_at "vc"
      refine .inl ⟨⟨_, .inl (.inl h1')⟩, fun D hD => ?_⟩
      refine lc_l (inv_fr C G vs H D a ws) ⟨rfl, sm_new hD⟩ (fun i ys H3 ⟨_, s⟩ => .inl (.inl (s _ _ h1'))) ?_ ?_
      · rintro i x ys H3 hx el hy ⟨rp3, s3⟩
        obtain ⟨r, er, rpr⟩ := h2.get hx
        have hi : i < ws.length := (List.getElem?_eq_some_iff.mp hx).1
        have hn2 := vparts_get er
        have hd2 := vdepth_get er
        walk_at "vc"
        refine ⟨G, r, x, rfl, sG.trans s3, rpr, by omega, by omega, fun w H4 s4 rp4 => ?_⟩
        refine LcNext.mk (s4 _ _ hy) el (by omega) ⟨?_, sm_mut hD (s3.trans s4)⟩
        rw [pl_upd, List.take_add_one, er]
        exact (RpVL.mono (pl_old s4) _ _ rp3).snoc (RpV.mono (pl_made sG s3 hD hy) _ _ rp4)
      · rintro ys H3 el hy ⟨rp3, s3⟩
        rw [lv, List.take_of_length_le (Nat.le_refl _)] at rp3
        exact q _ _ s3 ⟨D, ys, rfl, pl_get (sG.free hD) hD hy, RpVL.mono hid_same _ _ rp3⟩
    | tup vs =>
      clear leaf
      obtain ⟨a, ws, rfl, h1, h2⟩ := rp
      have h1' := sG _ _ h1
      have hn := vpartsL_ge vs
      have hn3 : 1 + vpartsL vs ≤ 50000 := nn
      have hd3 : 1 + vdepthL vs < n + 1 := dp
      have lv := h2.len
      walk_at "vc"
      refine .inr ⟨⟨_, .inl (.inl h1')⟩, fun D hD => ?_⟩
      refine lc_t (inv_fr C G vs H D a ws) ⟨rfl, sm_new hD⟩ (fun i ys H3 ⟨_, s⟩ => .inl (.inl (s _ _ h1'))) ?_ ?_
      · rintro i x ys H3 hx el hy ⟨rp3, s3⟩
        obtain ⟨r, er, rpr⟩ := h2.get hx
        have hi : i < ws.length := (List.getElem?_eq_some_iff.mp hx).1
        have hn2 := vparts_get er
        have hd2 := vdepth_get er
        walk_at "vc"
        refine ⟨G, r, x, rfl, sG.trans s3, rpr, by omega, by omega, fun w H4 s4 rp4 => ?_⟩
        refine LcNext.mk (s4 _ _ hy) el (by omega) ⟨?_, sm_mut hD (s3.trans s4)⟩
        rw [pl_upd, List.take_add_one, er]
        exact (RpVL.mono (pl_old s4) _ _ rp3).snoc (RpV.mono (pl_made sG s3 hD hy) _ _ rp4)
      · rintro ys H3 el hy ⟨rp3, s3⟩
        rw [lv, List.take_of_length_le (Nat.le_refl _)] at rp3
        walk_at "vc"
        intro p hp
        refine q _ _ (s3.trans (sm_new hp)) ⟨p, ys, rfl, pl_get ((sG.trans s3).free hp) (s3.free hp) upd_same, RpVL.mono (fun b o h => hid_same b o (pl_more hp b o h)) _ _ rp3⟩
theorem ok_fresh (T : Top K mg C)  : ∀ n, Callee P w K mg base (0 + n) "fresh" ["value"] (sp_fresh K C n)
  | 0 => T.d_fresh.bot (N := N_fresh) (fun _ _ _ _ _ _ us hl => match us, hl with | [_], _ => rfl) (fun vs H Q E h => by
      obtain ⟨G, x, v, _, _, _, h, _⟩ := h
      omega)
  | n + 1 => step_fresh T  n (ok_fresh T  n)

/-! ### Table.__init__ -/
abbrev N_Table___init__ : List Str := ["self", "entries", "held", "key", "item"]
theorem sc_Table___init__ : FnScope N_Table___init__ ["self", "entries"] (defScope s_Table___init__) := ⟨rfl, rfl, rfl, by decide +kernel, rfl, by decide +kernel, by decide +kernel⟩
def inv_init (C : Addr) (G : Hp) (H : Hp) (a l d : Addr) (ks : List Key) (vals : List Val) (i : Nat) (σ : L2.St) (H2 : Hp) : Prop := ∃ (us : List V) (x y : Option V), σ = [some (.ref a), some (.ref l), some (.ref d), x, y] ∧ us.length = i ∧ H2 d = some (.dK ((ks.take i).zip us)) ∧ RpVL C (hid (plus G (new H H2)) d) (vals.take i) us ∧ Same H H2
def sp_Table (K : PySem.W.Frag) (C : Addr) : Sp := fun vs H Q _ => ∃ (G : Hp) (l : Addr) (es : List V) (ks : List Key) (ws : List V) (vals : List Val), vs = [.ref l] ∧ Same G H ∧ (H l = some (.lst es) ∨ H l = some (.tup es)) ∧ Ents H es ks ws ∧ ks.Nodup ∧ RpVL C G vals ws ∧ vdepthL vals < 63 ∧ vpartsL vals ≤ 50000 ∧
  ∀ a H', Same H H' → RpV C (plus G (new H H')) (.tab ks vals) (.ref a) → Q (.ref a) H'
def sp_init (K : PySem.W.Frag) (C : Addr) : Sp := fun vs H Q _ => ∃ (G : Hp) (a dx l : Addr) (es : List V) (ks : List Key) (ws : List V) (vals : List Val), vs = [.ref a, .ref l] ∧ H a = some (.ins C dx []) ∧ G a = none ∧ Same G H ∧ (H l = some (.lst es) ∨ H l = some (.tup es)) ∧ Ents H es ks ws ∧ ks.Nodup ∧ RpVL C G vals ws ∧ vdepthL vals < 63 ∧ vpartsL vals ≤ 50000 ∧
  ∀ d us H', H d = none → (∀ b o, H b = some o → b ≠ a → H' b = some o) → H' a = some (.ins C dx [(Str.ofString "held", .ref d)]) → H' d = some (.dK (ks.zip us)) → RpVL C (plus G (new H H')) vals us → Q .non H'
theorem ok_Table___init__ (T : Top K mg C) (C_is_integer : Callee P w K mg base 1 "is_integer" ["value"] (sp_is_integer K)) (C_fresh : Callee P w K mg base 63 "fresh" ["value"] (sp_fresh K C 63)) : NewC P w K mg base 64 "Table" C (sp_Table K C) := by
  obtain ⟨dv, D⟩ := T.i_Table
  refine D.new T.tb.mak T.tb.kC T.tb.mgC sc_Table___init__ (fun _ _ _ _ _ _ _ us its h1 h2 => match us, its, h1, h2 with | [_, _], [_], _, _ => ⟨_, rfl, rfl⟩) (spI := sp_init K C) (fun vs H Q E h => ?_) (fun f cdv A outer s H vs Q E hr h => ?_) (fun vs H Q h a dx ha hdx ne => ?_)
  · obtain ⟨G, a, dx, l, es, ks, ws, vals, rfl, _⟩ := h
    rfl
  · obtain ⟨G, a, dx, l, es, ks, ws, vals, rfl, hia, hGa, sG, hl, he, nd0, rp, dp, nn, q⟩ := h
    have hu := hu_of hr
    have nd := sc_Table___init__.nd
    refine ⟨_, (pss_cons (ps_set (i := 2) nd rfl (Or.inl rfl) pe_dnewK)
      (pss_cons (ps_for PassesOwn.never rfl (pi_seq (pv 1)) (pg_tup rfl (pgs_cons (pg_name (i := 3) nd rfl (Or.inl rfl)) (pgs_cons (pg_name (i := 4) nd rfl (Or.inl rfl)) pgs_nil))) (pss_cons (ps_if (PW.pt (pw_and (pt_not (pt_val (pe_fn C_is_integer (hr.mono (by first | decide | omega)) (by rfl) (pa_cons (pv 3) pa_nil)))) (pw_and1 (pt_not (pt_val (pe_callB (isi_T T.tb) (by rfl) T.b.b_isinstance boot_isinstance (pa_cons (pv 3) (pa_cons (pe_bltn (v := .ty "str") (by rfl) T.b.b_str boot_str rfl) pa_nil)))))))) (pss_one ps_never) pss_nil)
      (pss_cons (ps_if (pt_cmp (pc_din hu (pv 3) (pv 2))) (pss_one ps_never) pss_nil)
      (pss_one (ps_dput hu (pv 2) (pv 3) (pe_fn C_fresh (hr.mono (by first | decide | omega)) (by rfl) (pa_cons (pv 4) pa_nil)) rfl)))))
      (pss_one (ps_fld (pv 0) (pv 2) rfl)))), ?_⟩
    refine start0 (σ := [some (.ref a), some (.ref l), none, none, none]) rfl ?_
    have cl := T.tb.cl
    have nH := T.tb.nH
    have le := he.len
    have lr := rp.len
    have hn := vpartsL_ge vals
    walk_at "vc"
    intro d hd
    have nda : d ≠ a := (ne_of_none hia hd).symm
    refine lp_seq (es := es) (hl.imp (sm_new hd _ _) (sm_new hd _ _)) (inv_init C G H a l d ks vals) ⟨[], none, none, rfl, rfl, upd_same, rfl, sm_new hd⟩ (fun i σ H3 ⟨_, _, _, _, _, _, _, s3⟩ o ho => ?_) ?_ ?_
    · have nl : l ≠ d := by
        rcases hl with h | h
        · exact ne_of_none h hd
        · exact ne_of_none h hd
      rw [upd_ne nl] at ho
      exact s3 _ _ ho
    · rintro i e σ H3 hx ⟨us, x, y, rfl, el, hd3, rp3, s3⟩
      obtain ⟨t, k, w, rfl, ek, ew, ht⟩ := he.get hx
      have hi : i < es.length := (List.getElem?_eq_some_iff.mp hx).1
      obtain ⟨v, ev, rpv⟩ := rp.get ew
      have hn2 := vparts_get ev
      have hd2 := vdepth_get ev
      have hkn : k ∉ ks.take i := nodup_take nd0 ek
      have hv0 : valV ((ks.take i).zip us) k = none := val_zip_none hkn
      refine g_two (s3 _ _ ht) ?_
      have fin : sp_fresh K C 63 [w] H3 (fun v H1 => ∃ kvs, H1 d = some (HO.dK kvs) ∧ kvs.length < sizeLine ∧ inv_init C G H a l d ks vals (i + 1) [some (.ref a), some (.ref l), some (.ref d), some (kV k), some w] (upd H1 d (.dK (putK kvs k v)))) E0 := by
        refine ⟨G, v, w, rfl, sG.trans s3, rpv, by omega, by omega, fun w4 H4 s4 rp4 => ⟨_, s4 _ _ hd3, sizeN (by rw [List.length_zip]; omega), us ++ [w4], _, _, rfl, by simp [el], ?_, ?_, sm_mut hd (s3.trans s4)⟩⟩
        · rw [upd_same, putK_new _ hv0, List.take_add_one, ek]
          rw [List.zip_append (by rw [List.length_take]; omega)]
          rfl
        · rw [pl_upd, List.take_add_one, ev]
          exact (RpVL.mono (pl_old s4) _ _ rp3).snoc (RpV.mono (pl_made sG s3 hd hd3) _ _ rp4)
      cases k with
      | inl n =>
        simp only [kV] at fin ⊢
        walk_at "vc"
        refine ⟨_, rfl, .inl ⟨n, rfl, ?_⟩⟩
        walk_at "vc"
      | inr z =>
        simp only [kV] at fin ⊢
        walk_at "vc"
        refine ⟨_, rfl, .inr (.inr (.inr ⟨z, rfl, ?_⟩))⟩
        walk_at "vc"
    · rintro σ H3 ⟨us, x, y, rfl, el, hd3, rp3, s3⟩
      rw [List.take_of_length_le (by omega)] at hd3 rp3
      have hia3 := s3 _ _ hia
      walk_at "vc"
      have na3 : a ≠ d := nda.symm
      refine ⟨by show 0 < 1000; decide, q d us _ hd (fun b o h n => by rw [upd_ne n]; exact s3 _ _ h) upd_same (by rw [upd_ne nda]; exact hd3) ?_⟩
      refine RpVL.mono (fun b o h => ?_) _ _ rp3
      have h1 := hid_same b o h
      have nba : b ≠ a := fun e => by
        subst e
        unfold plus at h1
        rw [hGa] at h1
        unfold new at h1
        rw [hia] at h1
        cases h1
      unfold plus at h1 ⊢
      split at h1
      · exact h1
      · unfold new at h1 ⊢
        rw [upd_ne nba]
        exact h1
  · obtain ⟨G, l, es, ks, ws, vals, rfl, sG, hl, he, nd0, rp, dp, nn, q⟩ := h
    have s1 : Same H (upd H dx (.own a)) := sm_new hdx
    have ha1 : (upd H dx (.own a)) a = none := by rw [upd_ne ne.symm]; exact ha
    have s2 : Same H (upd (upd H dx (.own a)) a (.ins C dx [])) := s1.trans (sm_new ha1)
    refine ⟨G, a, dx, l, es, ks, ws, vals, rfl, upd_same, sG.free ha, sG.trans s2, hl.imp (s2 _ _) (s2 _ _), he.mono s2, nd0, rp, dp, nn, fun d us H' hd hk h1 h2 h3 => ⟨rfl, ?_⟩⟩
    have hdn := s2.free hd
    refine q a H' (fun b o h => hk b o (s2 b o h) (ne_of_none h ha)) ⟨a, dx, d, us, rfl, pl_get (sG.free ha) ha h1, pl_get (sG.free hdn) hdn h2, nd0, ?_, RpVL.mono (pl_elder s2) _ _ h3⟩
    rw [he.len.1, ← he.len.2, rp.len]

/-! ### _law_made -/
abbrev N__law_made : List Str := ["_law_model_here", "_law_key_here", "_law_item", "_law_items"]
theorem sc__law_made : FnScope N__law_made ["_law_model_here"] (defScope s__law_made) := ⟨rfl, rfl, rfl, by decide +kernel, rfl, by decide +kernel, by decide +kernel⟩
def inv_mdl (C : Addr) (H : Hp) (D : Addr) (rs : List Md) (i : Nat) (ys : List V) (H2 : Hp) : Prop := RpVL C (hid (new H H2) D) (valML (rs.take i)) ys ∧ Same H H2
def inv_mdt (C : Addr) (H : Hp) (D : Addr) (zs : List Key) (rs : List Md) (i : Nat) (ys : List V) (H2 : Hp) : Prop := ∃ ws, Ents (hid (new H H2) D) ys (zs.take i) ws ∧ RpVL C (hid (new H H2) D) (valML (rs.take i)) ws ∧ Same H H2
def sp__law_made (K : PySem.W.Frag) (C : Addr) (n : Nat) : Sp := fun vs H Q _ => ∃ (m : Md) (v : V), vs = [v] ∧ RpM H m v ∧ OkM m ∧ mdepth m < n ∧ mdepth m < 62 ∧ mnodes m ≤ 2000 ∧ ∀ w H', Same H H' → RpV C (new H H') (valM m) w → Q w H'
theorem step__law_made (T : Top K mg C) (C_Table : NewC P w K mg base 64 "Table" C (sp_Table K C)) (n : Nat) (C__law_made : Callee P w K mg base (65 + n) "_law_made" ["_law_model_here"] (sp__law_made K C n)) : Callee P w K mg base (65 + n + 1) "_law_made" ["_law_model_here"] (sp__law_made K C (n + 1)) := by
  refine T.d__law_made.ok sc__law_made (fun _ _ _ _ _ _ us hl => match us, hl with | [_], _ => rfl) (fun vs H Q E h => ?_) (fun f cdv A outer s H vs Q E hr h => ?_)
  · obtain ⟨m, v, rfl, rp, ok, dp, dp2, nn, q⟩ := h
    rfl
  · obtain ⟨m, v, rfl, rp, ok, dp, dp2, nn, q⟩ := h
    have hu := hu_of hr
    have nd := sc__law_made.nd
    refine ⟨_, (pss_cons (ps_if (pt_not (pt_val (pe_callB (isi_T T.tb) (by rfl) T.b.b_isinstance boot_isinstance (pa_cons (pv 0) (pa_cons (pe_bltn (v := .ty "tuple") (by rfl) T.b.b_tuple boot_tuple rfl) pa_nil))))) (pss_one (ps_ret (pv 0))) pss_nil)
      (pss_cons (ps_if (pt_cmpR (eq_any hr) (pe_ix ix_any (pv 0) pe_int (fun _ _ => rfl)) pe_str (nomark _)) (pss_one (ps_ret (pe_new C_Table (hr.mono (by first | decide | omega)) (by rfl) (pa_cons (pe_lc (own := [("_law_key_here", 1), ("_law_item", 2)]) (g := gTup K 2 (gCons (gName 1) (gCons (gName 2) gNil))) rfl nd (pi_list (pe_ix ix_any (pv 0) pe_int (fun _ _ => rfl))) (blkOk_by (own := [("_law_key_here", 1), ("_law_item", 2)]) (N := N__law_made) (sc := defScope s__law_made) (by decide +kernel)) (fun _ _ _ _ _ => (pg_tup rfl (pgs_cons (pg_name (i := 1) nd rfl (Or.inl rfl) (hf := Or.inr rfl)) (pgs_cons (pg_name (i := 2) nd rfl (Or.inl rfl) (hf := Or.inr rfl)) pgs_nil)))) (fun _ _ _ _ _ => pts_nil) (fun _ _ _ _ _ => (pe_tup (pa_cons (pv 1) (pa_cons (pe_fn C__law_made (hr.mono (by first | decide | omega)) (by rfl) (pa_cons (pv 2) pa_nil)) pa_nil))))) pa_nil)))) pss_nil)
      (pss_cons (ps_setLc (i := 3) (own := [("_law_item", 2)]) rfl nd rfl rfl (sw_true rfl rfl rfl (by decide +kernel)) (pi_list (pe_ix ix_any (pv 0) pe_int (fun _ _ => rfl))) (blkOk_by (own := [("_law_item", 2)]) (N := N__law_made) (sc := defScope s__law_made) (by decide +kernel)) (fun _ _ _ _ _ => (pg_name (i := 2) nd rfl (Or.inl rfl) (hf := Or.inr rfl))) (fun _ _ _ _ _ => pts_nil) (fun _ _ _ _ _ => (pe_fn C__law_made (hr.mono (by first | decide | omega)) (by rfl) (pa_cons (pv 2) pa_nil))))
      (pss_cons (ps_if (pt_cmpR (eq_any hr) (pe_ix ix_any (pv 0) pe_int (fun _ _ => rfl)) pe_str (nomark _)) (pss_one (ps_ret (pe_callTy tuple_any (by rfl) T.b.b_tuple boot_tuple (pa_cons (pv 3) pa_nil)))) pss_nil)
      (pss_one (ps_ret (pv 3))))))), ?_⟩
    refine start0 (σ := [some (v), none, none, none]) rfl ?_
    cases m with
    | non => cases rp; walk_at "vc"; exact q _ _ (.refl _) rfl
    | bl b => cases rp; walk_at "vc"; exact q _ _ (.refl _) rfl
    | int i => cases rp; walk_at "vc"; exact q _ _ (.refl _) rfl
    | str z => cases rp; walk_at "vc"; exact q _ _ (.refl _) rfl
    | seq z rs =>
      obtain ⟨t, l, vs, rfl, h1, h2, h3⟩ := rp
      have hn := mnodesL_ge rs
      have hn3 : 1 + mnodesL rs ≤ 2000 := nn
      have hd3 : 1 + mdepthL rs < n + 1 := dp
      have hd4 : 1 + mdepthL rs < 62 := dp2
      have lv := h3.len
      have loop : ∀ (R : VK) D, H D = none → (∀ ys H3, H3 D = some (.lst ys) → Same H H3 → RpVL C (hid (new H H3) D) (valML rs) ys → R (.ref D) H3) → LcLoop (Itl K l) (gName 2) tYes (tCall (sp__law_made K C n) [] E0 (tCons (tVar 2) tNil)) [2] [some (.ref t), none, none, none] R D H := fun R D hD hR => by
        refine lc_l (xs := vs) (inv_mdl C H D rs) ⟨rfl, sm_new hD⟩ (fun i ys H3 ⟨_, s⟩ => .inl (.inl (s _ _ h2))) ?_ ?_
        · rintro i x ys H3 hx el hy ⟨rp3, s3⟩
          obtain ⟨r, er, rpr⟩ := h3.get hx
          have hi : i < vs.length := (List.getElem?_eq_some_iff.mp hx).1
          have hn2 := mnodes_get er
          have hd2 := mdepth_get er
          walk_at "vc"
          refine ⟨r, x, rfl, RpM.mono s3 _ _ rpr, ok.1.get er, by omega, by omega, by omega, fun w H4 s4 rp4 => ?_⟩
          refine LcNext.mk (s4 _ _ hy) el (by omega) ⟨?_, sm_mut hD (s3.trans s4)⟩
          rw [hid_new_upd, List.take_add_one, er]
          exact valML_snoc _ _ ▸ (RpVL.mono (sm_old s4) _ _ rp3).snoc (RpV.mono (sm_made s3 hy) _ _ rp4)
        · rintro ys H3 el hy ⟨rp3, s3⟩
          rw [lv, List.take_of_length_le (Nat.le_refl _)] at rp3
          exact hR ys H3 hy s3 rp3
      obtain ⟨okl, rfl | rfl⟩ := ok
      · have n1 : ¬ (Str.ofString "tuple" = Str.ofString "table") := by decide +kernel
        walk_at "vc"
        refine ⟨⟨_, .inl (.inl h2)⟩, fun D hD => loop _ D hD fun ys H3 hy s3 rp3 => ?_⟩
        have h1' := s3 _ _ h1
        walk_at "vc"
        intro p hp
        exact q _ _ (s3.trans (sm_new hp)) ⟨p, ys, rfl, new_of (s3.free hp) upd_same, RpVL.mono (fun b o h => hid_same b o (new_more hp b o h)) _ _ rp3⟩
      · have n1 : ¬ (Str.ofString "list" = Str.ofString "table") := by decide +kernel
        have n2 : ¬ (Str.ofString "list" = Str.ofString "tuple") := by decide +kernel
        walk_at "vc"
        refine ⟨⟨_, .inl (.inl h2)⟩, fun D hD => loop _ D hD fun ys H3 hy s3 rp3 => ?_⟩
        have h1' := s3 _ _ h1
        walk_at "vc"
        exact q _ _ s3 (by rw [valM, if_neg n2]; exact ⟨D, ys, rfl, new_of hD hy, RpVL.mono hid_same _ _ rp3⟩)
    | tab zs rs =>
      obtain ⟨t, l, vs, rfl, h1, h2, h3⟩ := rp
      have hn := mnodesL_ge rs
      have hn3 : 1 + mnodesL rs ≤ 2000 := nn
      have hd3 : 1 + mdepthL rs < n + 1 := dp
      have hd4 : 1 + mdepthL rs < 62 := dp2
      have lv := h3.len
      obtain ⟨ok1, ok2, ok3, ok4⟩ := ok
      walk_at "vc"
      refine ⟨⟨_, .inl (.inl h2)⟩, fun D hD => ?_⟩
      refine lc_g (xs := vs) (inv_mdt C H D zs rs) ⟨[], ⟨rfl, rfl⟩, rfl, sm_new hD⟩ (fun i ys H3 ⟨_, _, _, s⟩ => .inl (.inl (s _ _ h2))) ?_ ?_
      · rintro i x ys H3 hx el hy ⟨ws, en3, rp3, s3⟩
        obtain ⟨r, z, t2, u, er, ez, rfl, ht2, rpr⟩ := h3.get hx
        have hi : i < vs.length := (List.getElem?_eq_some_iff.mp hx).1
        have hn2 := mnodes_get er
        have hd2 := mdepth_get er
        refine g_two (s3 _ _ ht2) ⟨rfl, ?_⟩
        walk_at "vc"
        refine ⟨r, u, rfl, RpM.mono s3 _ _ rpr, ok1.get er, by omega, by omega, by omega, fun w H4 s4 rp4 => ?_⟩
        walk_at "vc"
        intro p hp
        have hy4 := s4 _ _ hy
        have npD : p ≠ D := (ne_of_none hy4 hp).symm
        have hp0 := (s3.trans s4).free hp
        have sm : Same (hid (new H H4) D) (hid (new H (upd H4 p (.tup [kV z, w]))) D) := new_more hp
        refine LcNext.mk (ys := ys) (by rw [upd_ne npD.symm]; exact hy4) el (by omega) ⟨ws ++ [w], ?_, ?_, sm_mut hD ((s3.trans s4).trans (sm_new hp))⟩
        · rw [hid_new_upd, List.take_add_one, ez]
          exact Ents.snoc ((en3.mono (sm_old s4)).mono sm) (hid_get (new_of hp0 upd_same) npD)
        · rw [hid_new_upd, List.take_add_one, er]
          exact valML_snoc _ _ ▸ (RpVL.mono sm _ _ (RpVL.mono (sm_old s4) _ _ rp3)).snoc (RpV.mono sm _ _ (RpV.mono (sm_made s3 hy) _ _ rp4))
      · rintro ys H3 el hy ⟨ws, en3, rp3, s3⟩
        rw [List.take_of_length_le (by omega)] at en3 rp3
        have e1 := vdepthL_valM rs
        have e2 := vpartsL_valM rs
        refine ⟨hid (new H H3) D, D, ys, zs, ws, valML rs, rfl, fun b o h => new_same b o (hid_same b o h), .inl hy, en3.mono fun b o h => new_same b o (hid_same b o h), ok4, rp3, by omega, by omega, fun a H4 s4 rp4 => q _ _ (s3.trans s4) (RpV.mono (plus_same (fun b o h => ?_) (fun b o h => hid_same b o (sm_made s3 hy b o h))) _ _ rp4)⟩
        exact hid_same b o (sm_old s4 b o h)
theorem ok__law_made (T : Top K mg C) (C_Table : NewC P w K mg base 64 "Table" C (sp_Table K C)) : ∀ n, Callee P w K mg base (65 + n) "_law_made" ["_law_model_here"] (sp__law_made K C n)
  | 0 => T.d__law_made.bot (N := N__law_made) (fun _ _ _ _ _ _ us hl => match us, hl with | [_], _ => rfl) (fun vs H Q E h => by
      obtain ⟨m, v, _, _, _, h, _⟩ := h
      omega)
  | n + 1 => step__law_made T C_Table n (ok__law_made T C_Table n)

/-! ### _law_word -/
abbrev N__law_word : List Str := ["_law_model_here"]
theorem sc__law_word : FnScope N__law_word ["_law_model_here"] (defScope s__law_word) := ⟨rfl, rfl, rfl, by decide +kernel, rfl, by decide +kernel, by decide +kernel⟩
def wordM : Md → Str
  | .non => Str.ofString "null"
  | .bl true => Str.ofString "true"
  | .bl false => Str.ofString "false"
  | .int _ => Str.ofString "integer"
  | .str _ => Str.ofString "text"
  | .seq z _ => z
  | .tab _ _ => Str.ofString "table"
def sp__law_word (K : PySem.W.Frag) : Sp := fun vs H Q _ => ∃ m v, vs = [v] ∧ RpM H m v ∧ Q (.str (wordM m)) H
theorem ok__law_word (T : Top K mg C)  : Callee P w K mg base 1 "_law_word" ["_law_model_here"] (sp__law_word K) := by
  refine T.d__law_word.ok sc__law_word (fun _ _ _ _ _ _ us hl => match us, hl with | [_], _ => rfl) (fun vs H Q E h => ?_) (fun f cdv A outer s H vs Q E hr h => ?_)
  · obtain ⟨m, v, rfl, rp, q⟩ := h
    rfl
  · obtain ⟨m, v, rfl, rp, q⟩ := h
    have hu := hu_of hr
    have nd := sc__law_word.nd
    refine ⟨_, (pss_cons (ps_if (pt_cmpR is_any (pv 0) pe_non (nomark _)) (pss_one (ps_ret pe_str)) pss_nil)
      (pss_cons (ps_if (pt_cmpR is_any (pv 0) pe_bl (nomark _)) (pss_one (ps_ret pe_str)) pss_nil)
      (pss_cons (ps_if (pt_cmpR is_any (pv 0) pe_bl (nomark _)) (pss_one (ps_ret pe_str)) pss_nil)
      (pss_cons (ps_if (pt_val (pe_callB (isi_T T.tb) (by rfl) T.b.b_isinstance boot_isinstance (pa_cons (pv 0) (pa_cons (pe_bltn (v := .ty "str") (by rfl) T.b.b_str boot_str rfl) pa_nil)))) (pss_one (ps_ret pe_str)) pss_nil)
      (pss_cons (ps_if (pt_val (pe_callB (isi_T T.tb) (by rfl) T.b.b_isinstance boot_isinstance (pa_cons (pv 0) (pa_cons (pe_bltn (v := .ty "tuple") (by rfl) T.b.b_tuple boot_tuple rfl) pa_nil)))) (pss_one (ps_ret (pe_ix ix_any (pv 0) pe_int (fun _ _ => rfl)))) pss_nil)
      (pss_one (ps_ret pe_str))))))), ?_⟩
    refine start0 (σ := [some (v)]) rfl ?_
    cases m with
    | non => cases rp; walk_at "vc"; first | done | exact q
    | bl b => cases rp; cases b <;> (walk_at "vc"; first | done | exact q)
    | int i => cases rp; walk_at "vc"; first | done | exact q
    | str z => cases rp; walk_at "vc"; first | done | exact q
    | seq z rs => obtain ⟨t, l, vs, rfl, h1, h2, h3⟩ := rp; walk_at "vc"; first | done | exact q
    | tab zs rs => obtain ⟨t, l, vs, rfl, h1, h2, h3⟩ := rp; walk_at "vc"; first | done | exact q

/-! ### _law_kinds_right -/
abbrev N__law_kinds_right : List Str := ["_law_model_here", "_law_found", "_law_member", "_law_item"]
theorem sc__law_kinds_right : FnScope N__law_kinds_right ["_law_model_here"] (defScope s__law_kinds_right) := ⟨rfl, rfl, rfl, by decide +kernel, rfl, by decide +kernel, by decide +kernel⟩
def inv_kr (v w : V) (H : Hp) (i : Nat) (σ : L2.St) (H2 : Hp) : Prop := ∃ (x y : Option V), σ = [some v, some w, x, y] ∧ Same H H2
theorem kind_word {m : Md} (ok : OkM m) : Str.ofString (kindV (valM m)) = wordM m := by
  cases m with
  | bl b => cases b <;> rfl
  | seq w rs =>
    obtain ⟨_, rfl | rfl⟩ := ok
    · rw [valM, if_pos rfl]; rfl
    · rw [valM, if_neg (by decide +kernel)]; rfl
  | _ => rfl
def sp__law_kinds_right (K : PySem.W.Frag) (C : Addr) (n : Nat) : Sp := fun vs H Q _ => ∃ (m : Md) (v : V), vs = [v] ∧ RpM H m v ∧ OkM m ∧ mdepth m < n ∧ mdepth m < 61 ∧ mnodes m ≤ 2000 ∧ ∀ H', Same H H' → Q (.bl true) H'
theorem step__law_kinds_right (T : Top K mg C) (C_kind : Callee P w K mg base 1 "kind" ["value"] (sp_kind K C)) (C__law_made : Callee P w K mg base 126 "_law_made" ["_law_model_here"] (sp__law_made K C 61)) (C__law_word : Callee P w K mg base 1 "_law_word" ["_law_model_here"] (sp__law_word K)) (n : Nat) (C__law_kinds_right : Callee P w K mg base (126 + n) "_law_kinds_right" ["_law_model_here"] (sp__law_kinds_right K C n)) : Callee P w K mg base (126 + n + 1) "_law_kinds_right" ["_law_model_here"] (sp__law_kinds_right K C (n + 1)) := by
  refine T.d__law_kinds_right.ok sc__law_kinds_right (fun _ _ _ _ _ _ us hl => match us, hl with | [_], _ => rfl) (fun vs H Q E h => ?_) (fun f cdv A outer s H vs Q E hr h => ?_)
  · obtain ⟨m, v, rfl, rp, ok, dp, dp2, nn, q⟩ := h
    rfl
  · obtain ⟨m, v, rfl, rp, ok, dp, dp2, nn, q⟩ := h
    have hu := hu_of hr
    have nd := sc__law_kinds_right.nd
    refine ⟨_, (pss_cons (ps_set (i := 1) nd rfl (Or.inl rfl) (pe_fn C_kind (hr.mono (by first | decide | omega)) (by rfl) (pa_cons (pe_fn C__law_made (hr.mono (by first | decide | omega)) (by rfl) (pa_cons (pv 0) pa_nil)) pa_nil)))
      (pss_cons (ps_if (PW.pt (pw_or (pt_not (pt_val (pe_callB (isi_T T.tb) (by rfl) T.b.b_isinstance boot_isinstance (pa_cons (pv 1) (pa_cons (pe_bltn (v := .ty "str") (by rfl) T.b.b_str boot_str rfl) pa_nil))))) (pw_or1 (pt_cmpR (ne_any hr) (pv 1) (pe_fn C__law_word (hr.mono (by first | decide | omega)) (by rfl) (pa_cons (pv 0) pa_nil)) (nomark _))))) (pss_one (ps_ret pe_bl)) pss_nil)
      (pss_cons (ps_if (pt_not (pt_val (pe_callB (isi_T T.tb) (by rfl) T.b.b_isinstance boot_isinstance (pa_cons (pv 0) (pa_cons (pe_bltn (v := .ty "tuple") (by rfl) T.b.b_tuple boot_tuple rfl) pa_nil))))) (pss_one (ps_ret pe_bl)) pss_nil)
      (pss_cons (ps_for PassesOwn.never rfl (pi_list (pe_ix ix_any (pv 0) pe_int (fun _ _ => rfl))) (pg_name (i := 2) nd rfl (Or.inl rfl)) (pss_cons (ps_set (i := 3) nd rfl (Or.inl rfl) (pv 2))
      (pss_cut1 (ps_if (pt_cmpR (eq_any hr) (pe_ix ix_any (pv 0) pe_int (fun _ _ => rfl)) pe_str (nomark _)) (pss_one (ps_set (i := 3) nd rfl (Or.inl rfl) (pe_ix ix_any (pv 2) pe_int (fun _ _ => rfl)))) pss_nil)
      (pss_one (ps_if (pt_not (pt_val (pe_fn C__law_kinds_right (hr.mono (by first | decide | omega)) (by rfl) (pa_cons (pv 3) pa_nil)))) (pss_one (ps_ret pe_bl)) pss_nil)))))
      (pss_one (ps_ret pe_bl)))))), ?_⟩
    refine start0 (σ := [some (v), none, none, none]) rfl ?_
    walk_at "vc"
    refine ⟨m, v, rfl, rp, ok, by omega, by omega, nn, fun w H1 s1 rp1 => ?_⟩
    walk_at "vc"
    refine ⟨valM m, w, rfl, RpV.mono new_same _ _ rp1, ?_⟩
    have kw := kind_word ok
    walk_at "vc"
    refine ⟨m, v, rfl, RpM.mono s1 _ _ rp, ?_⟩
    cases m with
    | non => cases rp; walk_at "vc"; first | done | exact q _ s1
    | bl b => cases rp; walk_at "vc"; first | done | exact q _ s1
    | int i => cases rp; walk_at "vc"; first | done | exact q _ s1
    | str z => cases rp; walk_at "vc"; first | done | exact q _ s1
    | seq z rs =>
      obtain ⟨t, l, vs, rfl, h1, h2, h3⟩ := rp
      have h1' := s1 _ _ h1
      have n1 : ¬ (z = Str.ofString "table") := by
        rcases ok.2 with rfl | rfl <;> decide +kernel
      have hn3 : 1 + mnodesL rs ≤ 2000 := nn
      have hd3 : 1 + mdepthL rs < n + 1 := dp
      have hd4 : 1 + mdepthL rs < 61 := dp2
      walk_at "vc"
      refine ⟨⟨_, .inl (.inl (s1 _ _ h2))⟩, lp_list (xs := vs) (inv_kr (.ref t) (.str z) H) ⟨none, none, rfl, s1⟩ (fun i σ H3 _ ⟨_, _, _, s3⟩ => .inl (.inl (s3 _ _ h2))) ?_ ?_⟩
      · rintro i x σ H3 hx ⟨_, _, rfl, s3⟩
        obtain ⟨r, er, rpr⟩ := h3.get hx
        have hn2 := mnodes_get er
        have hd2 := mdepth_get er
        have h3' := s3 _ _ h1
        walk_at "vc"
        intro p hp
        refine hp.go _ _ ?_
        walk_at "vc"
        refine ⟨r, x, rfl, RpM.mono s3 _ _ rpr, ok.1.get er, by omega, by omega, by omega, fun H4 s4 => ?_⟩
        walk_at "vc"
        exact ⟨_, _, rfl, s3.trans s4⟩
      · rintro σ H3 ⟨_, _, rfl, s3⟩
        walk_at "vc"
        first | done | exact q _ s3
    | tab zs rs =>
      obtain ⟨t, l, vs, rfl, h1, h2, h3⟩ := rp
      have h1' := s1 _ _ h1
      have hn3 : 1 + mnodesL rs ≤ 2000 := nn
      have hd3 : 1 + mdepthL rs < n + 1 := dp
      have hd4 : 1 + mdepthL rs < 61 := dp2
      walk_at "vc"
      refine ⟨⟨_, .inl (.inl (s1 _ _ h2))⟩, lp_list (xs := vs) (inv_kr (.ref t) (.str "table") H) ⟨none, none, rfl, s1⟩ (fun i σ H3 _ ⟨_, _, _, s3⟩ => .inl (.inl (s3 _ _ h2))) ?_ ?_⟩
      · rintro i x σ H3 hx ⟨_, _, rfl, s3⟩
        obtain ⟨r, z, t2, u, er, ez, rfl, ht2, rpr⟩ := h3.get hx
        have hn2 := mnodes_get er
        have hd2 := mdepth_get er
        have h3' := s3 _ _ h1
        have ht2' := s3 _ _ ht2
        walk_at "vc"
        intro p hp
        refine hp.go _ _ ?_
        walk_at "vc"
        refine ⟨r, u, rfl, RpM.mono s3 _ _ rpr, ok.1.get er, by omega, by omega, by omega, fun H4 s4 => ?_⟩
        walk_at "vc"
        exact ⟨_, _, rfl, s3.trans s4⟩
      · rintro σ H3 ⟨_, _, rfl, s3⟩
        walk_at "vc"
        first | done | exact q _ s3
theorem ok__law_kinds_right (T : Top K mg C) (C_kind : Callee P w K mg base 1 "kind" ["value"] (sp_kind K C)) (C__law_made : Callee P w K mg base 126 "_law_made" ["_law_model_here"] (sp__law_made K C 61)) (C__law_word : Callee P w K mg base 1 "_law_word" ["_law_model_here"] (sp__law_word K)) : ∀ n, Callee P w K mg base (126 + n) "_law_kinds_right" ["_law_model_here"] (sp__law_kinds_right K C n)
  | 0 => T.d__law_kinds_right.bot (N := N__law_kinds_right) (fun _ _ _ _ _ _ us hl => match us, hl with | [_], _ => rfl) (fun vs H Q E h => by
      obtain ⟨m, v, _, _, _, h, _⟩ := h
      omega)
  | n + 1 => step__law_kinds_right T C_kind C__law_made C__law_word n (ok__law_kinds_right T C_kind C__law_made C__law_word n)

/-! ### law -/
abbrev N_law : List Str := ["_law_script", "_law_source_here", "_law_model_here"]
theorem sc_law : FnScope N_law ["_law_script"] (defScope s_law) := ⟨rfl, rfl, rfl, by decide +kernel, rfl, by decide +kernel, by decide +kernel⟩
def sp_law (K : PySem.W.Frag) : Sp := fun vs H Q _ => ∃ (a : Addr) (ns : List Int), vs = [.ref a] ∧ SqL K H a (ns.map V.int) ∧ ns.length ≤ 63 ∧ ∀ H', Q (.bl true) H'
theorem ok_law (T : Top K mg C) (C__law_source : Callee P w K mg base 1 "_law_source" ["_law_script"] (sp__law_source K)) (C__law_deep : Callee P w K mg base 12 "_law_deep" ["_law_source_here", "_law_depth", "_law_room"] (sp__law_deep K)) (C__law_kinds_right : Callee P w K mg base 187 "_law_kinds_right" ["_law_model_here"] (sp__law_kinds_right K C 61)) : Callee P w K mg base 188 "law" ["_law_script"] (sp_law K) := by
  refine T.d_law.ok sc_law (fun _ _ _ _ _ _ us hl => match us, hl with | [_], _ => rfl) (fun vs H Q E h => ?_) (fun f cdv A outer s H vs Q E hr h => ?_)
  · obtain ⟨a, ns, rfl, hS, hl, q⟩ := h
    rfl
  · obtain ⟨a, ns, rfl, hS, hl, q⟩ := h
    have hu := hu_of hr
    have nd := sc_law.nd
    refine ⟨_, (pss_cons (ps_set (i := 1) nd rfl (Or.inl rfl) (pe_fn C__law_source (hr.mono (by first | decide | omega)) (by rfl) (pa_cons (pv 0) pa_nil)))
      (pss_cons (ps_set (i := 2) nd rfl (Or.inl rfl) (pe_fn C__law_deep (hr.mono (by first | decide | omega)) (by rfl) (pa_cons (pv 1) (pa_cons pe_int (pa_cons pe_int pa_nil)))))
      (pss_one (ps_ret (pe_fn C__law_kinds_right (hr.mono (by first | decide | omega)) (by rfl) (pa_cons (pv 2) pa_nil)))))), ?_⟩
    refine start0 (σ := [some (.ref a), none, none]) rfl ?_
    walk_at "vc"
    refine ⟨a, ns, rfl, hS, hl, fun p c H1 hp hc s0 s1 => ?_⟩
    walk_at "vc"
    refine ⟨p, c, 0, 4, 24, rfl, s1, by decide, by decide, by decide, by decide, fun r v H2 rm2 ok dp nn rp k2 s2 => ?_⟩
    have rp2 : RpM H2 r v := RpM.mono new_same _ _ rp
    walk_at "vc"
    exact ⟨r, v, rfl, rp2, ok, by omega, by omega, by omega, fun H' _ => q _⟩

end
theorem all_mk {l : PySem.W.OpenLaw} {w : World} {K : PySem.W.Frag} {h : Heap} {mg : Str → Option Value} {fa : Addr} (X : K.In h) (G : h.Ns mainGlobals mg) (hfa : mg "law" = some (.ref fa))
    {f0 : Addr} {od0 an0 : Option Addr} {sl0 : Array (Option Value)} {oc0 kV0 dc0 pm0 cd0 ct0 : Value} (a0 : PySem.W.nsIn K mainGlobals "_law_source" = some (some (.ref f0))) (l0 : K.lookup f0 = some ⟨oc0, od0, .func (PySem.W.fnOf "_law_source" "_law_source" (defArgs s__law_source) (defBody s__law_source) (defScope s__law_source) .none kV0 dc0 pm0 an0 cd0 ct0), sl0⟩) (c0 : PySem.W.codeIn K cd0 "_law_source" = true) (k0 : PySem.W.keepIn K (.ref f0) = true)
    {f1 : Addr} {od1 an1 : Option Addr} {sl1 : Array (Option Value)} {oc1 kV1 dc1 pm1 cd1 ct1 : Value} (a1 : PySem.W.nsIn K mainGlobals "_law_more" = some (some (.ref f1))) (l1 : K.lookup f1 = some ⟨oc1, od1, .func (PySem.W.fnOf "_law_more" "_law_more" (defArgs s__law_more) (defBody s__law_more) (defScope s__law_more) .none kV1 dc1 pm1 an1 cd1 ct1), sl1⟩) (c1 : PySem.W.codeIn K cd1 "_law_more" = true) (k1 : PySem.W.keepIn K (.ref f1) = true)
    {f2 : Addr} {od2 an2 : Option Addr} {sl2 : Array (Option Value)} {oc2 kV2 dc2 pm2 cd2 ct2 : Value} (a2 : PySem.W.nsIn K mainGlobals "_law_draw" = some (some (.ref f2))) (l2 : K.lookup f2 = some ⟨oc2, od2, .func (PySem.W.fnOf "_law_draw" "_law_draw" (defArgs s__law_draw) (defBody s__law_draw) (defScope s__law_draw) .none kV2 dc2 pm2 an2 cd2 ct2), sl2⟩) (c2 : PySem.W.codeIn K cd2 "_law_draw" = true) (k2 : PySem.W.keepIn K (.ref f2) = true)
    {f3 : Addr} {od3 an3 : Option Addr} {sl3 : Array (Option Value)} {oc3 kV3 dc3 pm3 cd3 ct3 : Value} (a3 : PySem.W.nsIn K mainGlobals "_law_number" = some (some (.ref f3))) (l3 : K.lookup f3 = some ⟨oc3, od3, .func (PySem.W.fnOf "_law_number" "_law_number" (defArgs s__law_number) (defBody s__law_number) (defScope s__law_number) .none kV3 dc3 pm3 an3 cd3 ct3), sl3⟩) (c3 : PySem.W.codeIn K cd3 "_law_number" = true) (k3 : PySem.W.keepIn K (.ref f3) = true)
    {f4 : Addr} {od4 an4 : Option Addr} {sl4 : Array (Option Value)} {oc4 kV4 dc4 pm4 cd4 ct4 : Value} (a4 : PySem.W.nsIn K mainGlobals "_law_sign" = some (some (.ref f4))) (l4 : K.lookup f4 = some ⟨oc4, od4, .func (PySem.W.fnOf "_law_sign" "_law_sign" (defArgs s__law_sign) (defBody s__law_sign) (defScope s__law_sign) .none kV4 dc4 pm4 an4 cd4 ct4), sl4⟩) (c4 : PySem.W.codeIn K cd4 "_law_sign" = true) (k4 : PySem.W.keepIn K (.ref f4) = true)
    {f5 : Addr} {od5 an5 : Option Addr} {sl5 : Array (Option Value)} {oc5 kV5 dc5 pm5 cd5 ct5 : Value} (a5 : PySem.W.nsIn K mainGlobals "_law_text" = some (some (.ref f5))) (l5 : K.lookup f5 = some ⟨oc5, od5, .func (PySem.W.fnOf "_law_text" "_law_text" (defArgs s__law_text) (defBody s__law_text) (defScope s__law_text) .none kV5 dc5 pm5 an5 cd5 ct5), sl5⟩) (c5 : PySem.W.codeIn K cd5 "_law_text" = true) (k5 : PySem.W.keepIn K (.ref f5) = true)
    {f6 : Addr} {od6 an6 : Option Addr} {sl6 : Array (Option Value)} {oc6 kV6 dc6 pm6 cd6 ct6 : Value} (a6 : PySem.W.nsIn K mainGlobals "_law_leaf" = some (some (.ref f6))) (l6 : K.lookup f6 = some ⟨oc6, od6, .func (PySem.W.fnOf "_law_leaf" "_law_leaf" (defArgs s__law_leaf) (defBody s__law_leaf) (defScope s__law_leaf) .none kV6 dc6 pm6 an6 cd6 ct6), sl6⟩) (c6 : PySem.W.codeIn K cd6 "_law_leaf" = true) (k6 : PySem.W.keepIn K (.ref f6) = true)
    {f7 : Addr} {od7 an7 : Option Addr} {sl7 : Array (Option Value)} {oc7 kV7 dc7 pm7 cd7 ct7 : Value} (a7 : PySem.W.nsIn K mainGlobals "_law_key" = some (some (.ref f7))) (l7 : K.lookup f7 = some ⟨oc7, od7, .func (PySem.W.fnOf "_law_key" "_law_key" (defArgs s__law_key) (defBody s__law_key) (defScope s__law_key) .none kV7 dc7 pm7 an7 cd7 ct7), sl7⟩) (c7 : PySem.W.codeIn K cd7 "_law_key" = true) (k7 : PySem.W.keepIn K (.ref f7) = true)
    {f8 : Addr} {od8 an8 : Option Addr} {sl8 : Array (Option Value)} {oc8 kV8 dc8 pm8 cd8 ct8 : Value} (a8 : PySem.W.nsIn K mainGlobals "_law_digits" = some (some (.ref f8))) (l8 : K.lookup f8 = some ⟨oc8, od8, .func (PySem.W.fnOf "_law_digits" "_law_digits" (defArgs s__law_digits) (defBody s__law_digits) (defScope s__law_digits) .none kV8 dc8 pm8 an8 cd8 ct8), sl8⟩) (c8 : PySem.W.codeIn K cd8 "_law_digits" = true) (k8 : PySem.W.keepIn K (.ref f8) = true)
    {f9 : Addr} {od9 an9 : Option Addr} {sl9 : Array (Option Value)} {oc9 kV9 dc9 pm9 cd9 ct9 : Value} (a9 : PySem.W.nsIn K mainGlobals "_law_twin" = some (some (.ref f9))) (l9 : K.lookup f9 = some ⟨oc9, od9, .func (PySem.W.fnOf "_law_twin" "_law_twin" (defArgs s__law_twin) (defBody s__law_twin) (defScope s__law_twin) .none kV9 dc9 pm9 an9 cd9 ct9), sl9⟩) (c9 : PySem.W.codeIn K cd9 "_law_twin" = true) (k9 : PySem.W.keepIn K (.ref f9) = true)
    {f10 : Addr} {od10 an10 : Option Addr} {sl10 : Array (Option Value)} {oc10 kV10 dc10 pm10 cd10 ct10 : Value} (a10 : PySem.W.nsIn K mainGlobals "_law_keys" = some (some (.ref f10))) (l10 : K.lookup f10 = some ⟨oc10, od10, .func (PySem.W.fnOf "_law_keys" "_law_keys" (defArgs s__law_keys) (defBody s__law_keys) (defScope s__law_keys) .none kV10 dc10 pm10 an10 cd10 ct10), sl10⟩) (c10 : PySem.W.codeIn K cd10 "_law_keys" = true) (k10 : PySem.W.keepIn K (.ref f10) = true)
    {f11 : Addr} {od11 an11 : Option Addr} {sl11 : Array (Option Value)} {oc11 kV11 dc11 pm11 cd11 ct11 : Value} (a11 : PySem.W.nsIn K mainGlobals "_law_model" = some (some (.ref f11))) (l11 : K.lookup f11 = some ⟨oc11, od11, .func (PySem.W.fnOf "_law_model" "_law_model" (defArgs s__law_model) (defBody s__law_model) (defScope s__law_model) .none kV11 dc11 pm11 an11 cd11 ct11), sl11⟩) (c11 : PySem.W.codeIn K cd11 "_law_model" = true) (k11 : PySem.W.keepIn K (.ref f11) = true)
    {f12 : Addr} {od12 an12 : Option Addr} {sl12 : Array (Option Value)} {oc12 kV12 dc12 pm12 cd12 ct12 : Value} (a12 : PySem.W.nsIn K mainGlobals "_law_deep" = some (some (.ref f12))) (l12 : K.lookup f12 = some ⟨oc12, od12, .func (PySem.W.fnOf "_law_deep" "_law_deep" (defArgs s__law_deep) (defBody s__law_deep) (defScope s__law_deep) .none kV12 dc12 pm12 an12 cd12 ct12), sl12⟩) (c12 : PySem.W.codeIn K cd12 "_law_deep" = true) (k12 : PySem.W.keepIn K (.ref f12) = true)
    {f13 : Addr} {od13 an13 : Option Addr} {sl13 : Array (Option Value)} {oc13 kV13 dc13 pm13 cd13 ct13 : Value} (a13 : PySem.W.nsIn K mainGlobals "kind" = some (some (.ref f13))) (l13 : K.lookup f13 = some ⟨oc13, od13, .func (PySem.W.fnOf "kind" "kind" (defArgs s_kind) (defBody s_kind) (defScope s_kind) .none kV13 dc13 pm13 an13 cd13 ct13), sl13⟩) (c13 : PySem.W.codeIn K cd13 "kind" = true) (k13 : PySem.W.keepIn K (.ref f13) = true)
    {f14 : Addr} {od14 an14 : Option Addr} {sl14 : Array (Option Value)} {oc14 kV14 dc14 pm14 cd14 ct14 : Value} (a14 : PySem.W.nsIn K mainGlobals "is_integer" = some (some (.ref f14))) (l14 : K.lookup f14 = some ⟨oc14, od14, .func (PySem.W.fnOf "is_integer" "is_integer" (defArgs s_is_integer) (defBody s_is_integer) (defScope s_is_integer) .none kV14 dc14 pm14 an14 cd14 ct14), sl14⟩) (c14 : PySem.W.codeIn K cd14 "is_integer" = true) (k14 : PySem.W.keepIn K (.ref f14) = true)
    {f15 : Addr} {od15 an15 : Option Addr} {sl15 : Array (Option Value)} {oc15 kV15 dc15 pm15 cd15 ct15 : Value} (a15 : PySem.W.nsIn K mainGlobals "fresh" = some (some (.ref f15))) (l15 : K.lookup f15 = some ⟨oc15, od15, .func (PySem.W.fnOf "fresh" "fresh" (defArgs s_fresh) (defBody s_fresh) (defScope s_fresh) .none kV15 dc15 pm15 an15 cd15 ct15), sl15⟩) (c15 : PySem.W.codeIn K cd15 "fresh" = true) (k15 : PySem.W.keepIn K (.ref f15) = true)
    {f16 : Addr} {od16 an16 : Option Addr} {sl16 : Array (Option Value)} {oc16 kV16 dc16 pm16 cd16 ct16 : Value} (a16 : PySem.W.nsIn K mainGlobals "_law_made" = some (some (.ref f16))) (l16 : K.lookup f16 = some ⟨oc16, od16, .func (PySem.W.fnOf "_law_made" "_law_made" (defArgs s__law_made) (defBody s__law_made) (defScope s__law_made) .none kV16 dc16 pm16 an16 cd16 ct16), sl16⟩) (c16 : PySem.W.codeIn K cd16 "_law_made" = true) (k16 : PySem.W.keepIn K (.ref f16) = true)
    {f17 : Addr} {od17 an17 : Option Addr} {sl17 : Array (Option Value)} {oc17 kV17 dc17 pm17 cd17 ct17 : Value} (a17 : PySem.W.nsIn K mainGlobals "_law_word" = some (some (.ref f17))) (l17 : K.lookup f17 = some ⟨oc17, od17, .func (PySem.W.fnOf "_law_word" "_law_word" (defArgs s__law_word) (defBody s__law_word) (defScope s__law_word) .none kV17 dc17 pm17 an17 cd17 ct17), sl17⟩) (c17 : PySem.W.codeIn K cd17 "_law_word" = true) (k17 : PySem.W.keepIn K (.ref f17) = true)
    {f18 : Addr} {od18 an18 : Option Addr} {sl18 : Array (Option Value)} {oc18 kV18 dc18 pm18 cd18 ct18 : Value} (a18 : PySem.W.nsIn K mainGlobals "_law_kinds_right" = some (some (.ref f18))) (l18 : K.lookup f18 = some ⟨oc18, od18, .func (PySem.W.fnOf "_law_kinds_right" "_law_kinds_right" (defArgs s__law_kinds_right) (defBody s__law_kinds_right) (defScope s__law_kinds_right) .none kV18 dc18 pm18 an18 cd18 ct18), sl18⟩) (c18 : PySem.W.codeIn K cd18 "_law_kinds_right" = true) (k18 : PySem.W.keepIn K (.ref f18) = true)
    {f19 : Addr} {od19 an19 : Option Addr} {sl19 : Array (Option Value)} {oc19 kV19 dc19 pm19 cd19 ct19 : Value} (a19 : PySem.W.nsIn K mainGlobals "law" = some (some (.ref f19))) (l19 : K.lookup f19 = some ⟨oc19, od19, .func (PySem.W.fnOf "law" "law" (defArgs s_law) (defBody s_law) (defScope s_law) .none kV19 dc19 pm19 an19 cd19 ct19), sl19⟩) (c19 : PySem.W.codeIn K cd19 "law" = true) (k19 : PySem.W.keepIn K (.ref f19) = true)
    (z_abs : PySem.W.nsIn K mainGlobals "abs" = some none)
    (z_all : PySem.W.nsIn K mainGlobals "all" = some none)
    (z_any : PySem.W.nsIn K mainGlobals "any" = some none)
    (z_bool : PySem.W.nsIn K mainGlobals "bool" = some none)
    (z_enumerate : PySem.W.nsIn K mainGlobals "enumerate" = some none)
    (z_int : PySem.W.nsIn K mainGlobals "int" = some none)
    (z_isinstance : PySem.W.nsIn K mainGlobals "isinstance" = some none)
    (z_len : PySem.W.nsIn K mainGlobals "len" = some none)
    (z_list : PySem.W.nsIn K mainGlobals "list" = some none)
    (z_max : PySem.W.nsIn K mainGlobals "max" = some none)
    (z_min : PySem.W.nsIn K mainGlobals "min" = some none)
    (z_range : PySem.W.nsIn K mainGlobals "range" = some none)
    (z_set : PySem.W.nsIn K mainGlobals "set" = some none)
    (z_sorted : PySem.W.nsIn K mainGlobals "sorted" = some none)
    (z_str : PySem.W.nsIn K mainGlobals "str" = some none)
    (z_tuple : PySem.W.nsIn K mainGlobals "tuple" = some none)
    (z_zip : PySem.W.nsIn K mainGlobals "zip" = some none)
    (z_iter : PySem.W.nsIn K mainGlobals "iter" = some none)
    {C : Addr} (aC : PySem.W.nsIn K mainGlobals "Table" = some (some (.ref C)))
    (pg : PySem.W.plainGet K C Str.empty = true) (hd : PySem.W.hasDictIn K C = true) (po : PySem.W.plainOver K C = true) (sa : PySem.W.findIn K (.ref C) "__setattr__" = some (some (.builtin "object.__setattr__")))
    (nH : PySem.W.findIn K (.ref C) "held" = some none)
    (y_kC : PySem.W.keepIn K (.ref C) = true)
    (y_mak : PySem.W.makesIn K C = true)
    (y_ha : PySem.W.findIn K (.ref C) "__class__" = some (some (.builtin "object.__class__")))
    (y_hn : PySem.W.specialIn K (.builtin "object.__class__") "__get__" = some (some (.builtin "getset_descriptor.__get__")))
    (y_ht : PySem.W.takesIn K (.builtin "object.__class__") = some true)
    (y_hm : PySem.W.mroIn K C (.type "object") = some true)
    (y_own : PySem.W.kitOne K (.ref C) (.ref C) = some true)
    (y_c_non : PySem.W.kitOne K (.type "NoneType") (.ref C) = some false)
    (y_c_bool : PySem.W.kitOne K (.type "bool") (.ref C) = some false)
    (y_c_int : PySem.W.kitOne K (.type "int") (.ref C) = some false)
    (y_c_str : PySem.W.kitOne K (.type "str") (.ref C) = some false)
    (y_c_list : PySem.W.kitOne K (.type "list") (.ref C) = some false)
    (y_c_tuple : PySem.W.kitOne K (.type "tuple") (.ref C) = some false)
    (y_c_dict : PySem.W.kitOne K (.type "dict") (.ref C) = some false)
    (y_t_int : PySem.W.kitOne K (.ref C) (.type "int") = some false)
    (y_t_bool : PySem.W.kitOne K (.ref C) (.type "bool") = some false)
    (y_t_str : PySem.W.kitOne K (.ref C) (.type "str") = some false)
    (y_t_list : PySem.W.kitOne K (.ref C) (.type "list") = some false)
    (y_t_tuple : PySem.W.kitOne K (.ref C) (.type "tuple") = some false)
    {fI T0 E0 : Addr} {odI anI odT : Option Addr} {slI slT : Array (Option Value)} {ocI kVI dcI pmI cdI ctI ocT : Value} {nT : Nat} (aI : PySem.W.findIn K (.ref C) "__init__" = some (some (.ref fI))) (iI : PySem.W.isFn K (.ref fI) = true) (lI : K.lookup fI = some ⟨ocI, odI, .func (PySem.W.fnOf "__init__" "Table.__init__" (defArgs s_Table___init__) (defBody s_Table___init__) (defScope s_Table___init__) (.ref T0) kVI dcI pmI anI cdI ctI), slI⟩) (lT : K.lookup T0 = some ⟨ocT, odT, .seq #[.ref E0] nT, slT⟩) (cI : PySem.W.codeIn K cdI "Table.__init__" = true) (kI : PySem.W.keepIn K (.ref fI) = true)
    : ∃ fd : FuncData, (∀ (s : Shared) (v : Value), BindsTo s fd ⟨[v], []⟩ [("_law_script", v)]) ∧ ∀ base : Heap, K.In base → base.Ns mainGlobals mg → FnOk l.prog w K mg base CX0 188 fa fd ["_law_script"] (sp_law K) := by
  have T : Top K mg C := ⟨⟨⟨pg, hd, po, sa⟩, nH, PySem.W.mg_of X G aC, y_kC, y_mak, y_ha, y_hn, y_ht, y_hm, y_own, y_c_non, y_c_bool, y_c_int, y_c_str, y_c_list, y_c_tuple, y_c_dict, y_t_int, y_t_bool, y_t_str, y_t_list, y_t_tuple⟩, ⟨PySem.W.mg_none_of X G z_abs, PySem.W.mg_none_of X G z_all, PySem.W.mg_none_of X G z_any, PySem.W.mg_none_of X G z_bool, PySem.W.mg_none_of X G z_enumerate, PySem.W.mg_none_of X G z_int, PySem.W.mg_none_of X G z_isinstance, PySem.W.mg_none_of X G z_len, PySem.W.mg_none_of X G z_list, PySem.W.mg_none_of X G z_max, PySem.W.mg_none_of X G z_min, PySem.W.mg_none_of X G z_range, PySem.W.mg_none_of X G z_set, PySem.W.mg_none_of X G z_sorted, PySem.W.mg_none_of X G z_str, PySem.W.mg_none_of X G z_tuple, PySem.W.mg_none_of X G z_zip, PySem.W.mg_none_of X G z_iter⟩, ⟨⟨f0, _, fun_mk (st := s__law_source) l0 c0 k0, PySem.W.mg_of X G a0⟩⟩, ⟨⟨f1, _, fun_mk (st := s__law_more) l1 c1 k1, PySem.W.mg_of X G a1⟩⟩, ⟨⟨f2, _, fun_mk (st := s__law_draw) l2 c2 k2, PySem.W.mg_of X G a2⟩⟩, ⟨⟨f3, _, fun_mk (st := s__law_number) l3 c3 k3, PySem.W.mg_of X G a3⟩⟩, ⟨⟨f4, _, fun_mk (st := s__law_sign) l4 c4 k4, PySem.W.mg_of X G a4⟩⟩, ⟨⟨f5, _, fun_mk (st := s__law_text) l5 c5 k5, PySem.W.mg_of X G a5⟩⟩, ⟨⟨f6, _, fun_mk (st := s__law_leaf) l6 c6 k6, PySem.W.mg_of X G a6⟩⟩, ⟨⟨f7, _, fun_mk (st := s__law_key) l7 c7 k7, PySem.W.mg_of X G a7⟩⟩, ⟨⟨f8, _, fun_mk (st := s__law_digits) l8 c8 k8, PySem.W.mg_of X G a8⟩⟩, ⟨⟨f9, _, fun_mk (st := s__law_twin) l9 c9 k9, PySem.W.mg_of X G a9⟩⟩, ⟨⟨f10, _, fun_mk (st := s__law_keys) l10 c10 k10, PySem.W.mg_of X G a10⟩⟩, ⟨⟨f11, _, fun_mk (st := s__law_model) l11 c11 k11, PySem.W.mg_of X G a11⟩⟩, ⟨⟨f12, _, fun_mk (st := s__law_deep) l12 c12 k12, PySem.W.mg_of X G a12⟩⟩, ⟨⟨f13, _, fun_mk (st := s_kind) l13 c13 k13, PySem.W.mg_of X G a13⟩⟩, ⟨⟨f14, _, fun_mk (st := s_is_integer) l14 c14 k14, PySem.W.mg_of X G a14⟩⟩, ⟨⟨f15, _, fun_mk (st := s_fresh) l15 c15 k15, PySem.W.mg_of X G a15⟩⟩, ⟨⟨f16, _, fun_mk (st := s__law_made) l16 c16 k16, PySem.W.mg_of X G a16⟩⟩, ⟨⟨f17, _, fun_mk (st := s__law_word) l17 c17 k17, PySem.W.mg_of X G a17⟩⟩, ⟨⟨f18, _, fun_mk (st := s__law_kinds_right) l18 c18 k18, PySem.W.mg_of X G a18⟩⟩, ⟨⟨f19, _, fun_mk (st := s_law) l19 c19 k19, PySem.W.mg_of X G a19⟩⟩, ⟨.ref E0, ⟨⟨fI, _, ⟨⟨ocI, odI, _, kVI, dcI, pmI, anI, cdI, ctI, slI, rfl, lI, cI, .inr ⟨by simp, T0, _, [.ref E0], nT, rfl, lT, rfl, .cons rfl .nil⟩, .inl rfl⟩, kI⟩, aI, iI⟩⟩⟩⟩
  have B : ∀ base : Heap, Callee l.prog w K mg base 188 "law" ["_law_script"] (sp_law K) := fun base => by
    have C__law_source := ok__law_source (P := l.prog) (w := w) (base := base) T 
    have C__law_more := ok__law_more (P := l.prog) (w := w) (base := base) T 
    have C__law_draw := ok__law_draw (P := l.prog) (w := w) (base := base) T C__law_more
    have C__law_number := ok__law_number (P := l.prog) (w := w) (base := base) T C__law_draw
    have C__law_sign := ok__law_sign (P := l.prog) (w := w) (base := base) T C__law_draw
    have C__law_text := ok__law_text (P := l.prog) (w := w) (base := base) T C__law_draw C__law_sign
    have C__law_leaf := ok__law_leaf (P := l.prog) (w := w) (base := base) T C__law_draw C__law_number C__law_text
    have C__law_key := ok__law_key (P := l.prog) (w := w) (base := base) T C__law_draw C__law_number C__law_text
    have C__law_digits := ok__law_digits (P := l.prog) (w := w) (base := base) T 
    have C__law_twin := ok__law_twin (P := l.prog) (w := w) (base := base) T C__law_digits
    have C__law_keys := ok__law_keys (P := l.prog) (w := w) (base := base) T C__law_key C__law_draw C__law_twin
    have C__law_model := ok__law_model (P := l.prog) (w := w) (base := base) T C__law_draw C__law_leaf C__law_keys 5
    have C__law_deep := ok__law_deep (P := l.prog) (w := w) (base := base) T C__law_model C__law_draw C__law_key
    have C_kind := ok_kind (P := l.prog) (w := w) (base := base) T 
    have C_is_integer := ok_is_integer (P := l.prog) (w := w) (base := base) T 
    have C_fresh := ok_fresh (P := l.prog) (w := w) (base := base) T  63
    have C_Table := ok_Table___init__ (P := l.prog) (w := w) (base := base) T C_is_integer C_fresh
    have C__law_made := ok__law_made (P := l.prog) (w := w) (base := base) T C_Table 61
    have C__law_word := ok__law_word (P := l.prog) (w := w) (base := base) T 
    have C__law_kinds_right := ok__law_kinds_right (P := l.prog) (w := w) (base := base) T C_kind C__law_made C__law_word 61
    have C_law := ok_law (P := l.prog) (w := w) (base := base) T C__law_source C__law_deep C__law_kinds_right
    exact C_law
  have e := hfa.symm.trans (PySem.W.mg_of X G a19)
  cases e
  refine ⟨PySem.W.fnOf "law" "law" (defArgs s_law) (defBody s_law) (defScope s_law) .none kV19 dc19 pm19 an19 cd19 ct19, fun s v => .of_eq rfl, fun base _ _ => ?_⟩
  exact callee_fn (fun_mk (st := s_law) l19 c19 k19) (PySem.W.mg_of X G a19) (B base)
end K01
open PySem PySem.W PyProof.Rows
set_option maxRecDepth 100000 in
set_option maxHeartbeats 0 in
theorem PySem.Challenge.cw_keysthroughtext_k01_kinds_holds : PySem.Challenge.rw_keysthroughtext_k01_kinds.Holds := by
  w_on; o_law; k_head; (case hw => w_witness2)
  k_fill
  refine L2.walk_of (l := PySem.Challenge.rw_keysthroughtext_k01_kinds) (n := 63) (k := 188) (x := "_law_script") (CX := fun _ => L2.CX0) (sp := fun w => K01.sp_law _) rfl (by decide) rfl ⟨rfl, by decide, by decide⟩ (fun w h Y => PySem.W.kIn_of Y) ?F (fun _ _ a ns hl _ hS => ⟨a, ns, rfl, hS, hl, fun _ => rfl⟩) (fun _ _ _ _ _ h => h)
  case F =>
    intro w mg fa h KX G hmg
    refine' K01.all_mk KX G hmg ?a0 ?l0 ?c0 ?k0 ?a1 ?l1 ?c1 ?k1 ?a2 ?l2 ?c2 ?k2 ?a3 ?l3 ?c3 ?k3 ?a4 ?l4 ?c4 ?k4 ?a5 ?l5 ?c5 ?k5 ?a6 ?l6 ?c6 ?k6 ?a7 ?l7 ?c7 ?k7 ?a8 ?l8 ?c8 ?k8 ?a9 ?l9 ?c9 ?k9 ?a10 ?l10 ?c10 ?k10 ?a11 ?l11 ?c11 ?k11 ?a12 ?l12 ?c12 ?k12 ?a13 ?l13 ?c13 ?k13 ?a14 ?l14 ?c14 ?k14 ?a15 ?l15 ?c15 ?k15 ?a16 ?l16 ?c16 ?k16 ?a17 ?l17 ?c17 ?k17 ?a18 ?l18 ?c18 ?k18 ?a19 ?l19 ?c19 ?k19 ?z_abs ?z_all ?z_any ?z_bool ?z_enumerate ?z_int ?z_isinstance ?z_len ?z_list ?z_max ?z_min ?z_range ?z_set ?z_sorted ?z_str ?z_tuple ?z_zip ?z_iter ?aC ?pg ?hd ?po ?sa ?nH ?y_kC ?y_mak ?y_ha ?y_hn ?y_ht ?y_hm ?y_own ?y_c_non ?y_c_bool ?y_c_int ?y_c_str ?y_c_list ?y_c_tuple ?y_c_dict ?y_t_int ?y_t_bool ?y_t_str ?y_t_list ?y_t_tuple ?aI ?iI ?lI ?lT ?cI ?kI
    (case a0 => k_is)
    (case l0 => k_is)
    (case c0 => k_is)
    (case k0 => k_is)
    (case a1 => k_is)
    (case l1 => k_is)
    (case c1 => k_is)
    (case k1 => k_is)
    (case a2 => k_is)
    (case l2 => k_is)
    (case c2 => k_is)
    (case k2 => k_is)
    (case a3 => k_is)
    (case l3 => k_is)
    (case c3 => k_is)
    (case k3 => k_is)
    (case a4 => k_is)
    (case l4 => k_is)
    (case c4 => k_is)
    (case k4 => k_is)
    (case a5 => k_is)
    (case l5 => k_is)
    (case c5 => k_is)
    (case k5 => k_is)
    (case a6 => k_is)
    (case l6 => k_is)
    (case c6 => k_is)
    (case k6 => k_is)
    (case a7 => k_is)
    (case l7 => k_is)
    (case c7 => k_is)
    (case k7 => k_is)
    (case a8 => k_is)
    (case l8 => k_is)
    (case c8 => k_is)
    (case k8 => k_is)
    (case a9 => k_is)
    (case l9 => k_is)
    (case c9 => k_is)
    (case k9 => k_is)
    (case a10 => k_is)
    (case l10 => k_is)
    (case c10 => k_is)
    (case k10 => k_is)
    (case a11 => k_is)
    (case l11 => k_is)
    (case c11 => k_is)
    (case k11 => k_is)
    (case a12 => k_is)
    (case l12 => k_is)
    (case c12 => k_is)
    (case k12 => k_is)
    (case a13 => k_is)
    (case l13 => k_is)
    (case c13 => k_is)
    (case k13 => k_is)
    (case a14 => k_is)
    (case l14 => k_is)
    (case c14 => k_is)
    (case k14 => k_is)
    (case a15 => k_is)
    (case l15 => k_is)
    (case c15 => k_is)
    (case k15 => k_is)
    (case a16 => k_is)
    (case l16 => k_is)
    (case c16 => k_is)
    (case k16 => k_is)
    (case a17 => k_is)
    (case l17 => k_is)
    (case c17 => k_is)
    (case k17 => k_is)
    (case a18 => k_is)
    (case l18 => k_is)
    (case c18 => k_is)
    (case k18 => k_is)
    (case a19 => k_is)
    (case l19 => k_is)
    (case c19 => k_is)
    (case k19 => k_is)
    (case z_abs => k_is)
    (case z_all => k_is)
    (case z_any => k_is)
    (case z_bool => k_is)
    (case z_enumerate => k_is)
    (case z_int => k_is)
    (case z_isinstance => k_is)
    (case z_len => k_is)
    (case z_list => k_is)
    (case z_max => k_is)
    (case z_min => k_is)
    (case z_range => k_is)
    (case z_set => k_is)
    (case z_sorted => k_is)
    (case z_str => k_is)
    (case z_tuple => k_is)
    (case z_zip => k_is)
    (case z_iter => k_is)
    (case aC => k_is)
    (case pg => k_is)
    (case hd => k_is)
    (case po => k_is)
    (case sa => k_is)
    (case nH => k_is)
    (case y_kC => k_is)
    (case y_mak => k_is)
    (case y_ha => k_is)
    (case y_hn => k_is)
    (case y_ht => k_is)
    (case y_hm => k_is)
    (case y_own => kit_is)
    (case y_c_non => kit_is)
    (case y_c_bool => kit_is)
    (case y_c_int => kit_is)
    (case y_c_str => kit_is)
    (case y_c_list => kit_is)
    (case y_c_tuple => kit_is)
    (case y_c_dict => kit_is)
    (case y_t_int => kit_is)
    (case y_t_bool => kit_is)
    (case y_t_str => kit_is)
    (case y_t_list => kit_is)
    (case y_t_tuple => kit_is)
    (case aI => k_is)
    (case iI => k_is)
    (case lI => k_is)
    (case lT => k_is)
    (case cI => k_is)
    (case kI => k_is)
