import PyProof.Rows.All
import Wide.All
import OpenK.AllK
import Wide.FinOn
import HandS.ForMost
import HandS.Wide
import HandS.IsInst
import HandS.StrMore
import HandS.Style
import HandS.RaiseMore
import HandS.EndBits
import HandS.Deep
import PySem.Challenge.RW_keysthroughtext_k19_keys_as_texts
set_option Elab.async false
set_option linter.all false
set_option maxRecDepth 100000
set_option maxHeartbeats 4000000
namespace KB
open PySem PySem.Spec PyProof.Rows L2
/-! ### defs of the module, called by name -/
structure Def (K : PySem.W.Frag) (mg : Str → Option Value) (x : Str) (st : Stmt) : Prop where
  ex : ∃ (f : Addr) (fd : FuncData), Fun K x x st f fd ∧ mg x = some (.ref f)
structure Callee (P : Program) (w : World) (K : PySem.W.Frag) (mg : Str → Option Value) (base : Heap) (k : Nat) (x : Str) (ps : List Str) (sp : Sp) : Prop where
  ex : ∃ (f : Addr) (fd : FuncData), mg x = some (.ref f) ∧ PySem.W.keepIn K (.ref f) = true ∧ Binds K fd ps [] ∧ FnOk P w K mg base CX0 k f fd ps sp ∧ ∃ oc od osl, K.lookup f = some ⟨oc, od, .func fd, osl⟩
section
variable {P : Program} {w : World} {K : PySem.W.Frag} {mg : Str → Option Value} {base : Heap}
theorem Def.ok {x : Str} {st : Stmt} {N ps : List Str} {k : Nat} {sp : Sp} (D : Def K mg x st) (S : FnScope N ps (defScope st))
    (hb : ∀ (kV doc pm : Value) (an : Option Addr) (cdv ct : Value) (us : List Value), us.length = ps.length → bindArgs (PySem.W.fnOf x x (defArgs st) (defBody st) (defScope st) .none kV doc pm an cdv ct) ⟨us, []⟩ = pure (ps.zip us))
    (len : ∀ vs H Q E, sp vs H Q E → vs.length = ps.length)
    (hbody : ∀ (f : Addr) (cdv : Value) (A : Around) (outer : List Env) (s : Shared) (H : Hp) (vs : List V) (Q : VK) (E : XK), Room k (A.deeper (envOfC x (defScope st) s.heap.objs.size f cdv)) → sp vs H Q E →
      ∃ t, PSs (cxOf CX0 P w K mg base N x (defScope st) f cdv A outer s H E).nox (defBody st) t ∧ t { nx := fun _ H' => Q .non H', rt := Q } (start N vs) H) : Callee P w K mg base (k + 1) x ps sp := by
  obtain ⟨f, fd, F, g⟩ := D.ex
  have E := F.ex
  obtain ⟨oc, od, kV, doc, pm, an, cdv, ct, osl, e, lk, _⟩ := E
  exact ⟨f, fd, g, F.kp, F.binds hb, F.ok S len (hbody f), oc, od, osl, lk⟩
theorem Callee.mono {x : Str} {ps : List Str} {k : Nat} {sp sp' : Sp} (C : Callee P w K mg base k x ps sp) (h : ∀ vs H Q E, sp' vs H Q E → sp vs H Q E) : Callee P w K mg base k x ps sp' := by
  obtain ⟨f, fd, g, kp, b, F, lk⟩ := C.ex
  exact ⟨f, fd, g, kp, b, ⟨fun vs H Q E q => F.len vs H Q E (h _ _ _ _ q), fun A outer s H as us vs Q E hr e hb r q => F.run A outer s H as us vs Q E hr e hb r (h _ _ _ _ q)⟩, lk⟩
/-- a promise that nobody can ask for -/
theorem Def.bot {x : Str} {st : Stmt} {N ps : List Str} {k : Nat} {sp : Sp} (D : Def K mg x st)
    (hb : ∀ (kV doc pm : Value) (an : Option Addr) (cdv ct : Value) (us : List Value), us.length = ps.length → bindArgs (PySem.W.fnOf x x (defArgs st) (defBody st) (defScope st) .none kV doc pm an cdv ct) ⟨us, []⟩ = pure (ps.zip us))
    (h : ∀ vs H Q E, ¬ sp vs H Q E) : Callee P w K mg base k x ps sp := by
  obtain ⟨f, fd, F, g⟩ := D.ex
  have E := F.ex
  obtain ⟨oc, od, kV, doc, pm, an, cdv, ct, osl, e, lk, _⟩ := E
  exact ⟨f, fd, g, F.kp, F.binds hb, ⟨fun vs H Q E q => (h _ _ _ _ q).elim, fun _ _ _ _ _ _ _ _ _ _ _ _ _ q => (h _ _ _ _ q).elim⟩, oc, od, osl, lk⟩
/-- the built-in names that the module leaves alone -/
structure Bi (mg : Str → Option Value) : Prop where
  b_abs : mg "abs" = none
  b_all : mg "all" = none
  b_any : mg "any" = none
  b_bool : mg "bool" = none
  b_enumerate : mg "enumerate" = none
  b_int : mg "int" = none
  b_isinstance : mg "isinstance" = none
  b_len : mg "len" = none
  b_list : mg "list" = none
  b_max : mg "max" = none
  b_min : mg "min" = none
  b_range : mg "range" = none
  b_set : mg "set" = none
  b_sorted : mg "sorted" = none
  b_str : mg "str" = none
  b_tuple : mg "tuple" = none
  b_zip : mg "zip" = none
  b_iter : mg "iter" = none
end
section
variable {X : Cx}
theorem pe_fn {k : Nat} {x : Str} {ps : List Str} {sp : Sp} {p pos : Pos} {e : Expr} {es : List Expr} {t : TA} (C : Callee X.prog X.w X.K X.mg X.base k x ps sp) (hr : Room k X.A) (hg : Gl X x) (ha : PA X (e :: es) t)
    (hdb : (x == ("__debug__" : Str)) = false := by decide) (he : starEach (e :: es) X.env = (false, eval e X.env) :: starEach es X.env := by rfl) (hpl : (backTo pos (starEach es X.env)).any (·.1) = false := by rfl) :
    PE X (.Call (.Name x p) (e :: es) [] pos) (tCall sp [] E0 t) := by
  obtain ⟨f, fd, g, kp, b, F, _⟩ := C.ex
  exact pe_call F hr hg g kp b .nil pass0 ha hdb he hpl
theorem pe_gi {x : Str} {n : Int} {pos : Pos} (hg : Gl X x) (h : ∃ t, X.mg x = some (.int n t)) (hd : (x == ("__debug__" : Str)) = false := by decide) : PE X (.Name x pos) (tC (.int n)) := by
  obtain ⟨t, e⟩ := h
  exact pe_glob hg e ⟨t, rfl⟩ hd
/-! ### what stands behind a statement, under a name -/
structure Cut (u p : L2.St → Hp → Prop) : Prop where
  go : ∀ σ H, u σ H → p σ H
def tCut (t u : TS) : TS := fun D σ H => ∀ p : L2.St → Hp → Prop, Cut (u D) p → t { D with nx := p } σ H
theorem pss_cut1 {st : Stmt} {r : List Stmt} {t u : TS} (h : PS X st t) (hr : PSs X r u) : PSs X (st :: r) (tCut t u) := ⟨fun pins s σ H D I q => (pss_cons h hr).run pins s σ H D I (q (u D) ⟨fun _ _ z => z⟩)⟩
/-! ### rules for more than one kind of value -/
theorem OpR.wk {f : Value → Value → Sem Value} {r r' : R2} (h : OpR X f r) (w : ∀ x y H Q, r' x y H Q → r x y H Q) : OpR X f r' := fun pins s σ H x y v u Q I rx ry q => h pins s σ H x y v u Q I rx ry (w x y H Q q)
theorem CallR.wk {f : Value} {r r' : List V → Hp → VK → Prop} (h : CallR X f r) (w : ∀ xs H Q, r' xs H Q → r xs H Q) : CallR X f r' := fun pins s σ H xs us Q I r1 q => h pins s σ H xs us Q I r1 (w xs H Q q)
theorem CallR.or {f : Value} {r r' : List V → Hp → VK → Prop} (h : CallR X f r) (h' : CallR X f r') : CallR X f (fun xs H Q => r xs H Q ∨ r' xs H Q) := fun pins s σ H xs us Q I r1 q => by
  rcases q with q | q
  · exact h pins s σ H xs us Q I r1 q
  · exact h' pins s σ H xs us Q I r1 q
theorem MtR.wk {id : String} {r r' : V → List V → Hp → VK → Prop} (h : MtR X id r) (w : ∀ x xs H Q, r' x xs H Q → r x xs H Q) : MtR X id r' := fun pins s σ H x xs v us Q I rx r1 q => h pins s σ H x xs v us Q I rx r1 (w x xs H Q q)
theorem IxR.wk {r r' : R2} (h : IxR X r) (w : ∀ x y H Q, r' x y H Q → r x y H Q) : IxR X r' := fun a b pins s σ H x y v u Q I rx ry q => h a b pins s σ H x y v u Q I rx ry (w x y H Q q)
theorem SlR.wk {r r' : V → Option Int → Option Int → Hp → VK → Prop} (h : SlR X r) (w : ∀ x a b H Q, r' x a b H Q → r x a b H Q) : SlR X r' := fun pins s σ H x v vl vu lo hi sl Q I rx hs pl pu q => h pins s σ H x v vl vu lo hi sl Q I rx hs pl pu (w _ _ _ _ _ q)
/-- a + b: ints, texts, two lists -/
def rAd : R2 := fun x y H Q => (∃ i j, x = .int i ∧ y = .int j ∧ Q (.int (i + j)) H) ∨ (∃ i j, x = .str i ∧ y = .str j ∧ i.length + j.length ≤ sizeLine ∧ Q (.str (i ++ j)) H) ∨ rCat x y H Q
theorem ad_any : OpR X (binaryOp .Add) rAd := op_add.or (op_add_str.or op_cat)
def rMl : R2 := fun x y H Q => (∃ i j, x = .int i ∧ y = .int j ∧ (CMul i j ∨ CMulW i j) ∧ Q (.int (i * j)) H) ∨ rRep x y H Q
theorem ml_any : OpR X (binaryOp .Mult) rMl := by
  refine OpR.or (fun pins s σ H x y v u Q I rx ry h => ?_) op_rep
  obtain ⟨i, j, rfl, rfl, c | c, q⟩ := h
  · exact op_mul pins s σ H _ _ v u Q I rx ry ⟨i, j, rfl, rfl, c, q⟩
  · exact op_mulW pins s σ H _ _ v u Q I rx ry ⟨i, j, rfl, rfl, c, q⟩
def rMd : R2 := fun x y H Q => ∃ i j, x = .int i ∧ y = .int j ∧ 0 < j ∧ Q (.int (i % j)) H
theorem md_any : OpR X (binaryOp .Mod) rMd := op_mod
def rFd : R2 := fun x y H Q => ∃ i j, x = .int i ∧ y = .int j ∧ CDivW i j ∧ Q (.int (i / j)) H
theorem fd_any : OpR X (binaryOp .FloorDiv) rFd := op_fdivW
/-- x is y, y one of None, True, False -/
def isK : V → Bool
  | .non => true
  | .bl _ => true
  | _ => false
def rIs (n : Bool) : R2 := fun x y H Q => isK y = true ∧ Q (.bl (n ^^ decide (x = y))) H
theorem is_any : OpR X (compareOp .Is) (rIs false) := by
  intro pins s σ H x y v u Q I rx ry h
  obtain ⟨k, q⟩ := h
  rw [Bool.false_xor] at q
  cases y with
  | non => exact op_isN pins s σ H x .non v u Q I rx ry ⟨rfl, q⟩
  | bl b =>
    cases x with
    | bl a =>
      refine op_isBl pins s σ H (.bl a) (.bl b) v u Q I rx ry ⟨a, b, rfl, rfl, ?_⟩
      have e : decide (V.bl a = V.bl b) = decide (a = b) := by cases a <;> cases b <;> decide
      rw [← e]
      exact q
    | _ =>
      cases ry
      refine wpAny_is_other ?_ ?_ ⟨.bl false, H, I, rfl, q⟩ <;> first
        | (obtain ⟨t, rfl⟩ := rx; first | rfl | (intro z; cases z))
        | (cases rx; first | rfl | (intro z; cases z))
  | _ => cases k
theorem isnt_any : OpR X (compareOp .IsNot) (rIs true) := by
  intro pins s σ H x y v u Q I rx ry h
  obtain ⟨k, q⟩ := h
  rw [Bool.true_xor] at q
  cases y with
  | non => exact op_notN pins s σ H x .non v u Q I rx ry ⟨rfl, q⟩
  | bl b =>
    cases x with
    | bl a =>
      refine op_notBl pins s σ H (.bl a) (.bl b) v u Q I rx ry ⟨a, b, rfl, rfl, ?_⟩
      have e : decide (V.bl a = V.bl b) = decide (a = b) := by cases a <;> cases b <;> decide
      rw [← e]
      exact q
    | _ =>
      cases ry
      refine wpAny_isNot_other ?_ ?_ ⟨.bl true, H, I, rfl, q⟩ <;> first
        | (obtain ⟨t, rfl⟩ := rx; first | rfl | (intro z; cases z))
        | (cases rx; first | rfl | (intro z; cases z))
  | _ => cases k

/-- x == y: two flat ones; data of any depth -/
def rEqA (K : PySem.W.Frag) (n : Bool) : R2 := fun x y H Q => (scal x y = true ∧ Q (.bl (n ^^ decide (x = y))) H) ∨ ((∃ p, x = .ref p ∨ y = .ref p) ∧ ∃ d e, Dp K H x d ∧ Dp K H y e ∧ SeqAt.shaped d = true ∧ SeqAt.shaped e = true ∧ Q (.bl (n ^^ PyData.eqv d e)) H)
theorem eq_any {k : Nat} (hr : Room k X.A) : OpR X (compareOp .Eq) (rEqA X.K false) := OpR.wk (OpR.or op_eq (op_eqD hr.units)) fun x y H Q h => by
  rcases h with ⟨hx, q⟩ | ⟨_, d, e, a, b, c, f, q⟩
  · exact .inl ⟨hx, by simpa using q⟩
  · exact .inr ⟨d, e, a, b, c, f, by simpa using q⟩
theorem ne_any {k : Nat} (hr : Room k X.A) : OpR X (compareOp .NotEq) (rEqA X.K true) := OpR.wk (OpR.or op_ne (op_neD hr.units)) fun x y H Q h => by
  rcases h with ⟨hx, q⟩ | ⟨_, d, e, a, b, c, f, q⟩
  · exact .inl ⟨hx, by simpa using q⟩
  · exact .inr ⟨d, e, a, b, c, f, by simpa using q⟩
/-- x in y: a sign in a text; flat things in a tracked list or tuple -/
def rInA (n : Bool) : R2 := fun x y H Q => (∃ (c : Nat) (z : Str), x = .str ⟨#[c]⟩ ∧ y = .str z ∧ Q (.bl (n ^^ decide (c ∈ z.cps.toList))) H) ∨
  (∃ p xs, y = .ref p ∧ (H p = some (.lst xs) ∨ H p = some (.tup xs)) ∧ flatV x = true ∧ xs.all flatV = true ∧ Q (.bl (n ^^ inV x xs)) H)
theorem in_any : OpR X (compareOp .In) (rInA false) := by
  refine OpR.wk (op_in_sign.or op_in_seq) fun x y H Q h => ?_
  rcases h with ⟨c, z, rfl, rfl, q⟩ | ⟨p, xs, rfl, hp, a, b, q⟩
  · exact .inl ⟨c, z, rfl, rfl, by simpa using q⟩
  · exact .inr ⟨p, xs, rfl, hp.imp (fun h => .inl (.inl h)) (fun h => .inl (.inl h)), a, b, by simpa using q⟩
theorem ni_any : OpR X (compareOp .NotIn) (rInA true) := by
  refine OpR.wk (op_notIn_sign.or op_notIn_seq) fun x y H Q h => ?_
  rcases h with ⟨c, z, rfl, rfl, q⟩ | ⟨p, xs, rfl, hp, a, b, q⟩
  · exact .inl ⟨c, z, rfl, rfl, by simpa using q⟩
  · exact .inr ⟨p, xs, rfl, hp.imp (fun h => .inl (.inl h)) (fun h => .inl (.inl h)), a, b, by simpa using q⟩
/-- x[i]: a tracked list, a tracked tuple, a text -/
def rIxA : R2 := fun x y H Q => (∃ p xs i v, x = .ref p ∧ y = .int i ∧ (H p = some (.lst xs) ∨ H p = some (.tup xs)) ∧ atI xs i = some v ∧ Q v H) ∨ (∃ z i c, x = .str z ∧ y = .int i ∧ z.length ≤ sizeLine ∧ atI z.cps.toList i = some c ∧ Q (.str ⟨#[c]⟩) H)
theorem ix_any : IxR X rIxA := by
  refine IxR.wk ix_seq fun x y H Q h => ?_
  rcases h with ⟨p, xs, i, v, rfl, rfl, h | h, a, q⟩ | h
  · exact .inl ⟨p, xs, i, v, rfl, rfl, .inl (.inl h), a, q⟩
  · exact .inr (.inl ⟨p, xs, i, v, rfl, rfl, .inl (.inl h), a, q⟩)
  · exact .inr (.inr h)
/-- len(x) -/
def rLenA : List V → Hp → VK → Prop := fun vs H Q => (∃ z, vs = [.str z] ∧ z.length ≤ sizeLine ∧ Q (.int z.length) H) ∨ (∃ p xs, vs = [.ref p] ∧ (H p = some (.lst xs) ∨ H p = some (.tup xs)) ∧ Q (.int xs.length) H) ∨ (∃ p kvs, vs = [.ref p] ∧ H p = some (.dK kvs) ∧ Q (.int kvs.length) H)
theorem len_any : CallR X (.builtin "len") rLenA := by
  refine CallR.wk (CallR.or call_len_str (CallR.or call_len_seq call_lenD)) fun vs H Q h => ?_
  rcases h with h | ⟨p, xs, rfl, h | h, q⟩ | ⟨p, kvs, rfl, h, q⟩
  · exact .inl h
  · exact .inr (.inl ⟨p, xs, rfl, .inl (.inl (.inl h)), q⟩)
  · exact .inr (.inl ⟨p, xs, rfl, .inr (.inl (.inl h)), q⟩)
  · exact .inr (.inr ⟨p, kvs, rfl, h, q⟩)
def rIntA : List V → Hp → VK → Prop := fun vs H Q => (∃ i, vs = [.int i] ∧ Q (.int i) H) ∨ (∃ k, vs = [.bl k] ∧ Q (.int (if k then 1 else 0)) H) ∨ (∃ a n, vs = [.str a] ∧ PySem.intText? a = some n ∧ a.length ≤ 640 ∧ Q (.int n) H)
theorem int_any : CallR X (.type "int") rIntA := by
  refine CallR.wk (CallR.or call_int1 call_int_str) fun vs H Q h => ?_
  rcases h with h | h | ⟨a, n, h⟩
  · exact .inl (.inl h)
  · exact .inl (.inr h)
  · exact .inr ⟨a, n, h⟩
def rStrA : List V → Hp → VK → Prop := fun vs H Q => (∃ i, vs = [.int i] ∧ i.natAbs.log2 < 1920 ∧ Q (.str (toString i)) H) ∨ (∃ a, vs = [.str a] ∧ Q (.str a) H)
theorem str_any : CallR X (.type "str") rStrA := CallR.or call_str_int SkE.call_str_str
/-- the name of a value's type, where the value is flat or a tracked list, tuple or dict -/
def TyN (H : Hp) (x : V) (n : String) : Prop := match x with
  | .non => n = "NoneType"
  | .bl _ => n = "bool"
  | .int _ => n = "int"
  | .str _ => n = "str"
  | .ref a => (∃ xs, H a = some (.lst xs) ∧ n = "list") ∨ (∃ xs, H a = some (.tup xs) ∧ n = "tuple") ∨ ∃ kvs, H a = some (.dK kvs) ∧ n = "dict"
  | _ => False
theorem TyN.ty {K : PySem.W.Frag} {H : Hp} {x : V} {n : String} (h : TyN H x n) : TyX K H x (.type n) := by
  unfold TyN at h
  split at h
  · subst h; exact .base .non
  · subst h; exact .base (.bl _)
  · subst h; exact .base (.int _)
  · subst h; exact .base (.str _)
  · rcases h with ⟨xs, e, rfl⟩ | ⟨xs, e, rfl⟩ | ⟨kvs, e, rfl⟩
    · exact .base (.lst e)
    · exact .base (.tup e)
    · exact .base (.dK e)
  · exact h.elim
def rIsiA : List V → Hp → VK → Prop := fun vs H Q => ∃ x T n b, vs = [x, .ty T] ∧ TyN H x n ∧ kitB n T = some b ∧ Q (.bl b) H
theorem isi_any : CallR X (.builtin "isinstance") rIsiA := CallR.wk call_isi fun vs H Q h => by
  obtain ⟨x, T, n, b, rfl, ty, e, q⟩ := h
  exact ⟨x, .ty T, _, _, b, rfl, .ty T, ty.ty, kit_ty e, q⟩
/-- sep.join(xs), xs a tracked list of texts -/
def rJoinA : V → List V → Hp → VK → Prop := fun x xs H Q => ∃ a p, ∃ ys : List Str, x = .str a ∧ xs = [.ref p] ∧ (H p = some (.lst (ys.map V.str)) ∨ H p = some (.tup (ys.map V.str))) ∧ (ys.map (·.length)).sum + ys.length * a.length ≤ 16777216 ∧ Q (.str (Txt.join a ys)) H
theorem mt_joinA : MtR X "str.join" rJoinA := MtR.wk mt_join fun x xs H Q h => by
  obtain ⟨a, p, ys, rfl, rfl, h, z, q⟩ := h
  exact ⟨a, p, ys, rfl, rfl, h.imp (fun h => .inl (.inl h)) (fun h => .inl (.inl h)), z, q⟩
/-- x[a:b]: a text, a tracked list -/
def rSlA : V → Option Int → Option Int → Hp → VK → Prop := fun x lo hi H Q => (∃ z, x = .str z ∧ z.length ≤ sizeLine ∧ Q (.str (cutS z lo hi)) H) ∨ (∃ a xs, x = .ref a ∧ H a = some (.lst xs) ∧ ∀ p, H p = none → Q (.ref p) (upd H p (.lst (cutV xs lo hi))))
theorem sl_any : SlR X rSlA := SlR.wk (SlR.or sl_str sl_list) fun x a b H Q h => by
  rcases h with h | ⟨p, xs, rfl, h, q⟩
  · exact .inl h
  · exact .inr ⟨p, xs, rfl, .inl (.inl h), q⟩
end
end KB
namespace KB
open PySem PySem.Spec PyProof.Rows L2
section
variable {σ : L2.St} {H : Hp} {Q : VK} {D : L2.Ends}
theorem q_var {i : Nat} : tVar i σ H Q = ∃ v, σ[i]? = some (some v) ∧ Q v H := rfl
theorem q_c {v : V} : tC v σ H Q = Q v H := rfl
theorem q_op {r : R2} {ta tb : TE} : tOp r ta tb σ H Q = ta σ H fun x H1 => tb σ H1 fun y H2 => r x y H2 Q := rfl
theorem q_un {r : V → Hp → VK → Prop} {ta : TE} : tUn r ta σ H Q = ta σ H fun x H1 => r x H1 Q := rfl
theorem q_call {sp : Sp} {dvs : List V} {E : XK} {t : TA} : tCall sp dvs E t σ H Q = t σ H fun vs H1 => sp (vs ++ dvs) H1 Q E := rfl
theorem q_cb {r : List V → Hp → VK → Prop} {t : TA} : tCB r t σ H Q = t σ H fun vs H1 => r vs H1 Q := rfl
theorem q_bm0 {K : PySem.W.Frag} {T : String} {r : V → List V → Hp → VK → Prop} {to : TE} : tBM0 K T r to σ H Q = to σ H fun x H1 => tyV K T x H1 ∧ r x [] H1 Q := rfl
theorem q_bm {K : PySem.W.Frag} {T : String} {r : V → List V → Hp → VK → Prop} {to : TE} {t : TA} : tBM K T r to t σ H Q = to σ H fun x H1 => tyV K T x H1 ∧ t σ H1 fun xs H2 => r x xs H2 Q := rfl
theorem q_nil {Q : List V → Hp → Prop} : tNil σ H Q = Q [] H := rfl
theorem q_cons {ta : TE} {tr : TA} {Q : List V → Hp → Prop} : tCons ta tr σ H Q = ta σ H fun x H1 => tr σ H1 fun xs H2 => Q (x :: xs) H2 := rfl
theorem q_tup {t : TA} : tTup t σ H Q = t σ H fun xs H1 => xs.length ≤ sizeLine ∧ ∀ p, H1 p = none → Q (.ref p) (upd H1 p (.tup xs)) := rfl
theorem q_lst {t : TA} : tLst t σ H Q = t σ H fun xs H1 => xs.length ≤ sizeLine ∧ ∀ p, H1 p = none → Q (.ref p) (upd H1 p (.lst xs)) := rfl
theorem q_dget {td ty : TE} : tDGet td ty σ H Q = td σ H fun x H1 => ty σ H1 fun y H2 => ∃ a v, x = .ref a ∧ DGet H2 a y (some v) ∧ Q v H2 := rfl
theorem q_din {td ty : TE} : tDIn ty td σ H Q = ty σ H fun y H1 => td σ H1 fun x H2 => ∃ a o, x = .ref a ∧ DGet H2 a y o ∧ Q (.bl o.isSome) H2 := rfl
theorem q_dnotin {td ty : TE} : tDNotIn ty td σ H Q = ty σ H fun y H1 => td σ H1 fun x H2 => ∃ a o, x = .ref a ∧ DGet H2 a y o ∧ Q (.bl (!o.isSome)) H2 := rfl
theorem q_dput {td ty tv : TE} : sDPut td ty tv D σ H = tv σ H fun v H1 => td σ H1 fun x H2 => ty σ H2 fun y H3 => ∃ a H4, x = .ref a ∧ DPut H3 a y v H4 ∧ D.nx σ H4 := rfl
theorem q_dnew : tDNewK σ H Q = ∀ p, H p = none → Q (.ref p) (upd H p (.dK [])) := rfl
theorem q_seq {t u : TS} : tSeq t u D σ H = t { D with nx := u D } σ H := rfl
theorem q_cut {t u : TS} : tCut t u D σ H = ∀ p : L2.St → Hp → Prop, Cut (u D) p → t { D with nx := p } σ H := rfl
theorem q_asg {te : TE} {i : Nat} : tAsg te (gName i) D σ H = te σ H fun x H1 => D.nx (σ.set i (some x)) H1 := rfl
theorem q_asgT {te : TE} {K : PySem.W.Frag} {n : Nat} {t : TGs} : tAsg te (gTup K n t) D σ H = te σ H fun v H1 => ∃ a xs, v = .ref a ∧ SqT K H1 a xs ∧ xs.length = n ∧ t xs σ H1 D.nx := rfl
theorem q_ret {te : TE} : tRet te D σ H = te σ H D.rt := rfl
theorem q_retN : tRetN D σ H = D.rt .non H := rfl
theorem q_drop {te : TE} : tDrop te D σ H = te σ H fun _ H1 => D.nx σ H1 := rfl
theorem q_next : tNext D σ H = D.nx σ H := rfl
theorem q_brk : tBreak D σ H = D.bk σ H := rfl
theorem q_cont : tCont D σ H = D.ct σ H := rfl
theorem q_ifs {c : TT} {t u : TS} : tIfS c t u D σ H = c σ H fun b H1 => if b = true then t D σ H1 else u D σ H1 := rfl
section
variable {Q : Bool → Hp → Prop} {t u : TT} {te : TE}
theorem q_test : tTest te σ H Q = te σ H fun x H' => ∃ k, x = .bl k ∧ Q k H' := rfl
theorem q_b : tB te σ H Q = te σ H fun x H' => ∃ k, x = .bl k ∧ Q k H' := rfl
theorem q_and : tAnd t u σ H Q = t σ H fun c H1 => if c = true then u σ H1 Q else Q false H1 := rfl
theorem q_or : tOr t u σ H Q = t σ H fun c H1 => if c = true then Q true H1 else u σ H1 Q := rfl
theorem q_not : tNot t σ H Q = t σ H fun c H1 => Q (!c) H1 := rfl
end
theorem q_andV {ta tb : TE} : tAndV ta tb σ H Q = ta σ H fun x H1 => ∃ c, x = .bl c ∧ if c = true then tb σ H1 Q else Q (.bl false) H1 := rfl
theorem q_orV {ta tb : TE} : tOrV ta tb σ H Q = ta σ H fun x H1 => ∃ c, x = .bl c ∧ if c = true then Q (.bl true) H1 else tb σ H1 Q := rfl
theorem q_notV {ta : TE} : tNotV ta σ H Q = ta σ H fun x H1 => ∃ c, x = .bl c ∧ Q (.bl (!c)) H1 := rfl
theorem q_if {t : TT} {ta tb : TE} : tIf t ta tb σ H Q = t σ H fun c H1 => if c = true then ta σ H1 Q else tb σ H1 Q := rfl
theorem q_sl {r : V → Option Int → Option Int → Hp → VK → Prop} {te : TE} {tl th : TO} : tSl r te tl th σ H Q = te σ H fun x H1 => tl σ H1 fun l H2 => th σ H2 fun u H3 => r x l u H3 Q := rfl
theorem q_part {te : TE} {Q : Option Int → Hp → Prop} : tPart te σ H Q = te σ H fun x H1 => ∃ i, x = .int i ∧ Q (some i) H1 := rfl
theorem q_nopart {Q : Option Int → Hp → Prop} : tNoPart σ H Q = Q none H := rfl
theorem q_par {i j : Nat} {ta : TA} : tPar i j ta D σ H = ta σ H fun vs H1 => ∃ v w, vs = [v, w] ∧ D.nx ((σ.set i (some v)).set j (some w)) H1 := rfl
theorem q_disp {trs : List (TE × TE)} : tDisp trs σ H Q = ∀ p, H p = none → tPairs trs σ (upd H p (.dK [])) fun ps H2 => H2 p = some (.dK []) ∧ ∃ kvs : List (Key × V), ps = kvs.map (fun kv => (kV kv.1, kv.2)) ∧ kvs.length ≤ 15 ∧ Q (.ref p) (upd H2 p (.dK (mergeK [] kvs))) := rfl
end
section
variable {x y : V} {H : Hp} {Q : VK}
theorem r_ii {g : Int → Int → V} {i j : Int} : rI0 g (.int i) (.int j) H Q = Q (g i j) H := by
  apply propext
  exact ⟨fun ⟨a, b, e1, e2, q⟩ => by cases e1; cases e2; exact q, fun q => ⟨i, j, rfl, rfl, q⟩⟩
theorem r_i {C : Int → Int → Prop} {g : Int → Int → V} {i j : Int} : rI C g (.int i) (.int j) H Q = (C i j ∧ Q (g i j) H) := by
  apply propext
  exact ⟨fun ⟨a, b, e1, e2, q⟩ => by cases e1; cases e2; exact q, fun q => ⟨i, j, rfl, rfl, q⟩⟩
theorem r_neg {g : Int → V} {i : Int} : rU g (.int i) H Q = Q (g i) H := by
  apply propext
  exact ⟨fun ⟨a, e1, q⟩ => by cases e1; exact q, fun q => ⟨i, rfl, q⟩⟩
theorem r_adI {i j : Int} : rAd (.int i) (.int j) H Q = Q (.int (i + j)) H := by
  apply propext
  constructor
  · rintro (⟨a, b, e1, e2, q⟩ | ⟨a, b, e1, _⟩ | ⟨a, b, c, d, e1, _⟩)
    · cases e1; cases e2; exact q
    · cases e1
    · cases e1
  · exact fun q => .inl ⟨i, j, rfl, rfl, q⟩
theorem r_adS {i j : Str} : rAd (.str i) (.str j) H Q = (i.length + j.length ≤ sizeLine ∧ Q (.str (i ++ j)) H) := by
  apply propext
  constructor
  · rintro (⟨a, b, e1, _⟩ | ⟨a, b, e1, e2, q⟩ | ⟨a, b, c, d, e1, _⟩)
    · cases e1
    · cases e1; cases e2; exact q
    · cases e1
  · exact fun q => .inr (.inl ⟨i, j, rfl, rfl, q⟩)
theorem r_mlI {i j : Int} : rMl (.int i) (.int j) H Q = ((CMul i j ∨ CMulW i j) ∧ Q (.int (i * j)) H) := by
  apply propext
  constructor
  · rintro (⟨a, b, e1, e2, q⟩ | ⟨a, b, c, e1, _⟩)
    · cases e1; cases e2; exact q
    · cases e1
  · exact fun q => .inl ⟨i, j, rfl, rfl, q⟩
theorem r_md {i j : Int} : rMd (.int i) (.int j) H Q = (0 < j ∧ Q (.int (i % j)) H) := by
  apply propext
  exact ⟨fun ⟨a, b, e1, e2, q⟩ => by cases e1; cases e2; exact q, fun q => ⟨i, j, rfl, rfl, q⟩⟩
theorem r_fd {i j : Int} : rFd (.int i) (.int j) H Q = (CDivW i j ∧ Q (.int (i / j)) H) := by
  apply propext
  exact ⟨fun ⟨a, b, e1, e2, q⟩ => by cases e1; cases e2; exact q, fun q => ⟨i, j, rfl, rfl, q⟩⟩
theorem r_is {n : Bool} : rIs n x y H Q = (isK y = true ∧ Q (.bl (n ^^ decide (x = y))) H) := rfl
theorem r_eqS {K : PySem.W.Frag} {n : Bool} (h : scal x y = true) : rEqA K n x y H Q = Q (.bl (n ^^ decide (x = y))) H := by
  apply propext
  constructor
  · rintro (⟨_, q⟩ | ⟨⟨p, e | e⟩, _⟩)
    · exact q
    · subst e; cases y <;> cases h
    · subst e; cases x <;> cases h
  · exact fun q => .inl ⟨h, q⟩
theorem r_ixS {z : Str} {i : Int} : rIxA (.str z) (.int i) H Q = (z.length ≤ sizeLine ∧ ∃ c, atI z.cps.toList i = some c ∧ Q (.str ⟨#[c]⟩) H) := by
  apply propext
  constructor
  · rintro (⟨p, xs, j, v, e1, _⟩ | ⟨a, j, c, e1, e2, h, e, q⟩)
    · cases e1
    · cases e1; cases e2; exact ⟨h, c, e, q⟩
  · rintro ⟨h, c, e, q⟩
    exact .inr ⟨z, i, c, rfl, rfl, h, e, q⟩
theorem r_ixR {p : Addr} {i : Int} : rIxA (.ref p) (.int i) H Q = ∃ xs, (H p = some (.lst xs) ∨ H p = some (.tup xs)) ∧ ∃ v, atI xs i = some v ∧ Q v H := by
  apply propext
  constructor
  · rintro (⟨p', ys, j, v, e1, e2, h2, e, q⟩ | ⟨a, j, c, e1, _⟩)
    · cases e1; cases e2
      exact ⟨ys, h2, v, e, q⟩
    · cases e1
  · rintro ⟨xs, h, v, e, q⟩
    exact .inl ⟨p, xs, i, v, rfl, rfl, h, e, q⟩
theorem r_lenS {z : Str} : rLenA [.str z] H Q = (z.length ≤ sizeLine ∧ Q (.int z.length) H) := by
  apply propext
  constructor
  · rintro (⟨a, e1, q⟩ | ⟨p, xs, e1, _⟩ | ⟨p, xs, e1, _⟩)
    · cases e1; exact q
    · cases e1
    · cases e1
  · exact fun q => .inl ⟨z, rfl, q⟩
theorem r_lenR {p : Addr} : rLenA [.ref p] H Q = ((∃ xs, (H p = some (.lst xs) ∨ H p = some (.tup xs)) ∧ Q (.int xs.length) H) ∨ ∃ kvs, H p = some (.dK kvs) ∧ Q (.int kvs.length) H) := by
  apply propext
  constructor
  · rintro (⟨a, e1, q⟩ | ⟨p, ys, e1, h2, q⟩ | ⟨p, xs, e1, h2, q⟩)
    · cases e1
    · cases e1
      exact .inl ⟨ys, h2, q⟩
    · cases e1
      exact .inr ⟨xs, h2, q⟩
  · rintro (⟨xs, h, q⟩ | ⟨xs, h, q⟩)
    · exact .inr (.inl ⟨p, xs, rfl, h, q⟩)
    · exact .inr (.inr ⟨p, xs, rfl, h, q⟩)
theorem r_intI {i : Int} : rIntA [.int i] H Q = Q (.int i) H := by
  apply propext
  constructor
  · rintro (⟨a, e1, q⟩ | ⟨p, e1, _⟩ | ⟨p, xs, e1, _⟩)
    · cases e1; exact q
    · cases e1
    · cases e1
  · exact fun q => .inl ⟨i, rfl, q⟩
theorem r_intS {a : Str} : rIntA [.str a] H Q = ∃ n, PySem.intText? a = some n ∧ a.length ≤ 640 ∧ Q (.int n) H := by
  apply propext
  constructor
  · rintro (⟨a, e1, q⟩ | ⟨p, e1, _⟩ | ⟨p, n, e1, h⟩)
    · cases e1
    · cases e1
    · cases e1; exact ⟨n, h⟩
  · exact fun ⟨n, h⟩ => .inr (.inr ⟨a, n, rfl, h⟩)
theorem r_strI {i : Int} : rStrA [.int i] H Q = (i.natAbs.log2 < 1920 ∧ Q (.str (toString i)) H) := by
  apply propext
  constructor
  · rintro (⟨a, e1, q⟩ | ⟨p, e1, _⟩)
    · cases e1; exact q
    · cases e1
  · exact fun q => .inl ⟨i, rfl, q⟩
theorem r_strS {a : Str} : rStrA [.str a] H Q = Q (.str a) H := by
  apply propext
  constructor
  · rintro (⟨a, e1, q⟩ | ⟨p, e1, q⟩)
    · cases e1
    · cases e1; exact q
  · exact fun q => .inr ⟨a, rfl, q⟩
theorem r_slS {z : Str} {lo hi : Option Int} : rSlA (.str z) lo hi H Q = (z.length ≤ sizeLine ∧ Q (.str (cutS z lo hi)) H) := by
  apply propext
  constructor
  · rintro (⟨a, e1, q⟩ | ⟨p, xs, e1, _⟩)
    · cases e1; exact q
    · cases e1
  · exact fun q => .inl ⟨z, rfl, q⟩
theorem r_isi {n T : String} {b : Bool} (ht : TyN H x n) (hn : ∀ m, TyN H x m → m = n) (hk : kitB n T = some b) : rIsiA [x, .ty T] H Q = Q (.bl b) H := by
  apply propext
  constructor
  · rintro ⟨y, S, m, c, e1, h1, h2, q⟩
    cases e1
    cases hn m h1
    rw [hk] at h2; cases h2
    exact q
  · exact fun q => ⟨x, T, n, b, rfl, ht, hk, q⟩
theorem k_int_str : kitB "int" "str" = some false := by decide +kernel
theorem k_str_str : kitB "str" "str" = some true := by decide +kernel
theorem r_isi_int_str {i : Int} : rIsiA [.int i, .ty "str"] H Q = Q (.bl false) H := r_isi (n := "int") rfl (fun _ h => h) k_int_str
theorem r_isi_str_str {i : Str} : rIsiA [.str i, .ty "str"] H Q = Q (.bl true) H := r_isi (n := "str") rfl (fun _ h => h) k_str_str
theorem abs_nat (i : Int) : (if i < 0 then -i else i) = (i.natAbs : Int) := by split <;> omega
theorem r_abs {i : Int} : (∃ j, [V.int i] = [V.int j] ∧ Q (.int (if j < 0 then -j else j)) H) = Q (.int i.natAbs) H := by
  apply propext
  rw [← abs_nat]
  exact ⟨fun ⟨a, e1, q⟩ => by cases e1; exact q, fun q => ⟨i, rfl, q⟩⟩
end
/-! ### dicts by text keys -/
theorem rd_eq {H : Hp} {a : Addr} {u : HO} : Rd H a u = (H a = some u ∨ ∃ o, H a = some (.frz o u)) := rfl
theorem dget_s {H : Hp} {a : Addr} {k : Str} {r : Option V} : DGet H a (.str k) r = ∃ kvs, Rd H a (.dK kvs) ∧ r = valV kvs (.inr k) := by
  apply propext
  constructor
  · rintro (⟨ks, c, h1, h2, h3⟩ | ⟨ks, c, b, h1, h2, _⟩)
    · cases c with
      | inl i => cases h2
      | inr z => cases h2; exact ⟨ks, h1, h3⟩
    · cases h2
  · exact fun ⟨ks, h, e⟩ => .inl ⟨ks, .inr k, h, rfl, e⟩
theorem dget_i {H : Hp} {a : Addr} {k : Int} {r : Option V} : DGet H a (.int k) r = ∃ kvs, Rd H a (.dK kvs) ∧ r = valV kvs (.inl k) := by
  apply propext
  constructor
  · rintro (⟨ks, c, h1, h2, h3⟩ | ⟨ks, c, b, h1, h2, _⟩)
    · cases c with
      | inr i => cases h2
      | inl z => cases h2; exact ⟨ks, h1, h3⟩
    · cases h2
  · exact fun ⟨ks, h, e⟩ => .inl ⟨ks, .inl k, h, rfl, e⟩
theorem dput_s {H : Hp} {a : Addr} {k : Str} {v : V} {R : Hp → Prop} : (∃ H4, DPut H a (.str k) v H4 ∧ R H4) = ∃ kvs, H a = some (.dK kvs) ∧ kvs.length < sizeLine ∧ R (upd H a (.dK (putK kvs (.inr k) v))) := by
  apply propext
  constructor
  · rintro ⟨H4, (⟨ks, c, h1, h2, h3, h4⟩ | ⟨ks, c, b, h1, h2, _⟩), q⟩
    · cases c with
      | inl i => cases h2
      | inr z => cases h2; subst h4; exact ⟨ks, h1, h3, q⟩
    · cases h2
  · exact fun ⟨ks, h, hl, q⟩ => ⟨_, .inl ⟨ks, .inr k, h, rfl, hl, rfl⟩, q⟩
theorem upd_two {H : Hp} {a : Addr} {o u : HO} : upd (upd H a o) a u = upd H a u := by
  funext b
  unfold upd
  split <;> rfl
theorem upd_old {H : Hp} {p a : Addr} {o : HO} (h : H p = none) (ha : (H a).isSome = true) : upd H p o a = H a := upd_ne fun e => by
  subst e
  rw [h] at ha
  cases ha
theorem sizeN {n : Nat} (h : n ≤ 100000) : n < sizeLine := Nat.lt_of_le_of_lt h (by decide)
theorem start0 {N : List Str} {vs : List V} {σ : L2.St} {t : TS} {D : L2.Ends} {H : Hp} (e : L2.start N vs = σ) (h : t D σ H) : t D (L2.start N vs) H := by
  rw [e]
  exact h
/-! ### the source of draws -/
def srcL (c : Addr) (at_ rest seed room long : Int) : List (Key × V) := [(.inr "cells", .ref c), (.inr "at", .int at_), (.inr "rest", .int rest), (.inr "seed", .int seed), (.inr "room", .int room), (.inr "long", .int long)]
def Src (H : Hp) (a c : Addr) : Prop := ∃ (ns : List Int) (at_ rest seed room long : Int), H a = some (.dK (srcL c at_ rest seed room long)) ∧ H c = some (.lst (ns.map V.int)) ∧ 0 ≤ at_ ∧ 0 ≤ rest
def Keep (a : Addr) (H H' : Hp) : Prop := ∀ b o, H b = some o → b ≠ a → H' b = some o
theorem src_cells (c : Addr) (a r s m l : Int) : valV (srcL c a r s m l) (.inr "cells") = some (.ref c) := by rfl
theorem src_at (c : Addr) (a r s m l : Int) : valV (srcL c a r s m l) (.inr "at") = some (.int a) := by rfl
theorem src_rest (c : Addr) (a r s m l : Int) : valV (srcL c a r s m l) (.inr "rest") = some (.int r) := by rfl
theorem src_seed (c : Addr) (a r s m l : Int) : valV (srcL c a r s m l) (.inr "seed") = some (.int s) := by rfl
theorem src_room (c : Addr) (a r s m l : Int) : valV (srcL c a r s m l) (.inr "room") = some (.int m) := by rfl
theorem src_long (c : Addr) (a r s m l : Int) : valV (srcL c a r s m l) (.inr "long") = some (.int l) := by rfl
theorem srcp_at (c : Addr) (a r s m l x : Int) : putK (srcL c a r s m l) (.inr "at") (.int x) = srcL c x r s m l := by rfl
theorem srcp_rest (c : Addr) (a r s m l x : Int) : putK (srcL c a r s m l) (.inr "rest") (.int x) = srcL c a x s m l := by rfl
theorem srcp_seed (c : Addr) (a r s m l x : Int) : putK (srcL c a r s m l) (.inr "seed") (.int x) = srcL c a r x m l := by rfl
theorem srcp_room (c : Addr) (a r s m l x : Int) : putK (srcL c a r s m l) (.inr "room") (.int x) = srcL c a r s x l := by rfl
theorem srcp_long (c : Addr) (a r s m l x : Int) : putK (srcL c a r s m l) (.inr "long") (.int x) = srcL c a r s m x := by rfl
theorem src_len (c : Addr) (a r s m l : Int) : ((srcL c a r s m l).length < sizeLine) = True := eq_true (sizeN (by show 6 ≤ 100000; decide))
theorem cmul_r {i j : Int} (h1 : -18446744073709551616 < j) (h2 : j < 18446744073709551616) : (CMul i j ∨ CMulW i j) = True := eq_true (.inl (.inr ⟨h1, h2⟩))
theorem cmul_l {i j : Int} (h1 : -18446744073709551616 < i) (h2 : i < 18446744073709551616) : (CMul i j ∨ CMulW i j) = True := eq_true (.inl (.inl ⟨h1, h2⟩))
theorem cpow_10 {n : Int} (h0 : 0 ≤ n) (h1 : n ≤ 1000) : CPow 10 n = True := eq_true ⟨h0, by omega, by decide⟩
theorem atI_ints {ns : List Int} {i : Int} (h0 : 0 ≤ i) (h1 : i < ns.length) : ∃ n, atI (ns.map V.int) i = some (.int n) := by
  obtain ⟨j, rfl⟩ := Int.eq_ofNat_of_zero_le h0
  have hj : j < ns.length := by omega
  refine ⟨ns[j], ?_⟩
  exact atI_nat (by rw [List.getElem?_map, List.getElem?_eq_getElem hj]; rfl)
theorem Keep.refl (a : Addr) (H : Hp) : Keep a H H := fun _ _ h _ => h
theorem Keep.trans {a : Addr} {H H1 H2 : Hp} (x : Keep a H H1) (y : Keep a H1 H2) : Keep a H H2 := fun b o h n => y b o (x b o h n) n
theorem Keep.upd {a : Addr} {H : Hp} {o : HO} : Keep a H (upd H a o) := fun b u h n => by rw [upd_ne n]; exact h
theorem Keep.new {a p : Addr} {H : Hp} {o : HO} (h : H p = none) : Keep a H (L2.upd H p o) := fun b u e _ => by rw [upd_ne (ne_of_none e h)]; exact e
theorem src_ne {H : Hp} {a c d : Addr} (h : Src H a c) (hd : H d = none) : d ≠ a ∧ d ≠ c := by
  obtain ⟨ns, at_, rest, seed, room, long, ha, hc, _⟩ := h
  exact ⟨(ne_of_none ha hd).symm, (ne_of_none hc hd).symm⟩
theorem src_upd {H : Hp} {a c d : Addr} {o : HO} (h : Src H a c) (na : d ≠ a) (nc : d ≠ c) : Src (L2.upd H d o) a c := by
  obtain ⟨ns, at_, rest, seed, room, long, ha, hc, h0, h1⟩ := h
  exact ⟨ns, at_, rest, seed, room, long, by rw [upd_ne na.symm]; exact ha, by rw [upd_ne nc.symm]; exact hc, h0, h1⟩
theorem src_new {H : Hp} {a c d : Addr} {o : HO} (h : Src H a c) (hd : H d = none) : Src (L2.upd H d o) a c := src_upd h (src_ne h hd).1 (src_ne h hd).2
theorem src_same {H H' : Hp} {a c : Addr} (h : Src H a c) (hk : Same H H') : Src H' a c := by
  obtain ⟨ns, at_, rest, seed, room, long, ha, hc, h0, h1⟩ := h
  exact ⟨ns, at_, rest, seed, room, long, hk _ _ ha, hk _ _ hc, h0, h1⟩
/-- an object that was not there at H changes -/
theorem Keep.mut {a d : Addr} {H H1 H2 : Hp} {o : HO} (k1 : Keep a H H1) (n : d ≠ a) (hd : H1 d = none) (k2 : Keep a H H2) : Keep a H (L2.upd H2 d o) := fun b u h nb => by
  have e : b ≠ d := fun e => by
    subst e
    have := k1 _ _ h nb
    rw [hd] at this
    cases this
  rw [upd_ne e]
  exact k2 b u h nb
theorem Keep.free {a : Addr} {H H' : Hp} (k : Keep a H H') {b : Addr} (n : b ≠ a) (h : H' b = none) : H b = none := by
  cases e : H b with
  | none => rfl
  | some o => rw [k b o e n] at h; cases h
theorem src_mk {H : Hp} {a c : Addr} {ns : List Int} {kvs : List (Key × V)} {at_ rest seed room long : Int} (ha : H a = some (.dK kvs)) (hc : H c = some (.lst (ns.map V.int))) (h0 : 0 ≤ at_) (h1 : 0 ≤ rest) : Src (upd H a (.dK (srcL c at_ rest seed room long))) a c := by
  have n : c ≠ a := fun e => by
    subst e
    rw [hc] at ha
    cases ha
  exact ⟨ns, at_, rest, seed, room, long, upd_same, by rw [upd_ne n]; exact hc, h0, h1⟩

theorem r_inS {n : Bool} {c : Nat} {z : Str} {H : Hp} {Q : VK} : rInA n (.str ⟨#[c]⟩) (.str z) H Q = Q (.bl (n ^^ decide (c ∈ z.cps.toList))) H := by
  apply propext
  constructor
  · rintro (⟨d, w, e1, e2, q⟩ | ⟨p, xs, e1, _⟩)
    · cases e1; cases e2; exact q
    · cases e1
  · exact fun q => .inl ⟨c, z, rfl, rfl, q⟩
theorem r_inR {n : Bool} {x : V} {p : Addr} {H : Hp} {Q : VK} : rInA n x (.ref p) H Q = ∃ xs, (H p = some (.lst xs) ∨ H p = some (.tup xs)) ∧ flatV x = true ∧ xs.all flatV = true ∧ Q (.bl (n ^^ inV x xs)) H := by
  apply propext
  constructor
  · rintro (⟨d, w, e1, e2, q⟩ | ⟨p', xs, e1, q⟩)
    · cases e2
    · cases e1; exact ⟨xs, q⟩
  · exact fun ⟨xs, q⟩ => .inr ⟨p, xs, rfl, q⟩
theorem isK_bl {b : Bool} : (isK (.bl b) = true) = True := eq_true rfl
theorem isK_non : (isK .non = true) = True := eq_true rfl
theorem tyV_str {K : PySem.W.Frag} {z : Str} {H : Hp} : tyV K "str" (.str z) H = True := eq_true rfl
/-! ### loops -/
def Loop (J : It) (g : TG) (tb : TS) (D : L2.Ends) (σ : L2.St) (H : Hp) : Prop := ∃ W : Nat → Nat → L2.St → Hp → Prop, (∃ m, W 0 m σ H) ∧ ∀ i m σ H, W i m σ H →
  (J.stop i H ∧ D.nx σ H) ∨ (J.go i H ∧ ∃ N : L2.St → Hp → Prop, (∀ σ' H', N σ' H' → ∃ m', m' < m ∧ W (i + 1) m' σ' H') ∧ ∀ x H', J.yld i H x H' → g x σ H' fun σ2 H2 => tb { D with nx := N, ct := N, bk := D.nx } σ2 H2)
def LcLoop (J : It) (g : TG) (tt : TT) (te : TE) (vs : List Nat) (σ : L2.St) (Q : VK) (D : Addr) (H1 : Hp) : Prop := ∃ W : Nat → Nat → Hp → Prop, (∃ m, W 0 m (upd H1 D (.lst []))) ∧ ∀ i m H, W i m H →
  (J.stop i H ∧ Q (.ref D) H) ∨ (J.go i H ∧ ∃ Nx : Hp → Prop, (∀ H', Nx H' → ∃ m', m' < m ∧ W (i + 1) m' H') ∧ ∀ x H', J.yld i H x H' → g x (wipe σ vs) H' fun σ2 H2 => wipe σ2 vs = wipe σ vs ∧ tt σ2 H2 fun b H3 =>
    if b = true then te σ2 H3 fun y H4 => ∃ acc, H4 D = some (.lst acc) ∧ acc.length < sizeLine ∧ Nx (upd H4 D (.lst (acc ++ [y]))) else Nx H3)
section
variable {σ : L2.St} {H : Hp} {Q : VK} {D : L2.Ends} {g : TG} {tb : TS} {R : It → Hp → Prop}
theorem q_for {wi : TI} : tFor wi g tb D σ H = wi σ H fun J H1 => Loop J g tb D σ H1 := rfl
theorem q_lc {wi : TI} {tt : TT} {te : TE} {vs : List Nat} : tLc wi g tt te vs σ H Q = wi σ H fun J H1 => ∀ D, H1 D = none → LcLoop J g tt te vs σ Q D H1 := rfl
theorem q_rng1 {ta : TA} : iRng1 ta σ H R = ta σ H fun vs H1 => ∃ j : Int, vs = [.int j] ∧ -(2 ^ 62) ≤ j ∧ j < 2 ^ 62 ∧ R (Itr 0 j.toNat) H1 := rfl
theorem q_rng2 {ta : TA} : iRng2 ta σ H R = ta σ H fun vs H1 => ∃ i j : Int, vs = [.int i, .int j] ∧ (-(2 ^ 62) ≤ i ∧ i < 2 ^ 62 ∧ -(2 ^ 62) ≤ j ∧ j < 2 ^ 62) ∧ R (Itr i (j - i).toNat) H1 := rfl
theorem q_ilist {K : PySem.W.Frag} {tl : TE} : iList K tl σ H R = tl σ H fun x H1 => ∃ a, x = .ref a ∧ (∃ xs, SqL K H1 a xs) ∧ R (Itl K a) H1 := rfl
theorem q_istr {te : TE} : iStr te σ H R = te σ H fun v H1 => ∃ x, v = .str x ∧ R (Its x) H1 := rfl
theorem lp_range {lo : Int} {n : Nat} (Pv : Nat → L2.St → Hp → Prop) (h0 : Pv 0 σ H)
    (hs : ∀ i σ H, i < n → Pv i σ H → g (.int (lo + i)) σ H fun σ2 H2 => tb { D with nx := Pv (i + 1), ct := Pv (i + 1), bk := D.nx } σ2 H2) (hd : ∀ σ H, Pv n σ H → D.nx σ H) : Loop (Itr lo n) g tb D σ H := for_range Pv h0 hs hd
theorem lp_list {K : PySem.W.Frag} {a : Addr} {xs : List V} (Pv : Nat → L2.St → Hp → Prop) (h0 : Pv 0 σ H) (hl : ∀ i σ H, i ≤ xs.length → Pv i σ H → SqL K H a xs)
    (hs : ∀ i x σ H, xs[i]? = some x → Pv i σ H → g x σ H fun σ2 H2 => tb { D with nx := Pv (i + 1), ct := Pv (i + 1), bk := D.nx } σ2 H2) (hd : ∀ σ H, Pv xs.length σ H → D.nx σ H) : Loop (Itl K a) g tb D σ H := for_list Pv h0 hl hs hd
theorem lp_str {x : Str} (Pv : Nat → L2.St → Hp → Prop) (h0 : Pv 0 σ H)
    (hs : ∀ i c σ H, x.cps.toList[i]? = some c → Pv i σ H → g (.str ⟨#[c]⟩) σ H fun σ2 H2 => tb { D with nx := Pv (i + 1), ct := Pv (i + 1), bk := D.nx } σ2 H2) (hd : ∀ σ H, Pv x.cps.toList.length σ H → D.nx σ H) : Loop (Its x) g tb D σ H := by
  have el : x.cps.toList.length = x.cps.size := Array.length_toList
  refine ⟨fun i m σ H => m = x.cps.size - i ∧ i ≤ x.cps.size ∧ Pv i σ H, ⟨x.cps.size, by simp, Nat.zero_le _, h0⟩, ?_⟩
  rintro i m σ H ⟨rfl, hi, p⟩
  by_cases hlt : i < x.cps.size
  · refine .inr ⟨hlt, Pv (i + 1), fun σ' H' p' => ⟨x.cps.size - (i + 1), by omega, rfl, hlt, p'⟩, fun v H' y => ?_⟩
    obtain ⟨e, c, ec, ev⟩ := y
    subst e ev
    exact hs i c σ _ (by rw [Array.getElem?_toList]; exact ec) p
  · have e : i = x.cps.toList.length := by omega
    subst e
    exact .inl ⟨by show x.cps.size ≤ _; omega, hd σ H p⟩
theorem wipe_one {k : Nat} {v : Option V} : wipe ((wipe σ [k]).set k v) [k] = wipe σ [k] := by
  simp only [wipe, List.set_set]
/-- what a turn of a comprehension is to reach -/
def LcNext (p : Addr) (i : Nat) (G : Nat → List V → Hp → Prop) : VK := fun y H4 => ∃ acc, H4 p = some (.lst acc) ∧ acc.length < sizeLine ∧ ∃ ys, ys.length = i + 1 ∧ upd H4 p (.lst (acc ++ [y])) p = some (.lst ys) ∧ G (i + 1) ys (upd H4 p (.lst (acc ++ [y])))
theorem LcNext.mk {p : Addr} {i : Nat} {G : Nat → List V → Hp → Prop} {y : V} {H4 : Hp} {ys : List V} (h : H4 p = some (.lst ys)) (e : ys.length = i) (hi : i < 100000) (hG : G (i + 1) (ys ++ [y]) (upd H4 p (.lst (ys ++ [y])))) : LcNext p i G y H4 :=
  ⟨ys, h, sizeN (by omega), ys ++ [y], by simp [e], upd_same, hG⟩
/-- [te for k in range], the list so far is told to G -/
theorem lc_r {lo : Int} {n k : Nat} {te : TE} {p : Addr} (G : Nat → List V → Hp → Prop) (h0 : G 0 [] (upd H p (.lst [])))
    (hs : ∀ i ys H, i < n → ys.length = i → H p = some (.lst ys) → G i ys H → te ((wipe σ [k]).set k (some (.int (lo + i)))) H (LcNext p i G))
    (hd : ∀ ys H, ys.length = n → H p = some (.lst ys) → G n ys H → Q (.ref p) H) : LcLoop (Itr lo n) (gName k) tYes te [k] σ Q p H := by
  refine lc_range (Qd := fun H => Q (.ref p) H) (fun i H => ∃ ys, ys.length = i ∧ H p = some (.lst ys) ∧ G i ys H) ⟨[], rfl, upd_same, h0⟩ (fun i H hi ⟨ys, e, hp, hG⟩ => ?_) (fun H ⟨ys, e, hp, hG⟩ => hd ys H e hp hG)
  refine ⟨wipe_one, ?_⟩
  unfold tYes
  simp only [if_true]
  exact hs i ys H hi e hp hG
/-- [te for k in xs], xs a list that stands -/
theorem lc_l {K : PySem.W.Frag} {a p : Addr} {xs : List V} {k : Nat} {te : TE} (G : Nat → List V → Hp → Prop) (h0 : G 0 [] (upd H p (.lst []))) (hl : ∀ i ys H, G i ys H → SqL K H a xs)
    (hs : ∀ i x ys H, xs[i]? = some x → ys.length = i → H p = some (.lst ys) → G i ys H → te ((wipe σ [k]).set k (some x)) H (LcNext p i G))
    (hd : ∀ ys H, ys.length = xs.length → H p = some (.lst ys) → G xs.length ys H → Q (.ref p) H) : LcLoop (Itl K a) (gName k) tYes te [k] σ Q p H := by
  refine lc_list (xs := xs) (Qd := fun H => Q (.ref p) H) (fun i H => ∃ ys, ys.length = i ∧ H p = some (.lst ys) ∧ G i ys H) ⟨[], rfl, upd_same, h0⟩ (fun i H hi ⟨ys, e, hp, hG⟩ => hl i ys H hG) (fun i x H hx ⟨ys, e, hp, hG⟩ => ?_) (fun H ⟨ys, e, hp, hG⟩ => hd ys H e hp hG)
  refine ⟨wipe_one, ?_⟩
  unfold tYes
  simp only [if_true]
  exact hs i x ys H hx e hp hG
end
section
variable {x y : V} {H : Hp} {Q : VK} {K : PySem.W.Frag} {n : Bool}
theorem r_eqII {i j : Int} : rEqA K n (.int i) (.int j) H Q = Q (.bl (n ^^ decide (i = j))) H := by
  rw [r_eqS rfl]
  simp only [V.int.injEq]
theorem r_eqSS {i j : Str} : rEqA K n (.str i) (.str j) H Q = Q (.bl (n ^^ decide (i = j))) H := by
  rw [r_eqS rfl]
  simp only [V.str.injEq]
theorem r_eqBB {i j : Bool} : rEqA K n (.bl i) (.bl j) H Q = Q (.bl (n ^^ decide (i = j))) H := by
  rw [r_eqS rfl]
  simp only [V.bl.injEq]
end
theorem callee_fn {P : Program} {w : World} {K : PySem.W.Frag} {mg : Str → Option Value} {base : Heap} {k : Nat} {x : Str} {ps : List Str} {sp : Sp} {st : Stmt} {f : Addr} {fd : FuncData} (F : Fun K x x st f fd) (g : mg x = some (.ref f)) (C : Callee P w K mg base k x ps sp) : FnOk P w K mg base CX0 k f fd ps sp := by
  obtain ⟨f', fd', g', kp, b, R, oc', od', sl', lk'⟩ := C.ex
  rw [g] at g'
  cases g'
  obtain ⟨oc, od, kV, doc, pm, an, cdv, ct, osl, e, lk, _⟩ := F.ex
  rw [lk] at lk'
  cases lk'
  exact R
end KB
namespace KB
open PySem PySem.Spec PyProof.Rows L2 TL
/-! ### texts as lists of codes -/
/-- printable signs alone -/
def Pr (z : Str) : Prop := ∀ c ∈ tl z, 32 ≤ c ∧ c < 127
theorem Pr.app {x y : Str} (hx : Pr x) (hy : Pr y) : Pr (x ++ y) := fun c hc => by
  rw [tl_append] at hc
  rcases List.mem_append.mp hc with h | h
  · exact hx c h
  · exact hy c h
theorem pr_one {c : Nat} (h : 32 ≤ c ∧ c < 127) : Pr ⟨#[c]⟩ := fun d hd => by
  have e : d = c := List.mem_singleton.mp hd
  subst e
  exact h
theorem pr_lit {s : String} (h : (s.toList.map Char.toNat).all (fun c => decide (32 ≤ c) && decide (c < 127)) = true) : Pr (Str.ofString s) := fun c hc => by
  rw [tl_ofString] at hc
  have q := List.all_eq_true.mp h c hc
  simpa using q
theorem len_lit (s : String) : (Str.ofString s).length = s.toList.length := by rw [len_tl, tl_ofString, List.length_map]
theorem len_app (x y : Str) : (x ++ y).length = x.length + y.length := by rw [len_tl, tl_append, List.length_append, ← len_tl, ← len_tl]
theorem lit_at {z : Str} {n : Nat} (hn : (tl z).length = n) (h : (tl z).all (fun c => decide (32 ≤ c) && decide (c < 127)) = true) {r : Int} (r0 : 0 ≤ r) (r1 : r < n) : ∃ c, atI z.cps.toList r = some c ∧ 32 ≤ c ∧ c < 127 := by
  obtain ⟨j, rfl⟩ := Int.eq_ofNat_of_zero_le r0
  have hj : j < (tl z).length := by omega
  have q := List.all_eq_true.mp h (tl z)[j] (List.getElem_mem hj)
  simp only [Bool.and_eq_true, decide_eq_true_eq] at q
  exact ⟨(tl z)[j], atI_nat (List.getElem?_eq_getElem hj), q.1, q.2⟩
theorem lit_ex {z : Str} {n : Nat} {R : Nat → Prop} {r : Int} (hn : (tl z).length = n) (h : (tl z).all (fun c => decide (32 ≤ c) && decide (c < 127)) = true) (r0 : 0 ≤ r) (r1 : r < n) (k : ∀ c, 32 ≤ c → c < 127 → R c) : ∃ c, atI z.cps.toList r = some c ∧ R c := by
  obtain ⟨c, e, h1, h2⟩ := lit_at hn h r0 r1
  exact ⟨c, e, k c h1 h2⟩
theorem join_tl (a : Str) (zs : List Str) : tl (Txt.join a zs) = joinL (tl a) (zs.map tl) := by
  rw [join_eq, tl_join]
theorem joinL_nil : ∀ ls : List (List Nat), joinL [] ls = ls.flatten
  | [] => rfl
  | [p] => by simp [joinL]
  | p :: q :: r => by
    show p ++ ([] ++ joinL [] (q :: r)) = _
    rw [joinL_nil (q :: r)]
    simp
theorem join0 (zs : List Str) : tl (Txt.join (Str.ofString "") zs) = (zs.map tl).flatten := by
  rw [join_tl, show tl (Str.ofString "") = [] from by rw [tl_ofString]; rfl, joinL_nil]
theorem join_pr {zs : List Str} (h : ∀ z ∈ zs, Pr z) : Pr (Txt.join (Str.ofString "") zs) := fun c hc => by
  rw [join0] at hc
  obtain ⟨l, hl, h1⟩ := List.mem_flatten.mp hc
  obtain ⟨z, hz, rfl⟩ := List.mem_map.mp hl
  exact h z hz c h1
theorem join_len (zs : List Str) : (Txt.join (Str.ofString "") zs).length = (zs.map (·.length)).sum := by
  rw [len_tl, join0, List.length_flatten, List.map_map]
  refine congrArg List.sum ?_
  exact List.map_congr_left fun z _ => (len_tl z).symm
theorem len_ones {zs : List Str} (h : ∀ z ∈ zs, z.length = 1) : (zs.map (·.length)).sum = zs.length := by
  induction zs with
  | nil => rfl
  | cons z r ih =>
    rw [List.map_cons, List.sum_cons, h z (List.mem_cons_self ..), ih fun z hz => h z (List.mem_cons_of_mem _ hz), List.length_cons]
    omega
theorem tl_neg (n : Nat) (h : 0 < n) : tl (Str.ofString (toString (-(n : Int)))) = 45 :: numL n := by
  obtain ⟨m, rfl⟩ : ∃ m, n = m + 1 := ⟨n - 1, by omega⟩
  have e : toString (-((m + 1 : Nat) : Int)) = "-" ++ toString ((m + 1 : Nat) : Int) := rfl
  rw [e, tl_ofString, String.toList_append, List.map_append]
  rw [show List.map Char.toNat (toString ((m + 1 : Nat) : Int)).toList = numL (m + 1) from (tl_ofString _).symm.trans (tl_num (m + 1))]
  rfl
/-- the codes of str(n) -/
def intL (n : Int) : List Nat := if n < 0 then 45 :: numL n.natAbs else numL n.natAbs
theorem tl_int (n : Int) : tl (Str.ofString (toString n)) = intL n := by
  unfold intL
  split
  · have e : n = -((n.natAbs : Nat) : Int) := by omega
    have h := tl_neg n.natAbs (by omega)
    rw [← e] at h
    exact h
  · have e : n = ((n.natAbs : Nat) : Int) := by omega
    have h := tl_num n.natAbs
    rw [← e] at h
    exact h
theorem intL_sign {n : Int} {c : Nat} (h : c ∈ intL n) : c = 45 ∨ (48 ≤ c ∧ c ≤ 57) := by
  unfold intL at h
  split at h
  · rcases List.mem_cons.mp h with h | h
    · exact .inl h
    · exact .inr (numL_digits _ c h)
  · exact .inr (numL_digits _ c h)
theorem pr_int (n : Int) : Pr (Str.ofString (toString n)) := fun c hc => by
  rw [tl_int] at hc
  have h := intL_sign hc
  omega
theorem len_int {n : Int} {k : Nat} (hk : 0 < k) (h : n.natAbs < 10 ^ k) : (Str.ofString (toString n)).length ≤ k + 1 := by
  rw [len_tl, tl_int]
  have e := numL_len hk h
  unfold intL
  split
  · rw [List.length_cons]; omega
  · omega
theorem log_int {n : Int} (h : n.natAbs < 10 ^ 30) : n.natAbs.log2 < 1920 := by
  by_cases h0 : n.natAbs = 0
  · rw [h0]; decide
  · exact (Nat.log2_lt h0).mpr (Nat.lt_trans h (by decide +kernel))
theorem pow10 {a b : Nat} (h : a ≤ b) : (10 : Int) ^ a ≤ 10 ^ b := by
  have e := Nat.pow_le_pow_right (by decide : 0 < 10) h
  have e2 : ((10 ^ a : Nat) : Int) ≤ ((10 ^ b : Nat) : Int) := Int.ofNat_le.mpr e
  simpa using e2
/-- a key: an integer of at most thirty digits, a printable text -/
def KeyV (v : V) : Prop := (∃ n : Int, v = .int n ∧ n.natAbs < 10 ^ 30) ∨ ∃ z, v = .str z ∧ Pr z ∧ z.length ≤ 300
def okS (m : Nat) (z : Str) : Bool := (tl z).all (fun c => decide (32 ≤ c) && decide (c < 127)) && decide (z.length ≤ m)
theorem okS_pr {m : Nat} {z : Str} (h : okS m z = true) : Pr z ∧ z.length ≤ m := by
  unfold okS at h
  rw [Bool.and_eq_true] at h
  refine ⟨fun c hc => ?_, of_decide_eq_true h.2⟩
  have q := List.all_eq_true.mp h.1 c hc
  simpa using q
def okV (m : Nat) : V → Bool
  | .str z => okS m z
  | _ => false
theorem menu_at {vs : List V} {n : Nat} {r : Int} (hn : vs.length = n) (r0 : 0 ≤ r) (r1 : r < n) : ∃ v ∈ vs, atI vs r = some v := by
  obtain ⟨j, rfl⟩ := Int.eq_ofNat_of_zero_le r0
  have hj : j < vs.length := by omega
  exact ⟨vs[j], List.getElem_mem hj, atI_nat (List.getElem?_eq_getElem hj)⟩
theorem menu_ok {vs : List V} {m n : Nat} {r : Int} {R : V → Prop} (hn : vs.length = n) (hz : vs.all (okV m) = true) (r0 : 0 ≤ r) (r1 : r < n) (k : ∀ z, Pr z → z.length ≤ m → R (.str z)) : ∃ v, atI vs r = some v ∧ R v := by
  obtain ⟨v, hv, e⟩ := menu_at hn r0 r1
  have q := List.all_eq_true.mp hz v hv
  cases v with
  | str z => exact ⟨_, e, k z (okS_pr q).1 (okS_pr q).2⟩
  | _ => cases q
/-! ### numbers read from digits -/
theorem digitsVal_snoc (l : List Nat) (c : Nat) : NumText.digitsVal (l ++ [c]) = NumText.digitsVal l * 10 + (c - 48) := by
  unfold NumText.digitsVal
  rw [List.foldl_append]
  rfl
theorem rev_ind {α : Type} {p : List α → Prop} (h0 : p []) (h1 : ∀ l a, p l → p (l ++ [a])) (l : List α) : p l := by
  rw [← List.reverse_reverse l]
  induction l.reverse with
  | nil => exact h0
  | cons a r ih => rw [List.reverse_cons]; exact h1 _ _ ih
theorem digitsVal_lt (l : List Nat) : NumText.AllDigits l → NumText.digitsVal l < 10 ^ l.length := by
  refine rev_ind (p := fun l => NumText.AllDigits l → NumText.digitsVal l < 10 ^ l.length) (fun _ => by decide) (fun r c ih hd => ?_) l
  have hc := hd c (by simp)
  have h1 := ih fun d h => hd d (List.mem_append_left _ h)
  rw [digitsVal_snoc, List.length_append, List.length_singleton, Nat.pow_succ]
  omega
theorem digits30 {l : List Nat} (hd : NumText.AllDigits l) (h : l.length ≤ 30) : NumText.digitsVal l < 10 ^ 30 := Nat.lt_of_lt_of_le (digitsVal_lt l hd) (Nat.pow_le_pow_right (by decide) h)
theorem digits_pos (l : List Nat) : NumText.AllDigits l → l ≠ [] → l.head? ≠ some 48 → 0 < NumText.digitsVal l := by
  refine rev_ind (p := fun l => NumText.AllDigits l → l ≠ [] → l.head? ≠ some 48 → 0 < NumText.digitsVal l) (fun _ h _ => absurd rfl h) (fun r c ih hd _ hh => ?_) l
  rw [digitsVal_snoc]
  have hc := hd c (by simp)
  cases r with
  | nil =>
    have : c ≠ 48 := fun e => hh (by simp [e])
    omega
  | cons x r =>
    have := ih (fun d h => hd d (List.mem_append_left _ h)) (by simp) (by simpa using hh)
    omega
theorem numL_back (l : List Nat) : NumText.AllDigits l → l ≠ [] → (l = [48] ∨ l.head? ≠ some 48) → numL (NumText.digitsVal l) = l := by
  refine rev_ind (p := fun l => NumText.AllDigits l → l ≠ [] → (l = [48] ∨ l.head? ≠ some 48) → numL (NumText.digitsVal l) = l) (fun _ h _ => absurd rfl h) (fun r c ih hd _ hh => ?_) l
  have hc := hd c (by simp)
  have hr : NumText.AllDigits r := fun d h => hd d (List.mem_append_left _ h)
  rw [digitsVal_snoc]
  cases r with
  | nil =>
    rw [show NumText.digitsVal [] * 10 + (c - 48) = c - 48 by simp [NumText.digitsVal]]
    rw [numL_lt (by omega)]
    simp
    omega
  | cons x r =>
    have hx : (x :: r).head? ≠ some 48 := by
      rcases hh with hh | hh
      · have := congrArg List.length hh
        simp at this
      · simpa using hh
    have hp := digits_pos (x :: r) hr (by simp) hx
    rw [numL_step (by omega)]
    rw [show (NumText.digitsVal (x :: r) * 10 + (c - 48)) / 10 = NumText.digitsVal (x :: r) by omega, show (NumText.digitsVal (x :: r) * 10 + (c - 48)) % 10 = c - 48 by omega, ih hr (by simp) (.inr hx)]
    congr 2
    omega
/-! ### digit keys -/
def isDg (c : Nat) : Bool := decide (48 ≤ c) && decide (c ≤ 57)
/-- what stands behind a minus sign, or the whole -/
def body (l : List Nat) : List Nat := if l.head? = some 45 then l.tail else l
def digK (l : List Nat) : Bool := decide (body l ≠ []) && decide ((body l).length ≤ 30) && (body l).all isDg && (decide (l = [48]) || decide ((body l).head? ≠ some 48))
theorem digK_int {z : Str} (h : digK (tl z) = true) : ∃ n, PySem.intText? z = some n ∧ Str.ofString (toString n) = z ∧ z.length ≤ 31 ∧ n.natAbs < 10 ^ 30 := by
  unfold digK at h
  simp only [Bool.and_eq_true, decide_eq_true_eq, Bool.or_eq_true] at h
  obtain ⟨⟨⟨h1, h2⟩, h3⟩, h4⟩ := h
  have hd : NumText.AllDigits (body (tl z)) := fun c hc => by
    have q := List.all_eq_true.mp h3 c hc
    simpa [isDg] using q
  by_cases hm : (tl z).head? = some 45
  · obtain ⟨r, er⟩ : ∃ r, tl z = 45 :: r := by
      cases e : tl z with
      | nil => rw [e] at hm; cases hm
      | cons x r => rw [e] at hm; cases hm; exact ⟨r, rfl⟩
    have eb : body (tl z) = r := by unfold body; rw [if_pos hm, er]; rfl
    rw [eb] at h1 h2 hd h4
    have h0 : r.head? ≠ some 48 := by
      rcases h4 with h4 | h4
      · rw [er] at h4; cases h4
      · exact h4
    have hp := digits_pos r hd h1 h0
    have hl : z.length ≤ 31 := by rw [len_tl, er, List.length_cons]; omega
    refine ⟨-((NumText.digitsVal r : Nat) : Int), intText_neg er hd h1 (by omega), ext_tl ?_, hl, by have := digits30 hd h2; omega⟩
    rw [tl_neg _ hp, er, numL_back r hd h1 (.inr h0)]
  · have eb : body (tl z) = tl z := by unfold body; rw [if_neg hm]
    rw [eb] at h1 h2 hd h4
    have hl : z.length ≤ 31 := by rw [len_tl]; omega
    refine ⟨((NumText.digitsVal (tl z) : Nat) : Int), intText_digits hd h1 (by omega), ext_tl ?_, hl, by have := digits30 hd h2; omega⟩
    rw [tl_num, numL_back _ hd h1 h4]
theorem uni_dig : ∀ c : Nat, c < 127 → Unicode.isDigit c = isDg c := by decide +kernel
theorem pr_body {z : Str} (h : Pr z) : ∀ c ∈ body (tl z), 32 ≤ c ∧ c < 127 := fun c hc => by
  unfold body at hc
  split at hc
  · exact h c (List.mem_of_mem_tail hc)
  · exact h c hc
theorem isdigit_pr {z : Str} (h : ∀ c ∈ tl z, 32 ≤ c ∧ c < 127) : Txt.isdigit z = (decide (tl z ≠ []) && (tl z).all isDg) := by
  have e1 : (decide (z.length > 0)) = decide (tl z ≠ []) := by
    rw [len_tl]
    cases tl z <;> simp
  have e2 : z.cps.all Unicode.isDigit = (tl z).all isDg := by
    rw [← Array.all_toList]
    rw [Bool.eq_iff_iff, List.all_eq_true, List.all_eq_true]
    exact ⟨fun q c hc => by rw [← uni_dig c (h c hc).2]; exact q c hc, fun q c hc => by rw [uni_dig c (h c hc).2]; exact q c hc⟩
  unfold Txt.isdigit
  rw [e1, e2]
theorem rm_minus (z : Str) : tl (Txt.removeprefix z (Str.ofString "-")) = body (tl z) := by
  rw [PySem.StrLaws.removeprefix_eq]
  have hm : (Str.ofString "-").length = 1 := by decide +kernel
  have hs : Builtin.Str.subAt z (Str.ofString "-") 0 = decide ((tl z).head? = some 45) := by
    unfold Builtin.Str.subAt
    rw [hm]
    have e : (z.cps.extract 0 (0 + 1)).toList = (tl z).take 1 := by simp [tl]
    have e2 : (Str.ofString "-").cps = #[45] := by decide +kernel
    rw [e2]
    have e3 : (z.cps.extract 0 (0 + 1) == #[45]) = ((tl z).take 1 == [45]) := by
      rw [← e]
      rw [Bool.eq_iff_iff, beq_iff_eq, beq_iff_eq]
      exact ⟨fun h => by rw [h], fun h => Array.toList_inj.mp h⟩
    rw [e3]
    cases tl z with
    | nil => rfl
    | cons x r =>
      rw [Bool.eq_iff_iff, beq_iff_eq, decide_eq_true_eq]
      simp
  rw [hs, hm]
  unfold body
  by_cases h : (tl z).head? = some 45
  · have hl : 0 + 1 ≤ z.length := by
      rw [len_tl]
      cases e : tl z with
      | nil => rw [e] at h; cases h
      | cons x r => simp
    rw [decide_eq_true hl, decide_eq_true h, Bool.and_self, if_pos (rfl : true = true), if_pos h]
    show ((tl z).drop 1).take (z.length - 1) = (tl z).tail
    rw [List.drop_one, List.take_of_length_le (by rw [List.length_tail, len_tl]; exact Nat.le_refl _)]
  · rw [decide_eq_false h, Bool.and_false, if_neg Bool.false_ne_true, if_neg h]
/-- the code at 0 -/
theorem atI_head {l : List Nat} (h : l ≠ []) : ∃ c, atI l 0 = some c ∧ l.head? = some c := by
  cases l with
  | nil => exact absurd rfl h
  | cons x r => exact ⟨x, atI_nat (j := 0) rfl, rfl⟩
theorem one_eq {c d : Nat} {s : String} (h : tl (Str.ofString s) = [d]) : decide ((⟨#[c]⟩ : Str) = Str.ofString s) = decide (c = d) := by
  rw [Bool.eq_iff_iff, decide_eq_true_eq, decide_eq_true_eq]
  constructor
  · intro e
    have e2 := congrArg tl e
    rw [h] at e2
    cases e2
    rfl
  · rintro rfl
    exact ext_tl (by rw [h])
theorem str_eq_iff {z : Str} {s : String} {l : List Nat} (h : tl (Str.ofString s) = l) : (z = Str.ofString s) ↔ tl z = l := by
  constructor
  · rintro rfl
    exact h
  · intro e
    exact ext_tl (by rw [h, e])
theorem tl_cutS (z : Str) (lo hi : Option Int) : tl (cutS z lo hi) = ((tl z).drop (HT.sIx z.length 0 lo)).take (HT.sIx z.length z.length hi - HT.sIx z.length 0 lo) := rfl
theorem cut_head (z : Str) : tl (cutS z none (some 1)) = (tl z).take 1 := by
  rw [tl_cutS, HT.sIx_none, show HT.sIx z.length z.length (some 1) = min 1 z.length from HT.sIx_nat _ _ 1, len_tl, List.drop_zero]
  cases tl z <;> simp
theorem cut_tail (z : Str) : tl (cutS z (some 1) none) = (tl z).tail := by
  rw [tl_cutS, HT.sIx_none, show HT.sIx z.length 0 (some 1) = min 1 z.length from HT.sIx_nat _ _ 1, len_tl]
  cases tl z with
  | nil => rfl
  | cons x r =>
    rw [show min 1 (x :: r).length = 1 by rw [List.length_cons]; omega]
    show List.take ((x :: r).length - 1) r = r
    rw [List.length_cons, Nat.add_sub_cancel]
    exact List.take_length
theorem take1_eq {l : List Nat} {c : Nat} : l.take 1 = [c] ↔ l.head? = some c := by
  cases l <;> simp
theorem body_len (l : List Nat) : (body l).length ≤ l.length := by
  unfold body
  split
  · rw [List.length_tail]; omega
  · exact Nat.le_refl _
theorem dg_mem (c : Nat) : (c ∈ (Str.ofString "0123456789").cps.toList) ↔ isDg c = true := by
  rw [show (Str.ofString "0123456789").cps.toList = [48, 49, 50, 51, 52, 53, 54, 55, 56, 57] by decide +kernel]
  simp only [isDg, Bool.and_eq_true, decide_eq_true_eq, List.mem_cons, List.not_mem_nil, or_false]
  omega
end KB

local macro_rules | `(tactic| walk_at "vc") => `(tactic| simp only [KB.q_seq, KB.q_cut, KB.q_asg, KB.q_dget, KB.q_var, KB.q_c, KB.q_ifs, KB.q_test, KB.q_op, KB.q_cb, KB.q_cons, KB.q_nil, KB.q_next, KB.q_brk, KB.q_cont, KB.q_dput, KB.q_din, KB.q_dnotin, KB.q_dnew, KB.q_un, KB.q_ret, KB.q_retN, KB.q_drop, KB.q_call, KB.q_bm, KB.q_bm0, KB.q_lst, KB.q_tup, KB.q_b, KB.q_and, KB.q_or, KB.q_not, KB.q_andV, KB.q_orV, KB.q_notV, KB.q_if, KB.q_sl, KB.q_part, KB.q_nopart, KB.q_par, KB.q_disp,
  KB.q_for, KB.q_lc, KB.q_rng1, KB.q_rng2, KB.q_ilist, KB.q_istr, L2.gName,
  KB.r_ii, KB.r_i, KB.r_neg, KB.r_adI, KB.r_adS, KB.r_mlI, KB.r_md, KB.r_fd, KB.r_is, KB.r_intI, KB.r_strI, KB.r_strS, KB.r_intS, KB.r_abs, KB.r_lenS, KB.r_ixS, KB.r_slS, KB.r_isi_int_str, KB.r_isi_str_str, KB.r_lenR, KB.r_ixR, KB.r_eqII, KB.r_eqSS, KB.r_eqBB, KB.rd_eq, KB.dget_s, KB.dget_i, KB.dput_s, KB.upd_two, KB.isK_bl, KB.isK_non, not_true_eq_false, not_false_eq_true, KB.r_inS, KB.r_inR, KB.tyV_str, L2.upd_same, KB.src_len, KB.src_at, KB.src_cells, KB.src_rest, KB.src_seed, KB.src_room, KB.src_long, KB.srcp_at, KB.srcp_rest, KB.srcp_seed, KB.srcp_room, KB.srcp_long,
  reduceCtorEq, exists_false, or_false, false_or, false_and, and_false, true_and, and_true, true_or, or_true, if_true, if_false, Bool.false_xor, Bool.true_xor, Bool.not_eq_true', decide_eq_false_iff_not, decide_eq_true_eq, Bool.false_eq_true, Bool.not_true, Bool.not_false, ite_true, ite_false, L2.HO.dK.injEq, L2.HO.lst.injEq, L2.HO.tup.injEq, exists_const,
  List.set_cons_zero, List.set_cons_succ, List.getElem?_cons_zero, List.getElem?_cons_succ, Option.some.injEq, L2.V.int.injEq, L2.V.ref.injEq, L2.V.bl.injEq, L2.V.str.injEq, exists_eq_left', exists_eq_left, exists_and_left, exists_and_right, List.cons_append, List.nil_append, List.cons.injEq, KB.abs_nat, KB.cmul_r, KB.cmul_l, KB.cpow_10, Int.reduceLT, Int.reduceLE, Int.reduceNeg, Int.reducePow, Int.reduceToNat, Int.reduceMul, Int.reduceAdd, Int.reduceSub, Int.reduceEq, L2.wipe, *])

namespace K19
open PySem PySem.Spec PyProof.Rows L2 KB
def topS (i : Nat) : Stmt := PySem.Challenge.pw_keysthroughtext_k19_keys_as_texts.main.body.getD i (.Pass ⟨0, 0, 0, 0⟩)
abbrev s__law_source : Stmt := topS 5
abbrev s__law_more : Stmt := topS 6
abbrev s__law_draw : Stmt := topS 7
abbrev s_key_text : Stmt := topS 2
abbrev s_is_digit_key : Stmt := topS 3
abbrev s__law_digits : Stmt := topS 12
abbrev s__law_right : Stmt := topS 14
abbrev s__law_number : Stmt := topS 8
abbrev s__law_sign : Stmt := topS 9
abbrev s__law_text : Stmt := topS 10
abbrev s__law_key : Stmt := topS 11
abbrev s__law_any_key : Stmt := topS 13
abbrev s_law : Stmt := topS 15
structure Top (K : PySem.W.Frag) (mg : Str → Option Value) : Prop where
  b : Bi mg
  d__law_source : Def K mg "_law_source" s__law_source
  d__law_more : Def K mg "_law_more" s__law_more
  d__law_draw : Def K mg "_law_draw" s__law_draw
  d_key_text : Def K mg "key_text" s_key_text
  d_is_digit_key : Def K mg "is_digit_key" s_is_digit_key
  d__law_digits : Def K mg "_law_digits" s__law_digits
  d__law_right : Def K mg "_law_right" s__law_right
  d__law_number : Def K mg "_law_number" s__law_number
  d__law_sign : Def K mg "_law_sign" s__law_sign
  d__law_text : Def K mg "_law_text" s__law_text
  d__law_key : Def K mg "_law_key" s__law_key
  d__law_any_key : Def K mg "_law_any_key" s__law_any_key
  d_law : Def K mg "law" s_law
  g_MOST_DIGITS : ∃ t, mg "MOST_DIGITS" = some (.int 30 t)
section
variable {P : Program} {w : World} {K : PySem.W.Frag} {mg : Str → Option Value} {base : Heap}
/-! ### _law_source -/
abbrev N__law_source : List Str := ["_law_script", "_law_cell"]
theorem sc__law_source : FnScope N__law_source ["_law_script"] (defScope s__law_source) := ⟨rfl, rfl, rfl, by decide +kernel, rfl, by decide +kernel, by decide +kernel⟩
def sp__law_source (K : PySem.W.Frag) : Sp := fun vs H Q _ => ∃ (a : Addr) (ns : List Int), vs = [.ref a] ∧ SqL K H a (ns.map V.int) ∧ ns.length ≤ 63 ∧ ∀ p c H', H p = none → H c = none → Same H H' → Src H' p c → Q (.ref p) H'
theorem ok__law_source (T : Top K mg)  : Callee P w K mg base 1 "_law_source" ["_law_script"] (sp__law_source K) := by
  refine T.d__law_source.ok sc__law_source (fun _ _ _ _ _ _ us hl => match us, hl with | [_], _ => rfl) (fun vs H Q E h => ?_) (fun f cdv A outer s H vs Q E hr h => ?_)
  · obtain ⟨a, ns, rfl, hS, hl, q⟩ := h
    rfl
  · obtain ⟨a, ns, rfl, hS, hl, q⟩ := h
    have hu := hu_of hr
    have nd := sc__law_source.nd
    refine ⟨_, (pss_one (ps_ret (pe_disp (pps_cons pe_str (pe_lc (own := [("_law_cell", 1)]) rfl nd (pi_list (pv 0)) (blkOk_by (own := [("_law_cell", 1)]) (N := N__law_source) (sc := defScope s__law_source) (by decide +kernel)) (fun _ _ _ _ _ => (pg_name (i := 1) nd rfl (Or.inl rfl))) (fun _ _ _ _ _ => pts_nil) (fun _ _ _ _ _ => (pe_callTy int_any (by rfl) T.b.b_int boot_int (pa_cons (pv 1) pa_nil)))) (pps_cons pe_str pe_int (pps_cons pe_str pe_int (pps_cons pe_str pe_int (pps_cons pe_str pe_int (pps_cons pe_str pe_int pps_nil)))))) (by rfl) (by rfl) (fun z => by cases z) (by decide)))), ?_⟩
    refine start0 (σ := [some (.ref a), none]) rfl ?_
    walk_at "vc"
    intro p hp
    simp only [tPairs]
    walk_at "vc"
    have s0 : Same H (upd H p (.dK [])) := fun b o h => by rw [upd_ne (ne_of_none h hp)]; exact h
    refine ⟨⟨_, s0.seq hS⟩, fun d hd => ?_⟩
    have ndp : d ≠ p := fun e => by subst e; rw [upd_same] at hd; cases hd
    refine lc_l (xs := ns.map V.int) (fun i ys H2 => ys = (ns.map V.int).take i ∧ H2 p = some (.dK []) ∧ Same H H2) ⟨rfl, by rw [upd_ne ndp.symm, upd_same], fun b o h => ?_⟩ (fun i ys H2 ⟨_, _, s⟩ => s.seq hS) (fun i x ys H2 hx el hy ⟨e, h2, s⟩ => ?_) (fun ys H2 el hy ⟨e, h2, s⟩ => ?_)
    · have e1 := s0 b o h
      rw [upd_ne (ne_of_none e1 hd)]
      exact e1
    · have hi : i < (ns.map V.int).length := (List.getElem?_eq_some_iff.mp hx).1
      obtain ⟨n, rfl⟩ : ∃ n, x = V.int n := by
        rw [List.getElem?_map] at hx
        cases e2 : ns[i]? with
        | none => rw [e2] at hx; cases hx
        | some n => rw [e2] at hx; exact ⟨n, (Option.some.inj hx).symm⟩
      walk_at "vc"
      rw [List.length_map] at hi
      refine LcNext.mk hy el (by omega) ⟨?_, by rw [upd_ne ndp.symm]; exact h2, fun b o h => ?_⟩
      · rw [e, List.take_add_one, hx]
        rfl
      · have nb : b ≠ d := fun e3 => by
          subst e3
          have := s0 _ _ h
          rw [hd] at this
          cases this
        rw [upd_ne nb]
        exact s b o h
    · rw [List.take_of_length_le (Nat.le_refl _)] at e
      subst e
      refine ⟨h2, [(.inr "cells", .ref d), (.inr "at", .int 0), (.inr "rest", .int 0), (.inr "seed", .int 7), (.inr "room", .int 0), (.inr "long", .int 2)], rfl, by show 6 ≤ 15; decide, ?_⟩
      refine q p d _ hp (s0.free hd) (fun b o h => by rw [upd_ne (ne_of_none h hp)]; exact s b o h) ⟨ns, 0, 0, 7, 0, 2, ?_, ?_, by omega, by omega⟩
      · rw [upd_same]
        rfl
      · rw [upd_ne ndp]
        exact hy

/-! ### _law_more -/
abbrev N__law_more : List Str := ["_law_source_here", "_law_cells", "_law_at", "_law_cell", "_law_mixed"]
theorem sc__law_more : FnScope N__law_more ["_law_source_here"] (defScope s__law_more) := ⟨rfl, rfl, rfl, by decide +kernel, rfl, by decide +kernel, by decide +kernel⟩
def sp__law_more (K : PySem.W.Frag) : Sp := fun vs H Q _ => ∃ a c, vs = [.ref a] ∧ Src H a c ∧ ∀ H', Keep a H H' → Src H' a c → Q .non H'
theorem ok__law_more (T : Top K mg)  : Callee P w K mg base 1 "_law_more" ["_law_source_here"] (sp__law_more K) := by
  refine T.d__law_more.ok sc__law_more (fun _ _ _ _ _ _ us hl => match us, hl with | [_], _ => rfl) (fun vs H Q E h => ?_) (fun f cdv A outer s H vs Q E hr h => ?_)
  · obtain ⟨a, c, rfl, ⟨ns, at_, rest, seed, room, long, hd, hc, h0, h1⟩, q⟩ := h
    rfl
  · obtain ⟨a, c, rfl, ⟨ns, at_, rest, seed, room, long, hd, hc, h0, h1⟩, q⟩ := h
    have hu := hu_of hr
    have nd := sc__law_more.nd
    refine ⟨_, (pss_cons (ps_set (i := 1) nd rfl (Or.inl rfl) (pe_dget hu (pv 0) pe_str (fun _ _ => rfl)))
      (pss_cons (ps_set (i := 2) nd rfl (Or.inl rfl) (pe_dget hu (pv 0) pe_str (fun _ _ => rfl)))
      (pss_cons (ps_set (i := 3) nd rfl (Or.inl rfl) (pv 2))
      (pss_cut1 (ps_if (pt_cmpR op_lt (pv 2) (pe_callB len_any (by rfl) T.b.b_len boot_len (pa_cons (pv 1) pa_nil)) (nomark _)) (pss_one (ps_set (i := 3) nd rfl (Or.inl rfl) (pe_ix ix_any (pv 1) (pv 2) (fun _ _ => rfl)))) pss_nil)
      (pss_cons (ps_set (i := 4) nd rfl (Or.inl rfl) (pe_op md_any (pe_callTy int_any (by rfl) T.b.b_int boot_int (pa_cons (pe_op ad_any (pe_op ad_any (pe_op ml_any (pv 3) pe_int) (pe_op ml_any (pe_dget hu (pv 0) pe_str (fun _ _ => rfl)) pe_int)) (pv 2)) pa_nil)) pe_int))
      (pss_cons (ps_dput hu (pv 0) pe_str (pe_op ad_any (pv 2) pe_int) rfl)
      (pss_cons (ps_dput hu (pv 0) pe_str (pv 4) rfl)
      (pss_cons (ps_dput hu (pv 0) pe_str (pe_op ad_any pe_int (pe_op md_any (pe_callTy int_any (by rfl) T.b.b_int boot_int (pa_cons (pe_op ad_any (pe_op ml_any (pv 4) pe_int) pe_int) pa_nil)) pe_int)) rfl)
      (pss_one (ps_if (pt_cmpR op_ge (pe_callB call_abs (by rfl) T.b.b_abs boot_abs (pa_cons (pv 3) pa_nil)) (pe_op op_pow pe_int pe_int) (nomark _)) (pss_one (ps_dput hu (pv 0) pe_str (pe_callB call_abs (by rfl) T.b.b_abs boot_abs (pa_cons (pv 3) pa_nil)) rfl)) pss_nil)))))))))), ?_⟩
    refine start0 (σ := [some (.ref a), none, none, none, none]) rfl ?_
    walk_at "vc"
    have fin : ∀ cell : Int, ((if 10 ^ Int.toNat 18 ≤ (cell.natAbs : Int) then
        Q V.non (upd H a (HO.dK (srcL c (at_ + 1) cell.natAbs ((cell * 48271 + seed * 69621 + at_) % 2147483647) room long)))
      else Q V.non (upd H a (HO.dK (srcL c (at_ + 1) (1 + ((cell * 48271 + seed * 69621 + at_) % 2147483647 * 16807 + 40692) % 2147483399) ((cell * 48271 + seed * 69621 + at_) % 2147483647) room long))))) := fun cell => by
      split
      · refine q _ .upd (src_mk hd hc ?_ ?_) <;> omega
      · refine q _ .upd (src_mk hd hc ?_ ?_) <;> omega
    intro p hp
    have key : ∀ cell : Int, p [some (.ref a), some (.ref c), some (.int at_), some (.int cell), none] H := fun cell => hp.go _ _ (by
      walk_at "vc"
      exact fin cell)
    split
    · rename_i hlt
      rw [List.length_map] at hlt
      obtain ⟨cell, e⟩ := atI_ints (ns := ns) h0 hlt
      exact ⟨_, e, key cell⟩
    · exact key at_

/-! ### _law_draw -/
abbrev N__law_draw : List Str := ["_law_source_here", "_law_many", "_law_found"]
theorem sc__law_draw : FnScope N__law_draw ["_law_source_here", "_law_many"] (defScope s__law_draw) := ⟨rfl, rfl, rfl, by decide +kernel, rfl, by decide +kernel, by decide +kernel⟩
def sp__law_draw (K : PySem.W.Frag) : Sp := fun vs H Q _ => ∃ (a c : Addr) (m : Int), vs = [.ref a, .int m] ∧ Src H a c ∧ 0 < m ∧ m ≤ 10 ^ 31 ∧ ∀ r H', 0 ≤ r → r < m → Keep a H H' → Src H' a c → Q (.int r) H'
theorem ok__law_draw (T : Top K mg) (C__law_more : Callee P w K mg base 1 "_law_more" ["_law_source_here"] (sp__law_more K)) : Callee P w K mg base 2 "_law_draw" ["_law_source_here", "_law_many"] (sp__law_draw K) := by
  refine T.d__law_draw.ok sc__law_draw (fun _ _ _ _ _ _ us hl => match us, hl with | [_, _], _ => rfl) (fun vs H Q E h => ?_) (fun f cdv A outer s H vs Q E hr h => ?_)
  · obtain ⟨a, c, m, rfl, hS, hm, hm2, q⟩ := h
    rfl
  · obtain ⟨a, c, m, rfl, hS, hm, hm2, q⟩ := h
    have hu := hu_of hr
    have nd := sc__law_draw.nd
    refine ⟨_, (pss_cut1 (ps_if (pt_cmpR (eq_any hr) (pe_dget hu (pv 0) pe_str (fun _ _ => rfl)) pe_int (nomark _)) (pss_one (ps_expr (pe_fn C__law_more (hr.mono (by first | decide | omega)) (by rfl) (pa_cons (pv 0) pa_nil)))) pss_nil)
      (pss_cons (ps_set (i := 2) nd rfl (Or.inl rfl) (pe_op md_any (pe_callTy int_any (by rfl) T.b.b_int boot_int (pa_cons (pe_dget hu (pv 0) pe_str (fun _ _ => rfl)) pa_nil)) (pv 1)))
      (pss_cons (ps_dput hu (pv 0) pe_str (pe_op fd_any (pe_dget hu (pv 0) pe_str (fun _ _ => rfl)) (pv 1)) rfl)
      (pss_one (ps_ret (pv 2)))))), ?_⟩
    refine start0 (σ := [some (.ref a), some (.int m), none]) rfl ?_
    have cd : ∀ r, CDivW r m := fun r => wide_div hm (b := 104) (by omega) (by decide) (by decide)
    have fin : ∀ (H1 : Hp) (ns : List Int) (at_ rest seed room long : Int), Keep a H H1 → H1 a = some (HO.dK (srcL c at_ rest seed room long)) → H1 c = some (.lst (ns.map V.int)) → 0 ≤ at_ → 0 ≤ rest → Q (V.int (rest % m)) (upd H1 a (HO.dK (srcL c at_ (rest / m) seed room long))) :=
      fun H1 ns at_ rest seed room long k1 hd hc h0 h1 => q _ _ (Int.emod_nonneg _ (by omega)) (Int.emod_lt_of_pos _ hm) (k1.trans .upd) (src_mk hd hc h0 (Int.ediv_nonneg h1 (by omega)))
    obtain ⟨ns, at_, rest, seed, room, long, hd, hc, h0, h1⟩ := id hS
    walk_at "vc"
    intro p hp
    have key : ∀ H1, Keep a H H1 → Src H1 a c → p [some (.ref a), some (.int m), none] H1 := fun H1 k1 ⟨ns1, at1, rest1, seed1, room1, long1, hd1, hc1, h01, h11⟩ => hp.go _ _ (by
      walk_at "vc"
      exact fin _ _ _ _ _ _ _ k1 hd1 hc1 h01 h11)
    split
    · exact ⟨a, c, rfl, hS, key⟩
    · exact key _ (.refl _ _) hS

/-! ### key_text -/
abbrev N_key_text : List Str := ["key"]
theorem sc_key_text : FnScope N_key_text ["key"] (defScope s_key_text) := ⟨rfl, rfl, rfl, by decide +kernel, rfl, by decide +kernel, by decide +kernel⟩
def sp_key_text (K : PySem.W.Frag) : Sp := fun vs H Q _ => ∃ v, vs = [v] ∧ ((∃ n : Int, v = .int n ∧ n.natAbs < 10 ^ 30 ∧ Q (.str (Str.ofString (toString n))) H) ∨ ∃ z, v = .str z ∧ Q (.str z) H)
theorem ok_key_text (T : Top K mg)  : Callee P w K mg base 1 "key_text" ["key"] (sp_key_text K) := by
  refine T.d_key_text.ok sc_key_text (fun _ _ _ _ _ _ us hl => match us, hl with | [_], _ => rfl) (fun vs H Q E h => ?_) (fun f cdv A outer s H vs Q E hr h => ?_)
  · obtain ⟨v, rfl, h⟩ := h
    rfl
  · obtain ⟨v, rfl, h⟩ := h
    have hu := hu_of hr
    have nd := sc_key_text.nd
    refine ⟨_, (pss_cons (ps_if (pt_val (pe_callB isi_any (by rfl) T.b.b_isinstance boot_isinstance (pa_cons (pv 0) (pa_cons (pe_bltn (v := .ty "str") (by rfl) T.b.b_str boot_str rfl) pa_nil)))) (pss_one (ps_ret (pv 0))) pss_nil)
      (pss_one (ps_ret (pe_callTy str_any (by rfl) T.b.b_str boot_str (pa_cons (pv 0) pa_nil))))), ?_⟩
    refine start0 (σ := [some (v)]) rfl ?_
    rcases h with ⟨n, rfl, hn, q⟩ | ⟨z, rfl, q⟩
    · walk_at "vc"
      exact log_int hn
    · walk_at "vc"

/-! ### is_digit_key -/
abbrev N_is_digit_key : List Str := ["key", "digits"]
theorem sc_is_digit_key : FnScope N_is_digit_key ["key"] (defScope s_is_digit_key) := ⟨rfl, rfl, rfl, by decide +kernel, rfl, by decide +kernel, by decide +kernel⟩
def sp_is_digit_key (K : PySem.W.Frag) : Sp := fun vs H Q _ => ∃ v, vs = [v] ∧ ((∃ n : Int, v = .int n ∧ Q (.bl false) H) ∨ ∃ z, v = .str z ∧ Pr z ∧ z.length ≤ 100000 ∧ Q (.bl (digK (TL.tl z))) H)
theorem ok_is_digit_key (T : Top K mg)  : Callee P w K mg base 1 "is_digit_key" ["key"] (sp_is_digit_key K) := by
  refine T.d_is_digit_key.ok sc_is_digit_key (fun _ _ _ _ _ _ us hl => match us, hl with | [_], _ => rfl) (fun vs H Q E h => ?_) (fun f cdv A outer s H vs Q E hr h => ?_)
  · obtain ⟨v, rfl, h⟩ := h
    rfl
  · obtain ⟨v, rfl, h⟩ := h
    have hu := hu_of hr
    have nd := sc_is_digit_key.nd
    refine ⟨_, (pss_cons (ps_if (pt_not (pt_val (pe_callB isi_any (by rfl) T.b.b_isinstance boot_isinstance (pa_cons (pv 0) (pa_cons (pe_bltn (v := .ty "str") (by rfl) T.b.b_str boot_str rfl) pa_nil))))) (pss_one (ps_ret pe_bl)) pss_nil)
      (pss_cons (ps_set (i := 1) nd rfl (Or.inl rfl) (pe_bm PySem.F.plainAttrs_str PySem.F.slot_str_removeprefix PySem.F.type_str_removeprefix mt_removeprefix (pv 0) (pa_cons pe_str pa_nil)))
      (pss_cons (ps_if (PW.pt (pw_or (pt_not (pt_val (pe_bm0 PySem.F.plainAttrs_str PySem.F.slot_str_isdigit PySem.F.type_str_isdigit mt_isdigit (pv 1)))) (pw_or1 (pt_cmpR op_gt (pe_callB len_any (by rfl) T.b.b_len boot_len (pa_cons (pv 1) pa_nil)) (pe_gi (by rfl) T.g_MOST_DIGITS) (nomark _))))) (pss_one (ps_ret pe_bl)) pss_nil)
      (pss_one (ps_ret (pe_or (pe_cmpR (eq_any hr) (pv 0) pe_str (nomark _)) (pe_one (pe_cmpR (ne_any hr) (pe_ix ix_any (pv 1) pe_int (fun _ _ => rfl)) pe_str (nomark _))))))))), ?_⟩
    refine start0 (σ := [some (v), none]) rfl ?_
    rcases h with ⟨n, rfl, q⟩ | ⟨z, rfl, hz, hl, q⟩
    · walk_at "vc"
    · walk_at "vc"
      have eb : TL.tl (Txt.removeprefix z (Str.ofString "-")) = body (TL.tl z) := rm_minus z
      have el : (Txt.removeprefix z (Str.ofString "-")).length = (body (TL.tl z)).length := by rw [TL.len_tl, eb]
      have ls : (body (TL.tl z)).length ≤ (TL.tl z).length := by
        unfold body
        split
        · rw [List.length_tail]; omega
        · exact Nat.le_refl _
      rw [TL.len_tl] at hl
      have l1 : z.length ≤ sizeLine := Nat.le_of_lt (sizeN (by rw [TL.len_tl]; exact hl))
      have l2 : (body (TL.tl z)).length ≤ sizeLine := Nat.le_of_lt (sizeN (by omega))
      rw [isdigit_pr (by rw [eb]; exact pr_body hz), el, show (Txt.removeprefix z (Str.ofString "-")).cps.toList = body (TL.tl z) from eb, eb]
      simp only [str_eq_iff (s := "0") (l := [48]) (by decide +kernel)]
      refine ⟨l1, ?_⟩
      have fin : ∀ b, b = digK (TL.tl z) → Q (.bl b) H := fun b e => by rw [e]; exact q
      unfold digK at fin
      by_cases h1 : body (TL.tl z) = []
      · rw [if_pos (by simp [h1])]
        exact fin _ (by simp [h1])
      by_cases h2 : (body (TL.tl z)).all isDg = true
      · rw [if_neg (by simp [h1, h2])]
        refine ⟨l2, ?_⟩
        by_cases h3 : (body (TL.tl z)).length ≤ 30
        · rw [if_neg (by omega)]
          by_cases h4 : TL.tl z = [48]
          · rw [if_pos h4]
            exact fin _ (by simp only [h1, h2, h3, h4]; rfl)
          · rw [if_neg h4]
            obtain ⟨e, e1, e2⟩ := atI_head h1
            refine ⟨l2, e, e1, fin _ ?_⟩
            rw [e2]
            simp [h1, h2, h3, h4, TL.tl]
        · rw [if_pos (by omega)]
          exact fin _ (by simp [h3])
      · rw [if_pos (by simp [h2])]
        exact fin _ (by simp [h2])

/-! ### _law_digits -/
abbrev N__law_digits : List Str := ["_law_key_here", "_law_body", "_law_sign_here"]
theorem sc__law_digits : FnScope N__law_digits ["_law_key_here"] (defScope s__law_digits) := ⟨rfl, rfl, rfl, by decide +kernel, rfl, by decide +kernel, by decide +kernel⟩
def inv_digits (v b : V) (l : List Nat) (H : Hp) (i : Nat) (σ : L2.St) (H2 : Hp) : Prop := ∃ x, σ = [some v, some b, x] ∧ H2 = H ∧ (l.take i).all isDg = true
def sp__law_digits (K : PySem.W.Frag) : Sp := fun vs H Q _ => ∃ v, vs = [v] ∧ ((∃ n : Int, v = .int n ∧ Q (.bl false) H) ∨ ∃ z, v = .str z ∧ z.length ≤ 100000 ∧ Q (.bl (digK (TL.tl z))) H)
theorem ok__law_digits (T : Top K mg)  : Callee P w K mg base 1 "_law_digits" ["_law_key_here"] (sp__law_digits K) := by
  refine T.d__law_digits.ok sc__law_digits (fun _ _ _ _ _ _ us hl => match us, hl with | [_], _ => rfl) (fun vs H Q E h => ?_) (fun f cdv A outer s H vs Q E hr h => ?_)
  · obtain ⟨v, rfl, h⟩ := h
    rfl
  · obtain ⟨v, rfl, h⟩ := h
    have hu := hu_of hr
    have nd := sc__law_digits.nd
    refine ⟨_, (pss_cons (ps_if (pt_not (pt_val (pe_callB isi_any (by rfl) T.b.b_isinstance boot_isinstance (pa_cons (pv 0) (pa_cons (pe_bltn (v := .ty "str") (by rfl) T.b.b_str boot_str rfl) pa_nil))))) (pss_one (ps_ret pe_bl)) pss_nil)
      (pss_cons (ps_set (i := 1) nd rfl (Or.inl rfl) (pv 0))
      (pss_cut1 (ps_if (pt_cmpR (eq_any hr) (pe_slice sl_any (pv 0) po_none (po_some pe_int)) pe_str (nomark _)) (pss_one (ps_set (i := 1) nd rfl (Or.inl rfl) (pe_slice sl_any (pv 0) (po_some pe_int) po_none))) pss_nil)
      (pss_cons (ps_if (PW.pt (pw_or (pt_cmpR (eq_any hr) (pv 1) pe_str (nomark _)) (pw_or1 (pt_cmpR op_gt (pe_callB len_any (by rfl) T.b.b_len boot_len (pa_cons (pv 1) pa_nil)) pe_int (nomark _))))) (pss_one (ps_ret pe_bl)) pss_nil)
      (pss_cons (ps_for PassesOwn.never rfl (pi_str (pv 1)) (pg_name (i := 2) nd rfl (Or.inl rfl)) (pss_one (ps_if (pt_cmpR ni_any (pv 2) pe_str (by with_unfolding_all rfl)) (pss_one (ps_ret pe_bl)) pss_nil)))
      (pss_one (ps_ret (pe_or (pe_cmpR (eq_any hr) (pv 0) pe_str (nomark _)) (pe_one (pe_cmpR (ne_any hr) (pe_ix ix_any (pv 1) pe_int (fun _ _ => rfl)) pe_str (nomark _))))))))))), ?_⟩
    refine start0 (σ := [some (v), none, none]) rfl ?_
    rcases h with ⟨n, rfl, q⟩ | ⟨z, rfl, hl, q⟩
    · walk_at "vc"
    · walk_at "vc"
      intro p hp
      have ls := body_len (TL.tl z)
      rw [TL.len_tl] at hl
      have key : ∀ b : Str, TL.tl b = body (TL.tl z) → p [some (.str z), some (.str b), none] H := fun b eb => hp.go _ _ (by
        have fin : ∀ x, x = digK (TL.tl z) → Q (.bl x) H := fun x e => by rw [e]; exact q
        unfold digK at fin
        have l2 : b.length ≤ sizeLine := Nat.le_of_lt (sizeN (by rw [TL.len_tl, eb]; omega))
        walk_at "vc"
        simp only [str_eq_iff (s := "") (l := []) (by decide +kernel), eb]
        split
        · rename_i h1
          exact fin _ (by simp [h1])
        rename_i h1
        rw [show (b.length : Int) = ((body (TL.tl z)).length : Int) by rw [TL.len_tl, eb]]
        split
        · exact fin _ (by simp; omega)
        have h3 : (body (TL.tl z)).length ≤ 30 := by omega
        refine lp_str (inv_digits (.str z) (.str b) (body (TL.tl z)) H) ⟨none, rfl, rfl, rfl⟩ ?_ ?_
        · rintro i e σ H2 he ⟨x, rfl, rfl, ha⟩
          rw [show b.cps.toList = body (TL.tl z) from eb] at he
          walk_at "vc"
          simp only [dg_mem]
          split
          · rename_i hn
            refine fin _ ?_
            have : (body (TL.tl z)).all isDg = false := by
              rw [← Bool.not_eq_true]
              exact fun ht => hn (List.all_eq_true.mp ht e (List.mem_of_getElem? he))
            simp [this]
          · rename_i hn
            refine ⟨_, rfl, rfl, ?_⟩
            rw [List.take_add_one, he, List.all_append, ha]
            simpa using hn
        · rintro σ H2 ⟨x, rfl, rfl, ha⟩
          rw [show b.cps.toList = body (TL.tl z) from eb, List.take_of_length_le (Nat.le_refl _)] at ha
          walk_at "vc"
          simp only [str_eq_iff (s := "0") (l := [48]) (by decide +kernel)]
          split
          · rename_i h4
            have h5 : body [48] = [48] := rfl
            refine fin _ ?_
            rw [decide_eq_true h1, decide_eq_true h3, ha, decide_eq_true h4]
            rfl
          · rename_i h4
            obtain ⟨e, e1, e2⟩ := atI_head h1
            refine ⟨e, e1, fin _ ?_⟩
            rw [decide_eq_true h1, decide_eq_true h3, ha, decide_eq_false h4, e2]
            simp [TL.tl])
      have l1 : z.length ≤ sizeLine := Nat.le_of_lt (sizeN (by rw [TL.len_tl]; exact hl))
      refine ⟨l1, ?_⟩
      simp only [str_eq_iff (s := "-") (l := [45]) (by decide +kernel), cut_head, take1_eq]
      split
      · rename_i h
        exact ⟨l1, key _ (by rw [cut_tail, body, if_pos h])⟩
      · rename_i h
        exact key _ (by rw [body, if_neg h])

/-! ### _law_right -/
abbrev N__law_right : List Str := ["_law_key_here", "_law_text_here"]
theorem sc__law_right : FnScope N__law_right ["_law_key_here"] (defScope s__law_right) := ⟨rfl, rfl, rfl, by decide +kernel, rfl, by decide +kernel, by decide +kernel⟩
def sp__law_right (K : PySem.W.Frag) (n : Nat) : Sp := fun vs H Q _ => ∃ v, vs = [v] ∧ KeyV v ∧ 1 ≤ n ∧ ((∃ i, v = .int i) → 2 ≤ n) ∧ Q (.bl true) H
theorem step__law_right (T : Top K mg) (C_key_text : Callee P w K mg base 1 "key_text" ["key"] (sp_key_text K)) (C_is_digit_key : Callee P w K mg base 1 "is_digit_key" ["key"] (sp_is_digit_key K)) (C__law_digits : Callee P w K mg base 1 "_law_digits" ["_law_key_here"] (sp__law_digits K)) (n : Nat) (C__law_right : Callee P w K mg base (1 + n) "_law_right" ["_law_key_here"] (sp__law_right K n)) : Callee P w K mg base (1 + n + 1) "_law_right" ["_law_key_here"] (sp__law_right K (n + 1)) := by
  refine T.d__law_right.ok sc__law_right (fun _ _ _ _ _ _ us hl => match us, hl with | [_], _ => rfl) (fun vs H Q E h => ?_) (fun f cdv A outer s H vs Q E hr h => ?_)
  · obtain ⟨v, rfl, hv, hn, hn2, q⟩ := h
    rfl
  · obtain ⟨v, rfl, hv, hn, hn2, q⟩ := h
    have hu := hu_of hr
    have nd := sc__law_right.nd
    refine ⟨_, (pss_cons (ps_set (i := 1) nd rfl (Or.inl rfl) (pe_fn C_key_text (hr.mono (by first | decide | omega)) (by rfl) (pa_cons (pv 0) pa_nil)))
      (pss_cons (ps_if (PW.pt (pw_or (pt_not (pt_val (pe_callB isi_any (by rfl) T.b.b_isinstance boot_isinstance (pa_cons (pv 1) (pa_cons (pe_bltn (v := .ty "str") (by rfl) T.b.b_str boot_str rfl) pa_nil))))) (pw_or1 (pt_cmpR (ne_any hr) (pv 1) (pe_callTy str_any (by rfl) T.b.b_str boot_str (pa_cons (pv 0) pa_nil)) (nomark _))))) (pss_one (ps_ret pe_bl)) pss_nil)
      (pss_cons (ps_if (pt_cmpR isnt_any (pe_fn C_is_digit_key (hr.mono (by first | decide | omega)) (by rfl) (pa_cons (pv 0) pa_nil)) pe_bl (nomark _)) (pss_one (ps_ret (pe_and (pe_not (pe_fn C__law_digits (hr.mono (by first | decide | omega)) (by rfl) (pa_cons (pv 0) pa_nil))) (pe_and (pe_cmpR is_any (pe_fn C_is_digit_key (hr.mono (by first | decide | omega)) (by rfl) (pa_cons (pv 0) pa_nil)) pe_bl (nomark _)) (pe_one (pe_or (pe_callB isi_any (by rfl) T.b.b_isinstance boot_isinstance (pa_cons (pv 0) (pa_cons (pe_bltn (v := .ty "str") (by rfl) T.b.b_str boot_str rfl) pa_nil))) (pe_one (pe_fn C__law_right (hr.mono (by first | decide | omega)) (by rfl) (pa_cons (pv 1) pa_nil))))))))) pss_nil)
      (pss_one (ps_ret (pe_and (pe_fn C__law_digits (hr.mono (by first | decide | omega)) (by rfl) (pa_cons (pv 0) pa_nil)) (pe_one (pe_cmpR (eq_any hr) (pe_callTy str_any (by rfl) T.b.b_str boot_str (pa_cons (pe_callTy int_any (by rfl) T.b.b_int boot_int (pa_cons (pv 0) pa_nil)) pa_nil)) (pv 0) (nomark _))))))))), ?_⟩
    refine start0 (σ := [some (v), none]) rfl ?_
    rcases hv with ⟨i, rfl, hi⟩ | ⟨z, rfl, hz, zl⟩
    · have h2 : 1 ≤ n := by have := hn2 ⟨i, rfl⟩; omega
      walk_at "vc"
      refine ⟨_, rfl, .inl ⟨i, rfl, hi, ?_⟩⟩
      walk_at "vc"
      refine ⟨log_int hi, _, rfl, .inl ⟨i, rfl, ?_⟩⟩
      walk_at "vc"
      refine ⟨_, rfl, .inl ⟨i, rfl, ?_⟩⟩
      walk_at "vc"
      refine ⟨_, rfl, .inl ⟨i, rfl, ?_⟩⟩
      walk_at "vc"
      refine ⟨_, rfl, .inr ⟨_, rfl, pr_int i, ?_⟩, h2, (fun ⟨j, e⟩ => nomatch e), q⟩
      have := len_int (k := 30) (by decide) hi
      omega
    · have zl' : z.length ≤ 100000 := by omega
      walk_at "vc"
      refine ⟨_, rfl, .inr ⟨z, rfl, ?_⟩⟩
      walk_at "vc"
      refine ⟨_, rfl, .inr ⟨z, rfl, hz, zl', ?_⟩⟩
      cases hd : digK (TL.tl z) with
      | false =>
        walk_at "vc"
        refine ⟨_, rfl, .inr ⟨z, rfl, zl', ?_⟩⟩
        walk_at "vc"
        refine ⟨_, rfl, .inr ⟨z, rfl, hz, zl', ?_⟩⟩
        walk_at "vc"
      | true =>
        obtain ⟨n, e1, e2, e3, e4⟩ := digK_int hd
        walk_at "vc"
        refine ⟨_, rfl, .inr ⟨z, rfl, zl', ?_⟩⟩
        walk_at "vc"
        refine ⟨by omega, log_int e4, ?_⟩
        rw [decide_eq_true trivial]
        exact q
theorem ok__law_right (T : Top K mg) (C_key_text : Callee P w K mg base 1 "key_text" ["key"] (sp_key_text K)) (C_is_digit_key : Callee P w K mg base 1 "is_digit_key" ["key"] (sp_is_digit_key K)) (C__law_digits : Callee P w K mg base 1 "_law_digits" ["_law_key_here"] (sp__law_digits K)) : ∀ n, Callee P w K mg base (1 + n) "_law_right" ["_law_key_here"] (sp__law_right K n)
  | 0 => T.d__law_right.bot (N := N__law_right) (fun _ _ _ _ _ _ us hl => match us, hl with | [_], _ => rfl) (fun vs H Q E h => by
      obtain ⟨v, _, _, h, _⟩ := h
      omega)
  | n + 1 => step__law_right T C_key_text C_is_digit_key C__law_digits n (ok__law_right T C_key_text C_is_digit_key C__law_digits n)

/-! ### _law_number -/
abbrev N__law_number : List Str := ["_law_source_here", "_law_figures", "_law_number_here", "_law_k"]
theorem sc__law_number : FnScope N__law_number ["_law_source_here"] (defScope s__law_number) := ⟨rfl, rfl, rfl, by decide +kernel, rfl, by decide +kernel, by decide +kernel⟩
def inv_number (a c : Addr) (f : Int) (H : Hp) (i : Nat) (σ : L2.St) (H2 : Hp) : Prop := ∃ n v, σ = [some (.ref a), some (.int f), some (.int n), v] ∧ 0 ≤ n ∧ n < 10 ^ i ∧ Keep a H H2 ∧ Src H2 a c
def sp__law_number (K : PySem.W.Frag) : Sp := fun vs H Q _ => ∃ a c, vs = [.ref a] ∧ Src H a c ∧ ∀ n H', n.natAbs < 10 ^ 30 → Keep a H H' → Src H' a c → Q (.int n) H'
theorem ok__law_number (T : Top K mg) (C__law_draw : Callee P w K mg base 2 "_law_draw" ["_law_source_here", "_law_many"] (sp__law_draw K)) : Callee P w K mg base 3 "_law_number" ["_law_source_here"] (sp__law_number K) := by
  refine T.d__law_number.ok sc__law_number (fun _ _ _ _ _ _ us hl => match us, hl with | [_], _ => rfl) (fun vs H Q E h => ?_) (fun f cdv A outer s H vs Q E hr h => ?_)
  · obtain ⟨a, c, rfl, hS, q⟩ := h
    rfl
  · obtain ⟨a, c, rfl, hS, q⟩ := h
    have hu := hu_of hr
    have nd := sc__law_number.nd
    refine ⟨_, (pss_cons (ps_set (i := 1) nd rfl (Or.inl rfl) (pe_op ad_any pe_int (pe_fn C__law_draw (hr.mono (by first | decide | omega)) (by rfl) (pa_cons (pv 0) (pa_cons pe_int pa_nil)))))
      (pss_cut1 (ps_if (pt_cmpR (eq_any hr) (pe_fn C__law_draw (hr.mono (by first | decide | omega)) (by rfl) (pa_cons (pv 0) (pa_cons pe_int pa_nil))) pe_int (nomark _)) (pss_one (ps_set (i := 1) nd rfl (Or.inl rfl) (pe_op ad_any pe_int (pe_fn C__law_draw (hr.mono (by first | decide | omega)) (by rfl) (pa_cons (pv 0) (pa_cons pe_int pa_nil)))))) pss_nil)
      (pss_cons (ps_set (i := 2) nd rfl (Or.inl rfl) pe_int)
      (pss_cons (ps_for PassesOwn.never rfl (pi_range1 (by rfl) T.b.b_range (pa_cons (pv 1) pa_nil)) (pg_name (i := 3) nd rfl (Or.inl rfl)) (pss_one (ps_set (i := 2) nd rfl (Or.inl rfl) (pe_op ad_any (pe_op ml_any (pv 2) pe_int) (pe_fn C__law_draw (hr.mono (by first | decide | omega)) (by rfl) (pa_cons (pv 0) (pa_cons pe_int pa_nil)))))))
      (pss_cons (ps_if (pt_cmpR (eq_any hr) (pe_fn C__law_draw (hr.mono (by first | decide | omega)) (by rfl) (pa_cons (pv 0) (pa_cons pe_int pa_nil))) pe_int (nomark _)) (pss_one (ps_ret (pe_un un_neg (pv 2)))) pss_nil)
      (pss_one (ps_ret (pv 2)))))))), ?_⟩
    refine start0 (σ := [some (.ref a), none, none, none]) rfl ?_
    walk_at "vc"
    refine ⟨a, c, 2, rfl, hS, by decide, by decide, fun r H1 r0 r1 k1 s1 => ?_⟩
    walk_at "vc"
    intro p hp
    have key : ∀ (f : Int) (H1 : Hp), 0 ≤ f → f ≤ 30 → Keep a H H1 → Src H1 a c → p [some (.ref a), some (.int f), none, none] H1 := fun f H1 f0 f1 k1 s1 => hp.go _ _ (by
      walk_at "vc"
      refine ⟨by omega, by omega, lp_range (inv_number a c f H) ⟨0, none, rfl, by omega, by decide, k1, s1⟩ ?_ ?_⟩
      · rintro i σ H2 hi ⟨n, v, rfl, n0, n1, k2, s2⟩
        walk_at "vc"
        refine ⟨a, c, 10, rfl, s2, by decide, by decide, fun r H3 r0 r1 k3 s3 => ?_⟩
        walk_at "vc"
        refine ⟨_, _, rfl, by omega, ?_, k2.trans k3, s3⟩
        rw [Int.pow_succ]
        omega
      · rintro σ H2 ⟨n, v, rfl, n0, n1, k2, s2⟩
        have hp : (10 : Int) ^ f.toNat ≤ 10 ^ 30 := pow10 (by omega)
        walk_at "vc"
        refine ⟨a, c, 3, rfl, s2, by decide, by decide, fun r H3 r0 r1 k3 s3 => ?_⟩
        walk_at "vc"
        split
        · exact q _ _ (by omega) (k2.trans k3) s3
        · exact q _ _ (by omega) (k2.trans k3) s3)
    refine ⟨a, c, 3, rfl, s1, by decide, by decide, fun r2 H2 r20 r21 k2 s2 => ?_⟩
    walk_at "vc"
    split
    · refine ⟨a, c, 30, rfl, s2, by decide, by decide, fun r3 H3 r30 r31 k3 s3 => ?_⟩
      walk_at "vc"
      exact key _ _ (by omega) (by omega) ((k1.trans k2).trans k3) s3
    · exact key _ _ (by omega) (by omega) (k1.trans k2) s2

/-! ### _law_sign -/
abbrev N__law_sign : List Str := ["_law_source_here", "_law_signs"]
theorem sc__law_sign : FnScope N__law_sign ["_law_source_here"] (defScope s__law_sign) := ⟨rfl, rfl, rfl, by decide +kernel, rfl, by decide +kernel, by decide +kernel⟩
def sp__law_sign (K : PySem.W.Frag) : Sp := fun vs H Q _ => ∃ a c, vs = [.ref a] ∧ Src H a c ∧ ∀ e H', 32 ≤ e → e < 127 → Keep a H H' → Src H' a c → Q (.str ⟨#[e]⟩) H'
theorem ok__law_sign (T : Top K mg) (C__law_draw : Callee P w K mg base 2 "_law_draw" ["_law_source_here", "_law_many"] (sp__law_draw K)) : Callee P w K mg base 3 "_law_sign" ["_law_source_here"] (sp__law_sign K) := by
  refine T.d__law_sign.ok sc__law_sign (fun _ _ _ _ _ _ us hl => match us, hl with | [_], _ => rfl) (fun vs H Q E h => ?_) (fun f cdv A outer s H vs Q E hr h => ?_)
  · obtain ⟨a, c, rfl, hS, q⟩ := h
    rfl
  · obtain ⟨a, c, rfl, hS, q⟩ := h
    have hu := hu_of hr
    have nd := sc__law_sign.nd
    refine ⟨_, (pss_cons (ps_set (i := 1) nd rfl (Or.inl rfl) pe_str)
      (pss_cons (ps_set (i := 1) nd rfl (Or.inl rfl) (pe_op ad_any (pv 1) pe_str))
      (pss_one (ps_ret (pe_ix ix_any (pv 1) (pe_fn C__law_draw (hr.mono (by first | decide | omega)) (by rfl) (pa_cons (pv 0) (pa_cons pe_int pa_nil))) (fun _ _ => rfl)))))), ?_⟩
    refine start0 (σ := [some (.ref a), none]) rfl ?_
    walk_at "vc"
    refine ⟨by decide +kernel, a, c, 94, rfl, hS, by decide, by decide, fun r H1 r0 r1 k1 s1 => ?_⟩
    walk_at "vc"
    refine ⟨by decide +kernel, ?_⟩
    exact lit_ex (n := 94) (by decide +kernel) (by decide +kernel) r0 r1 fun c h1 h2 => q _ _ h1 h2 k1 s1

/-! ### _law_text -/
abbrev N__law_text : List Str := ["_law_source_here", "_law_size", "_law_k"]
theorem sc__law_text : FnScope N__law_text ["_law_source_here"] (defScope s__law_text) := ⟨rfl, rfl, rfl, by decide +kernel, rfl, by decide +kernel, by decide +kernel⟩
def inv_text (a c : Addr) (H : Hp) (i : Nat) (ys : List V) (H2 : Hp) : Prop := ∃ zs : List Str, ys = zs.map V.str ∧ (∀ z ∈ zs, Pr z ∧ z.length = 1) ∧ Keep a H H2 ∧ Src H2 a c
def sp__law_text (K : PySem.W.Frag) : Sp := fun vs H Q _ => ∃ a c, vs = [.ref a] ∧ Src H a c ∧ ∀ z H', Pr z → z.length ≤ 300 → Keep a H H' → Src H' a c → Q (.str z) H'
theorem ok__law_text (T : Top K mg) (C__law_draw : Callee P w K mg base 2 "_law_draw" ["_law_source_here", "_law_many"] (sp__law_draw K)) (C__law_sign : Callee P w K mg base 3 "_law_sign" ["_law_source_here"] (sp__law_sign K)) : Callee P w K mg base 4 "_law_text" ["_law_source_here"] (sp__law_text K) := by
  refine T.d__law_text.ok sc__law_text (fun _ _ _ _ _ _ us hl => match us, hl with | [_], _ => rfl) (fun vs H Q E h => ?_) (fun f cdv A outer s H vs Q E hr h => ?_)
  · obtain ⟨a, c, rfl, hS, q⟩ := h
    rfl
  · obtain ⟨a, c, rfl, hS, q⟩ := h
    have hu := hu_of hr
    have nd := sc__law_text.nd
    refine ⟨_, (pss_cons (ps_set (i := 1) nd rfl (Or.inl rfl) (pe_fn C__law_draw (hr.mono (by first | decide | omega)) (by rfl) (pa_cons (pv 0) (pa_cons pe_int pa_nil))))
      (pss_cut1 (ps_if (PW.pt (pw_and (pt_cmpR op_gt (pe_dget hu (pv 0) pe_str (fun _ _ => rfl)) pe_int (nomark _)) (pw_and1 (pt_cmpR (eq_any hr) (pe_fn C__law_draw (hr.mono (by first | decide | omega)) (by rfl) (pa_cons (pv 0) (pa_cons pe_int pa_nil))) pe_int (nomark _))))) (pss_cons (ps_dput hu (pv 0) pe_str (pe_op op_sub (pe_dget hu (pv 0) pe_str (fun _ _ => rfl)) pe_int) rfl)
      (pss_one (ps_set (i := 1) nd rfl (Or.inl rfl) (pe_fn C__law_draw (hr.mono (by first | decide | omega)) (by rfl) (pa_cons (pv 0) (pa_cons pe_int pa_nil)))))) pss_nil)
      (pss_one (ps_ret (pe_bm PySem.F.plainAttrs_str PySem.F.slot_str_join PySem.F.type_str_join mt_joinA pe_str (pa_cons (pe_lc (own := [("_law_k", 2)]) rfl nd (pi_range1 (by rfl) T.b.b_range (pa_cons (pv 1) pa_nil)) (blkOk_by (own := [("_law_k", 2)]) (N := N__law_text) (sc := defScope s__law_text) (by decide +kernel)) (fun _ _ _ _ _ => (pg_name (i := 2) nd rfl (Or.inl rfl))) (fun _ _ _ _ _ => pts_nil) (fun _ _ _ _ _ => (pe_fn C__law_sign (hr.mono (by first | decide | omega)) (by rfl) (pa_cons (pv 0) pa_nil)))) pa_nil)))))), ?_⟩
    refine start0 (σ := [some (.ref a), none, none]) rfl ?_
    walk_at "vc"
    refine ⟨a, c, 5, rfl, hS, by decide, by decide, fun r H1 r0 r1 k1 s1 => ?_⟩
    walk_at "vc"
    intro p hp
    have key : ∀ (r : Int) (H1 : Hp), 0 ≤ r → r ≤ 300 → Keep a H H1 → Src H1 a c → p [some (.ref a), some (.int r), none] H1 := fun r H1 r0 r1 k1 s1 => hp.go _ _ (by
      walk_at "vc"
      refine ⟨by omega, by omega, fun d hd => ?_⟩
      obtain ⟨nda, ndc⟩ := src_ne s1 hd
      refine lc_r (inv_text a c H) ⟨[], rfl, fun _ h => (nomatch h), k1.trans (.new hd), src_new s1 hd⟩ ?_ ?_
      · rintro i ys H2 hi el hy ⟨zs, rfl, hz, k2, s2⟩
        walk_at "vc"
        refine ⟨a, c, rfl, s2, fun e H3 c0 c1 k3 s3 => ?_⟩
        refine LcNext.mk (k3 _ _ hy nda) el (by omega) ⟨zs ++ [⟨#[e]⟩], by rw [List.map_append]; rfl, fun z h => ?_, ?_, ?_⟩
        · rcases List.mem_append.mp h with h | h
          · exact hz z h
          · rw [List.mem_singleton.mp h]
            exact ⟨pr_one ⟨c0, c1⟩, rfl⟩
        · exact k1.mut nda hd (k2.trans k3)
        · exact src_upd s3 nda ndc
      · rintro ys H2 el hy ⟨zs, rfl, hz, k2, s2⟩
        rw [List.length_map] at el
        refine ⟨_, _, zs, rfl, rfl, .inl hy, ?_, ?_⟩
        · rw [len_ones fun z h => (hz z h).2, el]
          show r.toNat + r.toNat * 0 ≤ 16777216
          omega
        · refine q _ _ (join_pr fun z h => (hz z h).1) ?_ k2 s2
          rw [join_len, len_ones fun z h => (hz z h).2]
          omega)
    obtain ⟨ns, at_, rest, seed, room, long, hd, hc, h0, h1⟩ := id s1
    walk_at "vc"
    split
    · refine ⟨a, c, 24, rfl, s1, by decide, by decide, fun r2 H2 r20 r21 k2 s2 => ?_⟩
      obtain ⟨ns, at_, rest, seed, room, long, hd, hc, h0, h1⟩ := id s2
      walk_at "vc"
      split
      · have s3 := src_mk (at_ := at_) (rest := rest) (seed := seed) (room := room) (long := long - 1) hd hc h0 h1
        refine ⟨a, c, 301, rfl, s3, by decide, by decide, fun r4 H4 r40 r41 k4 s4 => ?_⟩
        walk_at "vc"
        exact key _ _ r40 (by omega) (((k1.trans k2).trans .upd).trans k4) s4
      · exact key _ _ r0 (by omega) (k1.trans k2) s2
    · exact key _ _ r0 (by omega) k1 s1

/-! ### _law_key -/
abbrev N__law_key : List Str := ["_law_source_here", "_law_shape", "_law_near"]
theorem sc__law_key : FnScope N__law_key ["_law_source_here"] (defScope s__law_key) := ⟨rfl, rfl, rfl, by decide +kernel, rfl, by decide +kernel, by decide +kernel⟩
def sp__law_key (K : PySem.W.Frag) : Sp := fun vs H Q _ => ∃ a c, vs = [.ref a] ∧ Src H a c ∧ ∀ v H', KeyV v → Keep a H H' → Src H' a c → Q v H'
theorem ok__law_key (T : Top K mg) (C__law_draw : Callee P w K mg base 2 "_law_draw" ["_law_source_here", "_law_many"] (sp__law_draw K)) (C__law_number : Callee P w K mg base 3 "_law_number" ["_law_source_here"] (sp__law_number K)) (C__law_text : Callee P w K mg base 4 "_law_text" ["_law_source_here"] (sp__law_text K)) : Callee P w K mg base 5 "_law_key" ["_law_source_here"] (sp__law_key K) := by
  refine T.d__law_key.ok sc__law_key (fun _ _ _ _ _ _ us hl => match us, hl with | [_], _ => rfl) (fun vs H Q E h => ?_) (fun f cdv A outer s H vs Q E hr h => ?_)
  · obtain ⟨a, c, rfl, hS, q⟩ := h
    rfl
  · obtain ⟨a, c, rfl, hS, q⟩ := h
    have hu := hu_of hr
    have nd := sc__law_key.nd
    refine ⟨_, (pss_cons (ps_set (i := 1) nd rfl (Or.inl rfl) (pe_fn C__law_draw (hr.mono (by first | decide | omega)) (by rfl) (pa_cons (pv 0) (pa_cons pe_int pa_nil))))
      (pss_cons (ps_if (pt_cmpR op_lt (pv 1) pe_int (nomark _)) (pss_one (ps_ret (pe_fn C__law_number (hr.mono (by first | decide | omega)) (by rfl) (pa_cons (pv 0) pa_nil)))) pss_nil)
      (pss_cons (ps_if (pt_cmpR op_lt (pv 1) pe_int (nomark _)) (pss_one (ps_ret (pe_callTy str_any (by rfl) T.b.b_str boot_str (pa_cons (pe_fn C__law_number (hr.mono (by first | decide | omega)) (by rfl) (pa_cons (pv 0) pa_nil)) pa_nil)))) pss_nil)
      (pss_cons (ps_if (pt_cmpR (eq_any hr) (pv 1) pe_int (nomark _)) (pss_cons (ps_set (i := 2) nd rfl (Or.inl rfl) (pe_ix ix_any (pe_lst (pa_cons pe_str (pa_cons pe_str (pa_cons pe_str (pa_cons pe_str (pa_cons pe_str (pa_cons pe_str (pa_cons pe_str (pa_cons pe_str pa_nil))))))))) (pe_fn C__law_draw (hr.mono (by first | decide | omega)) (by rfl) (pa_cons (pv 0) (pa_cons pe_int pa_nil))) (fun _ _ => rfl)))
      (pss_one (ps_ret (pe_op ad_any (pv 2) (pe_callTy str_any (by rfl) T.b.b_str boot_str (pa_cons (pe_fn C__law_number (hr.mono (by first | decide | omega)) (by rfl) (pa_cons (pv 0) pa_nil)) pa_nil)))))) pss_nil)
      (pss_cons (ps_if (pt_cmpR (eq_any hr) (pv 1) pe_int (nomark _)) (pss_one (ps_ret (pe_ix ix_any (pe_lst (pa_cons pe_str (pa_cons pe_str (pa_cons pe_str (pa_cons pe_str (pa_cons pe_str (pa_cons pe_str (pa_cons pe_str (pa_cons pe_str pa_nil))))))))) (pe_fn C__law_draw (hr.mono (by first | decide | omega)) (by rfl) (pa_cons (pv 0) (pa_cons pe_int pa_nil))) (fun _ _ => rfl)))) pss_nil)
      (pss_one (ps_ret (pe_fn C__law_text (hr.mono (by first | decide | omega)) (by rfl) (pa_cons (pv 0) pa_nil))))))))), ?_⟩
    refine start0 (σ := [some (.ref a), none, none]) rfl ?_
    walk_at "vc"
    refine ⟨a, c, 8, rfl, hS, by decide, by decide, fun r H1 r0 r1 k1 s1 => ?_⟩
    walk_at "vc"
    split
    · exact ⟨a, c, rfl, s1, fun n H2 hn k2 s2 => q _ _ (.inl ⟨n, rfl, hn⟩) (k1.trans k2) s2⟩
    split
    · refine ⟨a, c, rfl, s1, fun n H2 hn k2 s2 => ?_⟩
      walk_at "vc"
      exact ⟨log_int hn, q _ _ (.inr ⟨_, rfl, pr_int n, by have := len_int (k := 30) (by decide) hn; omega⟩) (k1.trans k2) s2⟩
    split
    · refine ⟨by decide, fun p hp => ⟨a, c, 8, rfl, src_new s1 hp, by decide, by decide, fun r2 H2 r20 r21 k2 s2 => ?_⟩⟩
      have hp2 := k2 p _ upd_same (src_ne s1 hp).1
      walk_at "vc"
      refine menu_ok (n := 8) (m := 2) rfl (by decide +kernel) r20 r21 fun z hz zl => ?_
      refine ⟨a, c, rfl, s2, fun n H3 hn k3 s3 => ?_⟩
      walk_at "vc"
      have hl := len_int (k := 30) (by decide) hn
      refine ⟨log_int hn, Nat.le_of_lt (sizeN (by omega)), q _ _ (.inr ⟨_, rfl, hz.app (pr_int n), by rw [len_app]; omega⟩) ((k1.trans (.new hp)).trans (k2.trans k3)) s3⟩
    split
    · refine ⟨by decide, fun p hp => ⟨a, c, 8, rfl, src_new s1 hp, by decide, by decide, fun r2 H2 r20 r21 k2 s2 => ?_⟩⟩
      have hp2 := k2 p _ upd_same (src_ne s1 hp).1
      walk_at "vc"
      exact menu_ok (n := 8) (m := 5) rfl (by decide +kernel) r20 r21 fun z hz zl => q _ _ (.inr ⟨_, rfl, hz, by omega⟩) ((k1.trans (.new hp)).trans k2) s2
    · exact ⟨a, c, rfl, s1, fun z H2 hz zl k2 s2 => q _ _ (.inr ⟨_, rfl, hz, zl⟩) (k1.trans k2) s2⟩

/-! ### _law_any_key -/
abbrev N__law_any_key : List Str := ["_law_source_here", "_law_ahead", "_law_figures", "_law_k"]
theorem sc__law_any_key : FnScope N__law_any_key ["_law_source_here"] (defScope s__law_any_key) := ⟨rfl, rfl, rfl, by decide +kernel, rfl, by decide +kernel, by decide +kernel⟩
def inv_any (a c : Addr) (H : Hp) (i : Nat) (ys : List V) (H2 : Hp) : Prop := ∃ zs : List Str, ys = zs.map V.str ∧ (∀ z ∈ zs, Pr z ∧ z.length = 1) ∧ Keep a H H2 ∧ Src H2 a c
def sp__law_any_key (K : PySem.W.Frag) : Sp := fun vs H Q _ => ∃ a c, vs = [.ref a] ∧ Src H a c ∧ ∀ v H', KeyV v → Keep a H H' → Src H' a c → Q v H'
theorem ok__law_any_key (T : Top K mg) (C__law_draw : Callee P w K mg base 2 "_law_draw" ["_law_source_here", "_law_many"] (sp__law_draw K)) (C__law_key : Callee P w K mg base 5 "_law_key" ["_law_source_here"] (sp__law_key K)) : Callee P w K mg base 6 "_law_any_key" ["_law_source_here"] (sp__law_any_key K) := by
  refine T.d__law_any_key.ok sc__law_any_key (fun _ _ _ _ _ _ us hl => match us, hl with | [_], _ => rfl) (fun vs H Q E h => ?_) (fun f cdv A outer s H vs Q E hr h => ?_)
  · obtain ⟨a, c, rfl, hS, q⟩ := h
    rfl
  · obtain ⟨a, c, rfl, hS, q⟩ := h
    have hu := hu_of hr
    have nd := sc__law_any_key.nd
    refine ⟨_, (pss_cons (ps_if (pt_cmpR op_gt (pe_fn C__law_draw (hr.mono (by first | decide | omega)) (by rfl) (pa_cons (pv 0) (pa_cons pe_int pa_nil))) pe_int (nomark _)) (pss_one (ps_ret (pe_fn C__law_key (hr.mono (by first | decide | omega)) (by rfl) (pa_cons (pv 0) pa_nil)))) pss_nil)
      (pss_cons (ps_set (i := 1) nd rfl (Or.inl rfl) (pe_ix ix_any (pe_lst (pa_cons pe_str (pa_cons pe_str (pa_cons pe_str (pa_cons pe_str pa_nil))))) (pe_fn C__law_draw (hr.mono (by first | decide | omega)) (by rfl) (pa_cons (pv 0) (pa_cons pe_int pa_nil))) (fun _ _ => rfl)))
      (pss_cons (ps_set (i := 2) nd rfl (Or.inl rfl) (pe_op ad_any pe_int (pe_fn C__law_draw (hr.mono (by first | decide | omega)) (by rfl) (pa_cons (pv 0) (pa_cons pe_int pa_nil)))))
      (pss_one (ps_ret (pe_op ad_any (pv 1) (pe_bm PySem.F.plainAttrs_str PySem.F.slot_str_join PySem.F.type_str_join mt_joinA pe_str (pa_cons (pe_lc (own := [("_law_k", 3)]) rfl nd (pi_range1 (by rfl) T.b.b_range (pa_cons (pv 2) pa_nil)) (blkOk_by (own := [("_law_k", 3)]) (N := N__law_any_key) (sc := defScope s__law_any_key) (by decide +kernel)) (fun _ _ _ _ _ => (pg_name (i := 3) nd rfl (Or.inl rfl))) (fun _ _ _ _ _ => pts_nil) (fun _ _ _ _ _ => (pe_ix ix_any pe_str (pe_fn C__law_draw (hr.mono (by first | decide | omega)) (by rfl) (pa_cons (pv 0) (pa_cons pe_int pa_nil))) (fun _ _ => rfl)))) pa_nil)))))))), ?_⟩
    refine start0 (σ := [some (.ref a), none, none, none]) rfl ?_
    walk_at "vc"
    refine ⟨a, c, 4, rfl, hS, by decide, by decide, fun r H1 r0 r1 k1 s1 => ?_⟩
    walk_at "vc"
    split
    · exact ⟨a, c, rfl, s1, fun v H2 hv k2 s2 => q _ _ hv (k1.trans k2) s2⟩
    refine ⟨by decide, fun p hp => ⟨a, c, 4, rfl, src_new s1 hp, by decide, by decide, fun r2 H2 r20 r21 k2 s2 => ?_⟩⟩
    have hp2 := k2 p _ upd_same (src_ne s1 hp).1
    walk_at "vc"
    refine menu_ok (n := 4) (m := 2) rfl (by decide +kernel) r20 r21 fun z hz zl => ?_
    refine ⟨a, c, 4, rfl, s2, by decide, by decide, fun r3 H3 r30 r31 k3 s3 => ?_⟩
    have k03 : Keep a H H3 := ((k1.trans (.new hp)).trans k2).trans k3
    walk_at "vc"
    refine ⟨by omega, by omega, fun d hd => ?_⟩
    obtain ⟨nda, ndc⟩ := src_ne s3 hd
    refine lc_r (inv_any a c H) ⟨[], rfl, fun _ h => (nomatch h), k03.trans (.new hd), src_new s3 hd⟩ ?_ ?_
    · rintro i ys H4 hi el hy ⟨zs, rfl, hz, k4, s4⟩
      walk_at "vc"
      refine ⟨a, c, 10, rfl, s4, by decide, by decide, fun r5 H5 r50 r51 k5 s5 => ?_⟩
      walk_at "vc"
      refine ⟨by decide +kernel, lit_ex (n := 10) (by decide +kernel) (by decide +kernel) r50 r51 fun e c0 c1 => ?_⟩
      refine LcNext.mk (k5 _ _ hy nda) el (by omega) ⟨zs ++ [⟨#[e]⟩], by rw [List.map_append]; rfl, fun z h => ?_, k03.mut nda hd (k4.trans k5), src_upd s5 nda ndc⟩
      rcases List.mem_append.mp h with h | h
      · exact hz z h
      · rw [List.mem_singleton.mp h]
        exact ⟨pr_one ⟨c0, c1⟩, rfl⟩
    · rintro ys H4 el hy ⟨zs, rfl, hzs, k4, s4⟩
      rw [List.length_map] at el
      have lo := len_ones fun z h => (hzs z h).2
      refine ⟨_, _, zs, rfl, rfl, .inl hy, ?_, ?_⟩
      · rw [lo, el]
        show (28 + r3).toNat + (28 + r3).toNat * 0 ≤ 16777216
        omega
      · have jl := join_len zs
        rw [lo] at jl
        walk_at "vc"
        refine ⟨Nat.le_of_lt (sizeN (by omega)), q _ _ (.inr ⟨_, rfl, hz.app (join_pr fun z h => (hzs z h).1), by rw [len_app]; omega⟩) k4 s4⟩

/-! ### law -/
abbrev N_law : List Str := ["_law_script", "_law_source_here", "_law_k"]
theorem sc_law : FnScope N_law ["_law_script"] (defScope s_law) := ⟨rfl, rfl, rfl, by decide +kernel, rfl, by decide +kernel, by decide +kernel⟩
def sp_law (K : PySem.W.Frag) : Sp := fun vs H Q _ => ∃ (a : Addr) (ns : List Int), vs = [.ref a] ∧ SqL K H a (ns.map V.int) ∧ ns.length ≤ 63 ∧ ∀ H', Q (.bl true) H'
def inv_law (v : V) (a c : Addr) (i : Nat) (σ : L2.St) (H2 : Hp) : Prop := ∃ x, σ = [some v, some (.ref a), x] ∧ Src H2 a c
theorem ok_law (T : Top K mg) (C__law_source : Callee P w K mg base 1 "_law_source" ["_law_script"] (sp__law_source K)) (C__law_draw : Callee P w K mg base 2 "_law_draw" ["_law_source_here", "_law_many"] (sp__law_draw K)) (C__law_right : Callee P w K mg base 3 "_law_right" ["_law_key_here"] (sp__law_right K 2)) (C__law_any_key : Callee P w K mg base 6 "_law_any_key" ["_law_source_here"] (sp__law_any_key K)) : Callee P w K mg base 7 "law" ["_law_script"] (sp_law K) := by
  refine T.d_law.ok sc_law (fun _ _ _ _ _ _ us hl => match us, hl with | [_], _ => rfl) (fun vs H Q E h => ?_) (fun f cdv A outer s H vs Q E hr h => ?_)
  · obtain ⟨a, ns, rfl, hS, hl, q⟩ := h
    rfl
  · obtain ⟨a, ns, rfl, hS, hl, q⟩ := h
    have hu := hu_of hr
    have nd := sc_law.nd
    refine ⟨_, (pss_cons (ps_set (i := 1) nd rfl (Or.inl rfl) (pe_fn C__law_source (hr.mono (by first | decide | omega)) (by rfl) (pa_cons (pv 0) pa_nil)))
      (pss_cons (ps_for PassesOwn.never rfl (pi_range1 (by rfl) T.b.b_range (pa_cons (pe_op ad_any pe_int (pe_fn C__law_draw (hr.mono (by first | decide | omega)) (by rfl) (pa_cons (pv 1) (pa_cons pe_int pa_nil)))) pa_nil)) (pg_name (i := 2) nd rfl (Or.inl rfl)) (pss_one (ps_if (pt_not (pt_val (pe_fn C__law_right (hr.mono (by first | decide | omega)) (by rfl) (pa_cons (pe_fn C__law_any_key (hr.mono (by first | decide | omega)) (by rfl) (pa_cons (pv 1) pa_nil)) pa_nil)))) (pss_one (ps_ret pe_bl)) pss_nil)))
      (pss_one (ps_ret pe_bl)))), ?_⟩
    refine start0 (σ := [some (.ref a), none, none]) rfl ?_
    walk_at "vc"
    refine ⟨a, ns, rfl, hS, hl, fun p c H1 hp hc s0 s1 => ?_⟩
    walk_at "vc"
    refine ⟨p, c, 20, rfl, s1, by decide, by decide, fun r H2 r0 r1 k2 s2 => ?_⟩
    walk_at "vc"
    refine ⟨by omega, by omega, lp_range (inv_law (.ref a) p c) ⟨none, rfl, s2⟩ ?_ ?_⟩
    · rintro i σ H3 hi ⟨x, rfl, s3⟩
      walk_at "vc"
      refine ⟨p, c, rfl, s3, fun v H4 hv k4 s4 => ?_⟩
      walk_at "vc"
      refine ⟨v, rfl, hv, by decide, fun _ => by decide, ?_⟩
      walk_at "vc"
      exact ⟨_, rfl, s4⟩
    · rintro σ H3 ⟨x, rfl, s3⟩
      walk_at "vc"

end
theorem all_mk {l : PySem.W.OpenLaw} {w : World} {K : PySem.W.Frag} {h : Heap} {mg : Str → Option Value} {fa : Addr} (X : K.In h) (G : h.Ns mainGlobals mg) (hfa : mg "law" = some (.ref fa))
    {f0 : Addr} {od0 an0 : Option Addr} {sl0 : Array (Option Value)} {oc0 kV0 dc0 pm0 cd0 ct0 : Value} (a0 : PySem.W.nsIn K mainGlobals "_law_source" = some (some (.ref f0))) (l0 : K.lookup f0 = some ⟨oc0, od0, .func (PySem.W.fnOf "_law_source" "_law_source" (defArgs s__law_source) (defBody s__law_source) (defScope s__law_source) .none kV0 dc0 pm0 an0 cd0 ct0), sl0⟩) (c0 : PySem.W.codeIn K cd0 "_law_source" = true) (k0 : PySem.W.keepIn K (.ref f0) = true)
    {f1 : Addr} {od1 an1 : Option Addr} {sl1 : Array (Option Value)} {oc1 kV1 dc1 pm1 cd1 ct1 : Value} (a1 : PySem.W.nsIn K mainGlobals "_law_more" = some (some (.ref f1))) (l1 : K.lookup f1 = some ⟨oc1, od1, .func (PySem.W.fnOf "_law_more" "_law_more" (defArgs s__law_more) (defBody s__law_more) (defScope s__law_more) .none kV1 dc1 pm1 an1 cd1 ct1), sl1⟩) (c1 : PySem.W.codeIn K cd1 "_law_more" = true) (k1 : PySem.W.keepIn K (.ref f1) = true)
    {f2 : Addr} {od2 an2 : Option Addr} {sl2 : Array (Option Value)} {oc2 kV2 dc2 pm2 cd2 ct2 : Value} (a2 : PySem.W.nsIn K mainGlobals "_law_draw" = some (some (.ref f2))) (l2 : K.lookup f2 = some ⟨oc2, od2, .func (PySem.W.fnOf "_law_draw" "_law_draw" (defArgs s__law_draw) (defBody s__law_draw) (defScope s__law_draw) .none kV2 dc2 pm2 an2 cd2 ct2), sl2⟩) (c2 : PySem.W.codeIn K cd2 "_law_draw" = true) (k2 : PySem.W.keepIn K (.ref f2) = true)
    {f3 : Addr} {od3 an3 : Option Addr} {sl3 : Array (Option Value)} {oc3 kV3 dc3 pm3 cd3 ct3 : Value} (a3 : PySem.W.nsIn K mainGlobals "key_text" = some (some (.ref f3))) (l3 : K.lookup f3 = some ⟨oc3, od3, .func (PySem.W.fnOf "key_text" "key_text" (defArgs s_key_text) (defBody s_key_text) (defScope s_key_text) .none kV3 dc3 pm3 an3 cd3 ct3), sl3⟩) (c3 : PySem.W.codeIn K cd3 "key_text" = true) (k3 : PySem.W.keepIn K (.ref f3) = true)
    {f4 : Addr} {od4 an4 : Option Addr} {sl4 : Array (Option Value)} {oc4 kV4 dc4 pm4 cd4 ct4 : Value} (a4 : PySem.W.nsIn K mainGlobals "is_digit_key" = some (some (.ref f4))) (l4 : K.lookup f4 = some ⟨oc4, od4, .func (PySem.W.fnOf "is_digit_key" "is_digit_key" (defArgs s_is_digit_key) (defBody s_is_digit_key) (defScope s_is_digit_key) .none kV4 dc4 pm4 an4 cd4 ct4), sl4⟩) (c4 : PySem.W.codeIn K cd4 "is_digit_key" = true) (k4 : PySem.W.keepIn K (.ref f4) = true)
    {f5 : Addr} {od5 an5 : Option Addr} {sl5 : Array (Option Value)} {oc5 kV5 dc5 pm5 cd5 ct5 : Value} (a5 : PySem.W.nsIn K mainGlobals "_law_digits" = some (some (.ref f5))) (l5 : K.lookup f5 = some ⟨oc5, od5, .func (PySem.W.fnOf "_law_digits" "_law_digits" (defArgs s__law_digits) (defBody s__law_digits) (defScope s__law_digits) .none kV5 dc5 pm5 an5 cd5 ct5), sl5⟩) (c5 : PySem.W.codeIn K cd5 "_law_digits" = true) (k5 : PySem.W.keepIn K (.ref f5) = true)
    {f6 : Addr} {od6 an6 : Option Addr} {sl6 : Array (Option Value)} {oc6 kV6 dc6 pm6 cd6 ct6 : Value} (a6 : PySem.W.nsIn K mainGlobals "_law_right" = some (some (.ref f6))) (l6 : K.lookup f6 = some ⟨oc6, od6, .func (PySem.W.fnOf "_law_right" "_law_right" (defArgs s__law_right) (defBody s__law_right) (defScope s__law_right) .none kV6 dc6 pm6 an6 cd6 ct6), sl6⟩) (c6 : PySem.W.codeIn K cd6 "_law_right" = true) (k6 : PySem.W.keepIn K (.ref f6) = true)
    {f7 : Addr} {od7 an7 : Option Addr} {sl7 : Array (Option Value)} {oc7 kV7 dc7 pm7 cd7 ct7 : Value} (a7 : PySem.W.nsIn K mainGlobals "_law_number" = some (some (.ref f7))) (l7 : K.lookup f7 = some ⟨oc7, od7, .func (PySem.W.fnOf "_law_number" "_law_number" (defArgs s__law_number) (defBody s__law_number) (defScope s__law_number) .none kV7 dc7 pm7 an7 cd7 ct7), sl7⟩) (c7 : PySem.W.codeIn K cd7 "_law_number" = true) (k7 : PySem.W.keepIn K (.ref f7) = true)
    {f8 : Addr} {od8 an8 : Option Addr} {sl8 : Array (Option Value)} {oc8 kV8 dc8 pm8 cd8 ct8 : Value} (a8 : PySem.W.nsIn K mainGlobals "_law_sign" = some (some (.ref f8))) (l8 : K.lookup f8 = some ⟨oc8, od8, .func (PySem.W.fnOf "_law_sign" "_law_sign" (defArgs s__law_sign) (defBody s__law_sign) (defScope s__law_sign) .none kV8 dc8 pm8 an8 cd8 ct8), sl8⟩) (c8 : PySem.W.codeIn K cd8 "_law_sign" = true) (k8 : PySem.W.keepIn K (.ref f8) = true)
    {f9 : Addr} {od9 an9 : Option Addr} {sl9 : Array (Option Value)} {oc9 kV9 dc9 pm9 cd9 ct9 : Value} (a9 : PySem.W.nsIn K mainGlobals "_law_text" = some (some (.ref f9))) (l9 : K.lookup f9 = some ⟨oc9, od9, .func (PySem.W.fnOf "_law_text" "_law_text" (defArgs s__law_text) (defBody s__law_text) (defScope s__law_text) .none kV9 dc9 pm9 an9 cd9 ct9), sl9⟩) (c9 : PySem.W.codeIn K cd9 "_law_text" = true) (k9 : PySem.W.keepIn K (.ref f9) = true)
    {f10 : Addr} {od10 an10 : Option Addr} {sl10 : Array (Option Value)} {oc10 kV10 dc10 pm10 cd10 ct10 : Value} (a10 : PySem.W.nsIn K mainGlobals "_law_key" = some (some (.ref f10))) (l10 : K.lookup f10 = some ⟨oc10, od10, .func (PySem.W.fnOf "_law_key" "_law_key" (defArgs s__law_key) (defBody s__law_key) (defScope s__law_key) .none kV10 dc10 pm10 an10 cd10 ct10), sl10⟩) (c10 : PySem.W.codeIn K cd10 "_law_key" = true) (k10 : PySem.W.keepIn K (.ref f10) = true)
    {f11 : Addr} {od11 an11 : Option Addr} {sl11 : Array (Option Value)} {oc11 kV11 dc11 pm11 cd11 ct11 : Value} (a11 : PySem.W.nsIn K mainGlobals "_law_any_key" = some (some (.ref f11))) (l11 : K.lookup f11 = some ⟨oc11, od11, .func (PySem.W.fnOf "_law_any_key" "_law_any_key" (defArgs s__law_any_key) (defBody s__law_any_key) (defScope s__law_any_key) .none kV11 dc11 pm11 an11 cd11 ct11), sl11⟩) (c11 : PySem.W.codeIn K cd11 "_law_any_key" = true) (k11 : PySem.W.keepIn K (.ref f11) = true)
    {f12 : Addr} {od12 an12 : Option Addr} {sl12 : Array (Option Value)} {oc12 kV12 dc12 pm12 cd12 ct12 : Value} (a12 : PySem.W.nsIn K mainGlobals "law" = some (some (.ref f12))) (l12 : K.lookup f12 = some ⟨oc12, od12, .func (PySem.W.fnOf "law" "law" (defArgs s_law) (defBody s_law) (defScope s_law) .none kV12 dc12 pm12 an12 cd12 ct12), sl12⟩) (c12 : PySem.W.codeIn K cd12 "law" = true) (k12 : PySem.W.keepIn K (.ref f12) = true)
    (z_abs : PySem.W.nsIn K mainGlobals "abs" = some none)
    (z_all : PySem.W.nsIn K mainGlobals "all" = some none)
    (z_any : PySem.W.nsIn K mainGlobals "any" = some none)
    (z_bool : PySem.W.nsIn K mainGlobals "bool" = some none)
    (z_enumerate : PySem.W.nsIn K mainGlobals "enumerate" = some none)
    (z_int : PySem.W.nsIn K mainGlobals "int" = some none)
    (z_isinstance : PySem.W.nsIn K mainGlobals "isinstance" = some none)
    (z_len : PySem.W.nsIn K mainGlobals "len" = some none)
    (z_list : PySem.W.nsIn K mainGlobals "list" = some none)
    (z_max : PySem.W.nsIn K mainGlobals "max" = some none)
    (z_min : PySem.W.nsIn K mainGlobals "min" = some none)
    (z_range : PySem.W.nsIn K mainGlobals "range" = some none)
    (z_set : PySem.W.nsIn K mainGlobals "set" = some none)
    (z_sorted : PySem.W.nsIn K mainGlobals "sorted" = some none)
    (z_str : PySem.W.nsIn K mainGlobals "str" = some none)
    (z_tuple : PySem.W.nsIn K mainGlobals "tuple" = some none)
    (z_zip : PySem.W.nsIn K mainGlobals "zip" = some none)
    (z_iter : PySem.W.nsIn K mainGlobals "iter" = some none)
    {t_MOST_DIGITS : Tok} (g_MOST_DIGITS : PySem.W.nsIn K mainGlobals "MOST_DIGITS" = some (some (.int 30 t_MOST_DIGITS)))
    : ∃ fd : FuncData, (∀ (s : Shared) (v : Value), BindsTo s fd ⟨[v], []⟩ [("_law_script", v)]) ∧ ∀ base : Heap, K.In base → base.Ns mainGlobals mg → FnOk l.prog w K mg base CX0 7 fa fd ["_law_script"] (sp_law K) := by
  have T : Top K mg := ⟨⟨PySem.W.mg_none_of X G z_abs, PySem.W.mg_none_of X G z_all, PySem.W.mg_none_of X G z_any, PySem.W.mg_none_of X G z_bool, PySem.W.mg_none_of X G z_enumerate, PySem.W.mg_none_of X G z_int, PySem.W.mg_none_of X G z_isinstance, PySem.W.mg_none_of X G z_len, PySem.W.mg_none_of X G z_list, PySem.W.mg_none_of X G z_max, PySem.W.mg_none_of X G z_min, PySem.W.mg_none_of X G z_range, PySem.W.mg_none_of X G z_set, PySem.W.mg_none_of X G z_sorted, PySem.W.mg_none_of X G z_str, PySem.W.mg_none_of X G z_tuple, PySem.W.mg_none_of X G z_zip, PySem.W.mg_none_of X G z_iter⟩, ⟨⟨f0, _, fun_mk (st := s__law_source) l0 c0 k0, PySem.W.mg_of X G a0⟩⟩, ⟨⟨f1, _, fun_mk (st := s__law_more) l1 c1 k1, PySem.W.mg_of X G a1⟩⟩, ⟨⟨f2, _, fun_mk (st := s__law_draw) l2 c2 k2, PySem.W.mg_of X G a2⟩⟩, ⟨⟨f3, _, fun_mk (st := s_key_text) l3 c3 k3, PySem.W.mg_of X G a3⟩⟩, ⟨⟨f4, _, fun_mk (st := s_is_digit_key) l4 c4 k4, PySem.W.mg_of X G a4⟩⟩, ⟨⟨f5, _, fun_mk (st := s__law_digits) l5 c5 k5, PySem.W.mg_of X G a5⟩⟩, ⟨⟨f6, _, fun_mk (st := s__law_right) l6 c6 k6, PySem.W.mg_of X G a6⟩⟩, ⟨⟨f7, _, fun_mk (st := s__law_number) l7 c7 k7, PySem.W.mg_of X G a7⟩⟩, ⟨⟨f8, _, fun_mk (st := s__law_sign) l8 c8 k8, PySem.W.mg_of X G a8⟩⟩, ⟨⟨f9, _, fun_mk (st := s__law_text) l9 c9 k9, PySem.W.mg_of X G a9⟩⟩, ⟨⟨f10, _, fun_mk (st := s__law_key) l10 c10 k10, PySem.W.mg_of X G a10⟩⟩, ⟨⟨f11, _, fun_mk (st := s__law_any_key) l11 c11 k11, PySem.W.mg_of X G a11⟩⟩, ⟨⟨f12, _, fun_mk (st := s_law) l12 c12 k12, PySem.W.mg_of X G a12⟩⟩, ⟨t_MOST_DIGITS, PySem.W.mg_of X G g_MOST_DIGITS⟩⟩
  have B : ∀ base : Heap, Callee l.prog w K mg base 7 "law" ["_law_script"] (sp_law K) := fun base => by
    have C__law_source := ok__law_source (P := l.prog) (w := w) (base := base) T 
    have C__law_more := ok__law_more (P := l.prog) (w := w) (base := base) T 
    have C__law_draw := ok__law_draw (P := l.prog) (w := w) (base := base) T C__law_more
    have C_key_text := ok_key_text (P := l.prog) (w := w) (base := base) T 
    have C_is_digit_key := ok_is_digit_key (P := l.prog) (w := w) (base := base) T 
    have C__law_digits := ok__law_digits (P := l.prog) (w := w) (base := base) T 
    have C__law_right := ok__law_right (P := l.prog) (w := w) (base := base) T C_key_text C_is_digit_key C__law_digits 2
    have C__law_number := ok__law_number (P := l.prog) (w := w) (base := base) T C__law_draw
    have C__law_sign := ok__law_sign (P := l.prog) (w := w) (base := base) T C__law_draw
    have C__law_text := ok__law_text (P := l.prog) (w := w) (base := base) T C__law_draw C__law_sign
    have C__law_key := ok__law_key (P := l.prog) (w := w) (base := base) T C__law_draw C__law_number C__law_text
    have C__law_any_key := ok__law_any_key (P := l.prog) (w := w) (base := base) T C__law_draw C__law_key
    have C_law := ok_law (P := l.prog) (w := w) (base := base) T C__law_source C__law_draw C__law_right C__law_any_key
    exact C_law
  have e := hfa.symm.trans (PySem.W.mg_of X G a12)
  cases e
  refine ⟨PySem.W.fnOf "law" "law" (defArgs s_law) (defBody s_law) (defScope s_law) .none kV12 dc12 pm12 an12 cd12 ct12, fun s v => .of_eq rfl, fun base _ _ => ?_⟩
  exact callee_fn (fun_mk (st := s_law) l12 c12 k12) (PySem.W.mg_of X G a12) (B base)
end K19
open PySem PySem.W PyProof.Rows
set_option maxRecDepth 100000 in
set_option maxHeartbeats 0 in
theorem PySem.Challenge.cw_keysthroughtext_k19_keys_as_texts_holds : PySem.Challenge.rw_keysthroughtext_k19_keys_as_texts.Holds := by
  w_on; o_law; k_head; (case hw => w_witness2)
  k_fill
  refine L2.walk_of (l := PySem.Challenge.rw_keysthroughtext_k19_keys_as_texts) (n := 63) (k := 7) (x := "_law_script") (CX := fun _ => L2.CX0) (sp := fun w => K19.sp_law _) rfl (by decide) rfl ⟨rfl, by decide, by decide⟩ (fun w h Y => PySem.W.kIn_of Y) ?F (fun _ _ a ns hl _ hS => ⟨a, ns, rfl, hS, hl, fun _ => rfl⟩) (fun _ _ _ _ _ h => h)
  case F =>
    intro w mg fa h KX G hmg
    refine' K19.all_mk KX G hmg ?a0 ?l0 ?c0 ?k0 ?a1 ?l1 ?c1 ?k1 ?a2 ?l2 ?c2 ?k2 ?a3 ?l3 ?c3 ?k3 ?a4 ?l4 ?c4 ?k4 ?a5 ?l5 ?c5 ?k5 ?a6 ?l6 ?c6 ?k6 ?a7 ?l7 ?c7 ?k7 ?a8 ?l8 ?c8 ?k8 ?a9 ?l9 ?c9 ?k9 ?a10 ?l10 ?c10 ?k10 ?a11 ?l11 ?c11 ?k11 ?a12 ?l12 ?c12 ?k12 ?z_abs ?z_all ?z_any ?z_bool ?z_enumerate ?z_int ?z_isinstance ?z_len ?z_list ?z_max ?z_min ?z_range ?z_set ?z_sorted ?z_str ?z_tuple ?z_zip ?z_iter ?g_MOST_DIGITS
    (case a0 => k_is)
    (case l0 => k_is)
    (case c0 => k_is)
    (case k0 => k_is)
    (case a1 => k_is)
    (case l1 => k_is)
    (case c1 => k_is)
    (case k1 => k_is)
    (case a2 => k_is)
    (case l2 => k_is)
    (case c2 => k_is)
    (case k2 => k_is)
    (case a3 => k_is)
    (case l3 => k_is)
    (case c3 => k_is)
    (case k3 => k_is)
    (case a4 => k_is)
    (case l4 => k_is)
    (case c4 => k_is)
    (case k4 => k_is)
    (case a5 => k_is)
    (case l5 => k_is)
    (case c5 => k_is)
    (case k5 => k_is)
    (case a6 => k_is)
    (case l6 => k_is)
    (case c6 => k_is)
    (case k6 => k_is)
    (case a7 => k_is)
    (case l7 => k_is)
    (case c7 => k_is)
    (case k7 => k_is)
    (case a8 => k_is)
    (case l8 => k_is)
    (case c8 => k_is)
    (case k8 => k_is)
    (case a9 => k_is)
    (case l9 => k_is)
    (case c9 => k_is)
    (case k9 => k_is)
    (case a10 => k_is)
    (case l10 => k_is)
    (case c10 => k_is)
    (case k10 => k_is)
    (case a11 => k_is)
    (case l11 => k_is)
    (case c11 => k_is)
    (case k11 => k_is)
    (case a12 => k_is)
    (case l12 => k_is)
    (case c12 => k_is)
    (case k12 => k_is)
    (case z_abs => k_is)
    (case z_all => k_is)
    (case z_any => k_is)
    (case z_bool => k_is)
    (case z_enumerate => k_is)
    (case z_int => k_is)
    (case z_isinstance => k_is)
    (case z_len => k_is)
    (case z_list => k_is)
    (case z_max => k_is)
    (case z_min => k_is)
    (case z_range => k_is)
    (case z_set => k_is)
    (case z_sorted => k_is)
    (case z_str => k_is)
    (case z_tuple => k_is)
    (case z_zip => k_is)
    (case z_iter => k_is)
    (case g_MOST_DIGITS => k_is)
