import PyProof.Rows.All
import Wide.All
import OpenK.AllK
import Wide.FinOn
import KE.KStateDown
import HandS.ForMost
import HandS.ForExc
import HandS.Defaults
import HandS.Wide
import HandS.Evl
import HandS.HeadHook2
import HandS.IsInst
import KE.KExcSuper
import HandS.ExcInit
import HandS.ExcValue
import HandS.HeadWalk
import HandS.MakeKwOnly
import HandS.ExcIs
import KE.KExcIs
import HandS.HeadEnd
import HandS.Head0
import HandS.Head1
import HandS.Head2
import HandS.Walk
import PySem.Challenge.RW_narrowdraws_k01_errors_by_hand
set_option Elab.async false
set_option linter.all false
set_option maxRecDepth 100000
set_option maxHeartbeats 0
namespace ND
open PySem PySem.Spec PyProof.Rows L2
/-! ### global defs by name -/
abbrev FnP (K : PySem.W.Frag) (x qual : Str) (st : Stmt) (f : Addr) (fd : FuncData) : Prop := FunD K x qual (defArgs st) (defBody st) (defScope st) [] [] f fd
structure GFun (K : PySem.W.Frag) (mg : Str → Option Value) (x : Str) (st : Stmt) : Prop where
  ex : ∃ f fd, FnP K x x st f fd ∧ mg x = some (.ref f)
structure GOk (P : Program) (w : World) (K : PySem.W.Frag) (mg : Str → Option Value) (base : Heap) (k : Nat) (x : Str) (ps : List Str) (sp : Sp) : Prop where
  ex : ∃ f fd, mg x = some (.ref f) ∧ PySem.W.keepIn K (.ref f) = true ∧ Binds K fd ps [] ∧ FnOk P w K mg base (L2.CX P w) k f fd ps sp
section
variable {P : Program} {w : World} {K : PySem.W.Frag} {mg : Str → Option Value} {base : Heap}
theorem GFun.ok {x : Str} {st : Stmt} {N ps : List Str} {k : Nat} {sp : Sp} (F : GFun K mg x st) (S : FnScope N ps (defScope st))
    (hb : ∀ (kV doc pm : Value) (an : Option Addr) (cdv ct : Value) (us : List Value), us.length = ps.length → bindArgs (PySem.W.fnOf x x (defArgs st) (defBody st) (defScope st) .none kV doc pm an cdv ct) ⟨us, []⟩ = pure (ps.zip us))
    (len : ∀ vs H Q E, sp vs H Q E → vs.length = ps.length)
    (hbody : ∀ (f : Addr) (cdv : Value) (A : Around) (outer : List Env) (s : Shared) (H : Hp) (vs : List V) (Q : VK) (E : XK), Room k (A.deeper (envOfC x (defScope st) s.heap.objs.size f cdv)) → sp vs H Q E →
      ∃ t, PSs (cxOf (L2.CX P w) P w K mg base N x (defScope st) f cdv A outer s H E) (defBody st) t ∧ t { nx := fun _ H' => Q .non H', rt := Q } (start N vs) H) : GOk P w K mg base (k + 1) x ps sp := by
  obtain ⟨f, fd, F, hm⟩ := F.ex
  exact ⟨f, fd, hm, F.kp, F.bindsN hb, F.ok S len fun cdv A outer s H vs Q E hr h => hbody f cdv A outer s H vs Q E hr h⟩
theorem GOk.mono {j k : Nat} {x : Str} {ps : List Str} {sp : Sp} (G : GOk P w K mg base j x ps sp) (h : j ≤ k) : GOk P w K mg base k x ps sp := by
  obtain ⟨f, fd, a, b, c, d⟩ := G.ex
  exact ⟨f, fd, a, b, c, d.mono h⟩
end
section
variable {X : Cx} {k : Nat} {ps : List Str} {sp : Sp} {E : XK} {x : Str} {p pos : Pos} {e : Expr} {es : List Expr} {t : TA}
theorem pe_g (G : GOk X.prog X.w X.K X.mg X.base k x ps sp) (hr : Room k X.A) (hg : Gl X x) (hx : Passes (L2.CX X.prog X.w) X E)
    (ha : PA X (e :: es) t) (hdb : (x == ("__debug__" : Str)) = false := by decide) (he : starEach (e :: es) X.env = (false, eval e X.env) :: starEach es X.env := by rfl) (hpl : (backTo pos (starEach es X.env)).any (·.1) = false := by rfl) :
    PE X (.Call (.Name x p) (e :: es) [] pos) (tCall sp [] E t) := by
  obtain ⟨f, fd, hm, hk, hb, F⟩ := G.ex
  exact pe_call F hr hg hm hk hb .nil hx ha hdb he hpl
theorem pe_g0 (G : GOk X.prog X.w X.K X.mg X.base k x ps sp) (hr : Room k X.A) (hg : Gl X x) (hx : Passes (L2.CX X.prog X.w) X E)
    (hdb : (x == ("__debug__" : Str)) = false := by decide) : PE X (.Call (.Name x p) [] [] pos) (tCall sp [] E tNil) := by
  obtain ⟨f, fd, hm, hk, hb, F⟩ := G.ex
  exact pe_call0 F hr hg hm hk hb .nil hx hdb
end
/-! ### the draw -/
/-- what is kept but for two objects -/
def Keep (d a : Addr) (H H' : Hp) : Prop := ∀ b o, b ≠ d → b ≠ a → H b = some o → H' b = some o
theorem Keep.refl {d a : Addr} {H : Hp} : Keep d a H H := fun _ _ _ _ h => h
theorem Keep.trans {d a : Addr} {H H1 H2 : Hp} (x : Keep d a H H1) (y : Keep d a H1 H2) : Keep d a H H2 := fun b o h1 h2 e => y b o h1 h2 (x b o h1 h2 e)
theorem Keep.of {d a : Addr} {H H' : Hp} (x : Same H H') : Keep d a H H' := fun b o _ _ e => x b o e
theorem Keep.new {d a p : Addr} {o : HO} {H H' : Hp} (x : Keep d a H H') (n : H p = none) : Keep d a H (upd H' p o) := fun b u h1 h2 e => by
  have hb : b ≠ p := ne_of_none e n
  rw [upd_ne hb]; exact x b u h1 h2 e
abbrev kS (x : Str) : Key := Sum.inr x
def drawD (aw ac : Addr) (r t : Int) : List (Key × V) := [(kS "wide", .ref aw), (kS "cells", .ref ac), (kS "rest", .int r), (kS "turn", .int t)]
/-- the draw at d: its wide numbers at aw, its cells at ac; at most T turns -/
structure Draw (K : PySem.W.Frag) (d aw ac : Addr) (T : Nat) (H : Hp) : Prop where
  ex : ∃ (ws cs : List Int) (r t : Int), H d = some (.dK (drawD aw ac r t)) ∧ H aw = some (.lst (ws.map V.int)) ∧ H ac = some (.lst (cs.map V.int)) ∧
    (∀ z ∈ ws, 0 ≤ z) ∧ ws.length ≤ 63 ∧ cs.length ≤ 63 ∧ (∀ z ∈ cs, 0 ≤ z ∧ z < 2147483629) ∧ 0 ≤ r ∧ 0 ≤ t ∧ t ≤ (T : Int)
  ne : aw ≠ ac
end ND
namespace ND
open PySem PySem.Spec PyProof.Rows L2
/-! ### constants of the module -/
section
variable {X : Cx} {x : Str} {pos : Pos}
theorem pe_cls {C : Addr} (hg : Gl X x) (hm : X.mg x = some (.ref C)) (hd : (x == ("__debug__" : Str)) = false := by decide) : PE X (.Name x pos) (tC (.ref C)) := pe_glob hg hm rfl hd
theorem pe_cst {i : Int} (hg : Gl X x) (hm : ∃ t, X.mg x = some (.int i t)) (hd : (x == ("__debug__" : Str)) = false := by decide) : PE X (.Name x pos) (tC (.int i)) := by
  obtain ⟨t, h⟩ := hm
  exact pe_glob hg h ⟨t, rfl⟩ hd
theorem pe_csts {z : Str} (hg : Gl X x) (hm : ∃ t, X.mg x = some (.str z t)) (hd : (x == ("__debug__" : Str)) = false := by decide) : PE X (.Name x pos) (tC (.str z)) := by
  obtain ⟨t, h⟩ := hm
  exact pe_glob hg h ⟨t, rfl⟩ hd
end
/-! ### xs == [], xs != [] of any list -/
section
variable {X : Cx}
theorem plainL_is {h : Heap} {a : Addr} {its : Array Value} (x : PlainL h a its) : h.IsList a its := by
  obtain ⟨o, n, e, c, _, d⟩ := x
  exact ⟨o, e, c, n, d⟩
theorem op_nilNe (hu : X.A.units < cLine) : OpR X (compareOp .NotEq) (fun x y H Q => ∃ a b xs, x = .ref a ∧ y = .ref b ∧ SqL X.K H a xs ∧ SqL X.K H b [] ∧ Q (.bl (!xs.isEmpty)) H) := by
  intro pins s σ H x y v u Q I rx ry h
  obtain ⟨a, b, xs, rfl, rfl, ha, hb, q⟩ := h
  cases rx; cases ry
  obtain ⟨i1, v1, p1, z1⟩ := I.list ha
  obtain ⟨i2, v2, p2, z2⟩ := I.list hb
  cases v2
  cases xs with
  | nil =>
    cases v1
    exact SeqAt.RcNeAt.lists (e := fun _ => true) (plainL_is p1) (plainL_is p2) rfl hu (fun j h1 _ => absurd h1 (Nat.not_lt_zero _)) _ _ _ _ ⟨.bl _, H, I, rfl, q⟩
  | cons y ys =>
    cases v1
    exact SeqAt.RcNeAt.lists_lengths (plainL_is p1) (plainL_is p2) (by simp) hu _ _ _ _ ⟨.bl _, H, I, rfl, q⟩
theorem op_nilEq (hu : X.A.units < cLine) : OpR X (compareOp .Eq) (fun x y H Q => ∃ a b xs, x = .ref a ∧ y = .ref b ∧ SqL X.K H a xs ∧ SqL X.K H b [] ∧ Q (.bl xs.isEmpty) H) := by
  intro pins s σ H x y v u Q I rx ry h
  obtain ⟨a, b, xs, rfl, rfl, ha, hb, q⟩ := h
  cases rx; cases ry
  obtain ⟨i1, v1, p1, z1⟩ := I.list ha
  obtain ⟨i2, v2, p2, z2⟩ := I.list hb
  cases v2
  cases xs with
  | nil =>
    cases v1
    exact SeqAt.RcAt.lists (e := fun _ => true) (plainL_is p1) (plainL_is p2) rfl hu (fun j h1 _ => absurd h1 (Nat.not_lt_zero _)) _ _ _ _ ⟨.bl _, H, I, rfl, q⟩
  | cons y ys =>
    cases v1
    exact SeqAt.RcAt.lists_lengths (plainL_is p1) (plainL_is p2) (by simp) hu _ _ _ _ ⟨.bl _, H, I, rfl, q⟩
end
end ND
/-! own exceptions whose first step is super's __init__ with a text, whose second one stores one field -/
namespace ND
open PySem PySem.W PySem.Spec PySem.Calls PyProof.Rows PySem.HandSPX
def supA (fld : Str) (p1 p2 : Pos) : Arguments := { posonlyargs := [], args := [{ arg := "self", annotation := none, pos := p1 }, { arg := fld, annotation := none, pos := p2 }], vararg := none, kwonlyargs := [], kw_defaults := [], kwarg := none, defaults := [] }
def supB (fld msg : Str) (q0 q1 q2 q3 q4 q5 q6 q7 q8 q9 : Pos) : List Stmt :=
  [.Expr (.Call (.Attribute (.Call (.Name "super" q0) [] [] q1) "__init__" q2) [.Constant (.str msg) 0 q3] [] q4) q5, .Assign [.Attribute (.Name "self" q6) fld q7] (.Name fld q8) q9]
def supS (fld : Str) : Scope := { kind := .function, names := [(PySem.Str.ofString "self", .local), (fld, .local), (PySem.Str.ofString "__class__", .free), (PySem.Str.ofString "super", .globalImplicit)], isGenerator := false, isCoroutine := false, more := [] }
/-- a name that is none of the scope's other ones -/
structure FldOk (fld : Str) : Prop where
  loc : (supS fld).names.lookup fld = some .local
  su : (supS fld).names.lookup ("super" : Str) = some .globalImplicit
  cl : (supS fld).names.lookup ("__class__" : Str) = some .free
  me : (supS fld).names.lookup ("self" : Str) = some .local
  ne : fld ≠ "self"
  db : (fld == ("__debug__" : Str)) = false
/-- what the written part says of such a class -/
structure SupC (prog : Program) (K : Frag) (C fI : Addr) (fld : Str) : Prop where
  o : L2.OexC K C
  ok : FldOk fld
  noF : findIn K (.ref C) fld = some none
  iC : findIn K (.ref C) "__init__" = some (some (.ref fI))
  tI : typeIn K (.ref fI) = some (.type "function")
  fn : ∃ (oc : Value) (od an : Option Addr) (osl : Array (Option Value)) (qual msg : Str) (doc pm ct : Value) (cda cc : Addr) (ccl cl : Value) (cdd cld : Option Addr) (ccs csl : Array (Option Value)) (vs : Array Value) (file : Str) (tf : Tok) (p1 p2 q0 q1 q2 q3 q4 q5 q6 q7 q8 q9 : Pos),
    K.lookup fI = some ⟨oc, od, .func (ksFn "__init__" qual (supA fld p1 p2) (supB fld msg q0 q1 q2 q3 q4 q5 q6 q7 q8 q9) (supS fld) .none .none doc pm an (.ref cda) ct cc), osl⟩ ∧ codeIn K (.ref cda) qual = true ∧
    K.lookup cda = some ⟨ccl, cdd, .fields vs, ccs⟩ ∧ vs[2]? = some (.str file tf) ∧ ((prog.main.file : Str) == file) = true ∧ K.lookup cc = some ⟨cl, cld, .cell (some (.ref C)), csl⟩ ∧ (q2.endLine == q4.line) = true ∧
    (∀ (s : Shared) (u v : Value), BindsTo s (ksFn "__init__" qual (supA fld p1 p2) (supB fld msg q0 q1 q2 q3 q4 q5 q6 q7 q8 q9) (supS fld) .none .none doc pm an (.ref cda) ct cc) ⟨[u, v], []⟩ [("self", u), (fld, v)]) ∧
    (∀ (s : Shared) (u v : Value), BindsTo s (ksFn "__init__" qual (supA fld p1 p2) (supB fld msg q0 q1 q2 q3 q4 q5 q6 q7 q8 q9) (supS fld) .none .none doc pm an (.ref cda) ct cc) ⟨[u], [(fld, v)]⟩ [("self", u), (fld, v)])
  su : ks_superIn K C C "__init__" = some (some (.builtin "ValueError.__init__"))
  mr : mroIn K C (.ref C) = some true
  sv : mroIn K C (.type "ValueError") = some true
  op : nsIn K cStatics "thirdparty.any" = some none
  ns : nsIn K mainGlobals "super" = some none
  top : (prog.main.scope.names.lookup ("super" : Str)).isSome = false
section
variable {prog : Program} {w : World} {A : Around} {E : Value → Shared → Prop} {h : Heap} {g : Array GenState} {d : Drawn} {t : Nat} {os : OsState}
theorem sup_line (env : Env) (msg : Str) (q0 q1 q2 q3 q4 : Pos) (hl : (q2.endLine == q4.line) = true) :
    eval (.Call (.Attribute (.Call (.Name "super" q0) [] [] q1) "__init__" q2) [.Constant (.str msg) 0 q3] [] q4) env = (do
      let ov ← attributeBase (.Call (.Name "super" q0) [] [] q1) "__init__" env (eval (.Call (.Name "super" q0) [] [] q1) env)
      standAt q2.atName
      let (f, first) ← holding [ov] (getMethod ov "__init__" (L2.plainOf (.Call (.Name "super" q0) [] [] q1) env))
      callWith q4 f first (backTo q4 (starEach [.Constant (.str msg) 0 q3] env)) []) := by
  have key : ∀ ov, methodCall (.Call (.Name "super" q0) [] [] q1) "__init__" q2 q4 env ov 1 (backTo q4 (starEach [.Constant (.str msg) 0 q3] env)) [] = (do
      let (f, first) ← holding [ov] (getMethod ov "__init__" (L2.plainOf (.Call (.Name "super" q0) [] [] q1) env))
      callWith q4 f first (backTo q4 (starEach [.Constant (.str msg) 0 q3] env)) []) := fun ov => L2.mcall_line rfl hl
  show (do
      let ov ← attributeBase (.Call (.Name "super" q0) [] [] q1) "__init__" env (eval (.Call (.Name "super" q0) [] [] q1) env)
      standAt q2.atName
      methodCall (.Call (.Name "super" q0) [] [] q1) "__init__" q2 q4 env ov 1 (backTo q4 (starEach [.Constant (.str msg) 0 q3] env)) []) = _
  simp only [key]
/-- the wrapper is called -/
theorem mw_call {nm q : Str} {C N : Addr} {bs bm : List Value} {hdct : Bool} {sn : List Str} {sub : List Value} {ab : Bool} {col : Option Bool} {dd : Option Addr} {k0 k1 k2 k3 k5 : Option Value} {u e t0 : Addr} {rest : List Value} {Q : Value → Shared → Prop}
    (hC : h.get? C = some (excClassObj nm q C N bs bm hdct sn sub ab col dd k0 k1 k2 k3 k5 "ValueError.__new__")) (he : h.get? e = some (excO C t0)) (hu : h.get? u = some (kxs_mw "ValueError.__init__" e)) (hz : rest.length ≤ sizeLine)
    (hq : ∀ h' t1, (∀ b o, b ≠ e → h.get? b = some o → h'.get? b = some o) → h'.get? e = some (excO C t1) → Q .none ⟨h', g, d, t, os⟩) :
    wpAny (model prog w) A (call (.ref u) rest) Q E ⟨h, g, d, t, os⟩ := by
  have FB := F.excBase_ValueError
  apply wpAny_call
  apply codeAny_of_tree
  show wpAny _ A.in1 (callAny (.ref u) ⟨rest, []⟩) _ _ _
  unfold callAny
  apply wpAny_bind
  refine wpAny_load hu ?_
  have k1 : (Value.type "method-wrapper" == Value.type "method" || Value.type "method-wrapper" == Value.type "builtin_function_or_method" || Value.type "method-wrapper" == Value.type "method-wrapper") = true := by decide
  simp only [kxs_mw, k1, if_true]
  refine KFB.if_so (by decide) (wpAny_bind (check_bound_init FB.toExcCallFacts hC he rfl (wpAny_bind (wpAny_pure (wpAny_pure ⟨plainId_quiet FB.init.plain _, codeAny_builtin FB.initEntry ?_⟩)))))
  exact exc_init_tree (cls := .ref C) (t0 := t0) (dv := none) (c2 := .none) (c3 := .none) (b4 := .bool false) he hz fun h' k e' _ => hq h' _ k e'
end
section
variable {prog : Program} {w : World} {A : Around} {E : Value → Shared → Prop} {R : Result → Shared → Prop} {s : Shared} {K : Frag} {mg mb : Str → Option Value} {C fI : Addr} {fld : Str}
theorem sup_inst {hh : Heap} {x t0 : Addr} (hx : hh.get? x = some (excO C t0)) : InstAt hh x (excO C t0) C none := ⟨hx, rfl, rfl, trivial⟩
theorem sup_cls (T : SupC prog K C fI fld) {hh : Heap} (X : K.In hh) : ∃ nm q N bs bm sn sub ab col dd k0 k1 k2 k3 k5, hh.get? C = some (excClassObj nm q C N bs bm true sn sub ab col dd k0 k1 k2 k3 k5 "ValueError.__new__") ∧ refsVE bm = true ∧
    clsIn K C = some { name := nm, bases := bs, mro := .ref C :: bm, ns := N, qualname := q, hasDict := true, slotNames := sn, subclasses := sub, abstract := ab, collection := col, hasDel := false } := by
  obtain ⟨nm, q, N, bs, bm, sn, sub, ab, col, dd, k0, k1, k2, k3, k5, hC, hbm⟩ := T.o.cls
  refine ⟨nm, q, N, bs, bm, sn, sub, ab, col, dd, k0, k1, k2, k3, k5, X _ _ hC, hbm, ?_⟩
  unfold clsIn
  rw [hC] <;> rfl
/-- what __init__ leaves of a fresh exception -/
structure SupEnd (h h' : Heap) (x C dx t1 : Addr) (fld : Str) (v : Value) : Prop where
  keep : ∀ b o, b ≠ x → h.get? b = some o → h'.get? b = some o
  obj : h'.get? x = some { cls := .ref C, dict := some dx, data := .fields #[.ref t1, .none, .none, .none, .bool false, .none] }
  dbig : h.objs.size ≤ dx
  dne : dx ≠ x
  ns : h'.Ns1 dx (fun y => if y = fld then some v else none)
theorem one_len {v : Value} : [v].length ≤ sizeLine := by
  rw [sizeLine_eq]
  exact (by decide : 1 ≤ 16777216)
theorem self_look {x v : Value} (hne : fld ≠ "self") : List.lookup (PySem.Str.ofString "self") [((PySem.Str.ofString "self" : Str), x), (fld, v)].reverse = some x := by
  have e : ((PySem.Str.ofString "self" : Str) == fld) = false := beq_eq_false_iff_ne.mpr (fun z => hne z.symm)
  show List.lookup (PySem.Str.ofString "self") [(fld, v), ((PySem.Str.ofString "self" : Str), x)] = some x
  rw [List.lookup_cons, e]
  simp [List.lookup]
theorem fld_look {x v : Value} : List.lookup fld [((PySem.Str.ofString "self" : Str), x), (fld, v)].reverse = some v := by
  show List.lookup fld [(fld, v), ((PySem.Str.ofString "self" : Str), x)] = some v
  simp [List.lookup]
theorem sup_init (T : SupC prog K C fI fld) {x t0 : Addr} {v : Value} {args : Args} (ha : args = ⟨[.ref x, v], []⟩ ∨ args = ⟨[.ref x], [(fld, v)]⟩) (X : K.In s.heap) (hlim : s.heap.NoLimit) (hg : s.heap.Ns mainGlobals mg) (hb : s.heap.Ns builtinsNs mb)
    (hbs : ∀ y : Str, y ≠ "__name__" → mb y = bootBuiltins y) (hx : s.heap.get? x = some (excO C t0)) (hnx : K.lookup x = none) (hroom : A.depth < recursionLimit)
    (hq : ∀ h' tk dx t1, SupEnd s.heap h' x C dx t1 fld v → R (.ok (.ret .none)) { s with heap := h', toks := tk }) :
    codeAny (model prog w) A (.call (.ref fI) args) R s := by
  obtain ⟨oc, od, an, osl, qual, msg, doc, pm, ct, cda, cc, ccl, cl, cdd, cld, ccs, csl, vs, file, tf, p1, p2, q0, q1, q2, q3, q4, q5, q6, q7, q8, q9, lk, hcd, lc, hvs, hfile, lcc, hln, b1, b2⟩ := T.fn
  have hbind : BindsTo s (ksFn "__init__" qual (supA fld p1 p2) (supB fld msg q0 q1 q2 q3 q4 q5 q6 q7 q8 q9) (supS fld) .none .none doc pm an (.ref cda) ct cc) args [("self", .ref x), (fld, v)] := by
    rcases ha with rfl | rfl
    · exact b1 s _ _
    · exact b2 s _ _
  obtain ⟨hp, g, dr, tk, os⟩ := s
  refine ks_codeAny_call_defAt (body := supB fld msg q0 q1 q2 q3 q4 q5 q6 q7 q8 q9) hroom (X _ _ lk) rfl hlim (codeRec_of X hcd) rfl hbind (fun y hy => ?_) (fun y hy => ?_) (fun h1 hn k => ?_)
  · simp only [ksFn, fnX, supS, List.mem_cons, List.not_mem_nil, or_false] at hy
    rcases hy with rfl | rfl | rfl | rfl <;> exact fun z => nomatch z
  · simp only [List.mem_cons, List.not_mem_nil, or_false] at hy
    rcases hy with rfl | rfl
    · exact T.ok.me
    · exact T.ok.loc
  · have X1 : K.In h1 := X.keeps k
    have hx1 := k _ _ hx
    obtain ⟨nm, q, N, bs, bm, sn, sub, ab, col, dd, k0, k1, k2, k3, k5, hC1, hbm, hcl⟩ := sup_cls T X1
    refine ks_wpAt_execs_cons (ks_wpAt_Expr_any (ks_wpAt_MethodCall ?_ (sup_line _ _ _ _ _ _ _ hln)))
    refine ks_wpAt_super_base T.ok.su T.ok.cl (by decide) rfl (X1 _ _ lk) rfl rfl rfl (X1 _ _ lc) rfl hvs hfile T.top ?_
    refine ks_loadName_global rfl T.ok.su (loadGlobal_builtin (mg := mg) (mb := mb) (hg.keeps k) (mg_none_of X hg T.ns) (hb.keeps k) ((hbs _ (by decide +kernel)).trans (by decide +kernel)) ⟨rfl, ?_⟩)
    refine wpAny_loadName_free rfl T.ok.cl rfl ⟨_, X1 _ _ lcc, rfl⟩ ?_
    refine wpAny_loadName_local (v := .ref x) rfl T.ok.me hn ?_ ?_
    · exact self_look T.ok.ne
    refine ks_wpAny_isType_cls hC1 rfl ⟨rfl, ?_⟩
    refine ks_wpAny_call_super hC1 rfl hx1 rfl (fun c e => nomatch e) (looks_mroIn X1 T.mr) (fun h2 e2 kk2 => ?_)
    have X2 : K.In h2 := X1.keeps kk2
    have hx2 := kk2 _ _ hx1
    have I2 := sup_inst hx2
    have nxC : x ≠ C := fun e => by
      obtain ⟨nm, q, N, bs, bm, sn, sub, ab, col, dd, k0, k1, k2, k3, k5, hC, _⟩ := T.o.cls
      rw [e, hC] at hnx
      cases hnx
    have hal : alongIn K "__init__" bm = some (some (.builtin "ValueError.__init__")) := by
      have z := T.su
      unfold ks_superIn at z
      rw [hcl] at z
      have e1 : ((Value.ref C :: bm).dropWhile (· != .ref C)).drop 1 = bm := by simp [List.dropWhile]
      have z2 : alongIn K "__init__" (((Value.ref C :: bm).dropWhile (· != .ref C)).drop 1) = some (some (.builtin "ValueError.__init__")) := z
      rw [e1] at z2
      exact z2
    refine kxs_getMethod kxs_ValueError (l₀ := .ref C :: bm) (l := bm) (D := C) (x := x) (C := C) e2 (looks_opaque X2 T.op) (fun A Q E s k q => wpAny_bind ((looks_clsIn X2 hcl) A _ E s k (wpAny_pure q))) (by simp [List.dropWhile]) X2 hal
      (I2.type.andThen (looks_mroIn X2 T.sv)) nxC (by decide) ?_
    refine kxs_callWith (x := x) (i := "ValueError.__init__") rfl (evalArgs_plain (Calls.spliced_cons (wpAny_Constant_str (k := 0) (pos := q3) (Calls.spliced_nil ⟨Heap.get?_push_at rfl rfl, ?_⟩))))
    have hC2 := Heap.get?_push_of_some (kxs_mw "ValueError.__init__" x) (kk2 _ _ hC1)
    refine mw_call hC2 (Heap.get?_push_of_some _ hx2) (Heap.get?_push_at rfl rfl) one_len (fun h3 t1 k3 hx3 => ?_)
    have kk3 : ∀ b o, b ≠ x → h1.get? b = some o → h3.get? b = some o := fun b o nb e => k3 b o nb (Heap.get?_push_of_some _ (kk2 b o e))
    have X3 : K.In h3 := fun b o e => kk3 b o (fun z => by rw [z, hnx] at e; cases e) (X1 b o e)
    have nL : hp.objs.size ≠ x := Nat.ne_of_gt (Heap.lt_size hx)
    have hn3 : h3.Ns hp.objs.size (fun y => List.lookup y [((PySem.Str.ofString "self" : Str), Value.ref x), (fld, v)].reverse) := by
      obtain ⟨o, es, ep, e, r⟩ := hn
      exact ⟨o, es, ep, kk3 _ _ nL e, r⟩
    show _root_.PySem.wpAt _ _ _ (execs _ _) _ _ _
    refine wpAt_of_wpAny (wpAny_execs_cons (plainObj_wpAny_Assign_Attribute ?_))
    refine ldc rfl T.ok.loc hn3 fld_look ?_ T.ok.db
    refine ldc rfl T.ok.me hn3 (self_look T.ok.ne) ?_
    refine set_plain X3 (sup_inst hx3) T.o.sa ?_
    refine exc_osa X3 hx3 hcl (show refsVE (.ref C :: bm) = true from hbm) rfl T.noF (fun h4 tk4 dx k4 dn dne hx4 hn4 => ?_)
    refine wpAny_execs_nil (hq h4 tk4 dx t1 ⟨fun b o nb e => k4 b o nb (kk3 b o nb (k b o e)), hx4, ?_, dne, hn4⟩)
    exact Nat.le_of_lt (Nat.lt_of_lt_of_le (show hp.objs.size < h3.objs.size from hn3.lt) dn)
end
end ND
namespace ND
open PySem PySem.W PySem.Spec PySem.Calls PyProof.Rows PySem.HandSPX
section
variable {prog : Program} {w : World} {A : Around} {E : Value → Shared → Prop} {R : Result → Shared → Prop} {s : Shared} {K : Frag} {mg mb : Str → Option Value} {C fI : Addr} {fld : Str}
variable {h : Heap} {g : Array GenState} {d : Drawn} {t : Nat} {os : OsState} {M : Model}
variable {nm q : Str} {N : Addr} {bs bm bmB : List Value} {hdct : Bool} {sn : List Str} {sub : List Value} {ab : Bool} {col : Option Bool} {dd : Option Addr} {k0 k1 k2 k3 k5 : Option Value} {B newId initId : String}
/-! ### by a keyword -/
theorem new_check_kw (FB : ExcBaseFacts B newId initId bmB) (hT : ∀ X : String, bm.contains (.type X) = bmB.contains (.type X)) {x : Str} {v : Value} {Q : Unit → Shared → Prop}
    (hC : h.get? C = some (excClassObj nm q C N bs bm hdct sn sub ab col dd k0 k1 k2 k3 k5 newId)) (hq : Q () ⟨h, g, d, t, os⟩) : wpAny M A (checkBuiltinCall newId ⟨[.ref C], [(x, v)]⟩) Q E ⟨h, g, d, t, os⟩ := by
  have hcB : (Value.ref C :: bm).contains (.type B) = true := by rw [List.contains_cons, hT, FB.hasB, Bool.or_true]
  have st := FB.noStar
  simp only [checkBuiltinCall, FB.newKind, FB.newSplit, FB.newRow]
  repeat (first
    | refine wpAny_loadPart_at hC ?_
    | (refine wpAny_isSubtype_exc hC ?_; rw [hcB])
    | refine wpAny_staticBase_exc hC ?_
    | refine wpAny_madeBy_exc hC ?_
    | simp only [bne_self_eq_false, Bool.false_eq_true, if_false]
    | wp_step)
  exact hq
theorem new_run_kw (FB : ExcBaseFacts B newId initId bmB) (hT : ∀ X : String, bm.contains (.type X) = bmB.contains (.type X)) {x : Str} {v : Value}
    (hC : h.get? C = some (excClassObj nm q C N bs bm hdct sn sub ab col dd k0 k1 k2 k3 k5 newId))
    (hq : R (.ok (.ret (.ref (h.objs.size + 1)))) ⟨(h.push { cls := .type "tuple", data := .seq #[] }).push (excO C h.objs.size), g, d, t, os⟩) :
    codeAny (model prog w) A (.builtin newId ⟨[.ref C], [(x, v)]⟩) R ⟨h, g, d, t, os⟩ := by
  have e0 := FB.ends
  have hcB : (Value.ref C :: bm).contains (.type B) = true := by rw [List.contains_cons, hT, FB.hasB, Bool.or_true]
  have hcA : (Value.ref C :: bm).contains (.type "AttributeError") = false := by rw [List.contains_cons, hT, FB.noAttr]; rfl
  have hcN : (Value.ref C :: bm).contains (.type "NameError") = false := by rw [List.contains_cons, hT, FB.noName]; rfl
  refine codeAny_builtinAt FB.entry ?_
  unfold Builtin.«BaseException.__new__»
  refine _root_.PySem.wpAt_bind ?_
  show _root_.PySem.wpAt _ _ _ (stack >>= _) _ _ _
  refine _root_.PySem.wpAt_bind (_root_.PySem.wpAt_stack fun p below => _root_.PySem.wpAt_of_wpAny ?_)
  wp_walk
  refine _root_.PySem.wpAt_of_wpAny ?_
  rw [FB.owner]
  repeat (first
    | with_reducible refine wpAny_madeHere_exc FB.canon hC ?_
    | with_reducible refine wpAny_loadPart_at hC ?_
    | (with_reducible refine wpAny_isSubtype_exc hC ?_; first | rw [hcB] | rw [hcA] | rw [hcN])
    | wp_step)
  show R _ _
  rw [Heap.size_push]
  exact hq
theorem type_run_kw (FB : ExcBaseFacts B newId initId bmB) (hT : ∀ X : String, bm.contains (.type X) = bmB.contains (.type X)) {x : Str} {v : Value} {Q : Fin → Shared → Prop}
    (hC : h.get? C = some (excClassObj nm q C N bs bm hdct sn sub ab col dd k0 k1 k2 k3 k5 newId))
    (hi : W.Looks (model prog w) h (typeLookup (.ref C) "__init__") (some (.ref fI))) (hb : ∀ self, W.Looks (model prog w) h (bindSpecial (.ref fI) self) (.ref fI, [self]))
    (hq : codeAny (model prog w) A (.call (.ref fI) ⟨[.ref (h.objs.size + 1)], [(x, v)]⟩)
      (fun r s' => match r with | .ok (.ret z) => z = .none ∧ Q (.done (.ret (.ref (h.objs.size + 1)))) s' | .ok _ => False | .error e => E e s')
      ⟨(h.push (W.kdv_tup [])).push (excO C h.objs.size), g, d, t, os⟩) :
    wpAny (model prog w) A (Builtin.«type.__call__» ⟨[.ref C], [(x, v)]⟩) Q E ⟨h, g, d, t, os⟩ := by
  repeat (first
    | with_reducible refine wpAny_loadPart_at hC ?_
    | with_reducible refine wpAny_madeBy_exc hC ?_
    | wp_step)
  refine codeAny_call_builtin_code (Code.quiet_builtin _ FB.quiet) (new_check_kw FB hT hC ?_)
  refine new_run_kw FB hT hC ?_
  show wpAny _ _ _ _ _ _
  have kp : ∀ b o, h.get? b = some o → ((h.push (W.kdv_tup [])).push (excO C h.objs.size)).get? b = some o := fun b o e => Heap.get?_push_of_some _ (Heap.get?_push_of_some _ e)
  have hC1 := kp _ _ hC
  have hget : ((h.push (W.kdv_tup [])).push (excO C h.objs.size)).get? (h.objs.size + 1) = some (excO C h.objs.size) := by heap_get
  have hcC : (Value.ref C :: bm).contains (.ref C) = true := by simp
  have i1 := hi.keeps kp
  have b1 := (hb (.ref (h.objs.size + 1))).keeps kp
  unfold isInstance
  repeat (first
    | with_reducible refine wpAny_loadPart_at hget ?_
    | (with_reducible refine wpAny_isSubtype_exc hC1 ?_; rw [hcC])
    | wp_step)
  show wpAny _ _ (typeLookup (.ref C) _) _ _ _
  refine i1.at (wpAny_holding (wpAny_bind (b1.at (wpAny_bind (wpAny_call (codeAny_mono hq fun r s' z => ?_))))))
  rcases r with e | (v | _ | _ | _) <;> first | exact z | exact z.elim | skip
  obtain ⟨rfl, z⟩ := z
  first
    | exact wpAny_pure (wpAny_pure z)
    | (wp_walk; exact z)
theorem call_kw (FB : ExcBaseFacts B newId initId bmB) (hT : ∀ X : String, bm.contains (.type X) = bmB.contains (.type X)) {x : Str} {v : Value}
    (hC : h.get? C = some (excClassObj nm q C N bs bm hdct sn sub ab col dd k0 k1 k2 k3 k5 newId))
    (hi : W.Looks (model prog w) h (typeLookup (.ref C) "__init__") (some (.ref fI))) (hb : ∀ self, W.Looks (model prog w) h (bindSpecial (.ref fI) self) (.ref fI, [self]))
    (hq : codeAny (model prog w) (A.under (.builtin "type.__call__" ⟨[.ref C], [(x, v)]⟩)) (.call (.ref fI) ⟨[.ref (h.objs.size + 1)], [(x, v)]⟩) (W.InitBack (h.objs.size + 1) R)
      ⟨(h.push (W.kdv_tup [])).push (excO C h.objs.size), g, d, t, os⟩) :
    codeAny (model prog w) A (.call (.ref C) ⟨[], [(x, v)]⟩) R ⟨h, g, d, t, os⟩ := by
  have f1 := tc_lookup
  have f2 := tc_bind (.ref C)
  have hTy : (⟨h, g, d, t, os⟩ : Shared).TypeIs (.ref C) "type" := ⟨_, hC, rfl⟩
  refine codeAny_of_tree ?_
  show wpAny _ _ (callAny (.ref C) _) _ _ _
  repeat (any_goals (first
    | assumption
    | with_reducible refine wpAny_loadPart_at hC ?_
    | wp_step))
  refine ⟨rfl, ?_⟩
  refine codeAny_call_builtin_at (Code.quiet_builtin _ (by decide +kernel)) entry_typeCall (wpAny_check_type_call_sub hC (type_run_kw FB hT hC hi hb ?_))
  refine codeAny_mono hq fun r s' z => ?_
  rcases r with e | (v | _ | _ | _) <;> exact z
end
end ND
namespace ND
open PySem PySem.W PySem.Spec PySem.Calls PyProof.Rows PySem.HandSPX
/-- a made exception -/
structure SupMade (h h' : Heap) (e C d : Addr) (fld : Str) (v : Value) : Prop where
  keep : ∀ b o, h.get? b = some o → h'.get? b = some o
  new : h.objs.size ≤ e
  obj : ∃ t1 : Addr, h'.get? e = some { cls := .ref C, dict := some d, data := .fields #[.ref t1, .none, .none, .none, .bool false, .none] }
  dbig : h.objs.size ≤ d
  dne : d ≠ e
  ns : h'.Ns1 d (fun y => if y = fld then some v else none)
section
variable {prog : Program} {w : World} {A : Around} {E : Value → Shared → Prop} {R : Result → Shared → Prop} {s : Shared} {K : Frag} {mg mb : Str → Option Value} {C fI : Addr} {fld : Str}
theorem sup_made (T : SupC prog K C fI fld) {v : Value} {args : Args} (ha : args = ⟨[v], []⟩ ∨ args = ⟨[], [(fld, v)]⟩) (X : K.In s.heap) (hlim : s.heap.NoLimit) (hg : s.heap.Ns mainGlobals mg) (hb : s.heap.Ns builtinsNs mb)
    (hbs : ∀ y : Str, y ≠ "__name__" → mb y = bootBuiltins y) (hroom : A.depth + 1 < recursionLimit)
    (hq : ∀ h' tk e d, SupMade s.heap h' e C d fld v → R (.ok (.ret (.ref e))) { s with heap := h', toks := tk }) :
    codeAny (model prog w) A (.call (.ref C) args) R s := by
  obtain ⟨nm, q, N, bs, bm, sn, sub, ab, col, dd, k0, k1, k2, k3, k5, hC, hbm, _⟩ := sup_cls T X
  obtain ⟨hp, g, dr, tk, os⟩ := s
  -- what follows the making of the bare object, whatever the tuple of its arguments
  have rest : ∀ (rs : List Value) (a2 : Args) (A' : Around), (a2 = ⟨[.ref (hp.objs.size + 1), v], []⟩ ∨ a2 = ⟨[.ref (hp.objs.size + 1)], [(fld, v)]⟩) → A'.depth < recursionLimit →
      codeAny (model prog w) A' (.call (.ref fI) a2) (W.InitBack (hp.objs.size + 1) R) ⟨(hp.push (kdv_tup rs)).push (excO C hp.objs.size), g, dr, tk, os⟩ := by
    intro rs a2 A' h2 hA
    have kk : ∀ b o, hp.get? b = some o → ((hp.push (kdv_tup rs)).push (excO C hp.objs.size)).get? b = some o := fun b o e => Heap.get?_push_of_some _ (Heap.get?_push_of_some _ e)
    have hget : ((hp.push (kdv_tup rs)).push (excO C hp.objs.size)).get? (hp.objs.size + 1) = some (excO C hp.objs.size) := by heap_get
    have hnx : K.lookup (hp.objs.size + 1) = none := by
      cases e : K.lookup (hp.objs.size + 1) with
      | none => rfl
      | some o => exact absurd (Nat.lt_of_succ_lt (Heap.lt_size (X _ _ e))) (Nat.lt_irrefl _)
    refine sup_init (s := ⟨(hp.push (kdv_tup rs)).push (excO C hp.objs.size), g, dr, tk, os⟩) T h2 (X.keeps kk) (hlim.keeps kk) (hg.keeps kk) (hb.keeps kk) hbs hget hnx hA fun h' tk' dx t1 M => ?_
    have old : ∀ b o, hp.get? b = some o → h'.get? b = some o := fun b o e => M.keep b o (Nat.ne_of_lt (Nat.lt_succ_of_lt (Heap.lt_size e))) (kk b o e)
    have z : hp.objs.size ≤ dx := by
      have z1 : ((hp.push (kdv_tup rs)).push (excO C hp.objs.size)).objs.size ≤ dx := M.dbig
      rw [Heap.size_push, Heap.size_push] at z1
      omega
    exact ⟨rfl, hq h' tk' (hp.objs.size + 1) dx ⟨old, Nat.le_succ _, ⟨t1, M.obj⟩, z, M.dne, M.ns⟩⟩
  rcases ha with rfl | rfl
  · exact call_own F.excBase_ValueError (fun Y => refsVE_contains Y bm hbm) hC (looks_findIn X T.iC) (fun self => bind_fn X self T.tI) one_len (rest [v] _ _ (.inl rfl) (by show A.depth + 1 < recursionLimit; exact hroom))
  · exact call_kw F.excBase_ValueError (fun Y => refsVE_contains Y bm hbm) hC (looks_findIn X T.iC) (fun self => bind_fn X self T.tI) (rest [] _ _ (.inr rfl) (by show A.depth + 1 < recursionLimit; exact hroom))
end
end ND
namespace ND
open PySem PySem.Spec PyProof.Rows L2
/-- the exception at e, its dict at d, its one field -/
def excH (H : Hp) (e d C : Addr) (fld : Str) (v : V) : Hp := upd (upd H d (exd d [(fld, v)])) e (exo e C (some d))
theorem relO_fld {fld : Str} {v : V} {v' : Value} (r : RelV v v') (f : Str) : RelO (List.lookup f [(fld, v)]) (if f = fld then some v' else none) := by
  by_cases hw : f = fld
  · subst hw
    rw [if_pos rfl, show List.lookup f [(f, v)] = some v by simp [List.lookup]]
    exact r
  · rw [if_neg hw, show List.lookup f [(fld, v)] = none by simp [List.lookup, show (f == fld) = false by simpa using hw]]
    trivial
section
variable {X : Cx} {C fI : Addr} {fld : Str} {pins : List (Addr × Obj)} {σ : L2.St} {H : Hp}
theorem excH_e {e d : Addr} {v : V} : excH H e d C fld v e = some (exo e C (some d)) := upd_same
theorem excH_d {e d : Addr} {v : V} (n : d ≠ e) : excH H e d C fld v d = some (exd d [(fld, v)]) := by
  unfold excH
  rw [upd_ne n, upd_same]
theorem excH_ne {e d b : Addr} {v : V} (h1 : b ≠ e) (h2 : b ≠ d) : excH H e d C fld v b = H b := by
  unfold excH
  rw [upd_ne h1, upd_ne h2]
theorem excH_same {e d : Addr} {v : V} (ne : H e = none) (nd : H d = none) : Same H (excH H e d C fld v) := fun b o q => by
  rw [excH_ne (ne_of_none q ne) (ne_of_none q nd)]
  exact q
/-- what is held behind the making, the exception as a value -/
theorem sup_val {hp h' : Heap} {g : Array GenState} {dr : Drawn} {tk tk' : Nat} {os : OsState} {e d : Addr} {v : V} {v' : Value} (I : Inv X pins σ H ⟨hp, g, dr, tk, os⟩) (rv : RelV v v') (M : SupMade hp h' e C d fld v') :
    Inv X pins σ (excH H e d C fld v) ⟨h', g, dr, tk', os⟩ ∧ H e = none ∧ H d = none ∧ d ≠ e := by
  have ne : H e = none := I.hok.fresh M.new
  have nd : H d = none := I.hok.fresh M.dbig
  obtain ⟨t1, ho⟩ := M.obj
  have sm := excH_same (C := C) (fld := fld) (v := v) ne nd
  have off : ∀ b o, hp.get? b = some o → b ≠ e ∧ b ≠ d := fun b o q => ⟨Nat.ne_of_lt (Nat.lt_of_lt_of_le (Heap.lt_size q) M.new), Nat.ne_of_lt (Nat.lt_of_lt_of_le (Heap.lt_size q) M.dbig)⟩
  have un : Un X.fs [] H (excH H e d C fld v) hp h' := {
    keep := fun b o q _ _ _ => M.keep b o q
    slot := fun b o q _ _ _ => ⟨o.slots, M.keep b o q⟩
    free := fun b o q n _ => by rw [excH_ne (off b o q).1 (off b o q).2]; exact n
    there := fun b o q _ => ⟨o, M.keep b o q⟩
    tups := fun b xs q => sm b _ q
    frzs := fun b o u q => sm b _ q
    tbls := fun b ps q => ⟨#[], by rw [sm b _ q]; simp⟩ }
  have hok : HOk X.prog X.w (excH H e d C fld v) h' := fun b u q => by
    by_cases hb : b = e
    · subst hb
      rw [excH_e] at q
      cases q
      exact exo_ok ho
    · by_cases hd : b = d
      · subst hd
        rw [excH_d hb] at q
        cases q
        exact exd_ok M.ns fun f => relO_fld rv f
      · rw [excH_ne hb hd] at q
        exact (I.hok b u q).stay (fun c o _ z => M.keep c o z) (fun c z => sm c _ z) (fun c xs z => sm c _ z)
  exact ⟨I.un (h' := h') (t' := tk') un hok, ne, nd, M.dne⟩
/-- X(e), the exception as a value -/
def tSup (C : Addr) (fld : Str) (ta : TA) : TE := fun σ H Q => ta σ H fun vs H1 => ∃ v, vs = [v] ∧ ∀ e d, H1 e = none → H1 d = none → d ≠ e → Q (.ref e) (excH H1 e d C fld v)
theorem sup_run {k : Nat} {s : Shared} {args : List Value} {kw : List (Str × Value)} {v : V} {v' : Value} {Q : VK} (T : SupC X.prog X.K C fI fld) (hr : Room k X.A) (I : Inv X pins σ H s) (rv : RelV v v') (ha : (⟨args, kw⟩ : Args) = ⟨[v'], []⟩ ∨ (⟨args, kw⟩ : Args) = ⟨[], [(fld, v')]⟩)
    (q : ∀ e d, H e = none → H d = none → d ≠ e → Q (.ref e) (excH H e d C fld v)) : wpAny (model X.prog X.w) X.A (call (.ref C) args kw) (EP X pins σ Q) X.xe s := by
  obtain ⟨mb, hb, hbs⟩ := I.ok.mod.blt
  have hn := I.nolimit
  have kin := I.kIn
  have gl : s.heap.Ns mainGlobals X.mg := I.ok.mod.glob.keeps I.bk
  have bl := hb.keeps I.bk
  obtain ⟨hp, g, dr, tk, os⟩ := s
  refine wpAny_call (sup_made T ha kin hn gl bl hbs (by have := hr.dp; omega) fun h' tk' e d M => ?_)
  obtain ⟨J, ne, nd, dn⟩ := sup_val (tk' := tk') I rv M
  exact ⟨.ref e, _, J, rfl, q e d ne nd dn⟩
theorem pe_sup {k : Nat} {x : Str} {a : Expr} {ta : TA} {p pos : Pos} (T : SupC X.prog X.K C fI fld) (gC : X.mg x = some (.ref C)) (hr : Room k X.A) (hg : Gl X x) (ha : PA X [a] ta)
    (hdb : (x == ("__debug__" : Str)) = false := by decide) (he : starEach (a :: []) X.env = (false, eval a X.env) :: starEach [] X.env := by rfl) (hpl : (backTo pos (starEach [] X.env)).any (·.1) = false := by rfl) :
    PE X (.Call (.Name x p) [a] [] pos) (tSup C fld ta) := by
  refine ⟨fun pins s σ H Q I h => ?_⟩
  refine wpAny_Call_Name_kw (ld_glob I hg gC ?_ hdb)
  refine PySem.W.callWith_K (h₀ := X.base) I.ok.mod.kin T.o.kC (thn (ha.run pos pins s σ H _ I h) fun us s1 hh => ?_) he hpl
  obtain ⟨vs, H1, I1, r1, v, ev, q1⟩ := hh
  subst ev
  cases r1 with
  | cons rv rn =>
    cases rn
    exact ⟨I1.kIn, sup_run T hr I1 rv (.inl rfl) q1⟩
theorem pe_supK {k : Nat} {x : Str} {kws : List Keyword} {tk : TA} {p pos : Pos} (T : SupC X.prog X.K C fI fld) (gC : X.mg x = some (.ref C)) (hr : Room k X.A) (hg : Gl X x) (hkw : PK X kws tk)
    (hall : (backToKw pos (keywordEach kws X.env)).all (·.1.isSome) = true := by rfl) (hks : (backToKw pos (keywordEach kws X.env)).filterMap (·.1) = [fld] := by rfl) (hdb : (x == ("__debug__" : Str)) = false := by decide)
    (hpl : ((backTo pos (starEach [] X.env)).any (·.1) || (backToKw pos (keywordEach kws X.env)).any (·.1.isNone)) = false := by rfl) :
    PE X (.Call (.Name x p) [] kws pos) (tSup C fld tk) := by
  refine ⟨fun pins s σ H Q I h => ?_⟩
  refine wpAny_Call_Name_kw (ld_glob I hg gC ?_ hdb)
  refine PySem.W.callWith_KW0 (h₀ := X.base) I.ok.mod.kin T.o.kC hall ?_ hpl
  refine thn (hkw.run pos pins s σ H _ I h) fun ws s2 hh => ?_
  obtain ⟨vs, H2, I2, rz, v, ev, q2⟩ := hh
  subst ev
  cases rz with
  | cons rv rn =>
    cases rn
    refine ⟨I2.kIn, ?_⟩
    rw [hks]
    exact sup_run T hr I2 rv (.inr rfl) q2
end
end ND
namespace ND
open PySem PySem.Spec PyProof.Rows L2
/-- an exception object of the class at C, held as a value: without a dict, or with one at d -/
inductive IsX (H : Hp) (a C : Addr) : Prop
  | bare (h : H a = some (ExO (.ref C) a))
  | full {d : Addr} {fs : List (Str × V)} (h : H a = some (exo a C (some d))) (hd : H d = some (exd d fs))
/-- what of a class isinstance, and the reading of a field, ask -/
structure ExcK (K : PySem.W.Frag) (C : Addr) : Prop where
  cl : (PySem.W.clsIn K C).isSome = true
  ga : PySem.W.findIn K (.ref C) "__getattribute__" = some (some (.builtin "BaseException.__getattribute__"))
  gg : PySem.W.findIn K (.ref C) "__getattr__" = some none
  sb : PySem.W.subIn K (.ref C) (.type "BaseException") = some true
  hd : PySem.W.hasDictIn K C = true
  ha : PySem.W.findIn K (.ref C) "__class__" = some (some (.builtin "object.__class__"))
  hn : PySem.W.specialIn K (.builtin "object.__class__") "__get__" = some (some (.builtin "getset_descriptor.__get__"))
  ht : PySem.W.takesIn K (.builtin "object.__class__") = some true
  hm : PySem.W.mroIn K C (.type "object") = some true
section
variable {X : Cx} {pins : List (Addr × Obj)} {σ : L2.St} {H : Hp} {s : Shared}
theorem isX_inst {a C : Addr} (I : Inv X pins σ H s) (h : IsX H a C) : ∃ ox od, PySem.W.InstAt s.heap a ox C od := by
  cases h with
  | bare h =>
    obtain ⟨⟨oe, vs, hg, hz, hd, _⟩, _⟩ := (show ObjOk X.prog X.w H s.heap a (ExO (.ref C) a) from I.hok a _ h)
    obtain ⟨oc, od, oda, osl⟩ := oe
    obtain ⟨h1, h2⟩ := hz
    dsimp only at h1 h2 hd
    subst h1 h2 hd
    exact ⟨_, none, hg, rfl, rfl, trivial⟩
  | full h hd =>
    obtain ⟨t1, hg⟩ := exo_at I.hok h
    obtain ⟨mA, hns, _⟩ := exd_at I.hok hd
    obtain ⟨od, ho, _⟩ := lookIn_ns hns
    exact ⟨_, some od, hg, rfl, rfl, ho⟩
/-- isinstance(e, c) -/
def rIsX (K : PySem.W.Frag) : List V → Hp → VK → Prop := fun xs H Q => ∃ (a C : Addr) (c : V) (u : Value) (b : Bool), xs = [.ref a, c] ∧ IsX H a C ∧ ExcK K C ∧ ClsV c u ∧ PySem.W.kitOne K (.ref C) u = some b ∧ Q (.bl b) H
theorem call_isx : CallR X (.builtin "isinstance") (rIsX X.K) := by
  intro pins s σ H xs us Q I r h
  obtain ⟨a, C, c, u, b, rfl, hx, T, k, e, q⟩ := h
  obtain ⟨u1, u2, rfl, r1, r2⟩ := vals2 r
  cases r1
  have e2 := k.eq r2
  subst e2
  obtain ⟨ox, od, J⟩ := isX_inst I hx
  exact PySem.W.kia_one (PySem.W.kitx_exc T.cl T.ga T.gg T.sb T.ha T.hn T.ht T.hm) I.kIn J e (fun z => nomatch z) fun tk => ⟨.bl b, H, I.tok tk, rfl, q⟩
/-- e.f, an exception's field -/
def tXf (K : PySem.W.Frag) (f : Str) (te : TE) : TE := fun σ H Q => te σ H fun x H1 => ∃ (a C d : Addr) (fs : List (Str × V)) (v : V), x = .ref a ∧ H1 a = some (exo a C (some d)) ∧ H1 d = some (exd d fs) ∧ ExcK K C ∧ PySem.W.findIn K (.ref C) f = some none ∧ fs.lookup f = some v ∧ Q v H1
theorem pe_xf {e : Expr} {te : TE} {f : Str} {pos : Pos} (he : PE X e te) (hb : attributeBase e f X.env (eval e X.env) = eval e X.env := by rfl) : PE X (.Attribute e f pos) (tXf X.K f te) := by
  refine ⟨fun pins s σ H Q I h => ?_⟩
  refine attr_of hb (thn (he.run pins s σ H _ I h) fun u s1 hh => ?_)
  obtain ⟨x, H1, I1, rx, a, C, d, fs, v, ex, ha, hd, T, hno, hl, q⟩ := hh
  subst ex
  obtain rfl : u = Value.ref a := rx
  obtain ⟨t1, hg⟩ := exo_at I1.hok ha
  obtain ⟨mA, hns, hr⟩ := exd_at I1.hok hd
  obtain ⟨od, ho, hk⟩ := lookIn_ns hns
  obtain ⟨u, hu, ru⟩ := RelO.some_of (v := v) (o := mA f) (by rw [← hl]; exact hr f)
  have J : PySem.W.InstAt s1.heap a _ C (some od) := ⟨hg, rfl, rfl, ho⟩
  exact HandSPX.exc_get I1.kIn J T.ga T.gg T.sb (PySem.W.findObj_own T.hd hno rfl (by rw [hk, hu])) (handed_of ru) ⟨v, H1, I1.tok _, ru, q⟩
end
end ND
namespace ND
open PySem PySem.Spec PyProof.Rows L2
/-! ### repr of data, and of a dict of flat data -/
def flatD : V → Option PyData
  | .non => some .none
  | .bl b => some (.bool b)
  | .int i => some (.int i)
  | .str x => some (.str x)
  | _ => none
def keyD : Key → PyData
  | .inl i => .int i
  | .inr x => .str x
inductive FlatKv : List (Key × V) → List (PyData × PyData) → Prop
  | nil : FlatKv [] []
  | cons {k : Key} {v : V} {d : PyData} {kvs : List (Key × V)} {ds : List (PyData × PyData)} : flatD v = some d → FlatKv kvs ds → FlatKv ((k, v) :: kvs) ((keyD k, d) :: ds)
inductive Rp (K : PySem.W.Frag) (H : Hp) : V → PyData → Prop
  | dat {v : V} {d : PyData} (h : Dp K H v d) (hl : d.hasDict = false) : Rp K H v d
  | dic {a : Addr} {kvs : List (Key × V)} {ds : List (PyData × PyData)} (h : H a = some (.dK kvs)) (hf : FlatKv kvs ds) : Rp K H (.ref a) (.dict ds)
theorem flat_reads {h : Heap} {v : V} {d : PyData} {u : Value} (e : flatD v = some d) (r : RelV v u) : Reads h u d [] := by
  cases v with
  | non => cases e; cases r; exact .none
  | bl b => cases e; cases r; exact .bool b
  | int i => cases e; obtain ⟨t, rfl⟩ := r; exact .int i t
  | str x => cases e; obtain ⟨t, rfl⟩ := r; exact .str x t
  | byt b => cases e
  | flt b => cases e
  | ref a => cases e
  | ty n => cases e
theorem kv_reads {P : Program} {w : World} {h : Heap} : ∀ {es : List DictEntry} {vs : List (Key × Value)} {kvs : List (Key × V)} {ds : List (PyData × PyData)}, Pairs (mixKind P w) es vs → KV kvs vs → FlatKv kvs ds →
    ReadsAll h (es.map (·.key)) (ds.map (·.1)) [] ∧ ReadsAll h (es.map (·.val)) (ds.map (·.2)) []
  | _, _, _, _, .nil, kv, f => by
    cases kv
    cases f
    exact ⟨.nil, .nil⟩
  | _, _, _, _, .cons hk hv t, kv, f => by
    cases kv with
    | cons r rs =>
      cases f with
      | cons e fs =>
        obtain ⟨a1, a2⟩ := kv_reads (h := h) t rs fs
        obtain ⟨r1, r2⟩ := r
        constructor
        · refine .cons (as := []) (bs := []) ?_ a1
          dsimp only at r1 ⊢
          subst r1
          rcases keyIs_shape hk with ⟨i, tt, e1, e2⟩ | ⟨x, tt, e1, e2⟩
          · rw [e1, e2]; exact .int i tt
          · rw [e1, e2]; exact .str x tt
        · refine .cons (as := []) (bs := []) ?_ a2
          dsimp only
          rw [hv]
          exact flat_reads e r2
section
variable {X : Cx}
def rRepr (K : PySem.W.Frag) : List V → Hp → VK → Prop := fun xs H Q => ∃ x d, xs = [x] ∧ Rp K H x d ∧ d.showable = true ∧ d.depth ≤ 64 ∧ d.shown.length ≤ sizeLine ∧ Q (.str d.shown) H
theorem call_repr {K : PySem.W.Frag} (hK : X.K = K) (hg : X.A.guards = some []) (hu : X.A.units + 80 < cLine) : CallR X (.builtin "repr") (rRepr K) := by
  subst hK
  intro pins s σ H xs us Q I r h
  obtain ⟨x, d, rfl, hr, hs, hd, hz, q⟩ := h
  obtain ⟨u, rfl, ru⟩ := vals1 r
  have fin : ∀ h' tk uu, (∀ b o, s.heap.get? b = some o → h'.get? b = some o) → EP X pins σ Q (.str d.shown uu) { s with heap := h', toks := tk } := fun h' tk uu k => ⟨.str d.shown, H, I.kept (t' := tk) k, ⟨uu, rfl⟩, q⟩
  have key : ∀ as, Reads s.heap u d as → (d.hasDict = true → sysModules ∉ as) → wpAny (model X.prog X.w) X.A (call (.builtin "repr") [u]) (EP X pins σ Q) X.xe s := by
    intro as rd hsm
    cases u with
    | ref a => exact repr_of_reads' rd hs hsm hg (by omega) (fun _ _ e => e) (fun h' uu tk k => fin h' tk uu k) hz
    | none => cases rd; exact PySem.P.repr_of_none (fin _ _ _ fun _ _ e => e)
    | bool b => cases rd; exact PySem.P.repr_of_bool (fin _ _ _ fun _ _ e => e)
    | int i t => cases rd; exact PySem.P.repr_of_int (by simpa [PyData.showable] using hs) (fin _ _ _ fun _ _ e => e)
    | str y t => cases rd; exact PySem.P.repr_of_str (fin _ _ _ fun _ _ e => e) hz
    | _ => cases rd
  cases hr with
  | dat h0 hl =>
    obtain ⟨as, rd⟩ := Dp.reads I d x u h0 ru
    exact key as rd (fun z => by rw [hl] at z; cases z)
  | dic h0 hf =>
    cases ru
    obtain ⟨_, hns, vs, kv, o, es, ep, ho, hx, hdt, _, hp, _⟩ := (show ObjOk X.prog X.w H s.heap _ (.dK _) from I.hok _ _ h0)
    obtain ⟨a1, a2⟩ := kv_reads (h := s.heap) hp kv hf
    refine key _ (.dict ho hx.1 hdt a1 a2) (fun _ z => ?_)
    simp only [List.append_nil, List.mem_cons, List.not_mem_nil, or_false] at z
    rw [← z] at hns
    simp at hns
end
end ND
/-! promises of defs that are called where no repr runs (so that they may ask for one) -/
namespace ND
open PySem PySem.Spec PyProof.Rows L2
structure FnG (P : Program) (w : World) (K : PySem.W.Frag) (mg : Str → Option Value) (base : Heap) (k : Nat) (f : Addr) (fd : FuncData) (ps : List Str) (sp : Sp) : Prop where
  len : ∀ vs H Q E, sp vs H Q E → vs.length = ps.length
  run : ∀ (A : Around) (outer : List Env) (s : Shared) (H : Hp) (args : Args) (us : List Value) (vs : List V) (Q : VK) (E : XK), A.guards = some [] → Room k A → Env0 P w K mg base A outer s H → BindsTo s fd args (ps.zip us) → Vals vs us → sp vs H Q E →
    codeAny (model P w) A (.call (.ref f) args) (CR (L2.CX P w) outer P w H s Q E) s
structure GOkG (P : Program) (w : World) (K : PySem.W.Frag) (mg : Str → Option Value) (base : Heap) (k : Nat) (x : Str) (ps : List Str) (sp : Sp) : Prop where
  ex : ∃ f fd, mg x = some (.ref f) ∧ PySem.W.keepIn K (.ref f) = true ∧ Binds K fd ps [] ∧ FnG P w K mg base k f fd ps sp
section
variable {P : Program} {w : World} {K : PySem.W.Frag} {mg : Str → Option Value} {base : Heap}
theorem GOk.toG {k : Nat} {x : Str} {ps : List Str} {sp : Sp} (G : GOk P w K mg base k x ps sp) : GOkG P w K mg base k x ps sp := by
  obtain ⟨f, fd, a, b, c, d⟩ := G.ex
  exact ⟨f, fd, a, b, c, ⟨d.len, fun A outer s H args us vs Q E _ hr e hb r h => d.run A outer s H args us vs Q E hr e hb r h⟩⟩
theorem FunD.okG {x qual : Str} {st : Stmt} {f : Addr} {fd : FuncData} {N ps : List Str} {k : Nat} {sp : Sp} (F : FnP K x qual st f fd) (S : FnScope N ps (defScope st)) (len : ∀ vs H Q E, sp vs H Q E → vs.length = ps.length)
    (hbody : ∀ (cdv : Value) (A : Around) (outer : List Env) (s : Shared) (H : Hp) (vs : List V) (Q : VK) (E : XK), A.guards = some [] → Room k (A.deeper (envOfC qual (defScope st) s.heap.objs.size f cdv)) → sp vs H Q E →
      ∃ t, PSs (cxOf (L2.CX P w) P w K mg base N qual (defScope st) f cdv A outer s H E) (defBody st) t ∧ t { nx := fun _ H' => Q .non H', rt := Q } (start N vs) H) : FnG P w K mg base (k + 1) f fd ps sp := by
  obtain ⟨oc, od, dV, kV, doc, pm, an, cdv, ct, osl, rfl, lk, hcd, _, _⟩ := F.ex
  constructor
  · exact len
  intro A outer s H args us vs Q E hgd hr e0 hb r hsp
  have KX : K.In s.heap := e0.mod.kin.keeps fun b o e => (e0.bs b o e).1
  have lim : s.heap.NoLimit := e0.mod.nolimit.keeps fun b o e => (e0.bs b o e).1
  obtain ⟨t, ht, hq⟩ := hbody cdv A outer s H vs Q E hgd (hr.deeper _) hsp
  refine codeAny_call_function hr.depth (KX _ _ lk) rfl S.co S.gen rfl (PySem.W.codeRec_of KX hcd) (hb _ _ _ _ (wpAny_newFunctionEnv_cells S.kind (fun y hy => ?_) fun env he s1 x => ?_))
  · obtain ⟨n, v⟩ := y
    rcases S.par n (List.of_mem_zip hy).1 with q | q
    · exact .inl q
    · exact .inr ⟨q, PySem.W.cellsFrom_some _ _ _ (.inl q)⟩
  · subst he
    refine ⟨lim.keeps x.toInCall.keep, codeAny_func ?_⟩
    have I : Inv (cxOf (L2.CX P w) P w K mg base N qual (defScope st) f cdv A outer s H E) [] (start N vs) H s1 := inv_start S hr.hd e0 (len _ _ _ _ hsp) r x
    refine wpAny_mono (ht.run [] s1 (start N vs) H _ I hq) (fun fl s' hs => ?_) fun e s' hs => hs
    match fl, hs with
    | .ret u, ⟨v, σ', H', J, rv, q⟩ => exact ⟨v, H', J.os, J.bare, J.base, J.hok, rv, q⟩
    | .next, ⟨σ', H', J, q⟩ => exact ⟨.non, H', J.os, J.bare, J.base, J.hok, rfl, q⟩
    | .brk, ⟨_, _, _, q⟩ => exact q.elim
    | .cont, ⟨_, _, _, q⟩ => exact q.elim
theorem GFun.okG {x : Str} {st : Stmt} {N ps : List Str} {k : Nat} {sp : Sp} (F : GFun K mg x st) (S : FnScope N ps (defScope st))
    (hb : ∀ (kV doc pm : Value) (an : Option Addr) (cdv ct : Value) (us : List Value), us.length = ps.length → bindArgs (PySem.W.fnOf x x (defArgs st) (defBody st) (defScope st) .none kV doc pm an cdv ct) ⟨us, []⟩ = pure (ps.zip us))
    (len : ∀ vs H Q E, sp vs H Q E → vs.length = ps.length)
    (hbody : ∀ (f : Addr) (cdv : Value) (A : Around) (outer : List Env) (s : Shared) (H : Hp) (vs : List V) (Q : VK) (E : XK), A.guards = some [] → Room k (A.deeper (envOfC x (defScope st) s.heap.objs.size f cdv)) → sp vs H Q E →
      ∃ t, PSs (cxOf (L2.CX P w) P w K mg base N x (defScope st) f cdv A outer s H E) (defBody st) t ∧ t { nx := fun _ H' => Q .non H', rt := Q } (start N vs) H) : GOkG P w K mg base (k + 1) x ps sp := by
  obtain ⟨f, fd, F, hm⟩ := F.ex
  exact ⟨f, fd, hm, F.kp, F.bindsN hb, FunD.okG F S len fun cdv A outer s H vs Q E hg hr h => hbody f cdv A outer s H vs Q E hg hr h⟩
end
section
variable {X : Cx} {k : Nat} {ps : List Str} {sp : Sp} {E : XK} {x : Str} {p pos : Pos} {e : Expr} {es : List Expr} {t : TA}
theorem pe_gg (G : GOkG X.prog X.w X.K X.mg X.base k x ps sp) (hgd : X.A.guards = some []) (hr : Room k X.A) (hg : Gl X x) (hx : Passes (L2.CX X.prog X.w) X E)
    (ha : PA X (e :: es) t) (hdb : (x == ("__debug__" : Str)) = false := by decide) (he : starEach (e :: es) X.env = (false, eval e X.env) :: starEach es X.env := by rfl) (hpl : (backTo pos (starEach es X.env)).any (·.1) = false := by rfl) :
    PE X (.Call (.Name x p) (e :: es) [] pos) (tCall sp [] E t) := by
  obtain ⟨f, fd, hm, hk, hb, F⟩ := G.ex
  refine ⟨fun pins s σ H Q I h => wpAny_Call_Name_kw (ld_glob I hg hm ?_ hdb)⟩
  refine PySem.W.callWith_K (h₀ := X.base) I.ok.mod.kin hk (thn (ha.run pos pins s σ H _ I h) fun us s1 hh => ?_) he hpl
  obtain ⟨vs, H1, I1, r, q⟩ := hh
  have q' : sp vs H1 Q E := by
    have z : sp (vs ++ []) H1 Q E := q
    rwa [List.append_nil] at z
  refine ⟨I1.kIn, ?_⟩
  have hl : (us ++ []).length = ps.length := by rw [List.append_nil, ← r.length]; exact F.len _ _ _ _ q'
  have bd : BindsTo s1 fd ⟨us, []⟩ (ps.zip us) := by
    have z := hb s1 us I1.kIn hl
    rwa [List.append_nil] at z
  refine wpAny_call (codeAny_mono (F.run X.A X.stack s1 H1 ⟨us, []⟩ us vs Q E hgd hr I1.env0 bd r q') fun r s' hq => ?_)
  match r, hq with
  | .error e, hq => exact hx pins σ H1 s1 e s' I1 hq
  | .ok (.ret u), hq => exact I1.after hq
  | .ok .next, hq => exact hq.elim
  | .ok .brk, hq => exact hq.elim
  | .ok .cont, hq => exact hq.elim
end
end ND
/-! the end of a law's proof: its promise, over the heap behind the top -/
namespace ND
open PySem PySem.Spec PyProof.Rows L2
theorem law_G {P : Program} {w : World} {K : PySem.W.Frag} {mg mb : Str → Option Value} {k : Nat} {fa a : Addr} {fd : FuncData} {x : Str} {sp : Sp} {s1 : Shared} {vs : List Value} {ns : List Int}
    (KX : K.In s1.heap) (hns : s1.heap.Ns mainGlobals mg) (hb : s1.heap.Ns builtinsNs mb) (hbb : ∀ y : Str, y ≠ "__name__" → mb y = bootBuiltins y) (hlim : s1.heap.NoLimit) (hg : s1.gens = #[])
    (ha : s1.heap.get? a = some { cls := .type "list", data := .seq vs.toArray }) (hi : IntsAre vs ns) (hl : ns.length ≤ sizeLine) (hr : Room k callerA)
    (F : ∀ base : Heap, K.In base → base.Ns mainGlobals mg → FnG P w K mg base k fa fd [x] sp) (hbind : ∀ (s : Shared) (u : Value), BindsTo s fd ⟨[u], []⟩ [(x, u)])
    (hsp : ∀ H : Hp, SqL K H a (ns.map V.int) → sp [.ref a] H (fun v _ => v = .bl true) fun _ _ _ => False) :
    codeAny (model P w) callerA (.call (.ref fa) ⟨[.ref a], []⟩) (fun r s' => r = .ok (.ret (.bool true)) ∧ OldK s1.heap s'.heap ∧ s'.os = s1.os ∧ AllBare s'.gens) s1 := by
  have rv := vals_ints hi
  obtain ⟨Hs, hHs⟩ : ∃ Hs : Hp, Hs = fun b => if b = a ∧ K.lookup a = none then some (.frz { cls := .type "list", data := .seq vs.toArray } (.lst (ns.map V.int))) else none := ⟨_, rfl⟩
  have off : ∀ b, Hs b = none ∨ (b = a ∧ K.lookup a = none ∧ Hs b = some (.frz { cls := .type "list", data := .seq vs.toArray } (.lst (ns.map V.int)))) := fun b => by
    rw [hHs]
    by_cases c : b = a ∧ K.lookup a = none
    · exact .inr ⟨c.1, c.2, if_pos c⟩
    · exact .inl (if_neg c)
  have hok : HOk P w Hs s1.heap := fun b u q => by
    rcases off b with z | ⟨e, _, z⟩
    · rw [z] at q; cases q
    · rw [z] at q
      cases q
      subst e
      exact ⟨ha, by rw [List.length_map]; exact hl, vs, _, rv, ha⟩
  have sq : SqL K Hs a (ns.map V.int) := by
    cases hk : K.lookup a with
    | none => exact .inl (.inr ⟨_, by rw [hHs]; exact if_pos ⟨rfl, hk⟩⟩)
    | some o =>
      have e := KX a o hk
      rw [ha] at e
      cases e
      exact .inr ⟨_, vs.toArray, _, hk, rfl, rfl, rfl, by rw [List.size_toArray, hi.length]; exact hl, by simpa using rv⟩
  have inK : K.In (hidT s1.heap Hs) := fun b o e => hidT_get (KX b o e) (by
    rcases off b with z | ⟨eb, z, _⟩
    · exact z
    · rw [eb, z] at e; cases e)
  have nsB : ∀ {b : Addr} {m : Str → Option Value}, s1.heap.Ns b m → (hidT s1.heap Hs).Ns b m := fun {b m} n => by
    obtain ⟨o, es, ep, e, d, r⟩ := n
    refine ⟨o, es, ep, hidT_get e ?_, d, r⟩
    rcases off b with z | ⟨eb, _, _⟩
    · exact z
    · rw [eb, ha] at e
      cases e
      have d' : Data.seq vs.toArray _ = Data.dict es ep := d
      cases d'
  have md : Mod K mg (hidT s1.heap Hs) := by
    obtain ⟨mc, h1, h2⟩ := hlim
    exact ⟨inK, nsB hns, ⟨mb, nsB hb, hbb⟩, mc, nsB h1, h2⟩
  have e0 : Env0 P w K mg (hidT s1.heap Hs) callerA [] s1 Hs := {
    frames := rfl
    mod := md
    bs := fun b o e => of_hidT e
    bsz := Nat.le_of_eq (hidT_size _ _)
    funs := trivial
    frf := fun b q => nomatch (show b ∈ ([] : List Addr) from q)
    hok := hok
    bare := .of_eq hg }
  refine codeAny_mono ((F _ inK (nsB hns)).run callerA [] s1 Hs ⟨[.ref a], []⟩ [.ref a] [.ref a] _ _ rfl hr e0 (hbind s1 (.ref a)) (.cons rfl .nil) (hsp Hs sq)) fun r s' h => ?_
  match r, h with
  | .error e, h =>
    obtain ⟨_, _, _, _, _, _, _, _, _, _, _, _, z⟩ := h
    exact z.elim
  | .ok .next, h => exact h.elim
  | .ok .brk, h => exact h.elim
  | .ok .cont, h => exact h.elim
  | .ok (.ret u), ⟨v, H', os, bare, un, hok', r', q⟩ =>
    have q' : v = .bl true := q
    subst q'
    obtain rfl : u = Value.bool true := r'
    refine ⟨rfl, OldK.of_keep fun b o e => ?_, os, bare⟩
    rcases off b with z | ⟨eb, _, z⟩
    · exact un.keep b o e z (fun y => nomatch (show b ∈ ([] : List Addr) from y)) (fun y => nomatch y)
    · have z2 := un.frzs b _ _ z
      obtain ⟨e1, _⟩ := hok b _ z
      obtain ⟨e2, _⟩ := hok' b _ z2
      rw [e] at e1
      cases e1
      exact e2
theorem walk_G {l : PySem.W.OpenLaw} {n k : Nat} {q : Program} {loose : List Str} {XP : (Str → Option Value) → Heap → Prop} {YP : World → Heap → Prop} {d : DefRec} {x : Str}
    (hn : l.most = some n) (hn2 : n ≤ sizeLine) (hdf : d.params.defaults = []) (hr : Room k callerA)
    (F : ∀ (w : World) (mg : Str → Option Value) (fa : Addr) (h : Heap), YP w h → h.Ns mainGlobals mg → mg d.name = some (.ref fa) →
      ∃ (K : PySem.W.Frag) (fd : FuncData) (sp : Sp), K.In h ∧ (∀ (s : Shared) (u : Value), BindsTo s fd ⟨[u], []⟩ [(x, u)]) ∧
        (∀ (H : Hp) (a : Addr) (ns : List Int), ns.length ≤ n → SqL K H a (ns.map V.int) → sp [.ref a] H (fun v _ => v = .bl true) fun _ _ _ => False) ∧
        ∀ base : Heap, K.In base → base.Ns mainGlobals mg → FnG l.prog w K mg base k fa fd [x] sp) :
    PySem.W.WalkO q loose XP YP l.row.toRowW d [] (fun f vs => PySem.call f vs) := by
  refine Att.attach_call hn hdf fun w s0 s1 mg mb fa o pm cd doc a vs ns G Y ho hd hcd hmg hobj hints hlen hg => ?_
  obtain ⟨K, fd, sp, KX, hb, hsp, hF⟩ := F w mg fa _ Y G.T.g hmg
  exact law_G KX G.T.g G.T.b G.T.builtins G.T.nolimit hg hobj hints (Nat.le_trans hlen hn2) hr hF hb fun H hS => hsp H a ns hlen hS
end ND
namespace ND
open PySem PySem.Spec PyProof.Rows L2
/-! ### exceptions as values, over what stays -/
theorem IsX.mono {H H' : Hp} {a C : Addr} (e : Evl.Ex H H') (h : IsX H a C) : IsX H' a C := by
  cases h with
  | bare h => exact .bare (e _ _ h)
  | full h hd => exact .full (e _ _ h) (e _ _ hd)
section
variable {K : PySem.W.Frag} {σ : L2.St} {H : Hp} {ta te : TE}
theorem ev_isx {a C : Addr} {c : V} {u : Value} {b : Bool} {tc : TE} (h : Evl.Ev ta σ H (.ref a)) (hc : Evl.Ev tc σ H c) (hx : IsX H a C) (T : ExcK K C) (k : ClsV c u) (e : PySem.W.kitOne K (.ref C) u = some b) :
    Evl.Ev (tCB (rIsX K) (tCons ta (tCons tc tNil))) σ H (.bl b) := by
  refine Evl.ev_cb (Evl.ea_cons h (Evl.ea_cons hc Evl.ea_nil)) fun H1 e1 Q q => ?_
  exact ⟨a, C, c, u, b, rfl, hx.mono e1, T, k, e, q H1 (Evl.Ex.refl _)⟩
/-- X(v).f -/
theorem ev_supf {C : Addr} {fld : Str} {tv : TA} {v : V} (h : Evl.EvA tv σ H [v]) (T : ExcK K C) (no : PySem.W.findIn K (.ref C) fld = some none) : Evl.Ev (tXf K fld (tSup C fld tv)) σ H v := by
  intro H1 e1 Q q
  refine h H1 e1 _ fun H2 e2 => ⟨v, rfl, fun e d ne nd dn => ?_⟩
  exact ⟨e, C, d, [(fld, v)], v, rfl, excH_e, excH_d dn, T, no, by simp [List.lookup], q _ (e2.trans (excH_same ne nd))⟩
/-- a new exception of the class at C -/
def EvX (te : TE) (σ : L2.St) (H : Hp) (C : Addr) : Prop := ∀ H1, Evl.Ex H H1 → ∀ Q : VK, (∀ e H2, Evl.Ex H1 H2 → IsX H2 e C → Q (.ref e) H2) → te σ H1 Q
theorem ex_sup {C : Addr} {fld : Str} {tv : TA} {v : V} (h : Evl.EvA tv σ H [v]) : EvX (tSup C fld tv) σ H C := by
  intro H1 e1 Q q
  refine h H1 e1 _ fun H2 e2 => ⟨v, rfl, fun e d ne nd dn => ?_⟩
  exact q e _ (e2.trans (excH_same ne nd)) (.full excH_e (excH_d dn))
theorem ex_bare {C : Addr} {v : V} (h : Evl.Ev ta σ H v) : EvX (fun σ H Q => ta σ H fun _ H1 => ∀ a, H1 a = none → Q (.ref a) (upd H1 a (ExO (.ref C) a))) σ H C := by
  intro H1 e1 Q q
  refine h H1 e1 _ fun H2 e2 a na => ?_
  exact q a _ (e2.trans (Evl.Ex.new na)) (.bare upd_same)
/-- values that are exceptions of these classes -/
inductive Xs (H : Hp) : List V → List Addr → Prop
  | nil : Xs H [] []
  | cons {e C : Addr} {vs : List V} {cs : List Addr} : IsX H e C → Xs H vs cs → Xs H (.ref e :: vs) (C :: cs)
theorem Xs.mono {H H' : Hp} (e : Evl.Ex H H') : ∀ {vs : List V} {cs : List Addr}, Xs H vs cs → Xs H' vs cs
  | _, _, .nil => .nil
  | _, _, .cons h t => .cons (h.mono e) (t.mono e)
theorem Xs.append {H : Hp} : ∀ {vs ws : List V} {cs ds : List Addr}, Xs H vs cs → Xs H ws ds → Xs H (vs ++ ws) (cs ++ ds)
  | _, _, _, _, .nil, s => s
  | _, _, _, _, .cons h t, s => .cons h (t.append s)
theorem Xs.length {H : Hp} : ∀ {vs : List V} {cs : List Addr}, Xs H vs cs → vs.length = cs.length
  | _, _, .nil => rfl
  | _, _, .cons _ t => by rw [List.length_cons, List.length_cons, t.length]
theorem Xs.at {H : Hp} : ∀ {vs : List V} {cs : List Addr} {i : Nat} {v : V}, Xs H vs cs → vs[i]? = some v → ∃ e C, v = .ref e ∧ cs[i]? = some C ∧ IsX H e C
  | _, _, _, _, .nil, h => by simp at h
  | _, _, 0, _, .cons h t, e => by
    simp at e
    subst e
    exact ⟨_, _, rfl, rfl, h⟩
  | _, _, i + 1, v, .cons h t, e => by
    obtain ⟨x, C, a, b, c⟩ := t.at (i := i) (v := v) (by simpa using e)
    exact ⟨x, C, a, by simpa using b, c⟩
def EvAX (ta : TA) (σ : L2.St) (H : Hp) (cs : List Addr) : Prop := ∀ H1, Evl.Ex H H1 → ∀ Q : List V → Hp → Prop, (∀ vs H2, Evl.Ex H1 H2 → Xs H2 vs cs → Q vs H2) → ta σ H1 Q
theorem eax_nil : EvAX tNil σ H [] := fun H1 _ Q q => q [] H1 (Evl.Ex.refl _) .nil
theorem EvX.mono {C : Addr} {H' : Hp} (e : Evl.Ex H H') (h : EvX te σ H C) : EvX te σ H' C := fun H1 e1 Q q => h H1 (e.trans e1) Q q
theorem eax_cons {tr : TA} {C : Addr} {cs : List Addr} (h : EvX te σ H C) (hr : EvAX tr σ H cs) : EvAX (tCons te tr) σ H (C :: cs) := by
  intro H1 e1 Q q
  refine h H1 e1 _ fun e H2 e2 x => hr H2 (e1.trans e2) _ fun vs H3 e3 xs => ?_
  exact q _ H3 (e2.trans e3) (.cons (x.mono e3) xs)
def EvLX (te : TE) (σ : L2.St) (H : Hp) (cs : List Addr) : Prop := ∀ H1, Evl.Ex H H1 → ∀ Q : VK, (∀ p vs H2, H1 p = none → Evl.Ex H1 H2 → H2 p = some (.lst vs) → Xs H2 vs cs → Q (.ref p) H2) → te σ H1 Q
theorem elx_lst {tr : TA} {cs : List Addr} (h : EvAX tr σ H cs) (hz : cs.length ≤ 1000) : EvLX (tLst tr) σ H cs := by
  intro H1 e1 Q q
  refine h H1 e1 _ fun vs H2 e2 xs => ⟨Nat.le_of_lt (small1000 (by rw [xs.length]; exact hz)), fun p np => ?_⟩
  have e3 : Evl.Ex H2 (upd H2 p (.lst vs)) := Evl.Ex.new np
  exact q p vs _ (Evl.fresh_back e2 np) (e2.trans e3) upd_same (xs.mono e3)
theorem elx_cat {tb : TE} {l : Addr} {vs : List V} {cs ds : List Addr} (hl : H l = some (.lst vs)) (hx : Xs H vs cs) (ha : Evl.Ev ta σ H (.ref l)) (hb : EvLX tb σ H ds) (hz : cs.length + ds.length ≤ 1000) : EvLX (tOp rCat ta tb) σ H (cs ++ ds) := by
  intro H1 e1 Q q
  refine ha H1 e1 _ fun H2 e2 => hb H2 (e1.trans e2) _ fun p ws H3 np e3 hp xs => ?_
  have e02 : Evl.Ex H H3 := (e1.trans e2).trans e3
  refine ⟨l, p, vs, ws, rfl, rfl, e02 _ _ hl, hp, Nat.le_of_lt (small1000 (by rw [hx.length, xs.length]; exact hz)), fun r nr => ?_⟩
  have e4 : Evl.Ex H3 (upd H3 r (.lst (vs ++ ws))) := Evl.Ex.new nr
  exact q r _ _ (Evl.fresh_back (e2.trans e3) nr) ((e2.trans e3).trans e4) upd_same (((hx.mono e02).append xs).mono e4)
theorem el_cat {tb : TE} {l : Addr} {vs ws : List V} (hl : H l = some (.lst vs)) (ha : Evl.Ev ta σ H (.ref l)) (hb : Evl.EvL tb σ H ws) (hz : vs.length + ws.length ≤ 1000) : Evl.EvL (tOp rCat ta tb) σ H (vs ++ ws) := by
  intro H1 e1 Q q
  refine ha H1 e1 _ fun H2 e2 => hb H2 (e1.trans e2) _ fun p H3 np e3 hp => ?_
  refine ⟨l, p, vs, ws, rfl, rfl, ((e1.trans e2).trans e3) _ _ hl, hp, Nat.le_of_lt (small1000 hz), fun r nr => ?_⟩
  have e4 : Evl.Ex H3 (upd H3 r (.lst (vs ++ ws))) := Evl.Ex.new nr
  exact q r _ (Evl.fresh_back (e2.trans e3) nr) ((e2.trans e3).trans e4) upd_same
theorem q_asgX {i : Nat} {D : Ends} {tz : TS} {cs : List Addr} (h : EvLX te σ H cs) (k : ∀ p vs H1, H p = none → Evl.Ex H H1 → H1 p = some (.lst vs) → Xs H1 vs cs → tz D (σ.set i (some (.ref p))) H1) : tSeq (tAsg te (gName i)) tz D σ H :=
  h H (Evl.Ex.refl _) _ fun p vs H2 np e hp xs => k p vs H2 np e hp xs
theorem s_retX {D : Ends} {cs : List Addr} (h : EvLX te σ H cs) (k : ∀ p vs H1, H p = none → Evl.Ex H H1 → H1 p = some (.lst vs) → Xs H1 vs cs → D.rt (.ref p) H1) : tRet te D σ H :=
  h H (Evl.Ex.refl _) _ fun p vs H2 np e hp xs => k p vs H2 np e hp xs
end
end ND
/-! the head's facts: a Hook that reaches closures -/
namespace ND
open PySem PySem.W PySem.Spec PySem.Calls PyProof.Rows L2 He
def refsN (o : Obj) : List Addr := refsD o ++ (match o.data with
  | .func fd => fd.closure.map (·.2)
  | .cell (some v) => refV v
  | _ => [])
def growN (g : Addr → Option Obj) (as : List Addr) : List Addr := (as ++ as.flatMap fun a => match g a with
  | some o => refsN o
  | none => []).eraseDups
def asN (g : Addr → Option Obj) : Nat → List Addr
  | 0 => [mainGlobals, cStatics]
  | n + 1 => growN g (asN g n)
/-! ### a class of errors with its own __init__ -/
abbrev SupW : Type := Option (Str × Arguments × FuncBody × Scope × Addr × List Str × Addr)
def fiOf (K : Frag) (x : Str) : Addr := ma K (ga K x) "__init__"
def supW (K : Frag) (x : Str) : SupW := match K.lookup (fiOf K x) with
  | some ⟨_, _, .func fd, _⟩ => some (fd.name, fd.params, fd.body, fd.scope, fd.globals, fd.closure.map (·.1), fd.builtins)
  | _ => none
structure SupD where
  x : Str
  fld : Str
  st : Stmt
def SupD.val (d : SupD) : SupW := some ("__init__", defArgs d.st, .stmts (defBody d.st), defScope d.st, mainGlobals, ["__class__"], builtinsNs)
def clsB (K : Frag) (C : Addr) : Bool := match K.lookup C with
  | some ⟨c, _, .cls cd, sl⟩ => (match cd.mro, sl.toList with
    | D :: bm, [_, _, _, _, k, _] => decide (c = .type "type") && (decide (D = .ref C) && (decide (k = some (.builtin "ValueError.__new__")) && (cd.hasDict && (!cd.hasDel && HandSPX.refsVE bm))))
    | _, _ => false)
  | _ => false
theorem clsB_ok {K : Frag} {C : Addr} (h : clsB K C = true) : ∃ nm q N bs bm sn sub ab col dd k0 k1 k2 k3 k5, K.lookup C = some (excClassObj nm q C N bs bm true sn sub ab col dd k0 k1 k2 k3 k5 "ValueError.__new__") ∧ HandSPX.refsVE bm = true := by
  unfold clsB at h
  split at h
  · rename_i c dd cd sl ho
    split at h
    · rename_i D bm k0 k1 k2 k3 k k5 hm hs
      obtain ⟨g1, j1⟩ := ba h
      obtain ⟨g2, j2⟩ := ba j1
      obtain ⟨g3, j3⟩ := ba j2
      obtain ⟨h4, j4⟩ := ba j3
      obtain ⟨h5, h6⟩ := ba j4
      have g1' := of_decide_eq_true g1
      have g2' := of_decide_eq_true g2
      have g3' := of_decide_eq_true g3
      rw [g1'] at ho
      rw [g2'] at hm
      rw [g3'] at hs
      obtain ⟨nm, bs, mro, ns, qn, hd, sn, sub, ab, col, del⟩ := cd
      dsimp only at hm h4 h5
      subst hm h4
      have h5' : del = false := by simpa using h5
      subst h5'
      obtain ⟨l⟩ := sl
      dsimp only at hs
      subst hs
      exact ⟨nm, qn, ns, bs, bm, sn, sub, ab, col, dd, k0, k1, k2, k3, k5, ho, h6⟩
    · cases h
  · cases h
def initB (prog : Program) (K : Frag) (C fI : Addr) : Bool := match K.lookup fI with
  | some ⟨_, _, .func fd, _⟩ => (match fd.code, fd.closure, fd.defaults, fd.kwdefaults with
    | .ref cda, [(_, cc)], .none, .none => codeIn K (.ref cda) fd.qualname && ((match K.lookup cda with
      | some ⟨_, _, .fields vs, _⟩ => (match (vs[2]? : Option Value) with
        | some (.str file _) => (prog.main.file : Str) == file
        | _ => false)
      | _ => false) && (match K.lookup cc with
        | some ⟨_, _, .cell (some D), _⟩ => decide (D = .ref C)
        | _ => false))
    | _, _, _, _ => false)
  | _ => false
def oexB (K : Frag) (C : Addr) : Bool := clsB K C && (eqO (findIn K (.ref C) "__setattr__") (some (some (.builtin "object.__setattr__"))) && (decide (subIn K (.ref C) (.type "BaseException") = some true) && (decide (typeIn K (.ref C) = some (.type "type")) && keepIn K (.ref C))))
theorem oexB_ok {K : Frag} {C : Addr} (h : oexB K C = true) : OexC K C := by
  obtain ⟨a, h⟩ := ba h
  obtain ⟨b, h⟩ := ba h
  obtain ⟨c, h⟩ := ba h
  obtain ⟨d, e⟩ := ba h
  exact ⟨clsB_ok a, eqO_ok b, of_decide_eq_true c, of_decide_eq_true d, e⟩
def supChk (prog : Program) (K : Frag) (x fld : Str) : Bool :=
  oexB K (ga K x) && (eqO (findIn K (.ref (ga K x)) fld) (some none) && (eqO (findIn K (.ref (ga K x)) "__init__") (some (some (.ref (fiOf K x)))) && (decide (typeIn K (.ref (fiOf K x)) = some (.type "function")) && (initB prog K (ga K x) (fiOf K x) &&
    (eqO (ks_superIn K (ga K x) (ga K x) "__init__") (some (some (.builtin "ValueError.__init__"))) && (decide (mroIn K (ga K x) (.ref (ga K x)) = some true) && (decide (mroIn K (ga K x) (.type "ValueError") = some true) &&
      (eqO (nsIn K cStatics "thirdparty.any") (some none) && eqO (nsIn K mainGlobals "super") (some none)))))))))
theorem supC_of {prog : Program} {K : Frag} {d : SupD} (h : supChk prog K d.x d.fld = true) (hw : supW K d.x = d.val) (ok : FldOk d.fld) (top : (prog.main.scope.names.lookup ("super" : Str)).isSome = false)
    {msg : Str} {p1 p2 q0 q1 q2 q3 q4 q5 q6 q7 q8 q9 : Pos} (ea : defArgs d.st = supA d.fld p1 p2) (eb : defBody d.st = supB d.fld msg q0 q1 q2 q3 q4 q5 q6 q7 q8 q9) (es : defScope d.st = supS d.fld) (hl : (q2.endLine == q4.line) = true)
    (hb : ∀ (qual : Str) (doc pm ct : Value) (an : Option Addr) (cda cc : Addr) (u v : Value),
      bindArgs (ksFn "__init__" qual (supA d.fld p1 p2) (supB d.fld msg q0 q1 q2 q3 q4 q5 q6 q7 q8 q9) (supS d.fld) .none .none doc pm an (.ref cda) ct cc) ⟨[u, v], []⟩ = pure [((PySem.Str.ofString "self" : Str), u), (d.fld, v)] ∧
      bindArgs (ksFn "__init__" qual (supA d.fld p1 p2) (supB d.fld msg q0 q1 q2 q3 q4 q5 q6 q7 q8 q9) (supS d.fld) .none .none doc pm an (.ref cda) ct cc) ⟨[u], [(d.fld, v)]⟩ = pure [((PySem.Str.ofString "self" : Str), u), (d.fld, v)]) :
    SupC prog K (ga K d.x) (fiOf K d.x) d.fld := by
  obtain ⟨h1, h⟩ := ba h
  obtain ⟨h2, h⟩ := ba h
  obtain ⟨h3, h⟩ := ba h
  obtain ⟨h4, h⟩ := ba h
  obtain ⟨h5, h⟩ := ba h
  obtain ⟨h6, h⟩ := ba h
  obtain ⟨h7, h⟩ := ba h
  obtain ⟨h8, h⟩ := ba h
  obtain ⟨h9, h10⟩ := ba h
  refine ⟨oexB_ok h1, ok, eqO_ok h2, eqO_ok h3, of_decide_eq_true h4, ?_, eqO_ok h6, of_decide_eq_true h7, of_decide_eq_true h8, eqO_ok h9, eqO_ok h10, top⟩
  unfold initB at h5
  unfold supW at hw
  split at h5
  · rename_i oc od fd osl ho
    rw [ho] at hw
    dsimp only at hw
    split at h5
    · rename_i cda y cc hcode hclo hdf hkd
      obtain ⟨c1, h5⟩ := ba h5
      obtain ⟨c2, c3⟩ := ba h5
      split at c2
      · rename_i ccl cdd vs ccs hc
        split at c2
        · rename_i file tf hv
          split at c3
          · rename_i cl cld D csl hcc
            have c3' := of_decide_eq_true c3
            subst c3'
            obtain ⟨n1, n2, n3, n4, n5, n6, n7, n8, n9, n10, n11, n12, n13, n14, n15⟩ := fd
            unfold SupD.val at hw
            simp only [Option.some.injEq, Prod.mk.injEq] at hw
            dsimp only at hcode hclo hdf hkd c1
            obtain ⟨e1, e2, e3, e4, e5, e6, e7⟩ := hw
            subst hcode hclo hdf hkd e1 e5 e7
            have e6' : y = "__class__" := by simpa using e6
            subst e6'
            rw [ea] at e2
            rw [eb] at e3
            rw [es] at e4
            subst e2 e3 e4
            exact ⟨oc, od, n12, osl, n2, msg, n10, n11, n14, cda, cc, ccl, cl, cdd, cld, ccs, csl, vs, file, tf, p1, p2, q0, q1, q2, q3, q4, q5, q6, q7, q8, q9, ho, c1, hc, hv, c2, hcc, hl,
              fun s u v => .of_eq (hb ..).1, fun s u v => .of_eq (hb ..).2⟩
          · cases c3
        · cases c2
      · cases c2
    · cases h5
  · cases h5
/-! ### what isinstance and a field's reading ask of a class of errors -/
def exkB (K : Frag) (C : Addr) : Bool := (clsIn K C).isSome && (eqO (findIn K (.ref C) "__getattribute__") (some (some (.builtin "BaseException.__getattribute__"))) && (eqO (findIn K (.ref C) "__getattr__") (some none) &&
  (decide (subIn K (.ref C) (.type "BaseException") = some true) && (hasDictIn K C && (eqO (findIn K (.ref C) "__class__") (some (some (.builtin "object.__class__"))) && (eqO (specialIn K (.builtin "object.__class__") "__get__") (some (some (.builtin "getset_descriptor.__get__"))) &&
    (decide (takesIn K (.builtin "object.__class__") = some true) && decide (mroIn K C (.type "object") = some true))))))))
theorem exkB_ok {K : Frag} {C : Addr} (h : exkB K C = true) : ExcK K C := by
  obtain ⟨h1, h⟩ := ba h
  obtain ⟨h2, h⟩ := ba h
  obtain ⟨h3, h⟩ := ba h
  obtain ⟨h4, h⟩ := ba h
  obtain ⟨h5, h⟩ := ba h
  obtain ⟨h6, h⟩ := ba h
  obtain ⟨h7, h⟩ := ba h
  obtain ⟨h8, h9⟩ := ba h
  exact ⟨h1, eqO_ok h2, eqO_ok h3, of_decide_eq_true h4, h5, eqO_ok h6, eqO_ok h7, of_decide_eq_true h8, of_decide_eq_true h9⟩
/-! ### the Hook -/
abbrev AlN : Type := AlD × (Bool × List SupW)
def obsN (n : Nat) (fa : List Fa) (fn : List DefD) (sd : List SupD) (ex : Frag → Bool) (g : Addr → Option Obj) : AlN := (obsD fa fn (frG g (asN g n)), ex (frG g (asN g n)), sd.map fun d => supW (frG g (asN g n)) d.x)
def valN (fn : List DefD) (sd : List SupD) : AlN := (valD fn, true, sd.map SupD.val)
structure SaysN (fa : List Fa) (fn : List DefD) (sd : List SupD) (ex : Frag → Bool) (K : Frag) : Prop where
  d : SaysD fa fn K
  e : ex K = true
  s : (sd.map fun d => supW K d.x) = sd.map SupD.val
def hookN (n : Nat) (fa : List Fa) (fn : List DefD) (sd : List SupD) (ex : Frag → Bool) : Hook where
  α := AlN
  obs := fun s => obsN n fa fn sd ex s.heap.get?
  val := fun _ => valN fn sd
  says := fun _ h => ∃ K : Frag, K.In h ∧ SaysN fa fn sd ex K
  of := fun _ s e => by
    have e' : obsN n fa fn sd ex s.heap.get? = valN fn sd := e
    unfold obsN valN at e'
    simp only [Prod.mk.injEq] at e'
    exact ⟨_, frG_in, e'.1, e'.2.1, e'.2.2⟩
  keeps := fun _ _ _ ⟨K, hK, c⟩ k => ⟨K, Frag.In.keeps hK k, c⟩
theorem obsN_eq {n : Nat} {fa : List Fa} {fn : List DefD} {sd : List SupD} {ex : Frag → Bool} {g : Addr → Option Obj} {s : Shared} (h : ∀ a, g a = s.heap.get? a) : obsN n fa fn sd ex g = (hookN n fa fn sd ex).obs s := by
  have e : g = s.heap.get? := funext h
  rw [e]
  rfl
theorem SaysN.sup {fa : List Fa} {fn : List DefD} {sd : List SupD} {ex : Frag → Bool} {K : Frag} (c : SaysN fa fn sd ex K) (i : Nat) {d : SupD} (h : sd[i]? = some d) : supW K d.x = d.val := by
  have z : (sd.map fun d => supW K d.x)[i]? = (sd.map SupD.val)[i]? := by rw [c.s]
  rw [List.getElem?_map, List.getElem?_map, h] at z
  exact Option.some.inj z
end ND
namespace ND
open PySem PySem.Spec PyProof.Rows L2
section
variable {K : PySem.W.Frag} {H H' : Hp}
mutual
theorem Dp_mono (e : Evl.Ex H H') : ∀ (d : PyData) (v : V), Dp K H v d → Dp K H' v d
  | .none, _, h => by cases h; exact .non
  | .bool b, _, h => by cases h; exact .bl b
  | .int i, _, h => by cases h; exact .int i
  | .str x, _, h => by cases h; exact .str x
  | .list ds, _, h => by
    cases h with
    | lst hs ha => exact .lst (Evl.ex_l e hs) (DpAll_mono e ds _ ha)
  | .tuple ds, _, h => by
    cases h with
    | tup hs ha => exact .tup (Evl.ex_t e hs) (DpAll_mono e ds _ ha)
  | .dict _, _, h => by cases h
theorem DpAll_mono (e : Evl.Ex H H') : ∀ (ds : List PyData) (vs : List V), DpAll K H vs ds → DpAll K H' vs ds
  | [], _, h => by cases h; exact .nil
  | d :: ds, _, h => by
    cases h with
    | cons h1 h2 => exact .cons (Dp_mono e d _ h1) (DpAll_mono e ds _ h2)
end
theorem Rp.mono {v : V} {d : PyData} (e : Evl.Ex H H') (h : Rp K H v d) : Rp K H' v d := by
  cases h with
  | dat h hl => exact .dat (Dp_mono e _ _ h) hl
  | dic h hf => exact .dic (e _ _ h) hf
end
theorem u80 {k : Nat} {A : Around} (hr : Room k A) : A.units + 80 < cLine := by
  have := hr.un
  omega
/-- a value whose repr can be told -/
def Rpr (K : PySem.W.Frag) (H : Hp) (v : V) : Prop := ∃ d, Rp K H v d ∧ d.showable = true ∧ d.depth ≤ 64 ∧ d.shown.length ≤ sizeLine
theorem Rpr.mono {K : PySem.W.Frag} {H H' : Hp} {v : V} (e : Evl.Ex H H') (h : Rpr K H v) : Rpr K H' v := by
  obtain ⟨d, a, b⟩ := h
  exact ⟨d, a.mono e, b⟩
end ND
namespace ND
open PySem PySem.Spec PyProof.Rows L2
def clsN0 : List Str := ["BadPack", "BadPlan", "BadFit", "TooMany", "NoPack", "Rolled", "NoCell", "BadState", "NoNight", "BadOrder", "BadChoice", "BadDeed", "BadSide"]
def clsN1 : List Str := ["Unlike", "BadRow", "NotPlain", "NotStill", "BadWorths", "BadDay", "BadNumber", "BadBounds", "BadShown", "NothingDone", "BadJournal", "BadText"]
def clsN : List Str := clsN0 ++ clsN1
def cad (K : PySem.W.Frag) (i : Nat) : Addr := He.ga K (clsN.getD i "")
def topS (i : Nat) : Stmt := PySem.Challenge.pw_narrowdraws_k01_errors_by_hand.main.body.getD i (.Pass ⟨0, 0, 0, 0⟩)
abbrev s_BadPack___init__ : Stmt := inClass (topS 2) 0
abbrev N_BadPack___init__ : List Str := ["self", "part"]
abbrev s_BadPlan___init__ : Stmt := inClass (topS 3) 0
abbrev N_BadPlan___init__ : List Str := ["self", "part"]
abbrev s_BadFit___init__ : Stmt := inClass (topS 4) 0
abbrev N_BadFit___init__ : List Str := ["self", "name"]
abbrev s_TooMany___init__ : Stmt := inClass (topS 5) 0
abbrev N_TooMany___init__ : List Str := ["self", "most"]
abbrev s_NoPack___init__ : Stmt := inClass (topS 6) 0
abbrev N_NoPack___init__ : List Str := ["self", "name"]
abbrev s_Rolled___init__ : Stmt := inClass (topS 7) 0
abbrev N_Rolled___init__ : List Str := ["self", "name"]
abbrev s_NoCell___init__ : Stmt := inClass (topS 8) 0
abbrev N_NoCell___init__ : List Str := ["self", "cell"]
abbrev s_BadDeed___init__ : Stmt := inClass (topS 13) 0
abbrev N_BadDeed___init__ : List Str := ["self", "at"]
abbrev s_BadSide___init__ : Stmt := inClass (topS 14) 0
abbrev N_BadSide___init__ : List Str := ["self", "which"]
abbrev s_BadRow___init__ : Stmt := inClass (topS 16) 0
abbrev N_BadRow___init__ : List Str := ["self", "at"]
abbrev s_BadDay___init__ : Stmt := inClass (topS 20) 0
abbrev N_BadDay___init__ : List Str := ["self", "day"]
abbrev s_BadNumber___init__ : Stmt := inClass (topS 21) 0
abbrev N_BadNumber___init__ : List Str := ["self", "number"]
abbrev s_BadShown___init__ : Stmt := inClass (topS 23) 0
abbrev N_BadShown___init__ : List Str := ["self", "at"]
abbrev s_BadJournal___init__ : Stmt := inClass (topS 25) 0
abbrev N_BadJournal___init__ : List Str := ["self", "at"]
abbrev s_BadText___init__ : Stmt := inClass (topS 26) 0
abbrev N_BadText___init__ : List Str := ["self", "line"]
abbrev s__law_begun : Stmt := topS 28
abbrev N__law_begun : List Str := ["_law_script", "_law_wide", "_law_grain"]
theorem sc__law_begun : FnScope N__law_begun ["_law_script"] (defScope s__law_begun) := ⟨rfl, rfl, rfl, by decide +kernel, rfl, by decide +kernel, by decide +kernel⟩
abbrev s__law_mixed : Stmt := topS 29
abbrev N__law_mixed : List Str := ["_law_draw", "_law_turn", "_law_found", "_law_prime", "_law_blend", "_law_grain"]
theorem sc__law_mixed : FnScope N__law_mixed ["_law_draw"] (defScope s__law_mixed) := ⟨rfl, rfl, rfl, by decide +kernel, rfl, by decide +kernel, by decide +kernel⟩
abbrev s__law_take : Stmt := topS 30
abbrev N__law_take : List Str := ["_law_draw", "_law_size", "_law_found"]
theorem sc__law_take : FnScope N__law_take ["_law_draw", "_law_size"] (defScope s__law_take) := ⟨rfl, rfl, rfl, by decide +kernel, rfl, by decide +kernel, by decide +kernel⟩
abbrev s__law_pick : Stmt := topS 31
abbrev N__law_pick : List Str := ["_law_draw", "_law_some"]
theorem sc__law_pick : FnScope N__law_pick ["_law_draw", "_law_some"] (defScope s__law_pick) := ⟨rfl, rfl, rfl, by decide +kernel, rfl, by decide +kernel, by decide +kernel⟩
abbrev s__law_flags : Stmt := topS 32
abbrev N__law_flags : List Str := ["_law_error", "_law_found"]
theorem sc__law_flags : FnScope N__law_flags ["_law_error"] (defScope s__law_flags) := ⟨rfl, rfl, rfl, by decide +kernel, rfl, by decide +kernel, by decide +kernel⟩
abbrev s__law_all_made : Stmt := topS 33
abbrev N__law_all_made : List Str := ["_law_what", "_law_found"]
theorem sc__law_all_made : FnScope N__law_all_made ["_law_what"] (defScope s__law_all_made) := ⟨rfl, rfl, rfl, by decide +kernel, rfl, by decide +kernel, by decide +kernel⟩
abbrev s__law_named : Stmt := topS 34
abbrev N__law_named : List Str := ["_law_what", "_law_found", "_law_thing"]
theorem sc__law_named : FnScope N__law_named ["_law_what"] (defScope s__law_named) := ⟨rfl, rfl, rfl, by decide +kernel, rfl, by decide +kernel, by decide +kernel⟩
abbrev s_law : Stmt := topS 35
abbrev N_law : List Str := ["_law_script", "_law_draw", "_law_turn", "_law_what", "_law_some", "_law_spot", "_law_error", "_law_k"]
theorem sc_law : FnScope N_law ["_law_script"] (defScope s_law) := ⟨rfl, rfl, rfl, by decide +kernel, rfl, by decide +kernel, by decide +kernel⟩
/-- what the top has written -/
structure Tx (P : Program) (w : World) (K : PySem.W.Frag) (mg : Str → Option Value) (base : Heap) : Prop where
  d__law_begun : GFun K mg "_law_begun" s__law_begun
  d__law_mixed : GFun K mg "_law_mixed" s__law_mixed
  d__law_take : GFun K mg "_law_take" s__law_take
  d__law_pick : GFun K mg "_law_pick" s__law_pick
  d__law_flags : GFun K mg "_law_flags" s__law_flags
  d__law_all_made : GFun K mg "_law_all_made" s__law_all_made
  d__law_named : GFun K mg "_law_named" s__law_named
  d_law : GFun K mg "law" s_law
  n_ValueError : mg "ValueError" = none
  n_abs : mg "abs" = none
  n_enumerate : mg "enumerate" = none
  n_int : mg "int" = none
  n_isinstance : mg "isinstance" = none
  n_len : mg "len" = none
  n_min : mg "min" = none
  n_range : mg "range" = none
  n_repr : mg "repr" = none
  g_PackError : mg "PackError" = some (.ref (He.ga K "PackError"))
  g_BadPack : mg "BadPack" = some (.ref (He.ga K "BadPack"))
  g_BadPlan : mg "BadPlan" = some (.ref (He.ga K "BadPlan"))
  g_BadFit : mg "BadFit" = some (.ref (He.ga K "BadFit"))
  g_TooMany : mg "TooMany" = some (.ref (He.ga K "TooMany"))
  g_NoPack : mg "NoPack" = some (.ref (He.ga K "NoPack"))
  g_Rolled : mg "Rolled" = some (.ref (He.ga K "Rolled"))
  g_NoCell : mg "NoCell" = some (.ref (He.ga K "NoCell"))
  g_BadState : mg "BadState" = some (.ref (He.ga K "BadState"))
  g_NoNight : mg "NoNight" = some (.ref (He.ga K "NoNight"))
  g_BadOrder : mg "BadOrder" = some (.ref (He.ga K "BadOrder"))
  g_BadChoice : mg "BadChoice" = some (.ref (He.ga K "BadChoice"))
  g_BadDeed : mg "BadDeed" = some (.ref (He.ga K "BadDeed"))
  g_BadSide : mg "BadSide" = some (.ref (He.ga K "BadSide"))
  g_Unlike : mg "Unlike" = some (.ref (He.ga K "Unlike"))
  g_BadRow : mg "BadRow" = some (.ref (He.ga K "BadRow"))
  g_NotPlain : mg "NotPlain" = some (.ref (He.ga K "NotPlain"))
  g_NotStill : mg "NotStill" = some (.ref (He.ga K "NotStill"))
  g_BadWorths : mg "BadWorths" = some (.ref (He.ga K "BadWorths"))
  g_BadDay : mg "BadDay" = some (.ref (He.ga K "BadDay"))
  g_BadNumber : mg "BadNumber" = some (.ref (He.ga K "BadNumber"))
  g_BadBounds : mg "BadBounds" = some (.ref (He.ga K "BadBounds"))
  g_BadShown : mg "BadShown" = some (.ref (He.ga K "BadShown"))
  g_NothingDone : mg "NothingDone" = some (.ref (He.ga K "NothingDone"))
  g_BadJournal : mg "BadJournal" = some (.ref (He.ga K "BadJournal"))
  g_BadText : mg "BadText" = some (.ref (He.ga K "BadText"))
  s_BadPack : SupC P K (He.ga K "BadPack") (fiOf K "BadPack") "part"
  s_BadPlan : SupC P K (He.ga K "BadPlan") (fiOf K "BadPlan") "part"
  s_BadFit : SupC P K (He.ga K "BadFit") (fiOf K "BadFit") "name"
  s_TooMany : SupC P K (He.ga K "TooMany") (fiOf K "TooMany") "most"
  s_NoPack : SupC P K (He.ga K "NoPack") (fiOf K "NoPack") "name"
  s_Rolled : SupC P K (He.ga K "Rolled") (fiOf K "Rolled") "name"
  s_NoCell : SupC P K (He.ga K "NoCell") (fiOf K "NoCell") "cell"
  s_BadDeed : SupC P K (He.ga K "BadDeed") (fiOf K "BadDeed") "at"
  s_BadSide : SupC P K (He.ga K "BadSide") (fiOf K "BadSide") "which"
  s_BadRow : SupC P K (He.ga K "BadRow") (fiOf K "BadRow") "at"
  s_BadDay : SupC P K (He.ga K "BadDay") (fiOf K "BadDay") "day"
  s_BadNumber : SupC P K (He.ga K "BadNumber") (fiOf K "BadNumber") "number"
  s_BadShown : SupC P K (He.ga K "BadShown") (fiOf K "BadShown") "at"
  s_BadJournal : SupC P K (He.ga K "BadJournal") (fiOf K "BadJournal") "at"
  s_BadText : SupC P K (He.ga K "BadText") (fiOf K "BadText") "line"
  e_PackError : PySem.W.excIn K (He.ga K "PackError") He.veBase "ValueError.__new__" = true ∧ PySem.W.keepIn K (.ref (He.ga K "PackError")) = true
  e_BadState : PySem.W.excIn K (He.ga K "BadState") He.veBase "ValueError.__new__" = true ∧ PySem.W.keepIn K (.ref (He.ga K "BadState")) = true
  e_NoNight : PySem.W.excIn K (He.ga K "NoNight") He.veBase "ValueError.__new__" = true ∧ PySem.W.keepIn K (.ref (He.ga K "NoNight")) = true
  e_BadOrder : PySem.W.excIn K (He.ga K "BadOrder") He.veBase "ValueError.__new__" = true ∧ PySem.W.keepIn K (.ref (He.ga K "BadOrder")) = true
  e_BadChoice : PySem.W.excIn K (He.ga K "BadChoice") He.veBase "ValueError.__new__" = true ∧ PySem.W.keepIn K (.ref (He.ga K "BadChoice")) = true
  e_Unlike : PySem.W.excIn K (He.ga K "Unlike") He.veBase "ValueError.__new__" = true ∧ PySem.W.keepIn K (.ref (He.ga K "Unlike")) = true
  e_NotPlain : PySem.W.excIn K (He.ga K "NotPlain") He.veBase "ValueError.__new__" = true ∧ PySem.W.keepIn K (.ref (He.ga K "NotPlain")) = true
  e_NotStill : PySem.W.excIn K (He.ga K "NotStill") He.veBase "ValueError.__new__" = true ∧ PySem.W.keepIn K (.ref (He.ga K "NotStill")) = true
  e_BadWorths : PySem.W.excIn K (He.ga K "BadWorths") He.veBase "ValueError.__new__" = true ∧ PySem.W.keepIn K (.ref (He.ga K "BadWorths")) = true
  e_BadBounds : PySem.W.excIn K (He.ga K "BadBounds") He.veBase "ValueError.__new__" = true ∧ PySem.W.keepIn K (.ref (He.ga K "BadBounds")) = true
  e_NothingDone : PySem.W.excIn K (He.ga K "NothingDone") He.veBase "ValueError.__new__" = true ∧ PySem.W.keepIn K (.ref (He.ga K "NothingDone")) = true
  x_all : ∀ i, i < 25 → ExcK K (cad K i)
  x_PackError : ExcK K (He.ga K "PackError")
  kit : ∀ i j, i < 25 → j < 25 → PySem.W.kitOne K (.ref (cad K i)) (.ref (cad K j)) = some (decide (i = j))
  kitP : ∀ i, i < 25 → PySem.W.kitOne K (.ref (cad K i)) (.ref (He.ga K "PackError")) = some true
  kitV : ∀ i, i < 25 → PySem.W.kitOne K (.ref (cad K i)) (.type "ValueError") = some true
  kitN : ∀ i, i < 25 → PySem.W.kitOne K (.ref (He.ga K "PackError")) (.ref (cad K i)) = some false
  kitPV : PySem.W.kitOne K (.ref (He.ga K "PackError")) (.type "ValueError") = some true
end ND
namespace ND
open PySem PySem.Spec PyProof.Rows L2
section
variable {P : Program} {w : World} {K : PySem.W.Frag} {mg : Str → Option Value} {base : Heap}
theorem draw_turn (aw ac : Addr) (r t x : Int) : putK (drawD aw ac r t) (kS "turn") (.int x) = drawD aw ac r x := rfl
theorem draw_rest (aw ac : Addr) (r t x : Int) : putK (drawD aw ac r t) (kS "rest") (.int x) = drawD aw ac x t := rfl
theorem drawD_len (aw ac : Addr) (r t : Int) : (drawD aw ac r t).length < sizeLine := by
  show 4 < sizeLine
  decide
def spMixed (K : PySem.W.Frag) : Sp := fun vs H Q _ => ∃ (d aw ac : Addr) (T : Nat), vs = [.ref d] ∧ Draw K d aw ac T H ∧ T ≤ 2 ^ 40 ∧ ∀ (n : Int) (H' : Hp), 0 ≤ n → Draw K d aw ac (T + 1) H' → Keep d d H H' → Q (.int n) H'
theorem prime_at {i : Nat} {x : V} (h : ([.int 2147483647, .int 2147483629, .int 2147483587, .int 2147483579] : List V)[i]? = some x) : ∃ p : Int, x = .int p ∧ 0 < p ∧ p < 4294967296 := by
  have m := List.mem_of_getElem? h
  simp only [List.mem_cons, List.not_mem_nil, or_false] at m
  rcases m with rfl | rfl | rfl | rfl
  · exact ⟨_, rfl, by decide, by decide⟩
  · exact ⟨_, rfl, by decide, by decide⟩
  · exact ⟨_, rfl, by decide, by decide⟩
  · exact ⟨_, rfl, by decide, by decide⟩
theorem ok__law_mixed (T : Tx P w K mg base) : GOk P w K mg base 1 "_law_mixed" ["_law_draw"] (spMixed K) := by
  refine GFun.ok (k := 0) T.d__law_mixed sc__law_mixed (fun _ _ _ _ _ _ us hl => match us, hl with | [_], _ => rfl) (fun vs H Q E h => ?_) (fun f cdv A outer s H vs Q E hr h => ?_)
  · obtain ⟨d, aw, ac, n, rfl, _⟩ := h
    rfl
  · obtain ⟨d, aw, ac, n, rfl, hD, hn, q⟩ := h
    obtain ⟨⟨ws, cs, r, t, hd, hw, hc, hws, lw, lc, hcs, hr0, ht0, htT⟩, hne⟩ := hD
    have ndw : d ≠ aw := ne_of hd hw (by intro z; cases z)
    have ndc : d ≠ ac := ne_of hd hc (by intro z; cases z)
    refine ⟨_, (pss_cons (ps_par (i := 1) (j := 2) (by rfl) sc__law_mixed.nd rfl rfl (by decide) rfl rfl (pa_cons (pe_op op_add (pe_dget (hu_of hr) (pv 0) pe_str (fun _ _ => rfl)) pe_int) (pa_cons pe_int pa_nil)) (by rfl))
      (pss_cons (ps_dput (hu_of hr) (pv 0) pe_str (pv 1) rfl)
      (pss_cons (ps_for (passes_of rfl) rfl (pi_list (pe_lst (pa_cons pe_int (pa_cons pe_int (pa_cons pe_int (pa_cons pe_int pa_nil)))))) (pg_name (i := 3) sc__law_mixed.nd rfl (Or.inl rfl)) (pss_cons (ps_set (i := 4) sc__law_mixed.nd rfl (Or.inl rfl) (pe_op op_add (pe_op op_mul pe_int (pv 1)) (pe_op op_fdivW (pv 3) pe_int)))
      (pss_cons (ps_for (passes_of rfl) rfl (pi_list (pe_dget (hu_of hr) (pv 0) pe_str (fun _ _ => rfl))) (pg_name (i := 5) sc__law_mixed.nd rfl (Or.inl rfl)) (pss_one (ps_set (i := 4) sc__law_mixed.nd rfl (Or.inl rfl) (pe_op op_mod (pe_callTy call_int1 (by rfl) T.n_int (by decide +kernel) (pa_cons (pe_op op_add (pe_op op_add (pe_op op_mul (pv 4) pe_int) (pv 5)) (pv 1)) pa_nil)) (pv 3)))))
      (pss_one (ps_set (i := 2) sc__law_mixed.nd rfl (Or.inl rfl) (pe_op op_add (pe_op op_mul (pv 2) pe_int) (pe_op op_mod (pe_callTy call_int1 (by rfl) T.n_int (by decide +kernel) (pa_cons (pe_op op_pow (pv 4) pe_int) pa_nil)) (pv 3))))))))
      (pss_one (ps_ret (pv 2)))))), ?_⟩
    refine ⟨.ref d, rfl, d, .int t, rfl, DGet.k (k := kS "turn") hd, t, 1, rfl, rfl, _, _, rfl, ?_⟩
    refine ⟨_, rfl, _, rfl, d, _, rfl, DPut.k (k := kS "turn") hd (drawD_len ..), ?_⟩
    rw [draw_turn]
    refine ⟨by decide, fun p np => ⟨p, rfl, ⟨_, SqL.of upd_same⟩, ?_⟩⟩
    have npd : p ≠ d := fun e => by rw [e, upd_same] at np; cases np
    have npc : p ≠ ac := fun e => by rw [e, upd_ne ndc.symm, hc] at np; cases np
    have npw : p ≠ aw := fun e => by rw [e, upd_ne ndw.symm, hw] at np; cases np
    have npH : H p = none := by rw [upd_ne npd] at np; exact np
    generalize hH2 : upd (upd H d (.dK (drawD aw ac r (t + 1)))) p _ = H2
    have ed : H2 d = some (.dK (drawD aw ac r (t + 1))) := by rw [← hH2, upd_ne npd.symm, upd_same]
    have ew : H2 aw = some (.lst (ws.map V.int)) := by rw [← hH2, upd_ne npw.symm, upd_ne ndw.symm]; exact hw
    have ec : H2 ac = some (.lst (cs.map V.int)) := by rw [← hH2, upd_ne npc.symm, upd_ne ndc.symm]; exact hc
    have ep : H2 p = some (.lst [.int 2147483647, .int 2147483629, .int 2147483587, .int 2147483579]) := by rw [← hH2, upd_same]
    refine for_list (xs := [.int 2147483647, .int 2147483629, .int 2147483587, .int 2147483579])
      (fun _ σ H' => ∃ (m : Int) (y3 y4 y5 : Option V), σ = [some (.ref d), some (.int (t + 1)), some (.int m), y3, y4, y5] ∧ 0 ≤ m ∧ H' = H2)
      ⟨0, none, none, none, rfl, by decide, rfl⟩ (fun _ _ _ _ h => by obtain ⟨_, _, _, _, _, _, rfl⟩ := h; exact SqL.of ep) ?_ ?_
    · rintro i x σ H' hx ⟨m, y3, y4, y5, rfl, hm, rfl⟩
      obtain ⟨pr, rfl, p0, p1⟩ := prime_at hx
      -- blend
      refine ⟨_, rfl, 69621, t + 1, rfl, rfl, .inl ⟨by decide, by decide⟩, _, rfl, pr, 23, rfl, rfl, ⟨by decide, by decide⟩, _, _, rfl, rfl, ?_⟩
      -- the inner loop
      refine ⟨_, rfl, d, .ref ac, rfl, DGet.k (k := kS "cells") ed, ac, rfl, ⟨_, SqL.of ec⟩, ?_⟩
      refine for_list (xs := cs.map V.int)
        (fun _ σ H'' => ∃ (b : Int) (y5 : Option V), σ = [some (.ref d), some (.int (t + 1)), some (.int m), some (.int pr), some (.int b), y5] ∧ 0 ≤ b ∧ b < 2 ^ 63 ∧ H'' = H')
        ⟨_, y5, rfl, ?_, ?_, rfl⟩ (fun _ _ _ _ h => by obtain ⟨_, _, _, _, _, rfl⟩ := h; exact SqL.of ec) ?_ ?_
      · have : 0 ≤ pr / 23 := Int.ediv_nonneg (by omega) (by decide)
        omega
      · have : pr / 23 ≤ pr := Int.ediv_le_self _ (by omega)
        have h3 : t ≤ 2 ^ 40 := by omega
        omega
      · rintro j z σ2 H3 hz ⟨b, y, rfl, hb0, hb1, rfl⟩
        have mz := List.mem_of_getElem? hz
        obtain ⟨g, mg', rfl⟩ := List.mem_map.mp mz
        refine ⟨_, rfl, b, 48271, rfl, rfl, .inr ⟨by decide, by decide⟩, _, rfl, _, g, rfl, rfl, _, rfl, _, t + 1, rfl, rfl, .inl ⟨_, rfl, _, rfl, _, pr, rfl, rfl, p0, ?_⟩⟩
        refine ⟨_, _, rfl, Int.emod_nonneg _ (by omega), ?_, rfl⟩
        have := Int.emod_lt_of_pos (b * 48271 + g + (t + 1)) p0
        omega
      · rintro σ2 H3 ⟨b, y, rfl, hb0, hb1, rfl⟩
        refine ⟨_, rfl, m, 2147483647, rfl, rfl, .inr ⟨by decide, by decide⟩, _, rfl, b, 5, rfl, rfl, ⟨by decide, by decide, by omega⟩, .inl ⟨_, rfl, _, rfl, _, pr, rfl, rfl, p0, _, _, rfl, rfl, ?_⟩⟩
        refine ⟨_, _, _, _, rfl, ?_, rfl⟩
        have h1 := Int.emod_nonneg (b ^ (5 : Int).toNat) (show pr ≠ 0 by omega)
        omega
    · rintro σ H' ⟨m, y3, y4, y5, rfl, hm, rfl⟩
      refine ⟨_, rfl, q m H' hm ⟨⟨ws, cs, r, t + 1, ed, ew, ec, hws, lw, lc, hcs, hr0, by omega, by omega⟩, hne⟩ ?_⟩
      intro b o h1 _ e
      rw [← hH2, upd_ne (ne_of_none e npH), upd_ne h1]
      exact e
end

end ND
namespace ND
open PySem PySem.Spec PyProof.Rows L2
section
variable {P : Program} {w : World} {K : PySem.W.Frag} {mg : Str → Option Value} {base : Heap}
def spTake (K : PySem.W.Frag) : Sp := fun vs H Q _ => ∃ (d aw ac : Addr) (T : Nat) (n : Int), vs = [.ref d, .int n] ∧ Draw K d aw ac T H ∧ T ≤ 2 ^ 40 ∧ 0 < n ∧ n < 1000000 ∧ ∀ (k : Int) (H' : Hp), 0 ≤ k → k < n → Draw K d aw ac (T + 1) H' → Keep d aw H H' → Q (.int k) H'
theorem six0 {z : Int} {zs : List Int} : seqIndex? 0 ((z :: zs).map V.int).length = some 0 := by
  simp [seqIndex?]
theorem Draw.mono {d aw ac : Addr} {T T' : Nat} {H : Hp} (h : Draw K d aw ac T H) (l : T ≤ T') : Draw K d aw ac T' H := by
  obtain ⟨⟨ws, cs, r, t, hd, hw, hc, hws, lw, lc, hcs, hr0, ht0, htT⟩, hne⟩ := h
  exact ⟨⟨ws, cs, r, t, hd, hw, hc, hws, lw, lc, hcs, hr0, ht0, by omega⟩, hne⟩
theorem ok__law_take (T : Tx P w K mg base) : GOk P w K mg base 2 "_law_take" ["_law_draw", "_law_size"] (spTake K) := by
  refine GFun.ok (k := 1) T.d__law_take sc__law_take (fun _ _ _ _ _ _ us hl => match us, hl with | [_, _], _ => rfl) (fun vs H Q E h => ?_) (fun f cdv A outer s H vs Q E hr h => ?_)
  · obtain ⟨d, aw, ac, T, n, rfl, _⟩ := h
    rfl
  · obtain ⟨d, aw, ac, m, n, rfl, hD, hm, hn0, hn1, q⟩ := h
    have hD0 := hD
    obtain ⟨⟨ws, cs, r, t, hd, hw, hc, hws, lw, lc, hcs, hr0, ht0, htT⟩, hne⟩ := hD
    have ndw : d ≠ aw := ne_of hd hw (by intro z; cases z)
    have ndc : d ≠ ac := ne_of hd hc (by intro z; cases z)
    refine ⟨_, (Evl.pss_cut (ps_if (pt_cmpR op_eq (pe_dget (hu_of hr) (pv 0) pe_str (fun _ _ => rfl)) pe_int (nomark _)) (pss_one (ps_dput (hu_of hr) (pv 0) pe_str (pe_ifExp (pt_cmpR (op_nilNe hr.units0) (pe_dget (hu_of hr) (pv 0) pe_str (fun _ _ => rfl)) (pe_lst pa_nil) (nomark _)) (pe_bm PySem.F.plainAttrs_list PySem.F.slot_list_pop PySem.F.type_list_pop mt_popAt (pe_dget (hu_of hr) (pv 0) pe_str (fun _ _ => rfl)) (pa_cons pe_int pa_nil)) (pe_g (ok__law_mixed T) (hr.mono (by decide)) (by rfl) passL (pa_cons (pv 0) pa_nil))) rfl)) pss_nil)
      (pss_cons (ps_set (i := 2) sc__law_take.nd rfl (Or.inl rfl) (pe_op op_mod (pe_callTy call_int1 (by rfl) T.n_int (by decide +kernel) (pa_cons (pe_dget (hu_of hr) (pv 0) pe_str (fun _ _ => rfl)) pa_nil)) (pv 1)))
      (pss_cons (ps_dput (hu_of hr) (pv 0) pe_str (pe_op op_fdivW (pe_dget (hu_of hr) (pv 0) pe_str (fun _ _ => rfl)) (pv 1)) rfl)
      (pss_one (ps_ret (pv 2)))))), ?_⟩
    refine ⟨fun σ H1 => σ = [some (.ref d), some (.int n), none] ∧ Draw K d aw ac (m + 1) H1 ∧ Keep d aw H H1, ?_, ?_⟩
    · refine ⟨_, rfl, d, .int r, rfl, DGet.k (k := kS "rest") hd, rfl, _, rfl, ?_⟩
      refine ite2 (fun _ => ?_) (fun _ => ⟨rfl, hD0.mono (by omega), Keep.refl⟩)
      -- the test: is there a wide number
      refine ⟨_, rfl, d, .ref aw, rfl, DGet.k (k := kS "wide") hd, Nat.zero_le _, fun p np => ?_⟩
      have s1 : Same H (upd H p (.lst [])) := fun b x e => by rw [upd_ne (ne_of_none e np)]; exact e
      refine ⟨aw, p, ws.map V.int, rfl, rfl, SqL.of (s1 _ _ hw), SqL.of upd_same, _, rfl, ?_⟩
      cases ws with
      | nil =>
        refine iteF ?_
        refine ⟨_, rfl, d, aw, ac, m, rfl, ⟨⟨[], cs, r, t, s1 _ _ hd, s1 _ _ hw, s1 _ _ hc, hws, lw, lc, hcs, hr0, ht0, htT⟩, hne⟩, hm, fun k H2 hk hD2 hK => ?_⟩
        obtain ⟨⟨ws2, cs2, r2, t2, hd2, hw2, hc2, hws2, lw2, lc2, hcs2, hr2, ht2, htT2⟩, hne2⟩ := hD2
        refine ⟨_, rfl, d, _, rfl, DPut.k (k := kS "rest") hd2 (drawD_len ..), ?_⟩
        rw [draw_rest]
        refine ⟨rfl, ⟨⟨ws2, cs2, k, t2, upd_same, by rw [upd_ne ndw.symm]; exact hw2, by rw [upd_ne ndc.symm]; exact hc2, hws2, lw2, lc2, hcs2, hk, ht2, htT2⟩, hne⟩, fun b o h1 h2 e => ?_⟩
        rw [upd_ne h1]
        exact hK b o h1 h1 (s1 b o e)
      | cons z zs =>
        refine iteT ?_
        refine ⟨_, rfl, d, .ref aw, rfl, DGet.k (k := kS "wide") (s1 _ _ hd), .inl ⟨rfl, _, SqL.of (s1 _ _ hw)⟩, aw, _, 0, 0, .int z, rfl, rfl, s1 _ _ hw, by decide, by decide, six0, rfl, ?_⟩
        refine ⟨_, rfl, d, _, rfl, DPut.k (k := kS "rest") (by rw [upd_ne ndw]; exact s1 _ _ hd) (drawD_len ..), ?_⟩
        rw [draw_rest]
        refine ⟨rfl, ⟨⟨zs, cs, z, t, upd_same, by rw [upd_ne ndw.symm, upd_same]; rfl, by rw [upd_ne ndc.symm, upd_ne hne.symm]; exact s1 _ _ hc, fun y hy => hws y (List.mem_cons_of_mem _ hy), ?_, lc, hcs, hws z List.mem_cons_self, ht0, by omega⟩, hne⟩, fun b o h1 h2 e => ?_⟩
        · rw [List.length_cons] at lw
          omega
        · rw [upd_ne h1, upd_ne h2]
          exact s1 b o e
    · rintro σ H1 ⟨rfl, hD1, hK⟩
      obtain ⟨⟨ws, cs, r, t, hd, hw, hc, hws, lw, lc, hcs, hr0, ht0, htT⟩, hne⟩ := hD1
      refine ⟨_, rfl, d, .int r, rfl, DGet.k (k := kS "rest") hd, .inl ⟨r, rfl, _, rfl, r, n, rfl, rfl, hn0, ?_⟩⟩
      refine ⟨_, rfl, d, .int r, rfl, DGet.k (k := kS "rest") hd, _, rfl, r, n, rfl, rfl, ⟨hn0, ?_⟩, _, rfl, d, _, rfl, DPut.k (k := kS "rest") hd (drawD_len ..), ?_⟩
      · have : n.natAbs < 2 ^ 9000 := Nat.lt_of_lt_of_le (show n.natAbs < 2 ^ 20 by omega) (Nat.pow_le_pow_right (by decide) (by decide))
        exact (Nat.log2_lt (by omega)).mpr this
      · rw [draw_rest]
        refine ⟨_, rfl, q _ _ (Int.emod_nonneg _ (by omega)) (Int.emod_lt_of_pos _ hn0) ⟨⟨ws, cs, r / n, t, upd_same, by rw [upd_ne ndw.symm]; exact hw, by rw [upd_ne ndc.symm]; exact hc, hws, lw, lc, hcs, Int.ediv_nonneg hr0 (by omega), ht0, htT⟩, hne⟩ fun b o h1 h2 e => ?_⟩
        rw [upd_ne h1]
        exact hK b o h1 h2 e
/-- a pick of a list (or tuple, or text by another promise) -/
def spPick (K : PySem.W.Frag) : Sp := fun vs H Q _ => ∃ (d aw ac a : Addr) (T : Nat) (xs : List V), vs = [.ref d, .ref a] ∧ Draw K d aw ac T H ∧ T ≤ 2 ^ 40 ∧ a ≠ aw ∧ H a = some (.lst xs) ∧ 0 < xs.length ∧ xs.length < 1000000 ∧
  ∀ (v : V) (H' : Hp), v ∈ xs → Draw K d aw ac (T + 1) H' → Keep d aw H H' → Q v H'
theorem ok__law_pick (T : Tx P w K mg base) : GOk P w K mg base 3 "_law_pick" ["_law_draw", "_law_some"] (spPick K) := by
  refine GFun.ok (k := 2) T.d__law_pick sc__law_pick (fun _ _ _ _ _ _ us hl => match us, hl with | [_, _], _ => rfl) (fun vs H Q E h => ?_) (fun f cdv A outer s H vs Q E hr h => ?_)
  · obtain ⟨d, aw, ac, a, T, n, rfl, _⟩ := h
    rfl
  · obtain ⟨d, aw, ac, a, m, xs, rfl, hD, hm, na, ha, hl0, hl1, q⟩ := h
    have nda : a ≠ d := by
      obtain ⟨⟨ws, cs, r, t, hd, _⟩, hne⟩ := hD
      exact ne_of ha hd (by intro z; cases z)
    refine ⟨_, (pss_one (ps_ret (pe_ix ix_list (pv 1) (pe_g (ok__law_take T) (hr.mono (by decide)) (by rfl) passL (pa_cons (pv 0) (pa_cons (pe_callB call_len_seq (by rfl) T.n_len (by decide +kernel) (pa_cons (pv 1) pa_nil)) pa_nil))) (fun _ _ => rfl)))), ?_⟩
    refine ⟨_, rfl, _, rfl, _, rfl, a, xs, rfl, .inl (SqL.of ha), d, aw, ac, m, xs.length, rfl, hD, hm, by omega, by omega, fun k H' hk0 hk1 hD' hK => ?_⟩
    have hk : k.toNat < xs.length := by omega
    refine ⟨a, xs, k, xs[k.toNat], rfl, rfl, SqL.of (hK _ _ nda na ha), ?_, q _ _ (List.getElem_mem _) hD' hK⟩
    unfold atI ixN
    rw [if_pos hk0, if_pos hk1]
    exact List.getElem?_eq_getElem hk
end

end ND
namespace ND
open PySem PySem.Spec PyProof.Rows L2
section
variable {P : Program} {w : World} {K : PySem.W.Frag} {mg : Str → Option Value} {base : Heap}
def spBegun (K : PySem.W.Frag) : Sp := fun vs H Q _ => ∃ (a : Addr) (ns : List Int), vs = [.ref a] ∧ SqL K H a (ns.map V.int) ∧ ns.length ≤ 63 ∧
  ∀ (d aw ac : Addr) (H' : Hp), Draw K d aw ac 0 H' → Same H H' → H d = none → H aw = none → Q (.ref d) H'
theorem ints_at {ns : List Int} {i : Nat} {x : V} (h : (ns.map V.int)[i]? = some x) : ∃ n, x = .int n := by
  obtain ⟨n, _, rfl⟩ := List.mem_map.mp (List.mem_of_getElem? h)
  exact ⟨n, rfl⟩
theorem same_new {H H' : Hp} {p : Addr} {o : HO} (s : Same H H') (n : H p = none) : Same H (upd H' p o) := fun b x e => by
  rw [upd_ne (ne_of_none e n)]
  exact s b x e
theorem sz63 {n : Nat} (h : n ≤ 100) : n < sizeLine := small1000 (by omega)
theorem ok__law_begun (T : Tx P w K mg base) : GOk P w K mg base 1 "_law_begun" ["_law_script"] (spBegun K) := by
  refine GFun.ok (k := 0) T.d__law_begun sc__law_begun (fun _ _ _ _ _ _ us hl => match us, hl with | [_], _ => rfl) (fun vs H Q E h => ?_) (fun f cdv A outer s H vs Q E hr h => ?_)
  · obtain ⟨a, ns, rfl, _⟩ := h
    rfl
  · obtain ⟨a, ns, rfl, hS, hl, q⟩ := h
    have hlm : (ns.map V.int).length = ns.length := List.length_map ..
    refine ⟨_, (pss_cons (ps_setLc (i := 1) (own := [("_law_grain", 2)]) (by rfl) sc__law_begun.nd rfl rfl (sw_true rfl rfl rfl (by decide +kernel)) (pi_list (pv 0)) (blkOk_by (own := [("_law_grain", 2)]) (N := N__law_begun) (sc := defScope s__law_begun) (by decide +kernel)) (fun _ _ _ _ _ => (pg_name (i := 2) sc__law_begun.nd rfl (Or.inl rfl))) (fun _ _ _ _ _ => (pts_one (pt_cmpR op_ge (pe_callB call_abs (by rfl) T.n_abs (by decide +kernel) (pa_cons (pv 2) pa_nil)) (pe_op op_pow pe_int pe_int) (nomark _)))) (fun _ _ _ _ _ => (pe_op op_sub (pe_callB call_abs (by rfl) T.n_abs (by decide +kernel) (pa_cons (pv 2) pa_nil)) (pe_op op_pow pe_int pe_int))))
      (pss_one (ps_ret (pe_disp (pps_cons pe_str (pv 1) (pps_cons pe_str (pe_lc (own := [("_law_grain", 2)]) (by rfl) sc__law_begun.nd (pi_list (pv 0)) (blkOk_by (own := [("_law_grain", 2)]) (N := N__law_begun) (sc := defScope s__law_begun) (by decide +kernel)) (fun _ _ _ _ _ => (pg_name (i := 2) sc__law_begun.nd rfl (Or.inl rfl))) (fun _ _ _ _ _ => pts_nil) (fun _ _ _ _ _ => (pe_op op_mod (pe_callTy call_int1 (by rfl) T.n_int (by decide +kernel) (pa_cons (pe_callB call_abs (by rfl) T.n_abs (by decide +kernel) (pa_cons (pv 2) pa_nil)) pa_nil)) pe_int))) (pps_cons pe_str pe_int (pps_cons pe_str pe_int pps_nil)))) (by rfl) (by rfl) (fun z => by cases z) (by decide))))), ?_⟩
    refine ⟨_, rfl, a, rfl, ⟨_, hS⟩, fun D nD => ?_⟩
    refine lc_list (xs := ns.map V.int) (fun i H' => Same H H' ∧ ∃ ws : List Int, H' D = some (.lst (ws.map V.int)) ∧ (∀ z ∈ ws, 0 ≤ z) ∧ ws.length ≤ i) ⟨same_new (Same.refl _) nD, [], upd_same, (fun _ h => nomatch h), Nat.le_refl _⟩ (fun _ _ _ h => h.1.seq hS) ?_ ?_
    · rintro i x H1 hx ⟨s1, ws, hD, hws, lws⟩
      obtain ⟨n, rfl⟩ := ints_at hx
      have li : i < 63 := by
        have := (List.getElem?_eq_some_iff.mp hx).1
        omega
      refine ⟨rfl, ?_⟩
      refine ⟨_, rfl, n, rfl, 10, 18, rfl, rfl, ⟨by decide, by decide, by decide⟩, _, _, rfl, rfl, _, rfl, ?_⟩
      refine ite2 (fun hc => ?_) (fun _ => ⟨s1, ws, hD, hws, by omega⟩)
      refine ⟨_, rfl, n, rfl, 10, 18, rfl, rfl, ⟨by decide, by decide, by decide⟩, _, _, rfl, rfl, _, hD, ?_, same_new s1 nD, ws ++ [(if n < 0 then -n else n) - 10 ^ (18 : Int).toNat], ?_, ?_, ?_⟩
      · rw [List.length_map]
        exact sz63 (by omega)
      · rw [upd_same, List.map_append]
        rfl
      · intro z hz
        rcases List.mem_append.mp hz with h | h
        · exact hws z h
        · rw [List.mem_singleton.mp h]
          have := of_decide_eq_true hc
          omega
      · rw [List.length_append]
        show ws.length + 1 ≤ i + 1
        omega
    · rintro H1 ⟨s1, ws, hD, hws, lws⟩
      rw [hlm] at lws
      -- the dict
      intro p np
      refine ⟨_, rfl, _, rfl, a, rfl, ⟨_, (same_new (Same.refl _) np).seq (s1.seq hS)⟩, fun D2 nD2 => ?_⟩
      have ne1 : D2 ≠ p := fun e => by rw [e, upd_same] at nD2; cases nD2
      have nD2' : H1 D2 = none := by rw [upd_ne ne1] at nD2; exact nD2
      have s2 : Same H1 (upd H1 p (.dK [])) := same_new (Same.refl _) np
      refine lc_list (xs := ns.map V.int) (fun i H' => Same (upd H1 p (.dK [])) H' ∧ ∃ cs : List Int, H' D2 = some (.lst (cs.map V.int)) ∧ (∀ z ∈ cs, 0 ≤ z ∧ z < 2147483629) ∧ cs.length ≤ i) ⟨same_new (Same.refl _) nD2, [], upd_same, (fun _ h => nomatch h), Nat.le_refl _⟩ (fun _ _ _ h => h.1.seq (s2.seq (s1.seq hS))) ?_ ?_
      · rintro i x H3 hx ⟨s3, cs, hD3, hcs, lcs⟩
        obtain ⟨n, rfl⟩ := ints_at hx
        have li : i < 63 := by
          have := (List.getElem?_eq_some_iff.mp hx).1
          omega
        refine ⟨rfl, ?_⟩
        refine ⟨_, rfl, n, rfl, .inl ⟨_, rfl, _, 2147483629, rfl, rfl, (show (0 : Int) < 2147483629 by decide), _, hD3, ?_, same_new s3 nD2, cs ++ [(if n < 0 then -n else n) % 2147483629], ?_, ?_, ?_⟩⟩
        · rw [List.length_map]
          exact sz63 (by omega)
        · rw [upd_same, List.map_append]
          rfl
        · intro z hz
          rcases List.mem_append.mp hz with h | h
          · exact hcs z h
          · rw [List.mem_singleton.mp h]
            exact ⟨Int.emod_nonneg _ (by decide), Int.emod_lt_of_pos _ (by decide)⟩
        · rw [List.length_append]
          show cs.length + 1 ≤ i + 1
          omega
      · rintro H3 ⟨s3, cs, hD3, hcs, lcs⟩
        rw [hlm] at lcs
        have ep : H3 p = some (.dK []) := s3 _ _ upd_same
        have eD : H3 D = some (.lst (ws.map V.int)) := s3 _ _ (s2 _ _ hD)
        refine ⟨ep, [(kS "wide", .ref D), (kS "cells", .ref D2), (kS "rest", .int 0), (kS "turn", .int 0)], rfl, (by show 4 ≤ 15; decide), ?_⟩
        have neDp : D ≠ p := ne_of_none hD np
        have neD2p : D2 ≠ p := ne1
        have nHp : H p = none := s1.free np
        refine q p D D2 _ ⟨⟨ws, cs, 0, 0, upd_same, by rw [upd_ne neDp]; exact eD, by rw [upd_ne neD2p]; exact hD3, hws, by omega, by omega, hcs, by decide, by decide, by decide⟩, ?_⟩ (same_new (s1.trans (s2.trans s3)) nHp) nHp nD
        exact ne_of_none hD nD2'
end

end ND
namespace ND
open PySem PySem.Spec PyProof.Rows L2
section
variable {P : Program} {w : World} {K : PySem.W.Frag} {mg : Str → Option Value} {base : Heap}
def spFlags (K : PySem.W.Frag) : Sp := fun vs H Q _ => ∃ (a C : Addr) (fl : Nat → Bool), vs = [.ref a] ∧ IsX H a C ∧ ExcK K C ∧ (∀ j, j < 25 → PySem.W.kitOne K (.ref C) (.ref (cad K j)) = some (fl j)) ∧
  ∀ p H', H p = none → Evl.Ex H H' → H' p = some (.lst ((List.range 25).map fun j => V.bl (fl j))) → Q (.ref p) H'
theorem ok__law_flags (T : Tx P w K mg base) : GOk P w K mg base 1 "_law_flags" ["_law_error"] (spFlags K) := by
  refine GFun.ok (k := 0) T.d__law_flags sc__law_flags (fun _ _ _ _ _ _ us hl => match us, hl with | [_], _ => rfl) (fun vs H Q E h => ?_) (fun f cdv A outer s H vs Q E hr h => ?_)
  · obtain ⟨a, C, fl, rfl, _⟩ := h
    rfl
  · obtain ⟨a, C, fl, rfl, hx, TC, hk, q⟩ := h
    refine ⟨_, (pss_cons (ps_set (i := 1) sc__law_flags.nd rfl (Or.inl rfl) (pe_lst (pa_cons (pe_callB call_isx (by rfl) T.n_isinstance (by decide +kernel) (pa_cons (pv 0) (pa_cons (pe_cls (by rfl) T.g_BadPack) pa_nil))) (pa_cons (pe_callB call_isx (by rfl) T.n_isinstance (by decide +kernel) (pa_cons (pv 0) (pa_cons (pe_cls (by rfl) T.g_BadPlan) pa_nil))) (pa_cons (pe_callB call_isx (by rfl) T.n_isinstance (by decide +kernel) (pa_cons (pv 0) (pa_cons (pe_cls (by rfl) T.g_BadFit) pa_nil))) pa_nil)))))
      (pss_cons (ps_set (i := 1) sc__law_flags.nd rfl (Or.inl rfl) (pe_op op_cat (pv 1) (pe_lst (pa_cons (pe_callB call_isx (by rfl) T.n_isinstance (by decide +kernel) (pa_cons (pv 0) (pa_cons (pe_cls (by rfl) T.g_TooMany) pa_nil))) (pa_cons (pe_callB call_isx (by rfl) T.n_isinstance (by decide +kernel) (pa_cons (pv 0) (pa_cons (pe_cls (by rfl) T.g_NoPack) pa_nil))) (pa_cons (pe_callB call_isx (by rfl) T.n_isinstance (by decide +kernel) (pa_cons (pv 0) (pa_cons (pe_cls (by rfl) T.g_Rolled) pa_nil))) pa_nil))))))
      (pss_cons (ps_set (i := 1) sc__law_flags.nd rfl (Or.inl rfl) (pe_op op_cat (pv 1) (pe_lst (pa_cons (pe_callB call_isx (by rfl) T.n_isinstance (by decide +kernel) (pa_cons (pv 0) (pa_cons (pe_cls (by rfl) T.g_NoCell) pa_nil))) (pa_cons (pe_callB call_isx (by rfl) T.n_isinstance (by decide +kernel) (pa_cons (pv 0) (pa_cons (pe_cls (by rfl) T.g_BadState) pa_nil))) (pa_cons (pe_callB call_isx (by rfl) T.n_isinstance (by decide +kernel) (pa_cons (pv 0) (pa_cons (pe_cls (by rfl) T.g_NoNight) pa_nil))) pa_nil))))))
      (pss_cons (ps_set (i := 1) sc__law_flags.nd rfl (Or.inl rfl) (pe_op op_cat (pv 1) (pe_lst (pa_cons (pe_callB call_isx (by rfl) T.n_isinstance (by decide +kernel) (pa_cons (pv 0) (pa_cons (pe_cls (by rfl) T.g_BadOrder) pa_nil))) (pa_cons (pe_callB call_isx (by rfl) T.n_isinstance (by decide +kernel) (pa_cons (pv 0) (pa_cons (pe_cls (by rfl) T.g_BadChoice) pa_nil))) (pa_cons (pe_callB call_isx (by rfl) T.n_isinstance (by decide +kernel) (pa_cons (pv 0) (pa_cons (pe_cls (by rfl) T.g_BadDeed) pa_nil))) pa_nil))))))
      (pss_cons (ps_set (i := 1) sc__law_flags.nd rfl (Or.inl rfl) (pe_op op_cat (pv 1) (pe_lst (pa_cons (pe_callB call_isx (by rfl) T.n_isinstance (by decide +kernel) (pa_cons (pv 0) (pa_cons (pe_cls (by rfl) T.g_BadSide) pa_nil))) (pa_cons (pe_callB call_isx (by rfl) T.n_isinstance (by decide +kernel) (pa_cons (pv 0) (pa_cons (pe_cls (by rfl) T.g_Unlike) pa_nil))) (pa_cons (pe_callB call_isx (by rfl) T.n_isinstance (by decide +kernel) (pa_cons (pv 0) (pa_cons (pe_cls (by rfl) T.g_BadRow) pa_nil))) pa_nil))))))
      (pss_cons (ps_set (i := 1) sc__law_flags.nd rfl (Or.inl rfl) (pe_op op_cat (pv 1) (pe_lst (pa_cons (pe_callB call_isx (by rfl) T.n_isinstance (by decide +kernel) (pa_cons (pv 0) (pa_cons (pe_cls (by rfl) T.g_NotPlain) pa_nil))) (pa_cons (pe_callB call_isx (by rfl) T.n_isinstance (by decide +kernel) (pa_cons (pv 0) (pa_cons (pe_cls (by rfl) T.g_NotStill) pa_nil))) (pa_cons (pe_callB call_isx (by rfl) T.n_isinstance (by decide +kernel) (pa_cons (pv 0) (pa_cons (pe_cls (by rfl) T.g_BadWorths) pa_nil))) pa_nil))))))
      (pss_cons (ps_set (i := 1) sc__law_flags.nd rfl (Or.inl rfl) (pe_op op_cat (pv 1) (pe_lst (pa_cons (pe_callB call_isx (by rfl) T.n_isinstance (by decide +kernel) (pa_cons (pv 0) (pa_cons (pe_cls (by rfl) T.g_BadDay) pa_nil))) (pa_cons (pe_callB call_isx (by rfl) T.n_isinstance (by decide +kernel) (pa_cons (pv 0) (pa_cons (pe_cls (by rfl) T.g_BadNumber) pa_nil))) (pa_cons (pe_callB call_isx (by rfl) T.n_isinstance (by decide +kernel) (pa_cons (pv 0) (pa_cons (pe_cls (by rfl) T.g_BadBounds) pa_nil))) pa_nil))))))
      (pss_cons (ps_set (i := 1) sc__law_flags.nd rfl (Or.inl rfl) (pe_op op_cat (pv 1) (pe_lst (pa_cons (pe_callB call_isx (by rfl) T.n_isinstance (by decide +kernel) (pa_cons (pv 0) (pa_cons (pe_cls (by rfl) T.g_BadShown) pa_nil))) (pa_cons (pe_callB call_isx (by rfl) T.n_isinstance (by decide +kernel) (pa_cons (pv 0) (pa_cons (pe_cls (by rfl) T.g_NothingDone) pa_nil))) (pa_cons (pe_callB call_isx (by rfl) T.n_isinstance (by decide +kernel) (pa_cons (pv 0) (pa_cons (pe_cls (by rfl) T.g_BadJournal) pa_nil))) pa_nil))))))
      (pss_one (ps_ret (pe_op op_cat (pv 1) (pe_lst (pa_cons (pe_callB call_isx (by rfl) T.n_isinstance (by decide +kernel) (pa_cons (pv 0) (pa_cons (pe_cls (by rfl) T.g_BadText) pa_nil))) pa_nil))))))))))))), ?_⟩
    refine Evl.q_asgL (Evl.el_lst (Evl.ea_cons (ev_isx (Evl.ev_var rfl) Evl.ev_c hx TC (ClsV.own _) (hk 0 (by decide))) (Evl.ea_cons (ev_isx (Evl.ev_var rfl) Evl.ev_c hx TC (ClsV.own _) (hk 1 (by decide))) (Evl.ea_cons (ev_isx (Evl.ev_var rfl) Evl.ev_c hx TC (ClsV.own _) (hk 2 (by decide))) Evl.ea_nil))) (by simp)) (fun p1 H1 np1 e1 hp1 => ?_)
    have hx1 := hx.mono e1
    refine Evl.q_asgL (el_cat hp1 (Evl.ev_var rfl) (Evl.el_lst (Evl.ea_cons (ev_isx (Evl.ev_var rfl) Evl.ev_c hx1 TC (ClsV.own _) (hk 3 (by decide))) (Evl.ea_cons (ev_isx (Evl.ev_var rfl) Evl.ev_c hx1 TC (ClsV.own _) (hk 4 (by decide))) (Evl.ea_cons (ev_isx (Evl.ev_var rfl) Evl.ev_c hx1 TC (ClsV.own _) (hk 5 (by decide))) Evl.ea_nil))) (by simp)) (by simp)) (fun p2 H2 np2 e2 hp2 => ?_)
    have hx2 := hx1.mono e2
    refine Evl.q_asgL (el_cat hp2 (Evl.ev_var rfl) (Evl.el_lst (Evl.ea_cons (ev_isx (Evl.ev_var rfl) Evl.ev_c hx2 TC (ClsV.own _) (hk 6 (by decide))) (Evl.ea_cons (ev_isx (Evl.ev_var rfl) Evl.ev_c hx2 TC (ClsV.own _) (hk 7 (by decide))) (Evl.ea_cons (ev_isx (Evl.ev_var rfl) Evl.ev_c hx2 TC (ClsV.own _) (hk 8 (by decide))) Evl.ea_nil))) (by simp)) (by simp)) (fun p3 H3 np3 e3 hp3 => ?_)
    have hx3 := hx2.mono e3
    refine Evl.q_asgL (el_cat hp3 (Evl.ev_var rfl) (Evl.el_lst (Evl.ea_cons (ev_isx (Evl.ev_var rfl) Evl.ev_c hx3 TC (ClsV.own _) (hk 9 (by decide))) (Evl.ea_cons (ev_isx (Evl.ev_var rfl) Evl.ev_c hx3 TC (ClsV.own _) (hk 10 (by decide))) (Evl.ea_cons (ev_isx (Evl.ev_var rfl) Evl.ev_c hx3 TC (ClsV.own _) (hk 11 (by decide))) Evl.ea_nil))) (by simp)) (by simp)) (fun p4 H4 np4 e4 hp4 => ?_)
    have hx4 := hx3.mono e4
    refine Evl.q_asgL (el_cat hp4 (Evl.ev_var rfl) (Evl.el_lst (Evl.ea_cons (ev_isx (Evl.ev_var rfl) Evl.ev_c hx4 TC (ClsV.own _) (hk 12 (by decide))) (Evl.ea_cons (ev_isx (Evl.ev_var rfl) Evl.ev_c hx4 TC (ClsV.own _) (hk 13 (by decide))) (Evl.ea_cons (ev_isx (Evl.ev_var rfl) Evl.ev_c hx4 TC (ClsV.own _) (hk 14 (by decide))) Evl.ea_nil))) (by simp)) (by simp)) (fun p5 H5 np5 e5 hp5 => ?_)
    have hx5 := hx4.mono e5
    refine Evl.q_asgL (el_cat hp5 (Evl.ev_var rfl) (Evl.el_lst (Evl.ea_cons (ev_isx (Evl.ev_var rfl) Evl.ev_c hx5 TC (ClsV.own _) (hk 15 (by decide))) (Evl.ea_cons (ev_isx (Evl.ev_var rfl) Evl.ev_c hx5 TC (ClsV.own _) (hk 16 (by decide))) (Evl.ea_cons (ev_isx (Evl.ev_var rfl) Evl.ev_c hx5 TC (ClsV.own _) (hk 17 (by decide))) Evl.ea_nil))) (by simp)) (by simp)) (fun p6 H6 np6 e6 hp6 => ?_)
    have hx6 := hx5.mono e6
    refine Evl.q_asgL (el_cat hp6 (Evl.ev_var rfl) (Evl.el_lst (Evl.ea_cons (ev_isx (Evl.ev_var rfl) Evl.ev_c hx6 TC (ClsV.own _) (hk 18 (by decide))) (Evl.ea_cons (ev_isx (Evl.ev_var rfl) Evl.ev_c hx6 TC (ClsV.own _) (hk 19 (by decide))) (Evl.ea_cons (ev_isx (Evl.ev_var rfl) Evl.ev_c hx6 TC (ClsV.own _) (hk 20 (by decide))) Evl.ea_nil))) (by simp)) (by simp)) (fun p7 H7 np7 e7 hp7 => ?_)
    have hx7 := hx6.mono e7
    refine Evl.q_asgL (el_cat hp7 (Evl.ev_var rfl) (Evl.el_lst (Evl.ea_cons (ev_isx (Evl.ev_var rfl) Evl.ev_c hx7 TC (ClsV.own _) (hk 21 (by decide))) (Evl.ea_cons (ev_isx (Evl.ev_var rfl) Evl.ev_c hx7 TC (ClsV.own _) (hk 22 (by decide))) (Evl.ea_cons (ev_isx (Evl.ev_var rfl) Evl.ev_c hx7 TC (ClsV.own _) (hk 23 (by decide))) Evl.ea_nil))) (by simp)) (by simp)) (fun p8 H8 np8 e8 hp8 => ?_)
    have hx8 := hx7.mono e8
    refine Evl.s_retL (el_cat hp8 (Evl.ev_var rfl) (Evl.el_lst (Evl.ea_cons (ev_isx (Evl.ev_var rfl) Evl.ev_c hx8 TC (ClsV.own _) (hk 24 (by decide))) Evl.ea_nil) (by simp)) (by simp)) (fun p9 H9 np9 e9 hp9 => ?_)
    exact q p9 H9 (Evl.fresh_back (((((((e1.trans e2).trans e3).trans e4).trans e5).trans e6).trans e7).trans e8) np9) ((((((((e1.trans e2).trans e3).trans e4).trans e5).trans e6).trans e7).trans e8).trans e9) hp9
def spMade (K : PySem.W.Frag) : Sp := fun vs H Q _ => ∃ v, vs = [v] ∧ ∀ p us H', H p = none → Evl.Ex H H' → H' p = some (.lst us) → Xs H' us ((List.range 25).map fun j => cad K j) → Q (.ref p) H'
theorem ok__law_all_made (T : Tx P w K mg base) : GOk P w K mg base 1 "_law_all_made" ["_law_what"] (spMade K) := by
  refine GFun.ok (k := 0) T.d__law_all_made sc__law_all_made (fun _ _ _ _ _ _ us hl => match us, hl with | [_], _ => rfl) (fun vs H Q E h => ?_) (fun f cdv A outer s H vs Q E hr h => ?_)
  · obtain ⟨a, rfl, _⟩ := h
    rfl
  · obtain ⟨v, rfl, q⟩ := h
    refine ⟨_, (pss_cons (ps_set (i := 1) sc__law_all_made.nd rfl (Or.inl rfl) (pe_lst (pa_cons (pe_sup T.s_BadPack T.g_BadPack hr (by rfl) (pa_cons (pv 0) pa_nil)) (pa_cons (pe_sup T.s_BadPlan T.g_BadPlan hr (by rfl) (pa_cons (pv 0) pa_nil)) (pa_cons (pe_sup T.s_BadFit T.g_BadFit hr (by rfl) (pa_cons (pv 0) pa_nil)) (pa_cons (pe_sup T.s_TooMany T.g_TooMany hr (by rfl) (pa_cons (pv 0) pa_nil)) (pa_cons (pe_sup T.s_NoPack T.g_NoPack hr (by rfl) (pa_cons (pv 0) pa_nil)) (pa_cons (pe_sup T.s_Rolled T.g_Rolled hr (by rfl) (pa_cons (pv 0) pa_nil)) (pa_cons (pe_sup T.s_NoCell T.g_NoCell hr (by rfl) (pa_cons (pv 0) pa_nil)) pa_nil)))))))))
      (pss_cons (ps_set (i := 1) sc__law_all_made.nd rfl (Or.inl rfl) (pe_op op_cat (pv 1) (pe_lst (pa_cons (pe_exc1 PySem.F.excBase_ValueError T.e_BadState.1 T.g_BadState T.e_BadState.2 (by rfl) pe_str) (pa_cons (pe_exc1 PySem.F.excBase_ValueError T.e_NoNight.1 T.g_NoNight T.e_NoNight.2 (by rfl) pe_str) (pa_cons (pe_exc1 PySem.F.excBase_ValueError T.e_BadOrder.1 T.g_BadOrder T.e_BadOrder.2 (by rfl) pe_str) (pa_cons (pe_exc1 PySem.F.excBase_ValueError T.e_BadChoice.1 T.g_BadChoice T.e_BadChoice.2 (by rfl) pe_str) (pa_cons (pe_sup T.s_BadDeed T.g_BadDeed hr (by rfl) (pa_cons (pv 0) pa_nil)) (pa_cons (pe_sup T.s_BadSide T.g_BadSide hr (by rfl) (pa_cons (pv 0) pa_nil)) pa_nil)))))))))
      (pss_cons (ps_set (i := 1) sc__law_all_made.nd rfl (Or.inl rfl) (pe_op op_cat (pv 1) (pe_lst (pa_cons (pe_exc1 PySem.F.excBase_ValueError T.e_Unlike.1 T.g_Unlike T.e_Unlike.2 (by rfl) pe_str) (pa_cons (pe_sup T.s_BadRow T.g_BadRow hr (by rfl) (pa_cons (pv 0) pa_nil)) (pa_cons (pe_exc1 PySem.F.excBase_ValueError T.e_NotPlain.1 T.g_NotPlain T.e_NotPlain.2 (by rfl) pe_str) (pa_cons (pe_exc1 PySem.F.excBase_ValueError T.e_NotStill.1 T.g_NotStill T.e_NotStill.2 (by rfl) pe_str) (pa_cons (pe_exc1 PySem.F.excBase_ValueError T.e_BadWorths.1 T.g_BadWorths T.e_BadWorths.2 (by rfl) pe_str) (pa_cons (pe_sup T.s_BadDay T.g_BadDay hr (by rfl) (pa_cons (pv 0) pa_nil)) pa_nil)))))))))
      (pss_cons (ps_set (i := 1) sc__law_all_made.nd rfl (Or.inl rfl) (pe_op op_cat (pv 1) (pe_lst (pa_cons (pe_sup T.s_BadNumber T.g_BadNumber hr (by rfl) (pa_cons (pv 0) pa_nil)) (pa_cons (pe_exc1 PySem.F.excBase_ValueError T.e_BadBounds.1 T.g_BadBounds T.e_BadBounds.2 (by rfl) pe_str) (pa_cons (pe_sup T.s_BadShown T.g_BadShown hr (by rfl) (pa_cons (pv 0) pa_nil)) (pa_cons (pe_exc1 PySem.F.excBase_ValueError T.e_NothingDone.1 T.g_NothingDone T.e_NothingDone.2 (by rfl) pe_str) (pa_cons (pe_sup T.s_BadJournal T.g_BadJournal hr (by rfl) (pa_cons (pv 0) pa_nil)) pa_nil))))))))
      (pss_one (ps_ret (pe_op op_cat (pv 1) (pe_lst (pa_cons (pe_sup T.s_BadText T.g_BadText hr (by rfl) (pa_cons (pv 0) pa_nil)) pa_nil))))))))), ?_⟩
    refine q_asgX (elx_lst (eax_cons (ex_sup (Evl.ea_cons (Evl.ev_var rfl) Evl.ea_nil)) (eax_cons (ex_sup (Evl.ea_cons (Evl.ev_var rfl) Evl.ea_nil)) (eax_cons (ex_sup (Evl.ea_cons (Evl.ev_var rfl) Evl.ea_nil)) (eax_cons (ex_sup (Evl.ea_cons (Evl.ev_var rfl) Evl.ea_nil)) (eax_cons (ex_sup (Evl.ea_cons (Evl.ev_var rfl) Evl.ea_nil)) (eax_cons (ex_sup (Evl.ea_cons (Evl.ev_var rfl) Evl.ea_nil)) (eax_cons (ex_sup (Evl.ea_cons (Evl.ev_var rfl) Evl.ea_nil)) eax_nil))))))) (by simp)) (fun p1 v1 H1 np1 e1 hp1 x1 => ?_)
    refine q_asgX (elx_cat hp1 x1 (Evl.ev_var rfl) (elx_lst (eax_cons (ex_bare Evl.ev_c) (eax_cons (ex_bare Evl.ev_c) (eax_cons (ex_bare Evl.ev_c) (eax_cons (ex_bare Evl.ev_c) (eax_cons (ex_sup (Evl.ea_cons (Evl.ev_var rfl) Evl.ea_nil)) (eax_cons (ex_sup (Evl.ea_cons (Evl.ev_var rfl) Evl.ea_nil)) eax_nil)))))) (by simp)) (by simp)) (fun p2 v2 H2 np2 e2 hp2 x2 => ?_)
    refine q_asgX (elx_cat hp2 x2 (Evl.ev_var rfl) (elx_lst (eax_cons (ex_bare Evl.ev_c) (eax_cons (ex_sup (Evl.ea_cons (Evl.ev_var rfl) Evl.ea_nil)) (eax_cons (ex_bare Evl.ev_c) (eax_cons (ex_bare Evl.ev_c) (eax_cons (ex_bare Evl.ev_c) (eax_cons (ex_sup (Evl.ea_cons (Evl.ev_var rfl) Evl.ea_nil)) eax_nil)))))) (by simp)) (by simp)) (fun p3 v3 H3 np3 e3 hp3 x3 => ?_)
    refine q_asgX (elx_cat hp3 x3 (Evl.ev_var rfl) (elx_lst (eax_cons (ex_sup (Evl.ea_cons (Evl.ev_var rfl) Evl.ea_nil)) (eax_cons (ex_bare Evl.ev_c) (eax_cons (ex_sup (Evl.ea_cons (Evl.ev_var rfl) Evl.ea_nil)) (eax_cons (ex_bare Evl.ev_c) (eax_cons (ex_sup (Evl.ea_cons (Evl.ev_var rfl) Evl.ea_nil)) eax_nil))))) (by simp)) (by simp)) (fun p4 v4 H4 np4 e4 hp4 x4 => ?_)
    refine s_retX (elx_cat hp4 x4 (Evl.ev_var rfl) (elx_lst (eax_cons (ex_sup (Evl.ea_cons (Evl.ev_var rfl) Evl.ea_nil)) eax_nil) (by simp)) (by simp)) (fun p5 v5 H5 np5 e5 hp5 x5 => ?_)
    exact q p5 v5 H5 (Evl.fresh_back (((e1.trans e2).trans e3).trans e4) np5) ((((e1.trans e2).trans e3).trans e4).trans e5) hp5 x5
end

end ND
namespace ND
open PySem PySem.Spec PyProof.Rows L2
section
variable {P : Program} {w : World} {K : PySem.W.Frag} {mg : Str → Option Value} {base : Heap}
def spNamed (K : PySem.W.Frag) : Sp := fun vs H Q _ => ∃ v, vs = [v] ∧ Rpr K H v ∧ ∀ H', Evl.Ex H H' → Q (.bl true) H'
theorem ok__law_named (T : Tx P w K mg base) : GOkG P w K mg base 1 "_law_named" ["_law_what"] (spNamed K) := by
  refine GFun.okG (k := 0) T.d__law_named sc__law_named (fun _ _ _ _ _ _ us hl => match us, hl with | [_], _ => rfl) (fun vs H Q E h => ?_) (fun f cdv A outer s H vs Q E hgd hr h => ?_)
  · obtain ⟨a, rfl, _⟩ := h
    rfl
  · obtain ⟨v, rfl, hv, q⟩ := h
    refine ⟨_, (pss_cons (ps_set (i := 1) sc__law_named.nd rfl (Or.inl rfl) (pe_lst (pa_cons (pe_xf (pe_sup T.s_BadPack T.g_BadPack hr (by rfl) (pa_cons (pv 0) pa_nil))) (pa_cons (pe_xf (pe_sup T.s_BadPlan T.g_BadPlan hr (by rfl) (pa_cons (pv 0) pa_nil))) (pa_cons (pe_xf (pe_sup T.s_BadFit T.g_BadFit hr (by rfl) (pa_cons (pv 0) pa_nil))) (pa_cons (pe_xf (pe_sup T.s_TooMany T.g_TooMany hr (by rfl) (pa_cons (pv 0) pa_nil))) (pa_cons (pe_xf (pe_sup T.s_NoPack T.g_NoPack hr (by rfl) (pa_cons (pv 0) pa_nil))) pa_nil)))))))
      (pss_cons (ps_set (i := 1) sc__law_named.nd rfl (Or.inl rfl) (pe_op op_cat (pv 1) (pe_lst (pa_cons (pe_xf (pe_sup T.s_Rolled T.g_Rolled hr (by rfl) (pa_cons (pv 0) pa_nil))) (pa_cons (pe_xf (pe_sup T.s_NoCell T.g_NoCell hr (by rfl) (pa_cons (pv 0) pa_nil))) (pa_cons (pe_xf (pe_sup T.s_BadDeed T.g_BadDeed hr (by rfl) (pa_cons (pv 0) pa_nil))) (pa_cons (pe_xf (pe_sup T.s_BadSide T.g_BadSide hr (by rfl) (pa_cons (pv 0) pa_nil))) (pa_cons (pe_xf (pe_sup T.s_BadRow T.g_BadRow hr (by rfl) (pa_cons (pv 0) pa_nil))) pa_nil))))))))
      (pss_cons (ps_set (i := 1) sc__law_named.nd rfl (Or.inl rfl) (pe_op op_cat (pv 1) (pe_lst (pa_cons (pe_xf (pe_sup T.s_BadDay T.g_BadDay hr (by rfl) (pa_cons (pv 0) pa_nil))) (pa_cons (pe_xf (pe_sup T.s_BadNumber T.g_BadNumber hr (by rfl) (pa_cons (pv 0) pa_nil))) (pa_cons (pe_xf (pe_sup T.s_BadShown T.g_BadShown hr (by rfl) (pa_cons (pv 0) pa_nil))) (pa_cons (pe_xf (pe_sup T.s_BadJournal T.g_BadJournal hr (by rfl) (pa_cons (pv 0) pa_nil))) pa_nil)))))))
      (pss_cons (ps_set (i := 1) sc__law_named.nd rfl (Or.inl rfl) (pe_op op_cat (pv 1) (pe_lst (pa_cons (pe_xf (pe_sup T.s_BadText T.g_BadText hr (by rfl) (pa_cons (pv 0) pa_nil))) (pa_cons (pe_xf (pe_supK T.s_BadPack T.g_BadPack hr (by rfl) (pk_cons (pv 0) pk_nil))) (pa_cons (pe_xf (pe_supK T.s_BadPlan T.g_BadPlan hr (by rfl) (pk_cons (pv 0) pk_nil))) (pa_cons (pe_xf (pe_supK T.s_BadFit T.g_BadFit hr (by rfl) (pk_cons (pv 0) pk_nil))) pa_nil)))))))
      (pss_cons (ps_set (i := 1) sc__law_named.nd rfl (Or.inl rfl) (pe_op op_cat (pv 1) (pe_lst (pa_cons (pe_xf (pe_supK T.s_TooMany T.g_TooMany hr (by rfl) (pk_cons (pv 0) pk_nil))) (pa_cons (pe_xf (pe_supK T.s_NoPack T.g_NoPack hr (by rfl) (pk_cons (pv 0) pk_nil))) (pa_cons (pe_xf (pe_supK T.s_Rolled T.g_Rolled hr (by rfl) (pk_cons (pv 0) pk_nil))) pa_nil))))))
      (pss_cons (ps_set (i := 1) sc__law_named.nd rfl (Or.inl rfl) (pe_op op_cat (pv 1) (pe_lst (pa_cons (pe_xf (pe_supK T.s_NoCell T.g_NoCell hr (by rfl) (pk_cons (pv 0) pk_nil))) (pa_cons (pe_xf (pe_supK T.s_BadDeed T.g_BadDeed hr (by rfl) (pk_cons (pv 0) pk_nil))) (pa_cons (pe_xf (pe_supK T.s_BadSide T.g_BadSide hr (by rfl) (pk_cons (pv 0) pk_nil))) (pa_cons (pe_xf (pe_supK T.s_BadRow T.g_BadRow hr (by rfl) (pk_cons (pv 0) pk_nil))) pa_nil)))))))
      (pss_cons (ps_set (i := 1) sc__law_named.nd rfl (Or.inl rfl) (pe_op op_cat (pv 1) (pe_lst (pa_cons (pe_xf (pe_supK T.s_BadDay T.g_BadDay hr (by rfl) (pk_cons (pv 0) pk_nil))) (pa_cons (pe_xf (pe_supK T.s_BadNumber T.g_BadNumber hr (by rfl) (pk_cons (pv 0) pk_nil))) (pa_cons (pe_xf (pe_supK T.s_BadShown T.g_BadShown hr (by rfl) (pk_cons (pv 0) pk_nil))) pa_nil))))))
      (pss_cons (ps_set (i := 1) sc__law_named.nd rfl (Or.inl rfl) (pe_op op_cat (pv 1) (pe_lst (pa_cons (pe_xf (pe_supK T.s_BadJournal T.g_BadJournal hr (by rfl) (pk_cons (pv 0) pk_nil))) (pa_cons (pe_xf (pe_supK T.s_BadText T.g_BadText hr (by rfl) (pk_cons (pv 0) pk_nil))) pa_nil)))))
      (pss_one (ps_ret (pe_cmpR (op_nilEq hr.units0) (pe_lc (own := [("_law_thing", 2)]) (by rfl) sc__law_named.nd (pi_list (pv 1)) (blkOk_by (own := [("_law_thing", 2)]) (N := N__law_named) (sc := defScope s__law_named) (by decide +kernel)) (fun _ _ _ _ _ => (pg_name (i := 2) sc__law_named.nd rfl (Or.inl rfl))) (fun _ _ _ _ _ => (pts_one (pt_cmpR op_ne (pe_callB (call_repr (K := K) rfl hgd (u80 hr)) (by rfl) T.n_repr (by decide +kernel) (pa_cons (pv 2) pa_nil)) (pe_callB (call_repr (K := K) rfl hgd (u80 hr)) (by rfl) T.n_repr (by decide +kernel) (pa_cons (pv 0) pa_nil)) (nomark _)))) (fun _ _ _ _ _ => pe_int)) (pe_lst pa_nil) (nomark _)))))))))))), ?_⟩
    refine Evl.q_asgL (Evl.el_lst (Evl.ea_cons (ev_supf (Evl.ea_cons (Evl.ev_var rfl) Evl.ea_nil) (T.x_all 0 (by decide)) T.s_BadPack.noF) (Evl.ea_cons (ev_supf (Evl.ea_cons (Evl.ev_var rfl) Evl.ea_nil) (T.x_all 1 (by decide)) T.s_BadPlan.noF) (Evl.ea_cons (ev_supf (Evl.ea_cons (Evl.ev_var rfl) Evl.ea_nil) (T.x_all 2 (by decide)) T.s_BadFit.noF) (Evl.ea_cons (ev_supf (Evl.ea_cons (Evl.ev_var rfl) Evl.ea_nil) (T.x_all 3 (by decide)) T.s_TooMany.noF) (Evl.ea_cons (ev_supf (Evl.ea_cons (Evl.ev_var rfl) Evl.ea_nil) (T.x_all 4 (by decide)) T.s_NoPack.noF) Evl.ea_nil))))) (by simp)) (fun p1 H1 np1 e1 hp1 => ?_)
    refine Evl.q_asgL (el_cat hp1 (Evl.ev_var rfl) (Evl.el_lst (Evl.ea_cons (ev_supf (Evl.ea_cons (Evl.ev_var rfl) Evl.ea_nil) (T.x_all 5 (by decide)) T.s_Rolled.noF) (Evl.ea_cons (ev_supf (Evl.ea_cons (Evl.ev_var rfl) Evl.ea_nil) (T.x_all 6 (by decide)) T.s_NoCell.noF) (Evl.ea_cons (ev_supf (Evl.ea_cons (Evl.ev_var rfl) Evl.ea_nil) (T.x_all 11 (by decide)) T.s_BadDeed.noF) (Evl.ea_cons (ev_supf (Evl.ea_cons (Evl.ev_var rfl) Evl.ea_nil) (T.x_all 12 (by decide)) T.s_BadSide.noF) (Evl.ea_cons (ev_supf (Evl.ea_cons (Evl.ev_var rfl) Evl.ea_nil) (T.x_all 14 (by decide)) T.s_BadRow.noF) Evl.ea_nil))))) (by simp)) (by simp)) (fun p2 H2 np2 e2 hp2 => ?_)
    refine Evl.q_asgL (el_cat hp2 (Evl.ev_var rfl) (Evl.el_lst (Evl.ea_cons (ev_supf (Evl.ea_cons (Evl.ev_var rfl) Evl.ea_nil) (T.x_all 18 (by decide)) T.s_BadDay.noF) (Evl.ea_cons (ev_supf (Evl.ea_cons (Evl.ev_var rfl) Evl.ea_nil) (T.x_all 19 (by decide)) T.s_BadNumber.noF) (Evl.ea_cons (ev_supf (Evl.ea_cons (Evl.ev_var rfl) Evl.ea_nil) (T.x_all 21 (by decide)) T.s_BadShown.noF) (Evl.ea_cons (ev_supf (Evl.ea_cons (Evl.ev_var rfl) Evl.ea_nil) (T.x_all 23 (by decide)) T.s_BadJournal.noF) Evl.ea_nil)))) (by simp)) (by simp)) (fun p3 H3 np3 e3 hp3 => ?_)
    refine Evl.q_asgL (el_cat hp3 (Evl.ev_var rfl) (Evl.el_lst (Evl.ea_cons (ev_supf (Evl.ea_cons (Evl.ev_var rfl) Evl.ea_nil) (T.x_all 24 (by decide)) T.s_BadText.noF) (Evl.ea_cons (ev_supf (Evl.ea_cons (Evl.ev_var rfl) Evl.ea_nil) (T.x_all 0 (by decide)) T.s_BadPack.noF) (Evl.ea_cons (ev_supf (Evl.ea_cons (Evl.ev_var rfl) Evl.ea_nil) (T.x_all 1 (by decide)) T.s_BadPlan.noF) (Evl.ea_cons (ev_supf (Evl.ea_cons (Evl.ev_var rfl) Evl.ea_nil) (T.x_all 2 (by decide)) T.s_BadFit.noF) Evl.ea_nil)))) (by simp)) (by simp)) (fun p4 H4 np4 e4 hp4 => ?_)
    refine Evl.q_asgL (el_cat hp4 (Evl.ev_var rfl) (Evl.el_lst (Evl.ea_cons (ev_supf (Evl.ea_cons (Evl.ev_var rfl) Evl.ea_nil) (T.x_all 3 (by decide)) T.s_TooMany.noF) (Evl.ea_cons (ev_supf (Evl.ea_cons (Evl.ev_var rfl) Evl.ea_nil) (T.x_all 4 (by decide)) T.s_NoPack.noF) (Evl.ea_cons (ev_supf (Evl.ea_cons (Evl.ev_var rfl) Evl.ea_nil) (T.x_all 5 (by decide)) T.s_Rolled.noF) Evl.ea_nil))) (by simp)) (by simp)) (fun p5 H5 np5 e5 hp5 => ?_)
    refine Evl.q_asgL (el_cat hp5 (Evl.ev_var rfl) (Evl.el_lst (Evl.ea_cons (ev_supf (Evl.ea_cons (Evl.ev_var rfl) Evl.ea_nil) (T.x_all 6 (by decide)) T.s_NoCell.noF) (Evl.ea_cons (ev_supf (Evl.ea_cons (Evl.ev_var rfl) Evl.ea_nil) (T.x_all 11 (by decide)) T.s_BadDeed.noF) (Evl.ea_cons (ev_supf (Evl.ea_cons (Evl.ev_var rfl) Evl.ea_nil) (T.x_all 12 (by decide)) T.s_BadSide.noF) (Evl.ea_cons (ev_supf (Evl.ea_cons (Evl.ev_var rfl) Evl.ea_nil) (T.x_all 14 (by decide)) T.s_BadRow.noF) Evl.ea_nil)))) (by simp)) (by simp)) (fun p6 H6 np6 e6 hp6 => ?_)
    refine Evl.q_asgL (el_cat hp6 (Evl.ev_var rfl) (Evl.el_lst (Evl.ea_cons (ev_supf (Evl.ea_cons (Evl.ev_var rfl) Evl.ea_nil) (T.x_all 18 (by decide)) T.s_BadDay.noF) (Evl.ea_cons (ev_supf (Evl.ea_cons (Evl.ev_var rfl) Evl.ea_nil) (T.x_all 19 (by decide)) T.s_BadNumber.noF) (Evl.ea_cons (ev_supf (Evl.ea_cons (Evl.ev_var rfl) Evl.ea_nil) (T.x_all 21 (by decide)) T.s_BadShown.noF) Evl.ea_nil))) (by simp)) (by simp)) (fun p7 H7 np7 e7 hp7 => ?_)
    refine Evl.q_asgL (el_cat hp7 (Evl.ev_var rfl) (Evl.el_lst (Evl.ea_cons (ev_supf (Evl.ea_cons (Evl.ev_var rfl) Evl.ea_nil) (T.x_all 23 (by decide)) T.s_BadJournal.noF) (Evl.ea_cons (ev_supf (Evl.ea_cons (Evl.ev_var rfl) Evl.ea_nil) (T.x_all 24 (by decide)) T.s_BadText.noF) Evl.ea_nil)) (by simp)) (by simp)) (fun p8 H8 np8 e8 hp8 => ?_)
    have eH := (((((((e1.trans e2).trans e3).trans e4).trans e5).trans e6).trans e7).trans e8)
    have hvn := hv.mono eH
    refine ⟨_, rfl, _, rfl, ⟨_, SqL.of hp8⟩, fun D nD => ?_⟩
    refine lc_list (K := K) (xs := _) (fun _ H' => Evl.Ex H8 H' ∧ H' D = some (.lst [])) ⟨Evl.Ex.new nD, upd_same⟩ (fun _ _ _ h => Evl.ex_l h.1 (SqL.of hp8)) ?_ ?_
    · rintro i x Hi hi ⟨ei, hD⟩
      have hx : x = v := by
        have m := List.mem_of_getElem? hi
        simpa using m
      subst hx
      obtain ⟨d, r1, r2, r3, r4⟩ := hvn.mono ei
      refine ⟨rfl, ?_⟩
      refine ⟨_, rfl, _, d, rfl, r1, r2, r3, r4, _, rfl, _, d, rfl, r1, r2, r3, r4, rfl, _, rfl, ?_⟩
      exact iteNS rfl ⟨ei, hD⟩
    · rintro Hi ⟨ei, hD⟩
      refine ⟨Nat.zero_le _, fun p np => ⟨D, p, [], rfl, rfl, ?_, SqL.of upd_same, ?_⟩⟩
      · exact Evl.ex_l (Evl.Ex.new np) (SqL.of hD)
      · exact q _ ((eH.trans ei).trans (Evl.Ex.new np))
end

end ND
namespace ND
open PySem PySem.Spec PyProof.Rows L2
section
variable {P : Program} {w : World} {K : PySem.W.Frag} {mg : Str → Option Value} {base : Heap}
def menu (t0 l1 d1 t2 : Addr) : List V := [.non, .int 0, .int (-1), .bl true, .str "x", .str "", .ref t0, .ref l1, .ref d1, .int (10 ^ (29 : Int).toNat), .ref t2, .str "abc {}0"]
theorem rpr_dat {H : Hp} {v : V} {d : PyData} (h : Dp K H v d) (h1 : d.hasDict = false) (h2 : d.showable = true) (h3 : d.depth ≤ 64) (h4 : d.shown.length ≤ sizeLine) : Rpr K H v := ⟨d, .dat h h1, h2, h3, h4⟩
theorem menu_rpr {H : Hp} {t0 l1 d1 t2 : Addr} {v : V} (h0 : H t0 = some (.tup [])) (h1 : H l1 = some (.lst [.int 1])) (h2 : H d1 = some (.dK [(kS "a", .int 2)])) (h3 : H t2 = some (.tup [.str "a", .int 1])) (hv : v ∈ menu t0 l1 d1 t2) : Rpr K H v := by
  unfold menu at hv
  simp only [List.mem_cons, List.not_mem_nil, or_false] at hv
  rcases hv with rfl | rfl | rfl | rfl | rfl | rfl | rfl | rfl | rfl | rfl | rfl | rfl
  · exact rpr_dat .non (by decide) (by decide) (by decide) (by decide +kernel)
  · exact rpr_dat (.int _) (by decide) (by decide) (by decide) (by decide +kernel)
  · exact rpr_dat (.int _) (by decide) (by decide) (by decide) (by decide +kernel)
  · exact rpr_dat (.bl _) (by decide) (by decide) (by decide) (by decide +kernel)
  · exact rpr_dat (.str _) (by decide) (by decide) (by decide) (by decide +kernel)
  · exact rpr_dat (.str _) (by decide) (by decide) (by decide) (by decide +kernel)
  · exact rpr_dat (.tup (SqT.of h0) .nil) (by decide) (by decide) (by decide) (by decide +kernel)
  · exact rpr_dat (.lst (SqL.of h1) (.cons (.int 1) .nil)) (by decide) (by decide) (by decide) (by decide +kernel)
  · exact ⟨_, .dic h2 (.cons rfl .nil), by decide, by decide, by decide +kernel⟩
  · exact rpr_dat (.int _) (by decide) (by decide +kernel) (by decide) (by decide +kernel)
  · exact rpr_dat (.tup (SqT.of h3) (.cons (.str _) (.cons (.int 1) .nil))) (by decide) (by decide) (by decide) (by decide +kernel)
  · exact rpr_dat (.str _) (by decide) (by decide) (by decide) (by decide +kernel)
/-- two lists of bools: told apart by their items -/
theorem dpAll_bls {H : Hp} : ∀ bs : List Bool, DpAll K H (bs.map V.bl) (bs.map PyData.bool)
  | [] => .nil
  | b :: bs => .cons (.bl b) (dpAll_bls bs)
theorem eqvAll_bls : ∀ bs : List Bool, PyData.eqvAll (bs.map PyData.bool) (bs.map PyData.bool) = true
  | [] => rfl
  | b :: bs => by
    show (PyData.eqv (.bool b) (.bool b) && PyData.eqvAll (bs.map PyData.bool) (bs.map PyData.bool)) = true
    rw [eqvAll_bls bs]
    cases b <;> rfl
theorem shaped_bls : ∀ bs : List Bool, SeqAt.shaped (.list (bs.map PyData.bool)) = true := fun bs => by
  have h1 : ∀ bs : List Bool, PyData.canLayAll0 (bs.map PyData.bool) = true := fun bs => by
    induction bs with
    | nil => rfl
    | cons b bs ih => exact ih
  have h2 : ∀ bs : List Bool, PyData.depthAll (bs.map PyData.bool) ≤ 1 := fun bs => by
    induction bs with
    | nil => decide
    | cons b bs ih =>
      show max (PyData.depth (.bool b)) (PyData.depthAll (bs.map PyData.bool)) ≤ 1
      exact Nat.max_le.mpr ⟨Nat.zero_le _, ih⟩
  unfold SeqAt.shaped
  rw [Bool.and_eq_true]
  refine ⟨h1 bs, decide_eq_true ?_⟩
  have := h2 bs
  show PyData.depthAll (bs.map PyData.bool) + 1 ≤ 64
  omega
end

end ND
namespace ND
open PySem PySem.Spec PyProof.Rows L2
section
variable {P : Program} {w : World} {K : PySem.W.Frag} {mg : Str → Option Value} {base : Heap}
theorem Draw.ex_mono {d aw ac : Addr} {T : Nat} {H H' : Hp} (e : Evl.Ex H H') (h : Draw K d aw ac T H) : Draw K d aw ac T H' := by
  obtain ⟨⟨ws, cs, r, t, hd, hw, hc, rest⟩, hne⟩ := h
  exact ⟨⟨ws, cs, r, t, e _ _ hd, e _ _ hw, e _ _ hc, rest⟩, hne⟩
def spLaw (K : PySem.W.Frag) : Sp := fun vs H Q _ => ∃ (a : Addr) (ns : List Int), vs = [.ref a] ∧ SqL K H a (ns.map V.int) ∧ ns.length ≤ 63 ∧ ∀ H', Q (.bl true) H'
theorem ok_law {f : Addr} {fd : FuncData} (F : FnP K "law" "law" s_law f fd) (T : Tx P w K mg base) : FnG P w K mg base 4 f fd ["_law_script"] (spLaw K) := by
  refine FunD.okG (k := 3) F sc_law (fun vs H Q E h => ?_) (fun cdv A outer s H vs Q E hgd hr h => ?_)
  · obtain ⟨a, ns, rfl, _⟩ := h
    rfl
  · obtain ⟨a, ns, rfl, hS, hl, q⟩ := h
    refine ⟨_, (pss_cons (ps_set (i := 1) sc_law.nd rfl (Or.inl rfl) (pe_g (ok__law_begun T) (hr.mono (by decide)) (by rfl) passL (pa_cons (pv 0) pa_nil)))
      (pss_cons (ps_for (passes_of rfl) rfl (pi_range1 (by rfl) T.n_range (pa_cons (pe_op op_add pe_int (pe_callB (call_min2 rfl) (by rfl) T.n_min (by decide +kernel) (pa_cons (pe_callB call_len_seq (by rfl) T.n_len (by decide +kernel) (pa_cons (pv 0) pa_nil)) (pa_cons pe_int pa_nil)))) pa_nil)) (pg_name (i := 2) sc_law.nd rfl (Or.inl rfl)) (pss_cons (ps_set (i := 3) sc_law.nd rfl (Or.inl rfl) (pe_g (ok__law_pick T) (hr.mono (by decide)) (by rfl) passL (pa_cons (pv 1) (pa_cons (pe_lst (pa_cons pe_non (pa_cons pe_int (pa_cons (pe_un un_neg pe_int) (pa_cons pe_bl (pa_cons pe_str (pa_cons pe_str (pa_cons (pe_tup pa_nil) (pa_cons (pe_lst (pa_cons pe_int pa_nil)) (pa_cons (pe_disp (pps_cons pe_str pe_int pps_nil) (by rfl) (by rfl) (fun z => by cases z) (by decide)) (pa_cons (pe_op op_pow pe_int pe_int) (pa_cons (pe_tup (pa_cons pe_str (pa_cons pe_int pa_nil))) (pa_cons pe_str pa_nil))))))))))))) pa_nil))))
      (pss_cons (ps_if (pt_not (pt_val (pe_gg (ok__law_named T) hgd (hr.mono (by decide)) (by rfl) passL (pa_cons (pv 3) pa_nil)))) (pss_one (ps_ret pe_bl)) pss_nil)
      (pss_cons (ps_set (i := 4) sc_law.nd rfl (Or.inl rfl) (pe_g (ok__law_all_made T) (hr.mono (by decide)) (by rfl) passL (pa_cons (pv 3) pa_nil)))
      (pss_one (ps_for (passes_of rfl) rfl (pi_enum (by rfl) T.n_enumerate (pa_cons (pv 4) pa_nil)) (pg_tup rfl (pgs_cons (pg_name (i := 5) sc_law.nd rfl (Or.inr rfl)) (pgs_cons (pg_name (i := 6) sc_law.nd rfl (Or.inl rfl)) pgs_nil))) (pss_cons (ps_if (PW.pt (pw_or (pt_not (pt_val (pe_callB call_isx (by rfl) T.n_isinstance (by decide +kernel) (pa_cons (pv 6) (pa_cons (pe_cls (by rfl) T.g_PackError) pa_nil))))) (pw_or1 (pt_not (pt_val (pe_callB call_isx (by rfl) T.n_isinstance (by decide +kernel) (pa_cons (pv 6) (pa_cons (pe_bltn (v := .ty "ValueError") (by rfl) T.n_ValueError (by decide +kernel) rfl) pa_nil)))))))) (pss_one (ps_ret pe_bl)) pss_nil)
      (pss_one (ps_if (pt_cmpR (op_neD hr.units) (pe_g (ok__law_flags T) (hr.mono (by decide)) (by rfl) passL (pa_cons (pv 6) pa_nil)) (pe_lc (own := [("_law_k", 7)]) (by rfl) sc_law.nd (pi_range1 (by rfl) T.n_range (pa_cons (pe_callB call_len_seq (by rfl) T.n_len (by decide +kernel) (pa_cons (pv 4) pa_nil)) pa_nil)) (blkOk_by (own := [("_law_k", 7)]) (N := N_law) (sc := defScope s_law) (by decide +kernel)) (fun _ _ _ _ _ => (pg_name (i := 7) sc_law.nd rfl (Or.inl rfl))) (fun _ _ _ _ _ => pts_nil) (fun _ _ _ _ _ => (pe_cmpR op_eq (pv 7) (pv 5) (nomark _)))) (nomark _)) (pss_one (ps_ret pe_bl)) pss_nil)))))))))
      (pss_one (ps_ret (pe_and (pe_cmpR op_notIn_seq pe_bl (pe_g (ok__law_flags T) (hr.mono (by decide)) (by rfl) passL (pa_cons (pe_exc1 PySem.F.excBase_ValueError T.e_PackError.1 T.g_PackError T.e_PackError.2 (by rfl) pe_str) pa_nil)) (by rfl)) (pe_one (pe_callB call_isx (by rfl) T.n_isinstance (by decide +kernel) (pa_cons (pe_exc1 PySem.F.excBase_ValueError T.e_PackError.1 T.g_PackError T.e_PackError.2 (by rfl) pe_str) (pa_cons (pe_bltn (v := .ty "ValueError") (by rfl) T.n_ValueError (by decide +kernel) rfl) pa_nil))))))))), ?_⟩
    refine ⟨_, rfl, a, ns, rfl, hS, hl, fun d aw ac H1 hD s1 nd naw => ?_⟩
    have hlm : (ns.map V.int).length = ns.length := List.length_map ..
    refine ⟨_, rfl, a, ns.map V.int, rfl, .inl (s1.seq hS), _, _, rfl, 2, _, rfl, rfl, _, rfl, ?_, ?_, ?_⟩
    · rw [hlm]
      split <;> omega
    · rw [hlm]
      split <;> omega
    generalize hn : (2 + (if (6 : Int) < ((ns.map V.int).length : Int) then 6 else ((ns.map V.int).length : Int))) = n
    have hn8 : n ≤ 8 := by
      rw [← hn, hlm]
      split <;> omega
    refine for_range (lo := 0) (n := n.toNat) (fun i σ H' => ∃ y2 y3 y4 y5 y6 y7, σ = [some (.ref a), some (.ref d), y2, y3, y4, y5, y6, y7] ∧ Draw K d aw ac i H') ⟨none, none, none, none, none, none, rfl, hD⟩ ?_ ?_
    · rintro i σ H2 hi ⟨y2, y3, y4, y5, y6, y7, rfl, hD2⟩
      have hi8 : i < 8 := by omega
      obtain ⟨⟨ws, cs, r, t, hd2, hw2, hc2, hrest⟩, hne⟩ := hD2
      refine ⟨_, rfl, 1, rfl, Nat.zero_le _, fun t0 n0 => ⟨by decide, fun l1 n1 d1 n2 => ⟨upd_same, [(kS "a", .int 2)], rfl, by decide, 10, 29, rfl, rfl, ⟨by decide, by decide, by decide⟩, by decide, fun t2 n3 => ⟨(show 12 ≤ sizeLine by decide), fun l n4 => ?_⟩⟩⟩⟩
      rw [upd_upd] at n3 n4 ⊢
      generalize hHa : upd H2 t0 (.tup []) = Ha at n1 n2 n3 n4 ⊢
      generalize hHb : upd Ha l1 (.lst [.int 1]) = Hb at n2 n3 n4 ⊢
      generalize hHc : upd Hb d1 (.dK (mergeK [] [(kS "a", .int 2)])) = Hc at n3 n4 ⊢
      generalize hHd : upd Hc t2 (.tup [.str "a", .int 1]) = Hd at n4 ⊢
      generalize hHe : upd Hd l _ = He
      have ea : Evl.Ex H2 Ha := by rw [← hHa]; exact Evl.Ex.new n0
      have eb : Evl.Ex Ha Hb := by rw [← hHb]; exact Evl.Ex.new n1
      have ec : Evl.Ex Hb Hc := by rw [← hHc]; exact Evl.Ex.new n2
      have ed : Evl.Ex Hc Hd := by rw [← hHd]; exact Evl.Ex.new n3
      have ee : Evl.Ex Hd He := by rw [← hHe]; exact Evl.Ex.new n4
      have h0 : He t0 = some (.tup []) := ee _ _ (ed _ _ (ec _ _ (eb _ _ (by rw [← hHa]; exact upd_same))))
      have h1 : He l1 = some (.lst [.int 1]) := ee _ _ (ed _ _ (ec _ _ (by rw [← hHb]; exact upd_same)))
      have h2 : He d1 = some (.dK [(kS "a", .int 2)]) := ee _ _ (ed _ _ (by rw [← hHc]; exact upd_same))
      have h3 : He t2 = some (.tup [.str "a", .int 1]) := ee _ _ (by rw [← hHd]; exact upd_same)
      have h4 : He l = some (.lst (menu t0 l1 d1 t2)) := by rw [← hHe]; exact upd_same
      have e2 : Evl.Ex H2 He := ea.trans (eb.trans (ec.trans (ed.trans ee)))
      have nf : ∀ b o, H2 b = some o → b ≠ t0 ∧ b ≠ l1 ∧ b ≠ d1 ∧ b ≠ t2 ∧ b ≠ l := fun b o e => ⟨ne_of_none e n0, ne_of_none (ea _ _ e) n1, ne_of_none (eb _ _ (ea _ _ e)) n2, ne_of_none (ec _ _ (eb _ _ (ea _ _ e))) n3, ne_of_none (ed _ _ (ec _ _ (eb _ _ (ea _ _ e)))) n4⟩
      obtain ⟨a1, a2, a3, a4, a5⟩ := nf _ _ hd2
      obtain ⟨b1, b2, b3, b4, b5⟩ := nf _ _ hw2
      refine ⟨d, aw, ac, l, i, menu t0 l1 d1 t2, rfl, ⟨⟨ws, cs, r, t, e2 _ _ hd2, e2 _ _ hw2, e2 _ _ hc2, hrest⟩, hne⟩, by omega, b5.symm, h4, by show 0 < 12; decide, by show 12 < 1000000; decide, fun v H3 hv hD3 hK => ?_⟩
      have hR : Rpr K H3 v := menu_rpr (hK _ _ a1.symm b1.symm h0) (hK _ _ a2.symm b2.symm h1) (hK _ _ a3.symm b3.symm h2) (hK _ _ a4.symm b4.symm h3) hv
      -- if not _law_named(what)
      refine ⟨_, rfl, v, rfl, hR, fun H4 e4 => ⟨true, rfl, ?_⟩⟩
      refine iteF ?_
      -- some = _law_all_made(what)
      refine ⟨_, rfl, v, rfl, fun p us H5 np e5 hp xs => ?_⟩
      have lus : us.length = 25 := by rw [xs.length]; simp
      -- for spot, error in enumerate(some)
      refine ⟨_, rfl, p, us, rfl, SqL.of hp, ?_⟩
      refine for_it walk_enum (fun j σ H' => ∃ y5 y6 y7, σ = [some (.ref a), some (.ref d), some (.int (0 + (i : Int))), some v, some (.ref p), y5, y6, y7] ∧ Evl.Ex H5 H') ⟨_, _, _, rfl, Evl.Ex.refl _⟩ (fun _ _ _ _ h => by obtain ⟨_, _, _, _, e⟩ := h; exact Evl.ex_l e (SqL.of hp)) ?_ ?_
      · rintro j x σ H6 H7 hj ⟨y5, y6, y7, rfl, e6⟩ ⟨T0, x1, x2, rfl, nT, rfl, f1, f2⟩
        cases f1
        obtain ⟨er, Ce, rfl, hC, hX⟩ := xs.at f2
        have hj25 : j < 25 := by omega
        have hCe : Ce = cad K j := by
          rw [List.getElem?_map, List.getElem?_range hj25] at hC
          exact (Option.some.inj hC).symm
        subst hCe
        have e7 : Evl.Ex H6 (upd H6 T0 (.tup [.int (j : Nat), .ref er])) := Evl.Ex.new nT
        have hX7 : IsX (upd H6 T0 (.tup [.int (j : Nat), .ref er])) er (cad K j) := hX.mono (e6.trans e7)
        refine ⟨T0, _, rfl, SqT.of upd_same, rfl, _, _, rfl, _, _, rfl, rfl, ?_⟩
        generalize upd H6 T0 (.tup [.int (j : Nat), .ref er]) = H7 at e7 hX7 ⊢
        have TX := T.x_all j hj25
        refine ⟨_, rfl, er, cad K j, _, _, true, rfl, hX7, TX, ClsV.own _, T.kitP j hj25, true, rfl, ?_⟩
        refine iteF ?_
        refine ⟨_, rfl, er, cad K j, _, _, true, rfl, hX7, TX, ClsV.ty _, T.kitV j hj25, true, rfl, ?_⟩
        refine iteF ?_
        -- the flags
        refine ⟨_, rfl, er, cad K j, fun k => decide (j = k), rfl, hX7, TX, fun k hk => T.kit j k hj25 hk, fun p2 H8 np2 e8 hp2 => ?_⟩
        have eH8 : Evl.Ex H5 H8 := (e6.trans e7).trans e8
        refine ⟨_, rfl, p, us, rfl, .inl (Evl.ex_l eH8 (SqL.of hp)), _, rfl, ?_, ?_, fun D nD => ?_⟩
        · rw [lus]; decide
        · rw [lus]; decide
        rw [lus]
        refine lc_range (lo := 0) (n := 25) (fun k H' => Evl.Ex H8 H' ∧ H' D = some (.lst (((List.range k).map fun m => decide (j = m)).map V.bl))) ⟨Evl.Ex.new nD, upd_same⟩ ?_ ?_
        · rintro k H9 hk ⟨e9, hD9⟩
          refine ⟨rfl, ?_⟩
          refine ⟨_, rfl, _, rfl, rfl, _, hD9, ?_, Evl.Ex.mut e9 nD, ?_⟩
          · rw [List.length_map, List.length_map, List.length_range]
            exact sz63 (by omega)
          · rw [upd_same, List.range_succ, List.map_append, List.map_append]
            have e0 : decide (V.int (0 + (k : Int)) = V.int ((j : Nat) : Int)) = decide (j = k) := by
              by_cases hh : j = k
              · subst hh
                rw [decide_eq_true rfl]
                exact decide_eq_true (by rw [Int.zero_add])
              · rw [decide_eq_false hh]
                refine decide_eq_false (fun z => ?_)
                injection z with z
                omega
            rw [e0]
            rfl
        · rintro H9 ⟨e9, hD9⟩
          refine ⟨_, _, .lst (SqL.of (xs := ((List.range 25).map fun m => decide (j = m)).map V.bl) ?_) (dpAll_bls _), .lst (SqL.of hD9) (dpAll_bls _), shaped_bls _, shaped_bls _, _, rfl, ?_⟩
          · rw [List.map_map]
            exact e9 _ _ hp2
          · have z : PyData.eqv (.list (((List.range 25).map fun m => decide (j = m)).map PyData.bool)) (.list (((List.range 25).map fun m => decide (j = m)).map PyData.bool)) = true := eqvAll_bls _
            rw [z]
            exact iteF ⟨_, _, _, rfl, eH8.trans e9⟩
      · rintro σ H6 ⟨y5, y6, y7, rfl, e6⟩
        exact ⟨_, _, _, _, _, _, rfl, (hD3.ex_mono e4).ex_mono (e5.trans e6)⟩
    · rintro σ H2 ⟨y2, y3, y4, y5, y6, y7, rfl, hD2⟩
      intro e1 ne1
      refine ⟨e1, He.ga K "PackError", fun _ => false, rfl, .bare upd_same, T.x_PackError, fun k hk => T.kitN k hk, fun p H3 np e3 hp => ?_⟩
      refine ⟨p, _, rfl, .inl (SqL.of hp), rfl, by decide, true, by decide, ?_⟩
      refine iteT ?_
      intro e2 ne2
      exact ⟨e2, He.ga K "PackError", _, _, true, rfl, .bare upd_same, T.x_PackError, ClsV.ty _, T.kitPV, q _⟩
end

end ND
namespace ND
open PySem PySem.Spec PyProof.Rows L2
def fa0 : List He.Fa := [.glo "_law_begun", .glo "_law_mixed", .glo "_law_take", .glo "_law_pick", .glo "_law_flags", .glo "_law_all_made", .glo "_law_named", .glo "law", .glo "PackError", .glo "BadPack", .glo "BadPlan", .glo "BadFit"]
def fa1 : List He.Fa := [.glo "TooMany", .glo "NoPack", .glo "Rolled", .glo "NoCell", .glo "BadState", .glo "NoNight", .glo "BadOrder", .glo "BadChoice", .glo "BadDeed", .glo "BadSide", .glo "Unlike", .glo "BadRow"]
def fa2 : List He.Fa := [.glo "NotPlain", .glo "NotStill", .glo "BadWorths", .glo "BadDay", .glo "BadNumber", .glo "BadBounds", .glo "BadShown", .glo "NothingDone", .glo "BadJournal", .glo "BadText", .free "ValueError", .free "abs"]
def fa3 : List He.Fa := [.free "enumerate", .free "int", .free "isinstance", .free "len", .free "min", .free "range", .free "repr", .exc "PackError", .exc "BadState", .exc "NoNight", .exc "BadOrder", .exc "BadChoice"]
def fa4 : List He.Fa := [.exc "Unlike", .exc "NotPlain", .exc "NotStill", .exc "BadWorths", .exc "BadBounds", .exc "NothingDone"]
def fa : List He.Fa := fa0 ++ fa1 ++ fa2 ++ fa3 ++ fa4
def dd__law_begun : He.DefD := ⟨("_law_begun", none), "_law_begun", "_law_begun", defArgs s__law_begun, defBody s__law_begun, defScope s__law_begun, [], []⟩
def dd__law_mixed : He.DefD := ⟨("_law_mixed", none), "_law_mixed", "_law_mixed", defArgs s__law_mixed, defBody s__law_mixed, defScope s__law_mixed, [], []⟩
def dd__law_take : He.DefD := ⟨("_law_take", none), "_law_take", "_law_take", defArgs s__law_take, defBody s__law_take, defScope s__law_take, [], []⟩
def dd__law_pick : He.DefD := ⟨("_law_pick", none), "_law_pick", "_law_pick", defArgs s__law_pick, defBody s__law_pick, defScope s__law_pick, [], []⟩
def dd__law_flags : He.DefD := ⟨("_law_flags", none), "_law_flags", "_law_flags", defArgs s__law_flags, defBody s__law_flags, defScope s__law_flags, [], []⟩
def dd__law_all_made : He.DefD := ⟨("_law_all_made", none), "_law_all_made", "_law_all_made", defArgs s__law_all_made, defBody s__law_all_made, defScope s__law_all_made, [], []⟩
def dd__law_named : He.DefD := ⟨("_law_named", none), "_law_named", "_law_named", defArgs s__law_named, defBody s__law_named, defScope s__law_named, [], []⟩
def dd_law : He.DefD := ⟨("law", none), "law", "law", defArgs s_law, defBody s_law, defScope s_law, [], []⟩
def fn : List He.DefD := [dd__law_begun, dd__law_mixed, dd__law_take, dd__law_pick, dd__law_flags, dd__law_all_made, dd__law_named, dd_law]
def sd_BadPack : SupD := ⟨"BadPack", "part", s_BadPack___init__⟩
def sd_BadPlan : SupD := ⟨"BadPlan", "part", s_BadPlan___init__⟩
def sd_BadFit : SupD := ⟨"BadFit", "name", s_BadFit___init__⟩
def sd_TooMany : SupD := ⟨"TooMany", "most", s_TooMany___init__⟩
def sd_NoPack : SupD := ⟨"NoPack", "name", s_NoPack___init__⟩
def sd_Rolled : SupD := ⟨"Rolled", "name", s_Rolled___init__⟩
def sd_NoCell : SupD := ⟨"NoCell", "cell", s_NoCell___init__⟩
def sd_BadDeed : SupD := ⟨"BadDeed", "at", s_BadDeed___init__⟩
def sd_BadSide : SupD := ⟨"BadSide", "which", s_BadSide___init__⟩
def sd_BadRow : SupD := ⟨"BadRow", "at", s_BadRow___init__⟩
def sd_BadDay : SupD := ⟨"BadDay", "day", s_BadDay___init__⟩
def sd_BadNumber : SupD := ⟨"BadNumber", "number", s_BadNumber___init__⟩
def sd_BadShown : SupD := ⟨"BadShown", "at", s_BadShown___init__⟩
def sd_BadJournal : SupD := ⟨"BadJournal", "at", s_BadJournal___init__⟩
def sd_BadText : SupD := ⟨"BadText", "line", s_BadText___init__⟩
def sd : List SupD := [sd_BadPack, sd_BadPlan, sd_BadFit, sd_TooMany, sd_NoPack, sd_Rolled, sd_NoCell, sd_BadDeed, sd_BadSide, sd_BadRow, sd_BadDay, sd_BadNumber, sd_BadShown, sd_BadJournal, sd_BadText]
def supNames : List (Str × Str) := [("BadPack", "part"), ("BadPlan", "part"), ("BadFit", "name"), ("TooMany", "most"), ("NoPack", "name"), ("Rolled", "name"), ("NoCell", "cell"), ("BadDeed", "at"), ("BadSide", "which"), ("BadRow", "at"), ("BadDay", "day"), ("BadNumber", "number"), ("BadShown", "at"), ("BadJournal", "at"), ("BadText", "line")]
def allNames : List Str := "PackError" :: clsN
def kitB (K : PySem.W.Frag) : Bool := (List.range 25).all fun i => (List.range 25).all fun j => decide (PySem.W.kitOne K (.ref (cad K i)) (.ref (cad K j)) = some (decide (i = j)))
def kitP (K : PySem.W.Frag) : Bool := ((List.range 25).all fun i => decide (PySem.W.kitOne K (.ref (cad K i)) (.ref (He.ga K "PackError")) = some true) && (decide (PySem.W.kitOne K (.ref (cad K i)) (.type "ValueError") = some true) && decide (PySem.W.kitOne K (.ref (He.ga K "PackError")) (.ref (cad K i)) = some false))) && decide (PySem.W.kitOne K (.ref (He.ga K "PackError")) (.type "ValueError") = some true)
def exF (K : PySem.W.Frag) : Bool := (supNames.all fun p => supChk PySem.Challenge.pw_narrowdraws_k01_errors_by_hand K p.1 p.2) && ((allNames.all fun x => exkB K (He.ga K x)) && (kitB K && kitP K))
def names0 : List PySem.Str := ["_law_begun", "_law_mixed", "_law_take", "_law_pick", "_law_flags", "_law_all_made", "_law_named", "PackError", "BadPack", "BadPlan", "BadFit", "TooMany", "NoPack", "Rolled", "NoCell", "BadState", "NoNight", "BadOrder", "BadChoice", "BadDeed"]
def names1 : List PySem.Str := ["BadSide", "Unlike", "BadRow", "NotPlain", "NotStill", "BadWorths", "BadDay", "BadNumber", "BadBounds", "BadShown", "NothingDone", "BadJournal", "BadText"]
def names : List PySem.Str := names0 ++ names1
abbrev R : PySem.W.OpenRow := PySem.W.OpenLaw.row PySem.Challenge.rw_narrowdraws_k01_errors_by_hand
abbrev hk : PySem.W.Hook := hookN 6 fa fn sd exF
def ob (s : PySem.W.SharedT) : AlN := obsN 6 fa fn sd exF (HandSHeadRun.getT s)
theorem ob_eq (s : PySem.W.SharedT) : ob s = hk.obs s.abs := obsN_eq (HandSHeadRun.getT_eq s)
theorem run (w : World) : HandSHeadRun.RunEq R (PySem.W.view R.prog [35]) hk ob 20000 names w := by
  intro os
  kernel_rfl
end ND
namespace ND
open PySem PySem.Spec PyProof.Rows L2
section
variable {w : World} {K : PySem.W.Frag} {h base : Heap} {mg : Str → Option Value}
theorem fact_of (c : SaysN fa fn sd exF K) (i : Nat) {f : He.Fa} (h : fa[i]? = some f) : f.ok K = true := c.d.fact i h
theorem glo_of (X : K.In h) (G : h.Ns mainGlobals mg) (c : SaysN fa fn sd exF K) (i : Nat) {x : Str} (e : fa[i]? = some (.glo x)) : mg x = some (.ref (He.ga K x)) := He.glo_ok X G (fact_of c i e)
theorem free_of (X : K.In h) (G : h.Ns mainGlobals mg) (c : SaysN fa fn sd exF K) (i : Nat) {x : Str} (e : fa[i]? = some (.free x)) : mg x = none := He.free_ok X G (fact_of c i e)
theorem bare_of (c : SaysN fa fn sd exF K) (i : Nat) {x : Str} (e : fa[i]? = some (.exc x)) : PySem.W.excIn K (He.ga K x) He.veBase "ValueError.__new__" = true ∧ PySem.W.keepIn K (.ref (He.ga K x)) = true := ⟨(He.exc_ok (fact_of c i e)).1, (He.exc_ok (fact_of c i e)).2.1⟩
theorem def_of (X : K.In h) (G : h.Ns mainGlobals mg) (c : SaysN fa fn sd exF K) (i j : Nat) {x : Str} {st : Stmt} (e : fn[i]? = some ⟨(x, none), x, x, defArgs st, defBody st, defScope st, [], []⟩) (e2 : fa[j]? = some (.glo x)) : GFun K mg x st := by
  obtain ⟨fd, F⟩ := c.d.def_ i e
  exact ⟨⟨_, fd, F, glo_of X G c j e2⟩⟩
theorem exF_sup (c : SaysN fa fn sd exF K) (i : Nat) {x fld : Str} (e : supNames[i]? = some (x, fld)) : supChk PySem.Challenge.pw_narrowdraws_k01_errors_by_hand K x fld = true := by
  have z := (He.ba c.e).1
  exact List.all_eq_true.mp z (x, fld) (List.mem_of_getElem? e)
theorem exF_x (c : SaysN fa fn sd exF K) {x : Str} (e : x ∈ allNames) : ExcK K (He.ga K x) := by
  have z := (He.ba (He.ba c.e).2).1
  exact exkB_ok (List.all_eq_true.mp z x e)
theorem exF_kit (c : SaysN fa fn sd exF K) (i j : Nat) (hi : i < 25) (hj : j < 25) : PySem.W.kitOne K (.ref (cad K i)) (.ref (cad K j)) = some (decide (i = j)) := by
  have z := (He.ba (He.ba (He.ba c.e).2).2).1
  exact of_decide_eq_true (List.all_eq_true.mp (List.all_eq_true.mp z i (List.mem_range.mpr hi)) j (List.mem_range.mpr hj))
theorem exF_p (c : SaysN fa fn sd exF K) (i : Nat) (hi : i < 25) : PySem.W.kitOne K (.ref (cad K i)) (.ref (He.ga K "PackError")) = some true ∧ PySem.W.kitOne K (.ref (cad K i)) (.type "ValueError") = some true ∧ PySem.W.kitOne K (.ref (He.ga K "PackError")) (.ref (cad K i)) = some false := by
  have z := (He.ba (He.ba (He.ba (He.ba c.e).2).2).2).1
  have y := List.all_eq_true.mp z i (List.mem_range.mpr hi)
  exact ⟨of_decide_eq_true (He.ba y).1, of_decide_eq_true (He.ba (He.ba y).2).1, of_decide_eq_true (He.ba (He.ba y).2).2⟩
theorem cad_mem {i : Nat} (hi : i < 25) : clsN.getD i "" ∈ allNames := by
  have hl : i < clsN.length := hi
  rw [List.getD_eq_getElem?_getD, List.getElem?_eq_getElem hl]
  exact List.mem_cons_of_mem _ (List.getElem_mem hl)
theorem fok_at : FldOk "at" := ⟨by decide, by decide, by decide, by decide, by decide, by decide⟩
theorem fok_cell : FldOk "cell" := ⟨by decide, by decide, by decide, by decide, by decide, by decide⟩
theorem fok_day : FldOk "day" := ⟨by decide, by decide, by decide, by decide, by decide, by decide⟩
theorem fok_line : FldOk "line" := ⟨by decide, by decide, by decide, by decide, by decide, by decide⟩
theorem fok_most : FldOk "most" := ⟨by decide, by decide, by decide, by decide, by decide, by decide⟩
theorem fok_name : FldOk "name" := ⟨by decide, by decide, by decide, by decide, by decide, by decide⟩
theorem fok_number : FldOk "number" := ⟨by decide, by decide, by decide, by decide, by decide, by decide⟩
theorem fok_part : FldOk "part" := ⟨by decide, by decide, by decide, by decide, by decide, by decide⟩
theorem fok_which : FldOk "which" := ⟨by decide, by decide, by decide, by decide, by decide, by decide⟩
theorem tx_of (X : K.In h) (G : h.Ns mainGlobals mg) (c : SaysN fa fn sd exF K) : Tx PySem.Challenge.pw_narrowdraws_k01_errors_by_hand w K mg base where
  d__law_begun := def_of X G c 0 0 rfl rfl
  d__law_mixed := def_of X G c 1 1 rfl rfl
  d__law_take := def_of X G c 2 2 rfl rfl
  d__law_pick := def_of X G c 3 3 rfl rfl
  d__law_flags := def_of X G c 4 4 rfl rfl
  d__law_all_made := def_of X G c 5 5 rfl rfl
  d__law_named := def_of X G c 6 6 rfl rfl
  d_law := def_of X G c 7 7 rfl rfl
  n_ValueError := free_of X G c 34 rfl
  n_abs := free_of X G c 35 rfl
  n_enumerate := free_of X G c 36 rfl
  n_int := free_of X G c 37 rfl
  n_isinstance := free_of X G c 38 rfl
  n_len := free_of X G c 39 rfl
  n_min := free_of X G c 40 rfl
  n_range := free_of X G c 41 rfl
  n_repr := free_of X G c 42 rfl
  g_PackError := glo_of X G c 8 rfl
  g_BadPack := glo_of X G c 9 rfl
  g_BadPlan := glo_of X G c 10 rfl
  g_BadFit := glo_of X G c 11 rfl
  g_TooMany := glo_of X G c 12 rfl
  g_NoPack := glo_of X G c 13 rfl
  g_Rolled := glo_of X G c 14 rfl
  g_NoCell := glo_of X G c 15 rfl
  g_BadState := glo_of X G c 16 rfl
  g_NoNight := glo_of X G c 17 rfl
  g_BadOrder := glo_of X G c 18 rfl
  g_BadChoice := glo_of X G c 19 rfl
  g_BadDeed := glo_of X G c 20 rfl
  g_BadSide := glo_of X G c 21 rfl
  g_Unlike := glo_of X G c 22 rfl
  g_BadRow := glo_of X G c 23 rfl
  g_NotPlain := glo_of X G c 24 rfl
  g_NotStill := glo_of X G c 25 rfl
  g_BadWorths := glo_of X G c 26 rfl
  g_BadDay := glo_of X G c 27 rfl
  g_BadNumber := glo_of X G c 28 rfl
  g_BadBounds := glo_of X G c 29 rfl
  g_BadShown := glo_of X G c 30 rfl
  g_NothingDone := glo_of X G c 31 rfl
  g_BadJournal := glo_of X G c 32 rfl
  g_BadText := glo_of X G c 33 rfl
  s_BadPack := supC_of (d := sd_BadPack) (exF_sup c 0 rfl) (c.sup 0 rfl) fok_part (by decide +kernel) rfl rfl rfl (by decide) (fun _ _ _ _ _ _ _ _ _ => ⟨rfl, rfl⟩)
  s_BadPlan := supC_of (d := sd_BadPlan) (exF_sup c 1 rfl) (c.sup 1 rfl) fok_part (by decide +kernel) rfl rfl rfl (by decide) (fun _ _ _ _ _ _ _ _ _ => ⟨rfl, rfl⟩)
  s_BadFit := supC_of (d := sd_BadFit) (exF_sup c 2 rfl) (c.sup 2 rfl) fok_name (by decide +kernel) rfl rfl rfl (by decide) (fun _ _ _ _ _ _ _ _ _ => ⟨rfl, rfl⟩)
  s_TooMany := supC_of (d := sd_TooMany) (exF_sup c 3 rfl) (c.sup 3 rfl) fok_most (by decide +kernel) rfl rfl rfl (by decide) (fun _ _ _ _ _ _ _ _ _ => ⟨rfl, rfl⟩)
  s_NoPack := supC_of (d := sd_NoPack) (exF_sup c 4 rfl) (c.sup 4 rfl) fok_name (by decide +kernel) rfl rfl rfl (by decide) (fun _ _ _ _ _ _ _ _ _ => ⟨rfl, rfl⟩)
  s_Rolled := supC_of (d := sd_Rolled) (exF_sup c 5 rfl) (c.sup 5 rfl) fok_name (by decide +kernel) rfl rfl rfl (by decide) (fun _ _ _ _ _ _ _ _ _ => ⟨rfl, rfl⟩)
  s_NoCell := supC_of (d := sd_NoCell) (exF_sup c 6 rfl) (c.sup 6 rfl) fok_cell (by decide +kernel) rfl rfl rfl (by decide) (fun _ _ _ _ _ _ _ _ _ => ⟨rfl, rfl⟩)
  s_BadDeed := supC_of (d := sd_BadDeed) (exF_sup c 7 rfl) (c.sup 7 rfl) fok_at (by decide +kernel) rfl rfl rfl (by decide) (fun _ _ _ _ _ _ _ _ _ => ⟨rfl, rfl⟩)
  s_BadSide := supC_of (d := sd_BadSide) (exF_sup c 8 rfl) (c.sup 8 rfl) fok_which (by decide +kernel) rfl rfl rfl (by decide) (fun _ _ _ _ _ _ _ _ _ => ⟨rfl, rfl⟩)
  s_BadRow := supC_of (d := sd_BadRow) (exF_sup c 9 rfl) (c.sup 9 rfl) fok_at (by decide +kernel) rfl rfl rfl (by decide) (fun _ _ _ _ _ _ _ _ _ => ⟨rfl, rfl⟩)
  s_BadDay := supC_of (d := sd_BadDay) (exF_sup c 10 rfl) (c.sup 10 rfl) fok_day (by decide +kernel) rfl rfl rfl (by decide) (fun _ _ _ _ _ _ _ _ _ => ⟨rfl, rfl⟩)
  s_BadNumber := supC_of (d := sd_BadNumber) (exF_sup c 11 rfl) (c.sup 11 rfl) fok_number (by decide +kernel) rfl rfl rfl (by decide) (fun _ _ _ _ _ _ _ _ _ => ⟨rfl, rfl⟩)
  s_BadShown := supC_of (d := sd_BadShown) (exF_sup c 12 rfl) (c.sup 12 rfl) fok_at (by decide +kernel) rfl rfl rfl (by decide) (fun _ _ _ _ _ _ _ _ _ => ⟨rfl, rfl⟩)
  s_BadJournal := supC_of (d := sd_BadJournal) (exF_sup c 13 rfl) (c.sup 13 rfl) fok_at (by decide +kernel) rfl rfl rfl (by decide) (fun _ _ _ _ _ _ _ _ _ => ⟨rfl, rfl⟩)
  s_BadText := supC_of (d := sd_BadText) (exF_sup c 14 rfl) (c.sup 14 rfl) fok_line (by decide +kernel) rfl rfl rfl (by decide) (fun _ _ _ _ _ _ _ _ _ => ⟨rfl, rfl⟩)
  e_PackError := bare_of c 43 rfl
  e_BadState := bare_of c 44 rfl
  e_NoNight := bare_of c 45 rfl
  e_BadOrder := bare_of c 46 rfl
  e_BadChoice := bare_of c 47 rfl
  e_Unlike := bare_of c 48 rfl
  e_NotPlain := bare_of c 49 rfl
  e_NotStill := bare_of c 50 rfl
  e_BadWorths := bare_of c 51 rfl
  e_BadBounds := bare_of c 52 rfl
  e_NothingDone := bare_of c 53 rfl
  x_all := fun i hi => exF_x c (cad_mem hi)
  x_PackError := exF_x c List.mem_cons_self
  kit := fun i j hi hj => exF_kit c i j hi hj
  kitP := fun i hi => (exF_p c i hi).1
  kitV := fun i hi => (exF_p c i hi).2.1
  kitN := fun i hi => (exF_p c i hi).2.2
  kitPV := of_decide_eq_true (He.ba (He.ba (He.ba (He.ba c.e).2).2).2).2
end
end ND
open PySem PySem.W PySem.Calls PyProof.Rows
theorem PySem.Challenge.cw_narrowdraws_k01_errors_by_hand_holds : PySem.Challenge.rw_narrowdraws_k01_errors_by_hand.Holds := by
  w_on; o_law
  refine HandSHeadRun.head_any (r := OpenLaw.row PySem.Challenge.rw_narrowdraws_k01_errors_by_hand) (q := view (OpenLaw.row PySem.Challenge.rw_narrowdraws_k01_errors_by_hand).prog [35]) (H := ND.hk) (ob := ND.ob) (M := 20000) (loose := ND.names) (d := HandSHeadRun.topDef (OpenLaw.row PySem.Challenge.rw_narrowdraws_k01_errors_by_hand).prog 35) (kwd := []) ND.ob_eq
    (by kernel_rfl) (fun s => by kernel_rfl) ND.run (by kernel_rfl) (by kernel_rfl) (by kernel_rfl) (by rfl) (by first | assumption | decide +kernel) (by decide +kernel) ⟨rfl, rfl, rfl, rfl, rfl, by decide +kernel⟩ ?hw ?hc
  case hw => w_witness2
  case hc =>
    refine ND.walk_G (l := PySem.Challenge.rw_narrowdraws_k01_errors_by_hand) (n := 63) (k := 4) (x := "_law_script") rfl (by decide) (by kernel_rfl) ⟨rfl, by decide, by decide⟩ ?F
    intro w mg fa h Y G hmg0
    obtain ⟨K, KX, c⟩ := Y
    have hmg : mg ("law" : PySem.Str) = some (.ref fa) := by
      have e : (HandSHeadRun.topDef (OpenLaw.row PySem.Challenge.rw_narrowdraws_k01_errors_by_hand).prog 35).name = ("law" : PySem.Str) := by kernel_rfl
      rw [← e]
      exact hmg0
    obtain ⟨fd, F⟩ := c.d.def_ 7 (d := ND.dd_law) rfl
    have e := hmg.symm.trans (ND.glo_of KX G c 7 rfl)
    cases e
    have b := L2.FunD.bindsA (ps := ["_law_script"]) F fun _ _ _ _ _ _ us hl => match us, hl with | [_], _ => rfl
    exact ⟨K, fd, ND.spLaw K, KX, fun s v => b s [v] rfl, fun H a ns hl hS => ⟨a, ns, rfl, hS, hl, fun _ => rfl⟩, fun base hK hN => ND.ok_law (P := PySem.Challenge.pw_narrowdraws_k01_errors_by_hand) (w := w) F (ND.tx_of KX G c)⟩
