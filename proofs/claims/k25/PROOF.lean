import PyProof.Rows.All
import Wide.All
import OpenK.AllK
import Wide.FinOn
import KE.KStateDown
import HandS.ForMost
import HandS.ForExc
import HandS.Defaults
import HandS.Wide
import HandS.Evl
import HandS.HeadHook2
import HandS.IsInst
import KE.KExcSuper
import HandS.ExcInit
import HandS.ExcValue
import HandS.HeadWalk
import HandS.MakeKwOnly
import HandS.ExcIs
import KE.KExcIs
import HandS.HeadEnd
import HandS.Head0
import HandS.Head1
import HandS.Head2
import KE.SortData
import HandS.Property
import HandS.Lambda
import HandS.TupAny
import HandS.Style
import HandS.Strs
import KE.KRevSl
import HandS.Walk
import HandS.Star
import HandS.Zip
import HandS.Deep
import HandS.DictComp
import HandS.TupSets
import HandS.SetFor
import HandS.Flow
import KE.KDictZip
import HandS.Zip0
import HandS.EndTab
import PyProof.ReprBulk
import PyProof.FitsInt
import KE.GoesMore
import PyProof.EnumMake
import KE.GoesEnum
import KE.GoesZip
import KE.SortKeyHeap
import KE.KSortKey
import HandS.SortKw
import KE.SortLaws
import PySem.Challenge.RW_narrowdraws_k25_slots_from_a_day_on
set_option Elab.async false
set_option linter.all false
set_option maxRecDepth 100000
set_option maxHeartbeats 0
namespace ND
open PySem PySem.Spec PyProof.Rows L2
/-! ### global defs by name -/
abbrev FnP (K : PySem.W.Frag) (x qual : Str) (st : Stmt) (f : Addr) (fd : FuncData) : Prop := FunD K x qual (defArgs st) (defBody st) (defScope st) [] [] f fd
structure GFun (K : PySem.W.Frag) (mg : Str → Option Value) (x : Str) (st : Stmt) : Prop where
  ex : ∃ f fd, FnP K x x st f fd ∧ mg x = some (.ref f)
structure GOk (P : Program) (w : World) (K : PySem.W.Frag) (mg : Str → Option Value) (base : Heap) (k : Nat) (x : Str) (ps : List Str) (sp : Sp) : Prop where
  ex : ∃ f fd, mg x = some (.ref f) ∧ PySem.W.keepIn K (.ref f) = true ∧ Binds K fd ps [] ∧ FnOk P w K mg base (L2.CX P w) k f fd ps sp
section
variable {P : Program} {w : World} {K : PySem.W.Frag} {mg : Str → Option Value} {base : Heap}
theorem GFun.ok {x : Str} {st : Stmt} {N ps : List Str} {k : Nat} {sp : Sp} (F : GFun K mg x st) (S : FnScope N ps (defScope st))
    (hb : ∀ (kV doc pm : Value) (an : Option Addr) (cdv ct : Value) (us : List Value), us.length = ps.length → bindArgs (PySem.W.fnOf x x (defArgs st) (defBody st) (defScope st) .none kV doc pm an cdv ct) ⟨us, []⟩ = pure (ps.zip us))
    (len : ∀ vs H Q E, sp vs H Q E → vs.length = ps.length)
    (hbody : ∀ (f : Addr) (cdv : Value) (A : Around) (outer : List Env) (s : Shared) (H : Hp) (vs : List V) (Q : VK) (E : XK), Room k (A.deeper (envOfC x (defScope st) s.heap.objs.size f cdv)) → sp vs H Q E →
      ∃ t, PSs (cxOf (L2.CX P w) P w K mg base N x (defScope st) f cdv A outer s H E) (defBody st) t ∧ t { nx := fun _ H' => Q .non H', rt := Q } (start N vs) H) : GOk P w K mg base (k + 1) x ps sp := by
  obtain ⟨f, fd, F, hm⟩ := F.ex
  exact ⟨f, fd, hm, F.kp, F.bindsN hb, F.ok S len fun cdv A outer s H vs Q E hr h => hbody f cdv A outer s H vs Q E hr h⟩
theorem GOk.mono {j k : Nat} {x : Str} {ps : List Str} {sp : Sp} (G : GOk P w K mg base j x ps sp) (h : j ≤ k) : GOk P w K mg base k x ps sp := by
  obtain ⟨f, fd, a, b, c, d⟩ := G.ex
  exact ⟨f, fd, a, b, c, d.mono h⟩
end
section
variable {X : Cx} {k : Nat} {ps : List Str} {sp : Sp} {E : XK} {x : Str} {p pos : Pos} {e : Expr} {es : List Expr} {t : TA}
theorem pe_g (G : GOk X.prog X.w X.K X.mg X.base k x ps sp) (hr : Room k X.A) (hg : Gl X x) (hx : Passes (L2.CX X.prog X.w) X E)
    (ha : PA X (e :: es) t) (hdb : (x == ("__debug__" : Str)) = false := by decide) (he : starEach (e :: es) X.env = (false, eval e X.env) :: starEach es X.env := by rfl) (hpl : (backTo pos (starEach es X.env)).any (·.1) = false := by rfl) :
    PE X (.Call (.Name x p) (e :: es) [] pos) (tCall sp [] E t) := by
  obtain ⟨f, fd, hm, hk, hb, F⟩ := G.ex
  exact pe_call F hr hg hm hk hb .nil hx ha hdb he hpl
theorem pe_g0 (G : GOk X.prog X.w X.K X.mg X.base k x ps sp) (hr : Room k X.A) (hg : Gl X x) (hx : Passes (L2.CX X.prog X.w) X E)
    (hdb : (x == ("__debug__" : Str)) = false := by decide) : PE X (.Call (.Name x p) [] [] pos) (tCall sp [] E tNil) := by
  obtain ⟨f, fd, hm, hk, hb, F⟩ := G.ex
  exact pe_call0 F hr hg hm hk hb .nil hx hdb
end
/-! ### the draw -/
/-- what is kept but for two objects -/
def Keep (d a : Addr) (H H' : Hp) : Prop := ∀ b o, b ≠ d → b ≠ a → H b = some o → H' b = some o
theorem Keep.refl {d a : Addr} {H : Hp} : Keep d a H H := fun _ _ _ _ h => h
theorem Keep.trans {d a : Addr} {H H1 H2 : Hp} (x : Keep d a H H1) (y : Keep d a H1 H2) : Keep d a H H2 := fun b o h1 h2 e => y b o h1 h2 (x b o h1 h2 e)
theorem Keep.of {d a : Addr} {H H' : Hp} (x : Same H H') : Keep d a H H' := fun b o _ _ e => x b o e
theorem Keep.new {d a p : Addr} {o : HO} {H H' : Hp} (x : Keep d a H H') (n : H p = none) : Keep d a H (upd H' p o) := fun b u h1 h2 e => by
  have hb : b ≠ p := ne_of_none e n
  rw [upd_ne hb]; exact x b u h1 h2 e
abbrev kS (x : Str) : Key := Sum.inr x
def drawD (aw ac : Addr) (r t : Int) : List (Key × V) := [(kS "wide", .ref aw), (kS "cells", .ref ac), (kS "rest", .int r), (kS "turn", .int t)]
/-- the draw at d: its wide numbers at aw, its cells at ac; at most T turns -/
structure Draw (K : PySem.W.Frag) (d aw ac : Addr) (T : Nat) (H : Hp) : Prop where
  ex : ∃ (ws cs : List Int) (r t : Int), H d = some (.dK (drawD aw ac r t)) ∧ H aw = some (.lst (ws.map V.int)) ∧ H ac = some (.lst (cs.map V.int)) ∧
    (∀ z ∈ ws, 0 ≤ z) ∧ ws.length ≤ 63 ∧ cs.length ≤ 63 ∧ (∀ z ∈ cs, 0 ≤ z ∧ z < 2147483629) ∧ 0 ≤ r ∧ 0 ≤ t ∧ t ≤ (T : Int)
  ne : aw ≠ ac
end ND
namespace ND
open PySem PySem.Spec PyProof.Rows L2
/-! ### constants of the module -/
section
variable {X : Cx} {x : Str} {pos : Pos}
theorem pe_cls {C : Addr} (hg : Gl X x) (hm : X.mg x = some (.ref C)) (hd : (x == ("__debug__" : Str)) = false := by decide) : PE X (.Name x pos) (tC (.ref C)) := pe_glob hg hm rfl hd
theorem pe_cst {i : Int} (hg : Gl X x) (hm : ∃ t, X.mg x = some (.int i t)) (hd : (x == ("__debug__" : Str)) = false := by decide) : PE X (.Name x pos) (tC (.int i)) := by
  obtain ⟨t, h⟩ := hm
  exact pe_glob hg h ⟨t, rfl⟩ hd
theorem pe_csts {z : Str} (hg : Gl X x) (hm : ∃ t, X.mg x = some (.str z t)) (hd : (x == ("__debug__" : Str)) = false := by decide) : PE X (.Name x pos) (tC (.str z)) := by
  obtain ⟨t, h⟩ := hm
  exact pe_glob hg h ⟨t, rfl⟩ hd
end
/-! ### xs == [], xs != [] of any list -/
section
variable {X : Cx}
theorem plainL_is {h : Heap} {a : Addr} {its : Array Value} (x : PlainL h a its) : h.IsList a its := by
  obtain ⟨o, n, e, c, _, d⟩ := x
  exact ⟨o, e, c, n, d⟩
theorem op_nilNe (hu : X.A.units < cLine) : OpR X (compareOp .NotEq) (fun x y H Q => ∃ a b xs, x = .ref a ∧ y = .ref b ∧ SqL X.K H a xs ∧ SqL X.K H b [] ∧ Q (.bl (!xs.isEmpty)) H) := by
  intro pins s σ H x y v u Q I rx ry h
  obtain ⟨a, b, xs, rfl, rfl, ha, hb, q⟩ := h
  cases rx; cases ry
  obtain ⟨i1, v1, p1, z1⟩ := I.list ha
  obtain ⟨i2, v2, p2, z2⟩ := I.list hb
  cases v2
  cases xs with
  | nil =>
    cases v1
    exact SeqAt.RcNeAt.lists (e := fun _ => true) (plainL_is p1) (plainL_is p2) rfl hu (fun j h1 _ => absurd h1 (Nat.not_lt_zero _)) _ _ _ _ ⟨.bl _, H, I, rfl, q⟩
  | cons y ys =>
    cases v1
    exact SeqAt.RcNeAt.lists_lengths (plainL_is p1) (plainL_is p2) (by simp) hu _ _ _ _ ⟨.bl _, H, I, rfl, q⟩
theorem op_nilEq (hu : X.A.units < cLine) : OpR X (compareOp .Eq) (fun x y H Q => ∃ a b xs, x = .ref a ∧ y = .ref b ∧ SqL X.K H a xs ∧ SqL X.K H b [] ∧ Q (.bl xs.isEmpty) H) := by
  intro pins s σ H x y v u Q I rx ry h
  obtain ⟨a, b, xs, rfl, rfl, ha, hb, q⟩ := h
  cases rx; cases ry
  obtain ⟨i1, v1, p1, z1⟩ := I.list ha
  obtain ⟨i2, v2, p2, z2⟩ := I.list hb
  cases v2
  cases xs with
  | nil =>
    cases v1
    exact SeqAt.RcAt.lists (e := fun _ => true) (plainL_is p1) (plainL_is p2) rfl hu (fun j h1 _ => absurd h1 (Nat.not_lt_zero _)) _ _ _ _ ⟨.bl _, H, I, rfl, q⟩
  | cons y ys =>
    cases v1
    exact SeqAt.RcAt.lists_lengths (plainL_is p1) (plainL_is p2) (by simp) hu _ _ _ _ ⟨.bl _, H, I, rfl, q⟩
end
end ND
/-! own exceptions whose first step is super's __init__ with a text, whose second one stores one field -/
namespace ND
open PySem PySem.W PySem.Spec PySem.Calls PyProof.Rows PySem.HandSPX
def supA (fld : Str) (p1 p2 : Pos) : Arguments := { posonlyargs := [], args := [{ arg := "self", annotation := none, pos := p1 }, { arg := fld, annotation := none, pos := p2 }], vararg := none, kwonlyargs := [], kw_defaults := [], kwarg := none, defaults := [] }
def supB (fld msg : Str) (q0 q1 q2 q3 q4 q5 q6 q7 q8 q9 : Pos) : List Stmt :=
  [.Expr (.Call (.Attribute (.Call (.Name "super" q0) [] [] q1) "__init__" q2) [.Constant (.str msg) 0 q3] [] q4) q5, .Assign [.Attribute (.Name "self" q6) fld q7] (.Name fld q8) q9]
def supS (fld : Str) : Scope := { kind := .function, names := [(PySem.Str.ofString "self", .local), (fld, .local), (PySem.Str.ofString "__class__", .free), (PySem.Str.ofString "super", .globalImplicit)], isGenerator := false, isCoroutine := false, more := [] }
/-- a name that is none of the scope's other ones -/
structure FldOk (fld : Str) : Prop where
  loc : (supS fld).names.lookup fld = some .local
  su : (supS fld).names.lookup ("super" : Str) = some .globalImplicit
  cl : (supS fld).names.lookup ("__class__" : Str) = some .free
  me : (supS fld).names.lookup ("self" : Str) = some .local
  ne : fld ≠ "self"
  db : (fld == ("__debug__" : Str)) = false
/-- what the written part says of such a class -/
structure SupC (prog : Program) (K : Frag) (C fI : Addr) (fld : Str) : Prop where
  o : L2.OexC K C
  ok : FldOk fld
  noF : findIn K (.ref C) fld = some none
  iC : findIn K (.ref C) "__init__" = some (some (.ref fI))
  tI : typeIn K (.ref fI) = some (.type "function")
  fn : ∃ (oc : Value) (od an : Option Addr) (osl : Array (Option Value)) (qual msg : Str) (doc pm ct : Value) (cda cc : Addr) (ccl cl : Value) (cdd cld : Option Addr) (ccs csl : Array (Option Value)) (vs : Array Value) (file : Str) (tf : Tok) (p1 p2 q0 q1 q2 q3 q4 q5 q6 q7 q8 q9 : Pos),
    K.lookup fI = some ⟨oc, od, .func (ksFn "__init__" qual (supA fld p1 p2) (supB fld msg q0 q1 q2 q3 q4 q5 q6 q7 q8 q9) (supS fld) .none .none doc pm an (.ref cda) ct cc), osl⟩ ∧ codeIn K (.ref cda) qual = true ∧
    K.lookup cda = some ⟨ccl, cdd, .fields vs, ccs⟩ ∧ vs[2]? = some (.str file tf) ∧ ((prog.main.file : Str) == file) = true ∧ K.lookup cc = some ⟨cl, cld, .cell (some (.ref C)), csl⟩ ∧ (q2.endLine == q4.line) = true ∧
    (∀ (s : Shared) (u v : Value), BindsTo s (ksFn "__init__" qual (supA fld p1 p2) (supB fld msg q0 q1 q2 q3 q4 q5 q6 q7 q8 q9) (supS fld) .none .none doc pm an (.ref cda) ct cc) ⟨[u, v], []⟩ [("self", u), (fld, v)]) ∧
    (∀ (s : Shared) (u v : Value), BindsTo s (ksFn "__init__" qual (supA fld p1 p2) (supB fld msg q0 q1 q2 q3 q4 q5 q6 q7 q8 q9) (supS fld) .none .none doc pm an (.ref cda) ct cc) ⟨[u], [(fld, v)]⟩ [("self", u), (fld, v)])
  su : ks_superIn K C C "__init__" = some (some (.builtin "ValueError.__init__"))
  mr : mroIn K C (.ref C) = some true
  sv : mroIn K C (.type "ValueError") = some true
  op : nsIn K cStatics "thirdparty.any" = some none
  ns : nsIn K mainGlobals "super" = some none
  top : (prog.main.scope.names.lookup ("super" : Str)).isSome = false
section
variable {prog : Program} {w : World} {A : Around} {E : Value → Shared → Prop} {h : Heap} {g : Array GenState} {d : Drawn} {t : Nat} {os : OsState}
theorem sup_line (env : Env) (msg : Str) (q0 q1 q2 q3 q4 : Pos) (hl : (q2.endLine == q4.line) = true) :
    eval (.Call (.Attribute (.Call (.Name "super" q0) [] [] q1) "__init__" q2) [.Constant (.str msg) 0 q3] [] q4) env = (do
      let ov ← attributeBase (.Call (.Name "super" q0) [] [] q1) "__init__" env (eval (.Call (.Name "super" q0) [] [] q1) env)
      standAt q2.atName
      let (f, first) ← holding [ov] (getMethod ov "__init__" (L2.plainOf (.Call (.Name "super" q0) [] [] q1) env))
      callWith q4 f first (backTo q4 (starEach [.Constant (.str msg) 0 q3] env)) []) := by
  have key : ∀ ov, methodCall (.Call (.Name "super" q0) [] [] q1) "__init__" q2 q4 env ov 1 (backTo q4 (starEach [.Constant (.str msg) 0 q3] env)) [] = (do
      let (f, first) ← holding [ov] (getMethod ov "__init__" (L2.plainOf (.Call (.Name "super" q0) [] [] q1) env))
      callWith q4 f first (backTo q4 (starEach [.Constant (.str msg) 0 q3] env)) []) := fun ov => L2.mcall_line rfl hl
  show (do
      let ov ← attributeBase (.Call (.Name "super" q0) [] [] q1) "__init__" env (eval (.Call (.Name "super" q0) [] [] q1) env)
      standAt q2.atName
      methodCall (.Call (.Name "super" q0) [] [] q1) "__init__" q2 q4 env ov 1 (backTo q4 (starEach [.Constant (.str msg) 0 q3] env)) []) = _
  simp only [key]
/-- the wrapper is called -/
theorem mw_call {nm q : Str} {C N : Addr} {bs bm : List Value} {hdct : Bool} {sn : List Str} {sub : List Value} {ab : Bool} {col : Option Bool} {dd : Option Addr} {k0 k1 k2 k3 k5 : Option Value} {u e t0 : Addr} {rest : List Value} {Q : Value → Shared → Prop}
    (hC : h.get? C = some (excClassObj nm q C N bs bm hdct sn sub ab col dd k0 k1 k2 k3 k5 "ValueError.__new__")) (he : h.get? e = some (excO C t0)) (hu : h.get? u = some (kxs_mw "ValueError.__init__" e)) (hz : rest.length ≤ sizeLine)
    (hq : ∀ h' t1, (∀ b o, b ≠ e → h.get? b = some o → h'.get? b = some o) → h'.get? e = some (excO C t1) → Q .none ⟨h', g, d, t, os⟩) :
    wpAny (model prog w) A (call (.ref u) rest) Q E ⟨h, g, d, t, os⟩ := by
  have FB := F.excBase_ValueError
  apply wpAny_call
  apply codeAny_of_tree
  show wpAny _ A.in1 (callAny (.ref u) ⟨rest, []⟩) _ _ _
  unfold callAny
  apply wpAny_bind
  refine wpAny_load hu ?_
  have k1 : (Value.type "method-wrapper" == Value.type "method" || Value.type "method-wrapper" == Value.type "builtin_function_or_method" || Value.type "method-wrapper" == Value.type "method-wrapper") = true := by decide
  simp only [kxs_mw, k1, if_true]
  refine KFB.if_so (by decide) (wpAny_bind (check_bound_init FB.toExcCallFacts hC he rfl (wpAny_bind (wpAny_pure (wpAny_pure ⟨plainId_quiet FB.init.plain _, codeAny_builtin FB.initEntry ?_⟩)))))
  exact exc_init_tree (cls := .ref C) (t0 := t0) (dv := none) (c2 := .none) (c3 := .none) (b4 := .bool false) he hz fun h' k e' _ => hq h' _ k e'
end
section
variable {prog : Program} {w : World} {A : Around} {E : Value → Shared → Prop} {R : Result → Shared → Prop} {s : Shared} {K : Frag} {mg mb : Str → Option Value} {C fI : Addr} {fld : Str}
theorem sup_inst {hh : Heap} {x t0 : Addr} (hx : hh.get? x = some (excO C t0)) : InstAt hh x (excO C t0) C none := ⟨hx, rfl, rfl, trivial⟩
theorem sup_cls (T : SupC prog K C fI fld) {hh : Heap} (X : K.In hh) : ∃ nm q N bs bm sn sub ab col dd k0 k1 k2 k3 k5, hh.get? C = some (excClassObj nm q C N bs bm true sn sub ab col dd k0 k1 k2 k3 k5 "ValueError.__new__") ∧ refsVE bm = true ∧
    clsIn K C = some { name := nm, bases := bs, mro := .ref C :: bm, ns := N, qualname := q, hasDict := true, slotNames := sn, subclasses := sub, abstract := ab, collection := col, hasDel := false } := by
  obtain ⟨nm, q, N, bs, bm, sn, sub, ab, col, dd, k0, k1, k2, k3, k5, hC, hbm⟩ := T.o.cls
  refine ⟨nm, q, N, bs, bm, sn, sub, ab, col, dd, k0, k1, k2, k3, k5, X _ _ hC, hbm, ?_⟩
  unfold clsIn
  rw [hC] <;> rfl
/-- what __init__ leaves of a fresh exception -/
structure SupEnd (h h' : Heap) (x C dx t1 : Addr) (fld : Str) (v : Value) : Prop where
  keep : ∀ b o, b ≠ x → h.get? b = some o → h'.get? b = some o
  obj : h'.get? x = some { cls := .ref C, dict := some dx, data := .fields #[.ref t1, .none, .none, .none, .bool false, .none] }
  dbig : h.objs.size ≤ dx
  dne : dx ≠ x
  ns : h'.Ns1 dx (fun y => if y = fld then some v else none)
theorem one_len {v : Value} : [v].length ≤ sizeLine := by
  rw [sizeLine_eq]
  exact (by decide : 1 ≤ 16777216)
theorem self_look {x v : Value} (hne : fld ≠ "self") : List.lookup (PySem.Str.ofString "self") [((PySem.Str.ofString "self" : Str), x), (fld, v)].reverse = some x := by
  have e : ((PySem.Str.ofString "self" : Str) == fld) = false := beq_eq_false_iff_ne.mpr (fun z => hne z.symm)
  show List.lookup (PySem.Str.ofString "self") [(fld, v), ((PySem.Str.ofString "self" : Str), x)] = some x
  rw [List.lookup_cons, e]
  simp [List.lookup]
theorem fld_look {x v : Value} : List.lookup fld [((PySem.Str.ofString "self" : Str), x), (fld, v)].reverse = some v := by
  show List.lookup fld [(fld, v), ((PySem.Str.ofString "self" : Str), x)] = some v
  simp [List.lookup]
theorem sup_init (T : SupC prog K C fI fld) {x t0 : Addr} {v : Value} {args : Args} (ha : args = ⟨[.ref x, v], []⟩ ∨ args = ⟨[.ref x], [(fld, v)]⟩) (X : K.In s.heap) (hlim : s.heap.NoLimit) (hg : s.heap.Ns mainGlobals mg) (hb : s.heap.Ns builtinsNs mb)
    (hbs : ∀ y : Str, y ≠ "__name__" → mb y = bootBuiltins y) (hx : s.heap.get? x = some (excO C t0)) (hnx : K.lookup x = none) (hroom : A.depth < recursionLimit)
    (hq : ∀ h' tk dx t1, SupEnd s.heap h' x C dx t1 fld v → R (.ok (.ret .none)) { s with heap := h', toks := tk }) :
    codeAny (model prog w) A (.call (.ref fI) args) R s := by
  obtain ⟨oc, od, an, osl, qual, msg, doc, pm, ct, cda, cc, ccl, cl, cdd, cld, ccs, csl, vs, file, tf, p1, p2, q0, q1, q2, q3, q4, q5, q6, q7, q8, q9, lk, hcd, lc, hvs, hfile, lcc, hln, b1, b2⟩ := T.fn
  have hbind : BindsTo s (ksFn "__init__" qual (supA fld p1 p2) (supB fld msg q0 q1 q2 q3 q4 q5 q6 q7 q8 q9) (supS fld) .none .none doc pm an (.ref cda) ct cc) args [("self", .ref x), (fld, v)] := by
    rcases ha with rfl | rfl
    · exact b1 s _ _
    · exact b2 s _ _
  obtain ⟨hp, g, dr, tk, os⟩ := s
  refine ks_codeAny_call_defAt (body := supB fld msg q0 q1 q2 q3 q4 q5 q6 q7 q8 q9) hroom (X _ _ lk) rfl hlim (codeRec_of X hcd) rfl hbind (fun y hy => ?_) (fun y hy => ?_) (fun h1 hn k => ?_)
  · simp only [ksFn, fnX, supS, List.mem_cons, List.not_mem_nil, or_false] at hy
    rcases hy with rfl | rfl | rfl | rfl <;> exact fun z => nomatch z
  · simp only [List.mem_cons, List.not_mem_nil, or_false] at hy
    rcases hy with rfl | rfl
    · exact T.ok.me
    · exact T.ok.loc
  · have X1 : K.In h1 := X.keeps k
    have hx1 := k _ _ hx
    obtain ⟨nm, q, N, bs, bm, sn, sub, ab, col, dd, k0, k1, k2, k3, k5, hC1, hbm, hcl⟩ := sup_cls T X1
    refine ks_wpAt_execs_cons (ks_wpAt_Expr_any (ks_wpAt_MethodCall ?_ (sup_line _ _ _ _ _ _ _ hln)))
    refine ks_wpAt_super_base T.ok.su T.ok.cl (by decide) rfl (X1 _ _ lk) rfl rfl rfl (X1 _ _ lc) rfl hvs hfile T.top ?_
    refine ks_loadName_global rfl T.ok.su (loadGlobal_builtin (mg := mg) (mb := mb) (hg.keeps k) (mg_none_of X hg T.ns) (hb.keeps k) ((hbs _ (by decide +kernel)).trans (by decide +kernel)) ⟨rfl, ?_⟩)
    refine wpAny_loadName_free rfl T.ok.cl rfl ⟨_, X1 _ _ lcc, rfl⟩ ?_
    refine wpAny_loadName_local (v := .ref x) rfl T.ok.me hn ?_ ?_
    · exact self_look T.ok.ne
    refine ks_wpAny_isType_cls hC1 rfl ⟨rfl, ?_⟩
    refine ks_wpAny_call_super hC1 rfl hx1 rfl (fun c e => nomatch e) (looks_mroIn X1 T.mr) (fun h2 e2 kk2 => ?_)
    have X2 : K.In h2 := X1.keeps kk2
    have hx2 := kk2 _ _ hx1
    have I2 := sup_inst hx2
    have nxC : x ≠ C := fun e => by
      obtain ⟨nm, q, N, bs, bm, sn, sub, ab, col, dd, k0, k1, k2, k3, k5, hC, _⟩ := T.o.cls
      rw [e, hC] at hnx
      cases hnx
    have hal : alongIn K "__init__" bm = some (some (.builtin "ValueError.__init__")) := by
      have z := T.su
      unfold ks_superIn at z
      rw [hcl] at z
      have e1 : ((Value.ref C :: bm).dropWhile (· != .ref C)).drop 1 = bm := by simp [List.dropWhile]
      have z2 : alongIn K "__init__" (((Value.ref C :: bm).dropWhile (· != .ref C)).drop 1) = some (some (.builtin "ValueError.__init__")) := z
      rw [e1] at z2
      exact z2
    refine kxs_getMethod kxs_ValueError (l₀ := .ref C :: bm) (l := bm) (D := C) (x := x) (C := C) e2 (looks_opaque X2 T.op) (fun A Q E s k q => wpAny_bind ((looks_clsIn X2 hcl) A _ E s k (wpAny_pure q))) (by simp [List.dropWhile]) X2 hal
      (I2.type.andThen (looks_mroIn X2 T.sv)) nxC (by decide) ?_
    refine kxs_callWith (x := x) (i := "ValueError.__init__") rfl (evalArgs_plain (Calls.spliced_cons (wpAny_Constant_str (k := 0) (pos := q3) (Calls.spliced_nil ⟨Heap.get?_push_at rfl rfl, ?_⟩))))
    have hC2 := Heap.get?_push_of_some (kxs_mw "ValueError.__init__" x) (kk2 _ _ hC1)
    refine mw_call hC2 (Heap.get?_push_of_some _ hx2) (Heap.get?_push_at rfl rfl) one_len (fun h3 t1 k3 hx3 => ?_)
    have kk3 : ∀ b o, b ≠ x → h1.get? b = some o → h3.get? b = some o := fun b o nb e => k3 b o nb (Heap.get?_push_of_some _ (kk2 b o e))
    have X3 : K.In h3 := fun b o e => kk3 b o (fun z => by rw [z, hnx] at e; cases e) (X1 b o e)
    have nL : hp.objs.size ≠ x := Nat.ne_of_gt (Heap.lt_size hx)
    have hn3 : h3.Ns hp.objs.size (fun y => List.lookup y [((PySem.Str.ofString "self" : Str), Value.ref x), (fld, v)].reverse) := by
      obtain ⟨o, es, ep, e, r⟩ := hn
      exact ⟨o, es, ep, kk3 _ _ nL e, r⟩
    show _root_.PySem.wpAt _ _ _ (execs _ _) _ _ _
    refine wpAt_of_wpAny (wpAny_execs_cons (plainObj_wpAny_Assign_Attribute ?_))
    refine ldc rfl T.ok.loc hn3 fld_look ?_ T.ok.db
    refine ldc rfl T.ok.me hn3 (self_look T.ok.ne) ?_
    refine set_plain X3 (sup_inst hx3) T.o.sa ?_
    refine exc_osa X3 hx3 hcl (show refsVE (.ref C :: bm) = true from hbm) rfl T.noF (fun h4 tk4 dx k4 dn dne hx4 hn4 => ?_)
    refine wpAny_execs_nil (hq h4 tk4 dx t1 ⟨fun b o nb e => k4 b o nb (kk3 b o nb (k b o e)), hx4, ?_, dne, hn4⟩)
    exact Nat.le_of_lt (Nat.lt_of_lt_of_le (show hp.objs.size < h3.objs.size from hn3.lt) dn)
end
end ND
namespace ND
open PySem PySem.W PySem.Spec PySem.Calls PyProof.Rows PySem.HandSPX
section
variable {prog : Program} {w : World} {A : Around} {E : Value → Shared → Prop} {R : Result → Shared → Prop} {s : Shared} {K : Frag} {mg mb : Str → Option Value} {C fI : Addr} {fld : Str}
variable {h : Heap} {g : Array GenState} {d : Drawn} {t : Nat} {os : OsState} {M : Model}
variable {nm q : Str} {N : Addr} {bs bm bmB : List Value} {hdct : Bool} {sn : List Str} {sub : List Value} {ab : Bool} {col : Option Bool} {dd : Option Addr} {k0 k1 k2 k3 k5 : Option Value} {B newId initId : String}
/-! ### by a keyword -/
theorem new_check_kw (FB : ExcBaseFacts B newId initId bmB) (hT : ∀ X : String, bm.contains (.type X) = bmB.contains (.type X)) {x : Str} {v : Value} {Q : Unit → Shared → Prop}
    (hC : h.get? C = some (excClassObj nm q C N bs bm hdct sn sub ab col dd k0 k1 k2 k3 k5 newId)) (hq : Q () ⟨h, g, d, t, os⟩) : wpAny M A (checkBuiltinCall newId ⟨[.ref C], [(x, v)]⟩) Q E ⟨h, g, d, t, os⟩ := by
  have hcB : (Value.ref C :: bm).contains (.type B) = true := by rw [List.contains_cons, hT, FB.hasB, Bool.or_true]
  have st := FB.noStar
  simp only [checkBuiltinCall, FB.newKind, FB.newSplit, FB.newRow]
  repeat (first
    | refine wpAny_loadPart_at hC ?_
    | (refine wpAny_isSubtype_exc hC ?_; rw [hcB])
    | refine wpAny_staticBase_exc hC ?_
    | refine wpAny_madeBy_exc hC ?_
    | simp only [bne_self_eq_false, Bool.false_eq_true, if_false]
    | wp_step)
  exact hq
theorem new_run_kw (FB : ExcBaseFacts B newId initId bmB) (hT : ∀ X : String, bm.contains (.type X) = bmB.contains (.type X)) {x : Str} {v : Value}
    (hC : h.get? C = some (excClassObj nm q C N bs bm hdct sn sub ab col dd k0 k1 k2 k3 k5 newId))
    (hq : R (.ok (.ret (.ref (h.objs.size + 1)))) ⟨(h.push { cls := .type "tuple", data := .seq #[] }).push (excO C h.objs.size), g, d, t, os⟩) :
    codeAny (model prog w) A (.builtin newId ⟨[.ref C], [(x, v)]⟩) R ⟨h, g, d, t, os⟩ := by
  have e0 := FB.ends
  have hcB : (Value.ref C :: bm).contains (.type B) = true := by rw [List.contains_cons, hT, FB.hasB, Bool.or_true]
  have hcA : (Value.ref C :: bm).contains (.type "AttributeError") = false := by rw [List.contains_cons, hT, FB.noAttr]; rfl
  have hcN : (Value.ref C :: bm).contains (.type "NameError") = false := by rw [List.contains_cons, hT, FB.noName]; rfl
  refine codeAny_builtinAt FB.entry ?_
  unfold Builtin.«BaseException.__new__»
  refine _root_.PySem.wpAt_bind ?_
  show _root_.PySem.wpAt _ _ _ (stack >>= _) _ _ _
  refine _root_.PySem.wpAt_bind (_root_.PySem.wpAt_stack fun p below => _root_.PySem.wpAt_of_wpAny ?_)
  wp_walk
  refine _root_.PySem.wpAt_of_wpAny ?_
  rw [FB.owner]
  repeat (first
    | with_reducible refine wpAny_madeHere_exc FB.canon hC ?_
    | with_reducible refine wpAny_loadPart_at hC ?_
    | (with_reducible refine wpAny_isSubtype_exc hC ?_; first | rw [hcB] | rw [hcA] | rw [hcN])
    | wp_step)
  show R _ _
  rw [Heap.size_push]
  exact hq
theorem type_run_kw (FB : ExcBaseFacts B newId initId bmB) (hT : ∀ X : String, bm.contains (.type X) = bmB.contains (.type X)) {x : Str} {v : Value} {Q : Fin → Shared → Prop}
    (hC : h.get? C = some (excClassObj nm q C N bs bm hdct sn sub ab col dd k0 k1 k2 k3 k5 newId))
    (hi : W.Looks (model prog w) h (typeLookup (.ref C) "__init__") (some (.ref fI))) (hb : ∀ self, W.Looks (model prog w) h (bindSpecial (.ref fI) self) (.ref fI, [self]))
    (hq : codeAny (model prog w) A (.call (.ref fI) ⟨[.ref (h.objs.size + 1)], [(x, v)]⟩)
      (fun r s' => match r with | .ok (.ret z) => z = .none ∧ Q (.done (.ret (.ref (h.objs.size + 1)))) s' | .ok _ => False | .error e => E e s')
      ⟨(h.push (W.kdv_tup [])).push (excO C h.objs.size), g, d, t, os⟩) :
    wpAny (model prog w) A (Builtin.«type.__call__» ⟨[.ref C], [(x, v)]⟩) Q E ⟨h, g, d, t, os⟩ := by
  repeat (first
    | with_reducible refine wpAny_loadPart_at hC ?_
    | with_reducible refine wpAny_madeBy_exc hC ?_
    | wp_step)
  refine codeAny_call_builtin_code (Code.quiet_builtin _ FB.quiet) (new_check_kw FB hT hC ?_)
  refine new_run_kw FB hT hC ?_
  show wpAny _ _ _ _ _ _
  have kp : ∀ b o, h.get? b = some o → ((h.push (W.kdv_tup [])).push (excO C h.objs.size)).get? b = some o := fun b o e => Heap.get?_push_of_some _ (Heap.get?_push_of_some _ e)
  have hC1 := kp _ _ hC
  have hget : ((h.push (W.kdv_tup [])).push (excO C h.objs.size)).get? (h.objs.size + 1) = some (excO C h.objs.size) := by heap_get
  have hcC : (Value.ref C :: bm).contains (.ref C) = true := by simp
  have i1 := hi.keeps kp
  have b1 := (hb (.ref (h.objs.size + 1))).keeps kp
  unfold isInstance
  repeat (first
    | with_reducible refine wpAny_loadPart_at hget ?_
    | (with_reducible refine wpAny_isSubtype_exc hC1 ?_; rw [hcC])
    | wp_step)
  show wpAny _ _ (typeLookup (.ref C) _) _ _ _
  refine i1.at (wpAny_holding (wpAny_bind (b1.at (wpAny_bind (wpAny_call (codeAny_mono hq fun r s' z => ?_))))))
  rcases r with e | (v | _ | _ | _) <;> first | exact z | exact z.elim | skip
  obtain ⟨rfl, z⟩ := z
  first
    | exact wpAny_pure (wpAny_pure z)
    | (wp_walk; exact z)
theorem call_kw (FB : ExcBaseFacts B newId initId bmB) (hT : ∀ X : String, bm.contains (.type X) = bmB.contains (.type X)) {x : Str} {v : Value}
    (hC : h.get? C = some (excClassObj nm q C N bs bm hdct sn sub ab col dd k0 k1 k2 k3 k5 newId))
    (hi : W.Looks (model prog w) h (typeLookup (.ref C) "__init__") (some (.ref fI))) (hb : ∀ self, W.Looks (model prog w) h (bindSpecial (.ref fI) self) (.ref fI, [self]))
    (hq : codeAny (model prog w) (A.under (.builtin "type.__call__" ⟨[.ref C], [(x, v)]⟩)) (.call (.ref fI) ⟨[.ref (h.objs.size + 1)], [(x, v)]⟩) (W.InitBack (h.objs.size + 1) R)
      ⟨(h.push (W.kdv_tup [])).push (excO C h.objs.size), g, d, t, os⟩) :
    codeAny (model prog w) A (.call (.ref C) ⟨[], [(x, v)]⟩) R ⟨h, g, d, t, os⟩ := by
  have f1 := tc_lookup
  have f2 := tc_bind (.ref C)
  have hTy : (⟨h, g, d, t, os⟩ : Shared).TypeIs (.ref C) "type" := ⟨_, hC, rfl⟩
  refine codeAny_of_tree ?_
  show wpAny _ _ (callAny (.ref C) _) _ _ _
  repeat (any_goals (first
    | assumption
    | with_reducible refine wpAny_loadPart_at hC ?_
    | wp_step))
  refine ⟨rfl, ?_⟩
  refine codeAny_call_builtin_at (Code.quiet_builtin _ (by decide +kernel)) entry_typeCall (wpAny_check_type_call_sub hC (type_run_kw FB hT hC hi hb ?_))
  refine codeAny_mono hq fun r s' z => ?_
  rcases r with e | (v | _ | _ | _) <;> exact z
end
end ND
namespace ND
open PySem PySem.W PySem.Spec PySem.Calls PyProof.Rows PySem.HandSPX
/-- a made exception -/
structure SupMade (h h' : Heap) (e C d : Addr) (fld : Str) (v : Value) : Prop where
  keep : ∀ b o, h.get? b = some o → h'.get? b = some o
  new : h.objs.size ≤ e
  obj : ∃ t1 : Addr, h'.get? e = some { cls := .ref C, dict := some d, data := .fields #[.ref t1, .none, .none, .none, .bool false, .none] }
  dbig : h.objs.size ≤ d
  dne : d ≠ e
  ns : h'.Ns1 d (fun y => if y = fld then some v else none)
section
variable {prog : Program} {w : World} {A : Around} {E : Value → Shared → Prop} {R : Result → Shared → Prop} {s : Shared} {K : Frag} {mg mb : Str → Option Value} {C fI : Addr} {fld : Str}
theorem sup_made (T : SupC prog K C fI fld) {v : Value} {args : Args} (ha : args = ⟨[v], []⟩ ∨ args = ⟨[], [(fld, v)]⟩) (X : K.In s.heap) (hlim : s.heap.NoLimit) (hg : s.heap.Ns mainGlobals mg) (hb : s.heap.Ns builtinsNs mb)
    (hbs : ∀ y : Str, y ≠ "__name__" → mb y = bootBuiltins y) (hroom : A.depth + 1 < recursionLimit)
    (hq : ∀ h' tk e d, SupMade s.heap h' e C d fld v → R (.ok (.ret (.ref e))) { s with heap := h', toks := tk }) :
    codeAny (model prog w) A (.call (.ref C) args) R s := by
  obtain ⟨nm, q, N, bs, bm, sn, sub, ab, col, dd, k0, k1, k2, k3, k5, hC, hbm, _⟩ := sup_cls T X
  obtain ⟨hp, g, dr, tk, os⟩ := s
  -- what follows the making of the bare object, whatever the tuple of its arguments
  have rest : ∀ (rs : List Value) (a2 : Args) (A' : Around), (a2 = ⟨[.ref (hp.objs.size + 1), v], []⟩ ∨ a2 = ⟨[.ref (hp.objs.size + 1)], [(fld, v)]⟩) → A'.depth < recursionLimit →
      codeAny (model prog w) A' (.call (.ref fI) a2) (W.InitBack (hp.objs.size + 1) R) ⟨(hp.push (kdv_tup rs)).push (excO C hp.objs.size), g, dr, tk, os⟩ := by
    intro rs a2 A' h2 hA
    have kk : ∀ b o, hp.get? b = some o → ((hp.push (kdv_tup rs)).push (excO C hp.objs.size)).get? b = some o := fun b o e => Heap.get?_push_of_some _ (Heap.get?_push_of_some _ e)
    have hget : ((hp.push (kdv_tup rs)).push (excO C hp.objs.size)).get? (hp.objs.size + 1) = some (excO C hp.objs.size) := by heap_get
    have hnx : K.lookup (hp.objs.size + 1) = none := by
      cases e : K.lookup (hp.objs.size + 1) with
      | none => rfl
      | some o => exact absurd (Nat.lt_of_succ_lt (Heap.lt_size (X _ _ e))) (Nat.lt_irrefl _)
    refine sup_init (s := ⟨(hp.push (kdv_tup rs)).push (excO C hp.objs.size), g, dr, tk, os⟩) T h2 (X.keeps kk) (hlim.keeps kk) (hg.keeps kk) (hb.keeps kk) hbs hget hnx hA fun h' tk' dx t1 M => ?_
    have old : ∀ b o, hp.get? b = some o → h'.get? b = some o := fun b o e => M.keep b o (Nat.ne_of_lt (Nat.lt_succ_of_lt (Heap.lt_size e))) (kk b o e)
    have z : hp.objs.size ≤ dx := by
      have z1 : ((hp.push (kdv_tup rs)).push (excO C hp.objs.size)).objs.size ≤ dx := M.dbig
      rw [Heap.size_push, Heap.size_push] at z1
      omega
    exact ⟨rfl, hq h' tk' (hp.objs.size + 1) dx ⟨old, Nat.le_succ _, ⟨t1, M.obj⟩, z, M.dne, M.ns⟩⟩
  rcases ha with rfl | rfl
  · exact call_own F.excBase_ValueError (fun Y => refsVE_contains Y bm hbm) hC (looks_findIn X T.iC) (fun self => bind_fn X self T.tI) one_len (rest [v] _ _ (.inl rfl) (by show A.depth + 1 < recursionLimit; exact hroom))
  · exact call_kw F.excBase_ValueError (fun Y => refsVE_contains Y bm hbm) hC (looks_findIn X T.iC) (fun self => bind_fn X self T.tI) (rest [] _ _ (.inr rfl) (by show A.depth + 1 < recursionLimit; exact hroom))
end
end ND
namespace ND
open PySem PySem.Spec PyProof.Rows L2
/-- the exception at e, its dict at d, its one field -/
def excH (H : Hp) (e d C : Addr) (fld : Str) (v : V) : Hp := upd (upd H d (exd d [(fld, v)])) e (exo e C (some d))
theorem relO_fld {fld : Str} {v : V} {v' : Value} (r : RelV v v') (f : Str) : RelO (List.lookup f [(fld, v)]) (if f = fld then some v' else none) := by
  by_cases hw : f = fld
  · subst hw
    rw [if_pos rfl, show List.lookup f [(f, v)] = some v by simp [List.lookup]]
    exact r
  · rw [if_neg hw, show List.lookup f [(fld, v)] = none by simp [List.lookup, show (f == fld) = false by simpa using hw]]
    trivial
section
variable {X : Cx} {C fI : Addr} {fld : Str} {pins : List (Addr × Obj)} {σ : L2.St} {H : Hp}
theorem excH_e {e d : Addr} {v : V} : excH H e d C fld v e = some (exo e C (some d)) := upd_same
theorem excH_d {e d : Addr} {v : V} (n : d ≠ e) : excH H e d C fld v d = some (exd d [(fld, v)]) := by
  unfold excH
  rw [upd_ne n, upd_same]
theorem excH_ne {e d b : Addr} {v : V} (h1 : b ≠ e) (h2 : b ≠ d) : excH H e d C fld v b = H b := by
  unfold excH
  rw [upd_ne h1, upd_ne h2]
theorem excH_same {e d : Addr} {v : V} (ne : H e = none) (nd : H d = none) : Same H (excH H e d C fld v) := fun b o q => by
  rw [excH_ne (ne_of_none q ne) (ne_of_none q nd)]
  exact q
/-- what is held behind the making, the exception as a value -/
theorem sup_val {hp h' : Heap} {g : Array GenState} {dr : Drawn} {tk tk' : Nat} {os : OsState} {e d : Addr} {v : V} {v' : Value} (I : Inv X pins σ H ⟨hp, g, dr, tk, os⟩) (rv : RelV v v') (M : SupMade hp h' e C d fld v') :
    Inv X pins σ (excH H e d C fld v) ⟨h', g, dr, tk', os⟩ ∧ H e = none ∧ H d = none ∧ d ≠ e := by
  have ne : H e = none := I.hok.fresh M.new
  have nd : H d = none := I.hok.fresh M.dbig
  obtain ⟨t1, ho⟩ := M.obj
  have sm := excH_same (C := C) (fld := fld) (v := v) ne nd
  have off : ∀ b o, hp.get? b = some o → b ≠ e ∧ b ≠ d := fun b o q => ⟨Nat.ne_of_lt (Nat.lt_of_lt_of_le (Heap.lt_size q) M.new), Nat.ne_of_lt (Nat.lt_of_lt_of_le (Heap.lt_size q) M.dbig)⟩
  have un : Un X.fs [] H (excH H e d C fld v) hp h' := {
    keep := fun b o q _ _ _ => M.keep b o q
    slot := fun b o q _ _ _ => ⟨o.slots, M.keep b o q⟩
    free := fun b o q n _ => by rw [excH_ne (off b o q).1 (off b o q).2]; exact n
    there := fun b o q _ => ⟨o, M.keep b o q⟩
    tups := fun b xs q => sm b _ q
    frzs := fun b o u q => sm b _ q
    tbls := fun b ps q => ⟨#[], by rw [sm b _ q]; simp⟩ }
  have hok : HOk X.prog X.w (excH H e d C fld v) h' := fun b u q => by
    by_cases hb : b = e
    · subst hb
      rw [excH_e] at q
      cases q
      exact exo_ok ho
    · by_cases hd : b = d
      · subst hd
        rw [excH_d hb] at q
        cases q
        exact exd_ok M.ns fun f => relO_fld rv f
      · rw [excH_ne hb hd] at q
        exact (I.hok b u q).stay (fun c o _ z => M.keep c o z) (fun c z => sm c _ z) (fun c xs z => sm c _ z)
  exact ⟨I.un (h' := h') (t' := tk') un hok, ne, nd, M.dne⟩
/-- X(e), the exception as a value -/
def tSup (C : Addr) (fld : Str) (ta : TA) : TE := fun σ H Q => ta σ H fun vs H1 => ∃ v, vs = [v] ∧ ∀ e d, H1 e = none → H1 d = none → d ≠ e → Q (.ref e) (excH H1 e d C fld v)
theorem sup_run {k : Nat} {s : Shared} {args : List Value} {kw : List (Str × Value)} {v : V} {v' : Value} {Q : VK} (T : SupC X.prog X.K C fI fld) (hr : Room k X.A) (I : Inv X pins σ H s) (rv : RelV v v') (ha : (⟨args, kw⟩ : Args) = ⟨[v'], []⟩ ∨ (⟨args, kw⟩ : Args) = ⟨[], [(fld, v')]⟩)
    (q : ∀ e d, H e = none → H d = none → d ≠ e → Q (.ref e) (excH H e d C fld v)) : wpAny (model X.prog X.w) X.A (call (.ref C) args kw) (EP X pins σ Q) X.xe s := by
  obtain ⟨mb, hb, hbs⟩ := I.ok.mod.blt
  have hn := I.nolimit
  have kin := I.kIn
  have gl : s.heap.Ns mainGlobals X.mg := I.ok.mod.glob.keeps I.bk
  have bl := hb.keeps I.bk
  obtain ⟨hp, g, dr, tk, os⟩ := s
  refine wpAny_call (sup_made T ha kin hn gl bl hbs (by have := hr.dp; omega) fun h' tk' e d M => ?_)
  obtain ⟨J, ne, nd, dn⟩ := sup_val (tk' := tk') I rv M
  exact ⟨.ref e, _, J, rfl, q e d ne nd dn⟩
theorem pe_sup {k : Nat} {x : Str} {a : Expr} {ta : TA} {p pos : Pos} (T : SupC X.prog X.K C fI fld) (gC : X.mg x = some (.ref C)) (hr : Room k X.A) (hg : Gl X x) (ha : PA X [a] ta)
    (hdb : (x == ("__debug__" : Str)) = false := by decide) (he : starEach (a :: []) X.env = (false, eval a X.env) :: starEach [] X.env := by rfl) (hpl : (backTo pos (starEach [] X.env)).any (·.1) = false := by rfl) :
    PE X (.Call (.Name x p) [a] [] pos) (tSup C fld ta) := by
  refine ⟨fun pins s σ H Q I h => ?_⟩
  refine wpAny_Call_Name_kw (ld_glob I hg gC ?_ hdb)
  refine PySem.W.callWith_K (h₀ := X.base) I.ok.mod.kin T.o.kC (thn (ha.run pos pins s σ H _ I h) fun us s1 hh => ?_) he hpl
  obtain ⟨vs, H1, I1, r1, v, ev, q1⟩ := hh
  subst ev
  cases r1 with
  | cons rv rn =>
    cases rn
    exact ⟨I1.kIn, sup_run T hr I1 rv (.inl rfl) q1⟩
theorem pe_supK {k : Nat} {x : Str} {kws : List Keyword} {tk : TA} {p pos : Pos} (T : SupC X.prog X.K C fI fld) (gC : X.mg x = some (.ref C)) (hr : Room k X.A) (hg : Gl X x) (hkw : PK X kws tk)
    (hall : (backToKw pos (keywordEach kws X.env)).all (·.1.isSome) = true := by rfl) (hks : (backToKw pos (keywordEach kws X.env)).filterMap (·.1) = [fld] := by rfl) (hdb : (x == ("__debug__" : Str)) = false := by decide)
    (hpl : ((backTo pos (starEach [] X.env)).any (·.1) || (backToKw pos (keywordEach kws X.env)).any (·.1.isNone)) = false := by rfl) :
    PE X (.Call (.Name x p) [] kws pos) (tSup C fld tk) := by
  refine ⟨fun pins s σ H Q I h => ?_⟩
  refine wpAny_Call_Name_kw (ld_glob I hg gC ?_ hdb)
  refine PySem.W.callWith_KW0 (h₀ := X.base) I.ok.mod.kin T.o.kC hall ?_ hpl
  refine thn (hkw.run pos pins s σ H _ I h) fun ws s2 hh => ?_
  obtain ⟨vs, H2, I2, rz, v, ev, q2⟩ := hh
  subst ev
  cases rz with
  | cons rv rn =>
    cases rn
    refine ⟨I2.kIn, ?_⟩
    rw [hks]
    exact sup_run T hr I2 rv (.inr rfl) q2
end
end ND
namespace ND
open PySem PySem.Spec PyProof.Rows L2
/-- an exception object of the class at C, held as a value: without a dict, or with one at d -/
inductive IsX (H : Hp) (a C : Addr) : Prop
  | bare (h : H a = some (ExO (.ref C) a))
  | full {d : Addr} {fs : List (Str × V)} (h : H a = some (exo a C (some d))) (hd : H d = some (exd d fs))
/-- what of a class isinstance, and the reading of a field, ask -/
structure ExcK (K : PySem.W.Frag) (C : Addr) : Prop where
  cl : (PySem.W.clsIn K C).isSome = true
  ga : PySem.W.findIn K (.ref C) "__getattribute__" = some (some (.builtin "BaseException.__getattribute__"))
  gg : PySem.W.findIn K (.ref C) "__getattr__" = some none
  sb : PySem.W.subIn K (.ref C) (.type "BaseException") = some true
  hd : PySem.W.hasDictIn K C = true
  ha : PySem.W.findIn K (.ref C) "__class__" = some (some (.builtin "object.__class__"))
  hn : PySem.W.specialIn K (.builtin "object.__class__") "__get__" = some (some (.builtin "getset_descriptor.__get__"))
  ht : PySem.W.takesIn K (.builtin "object.__class__") = some true
  hm : PySem.W.mroIn K C (.type "object") = some true
section
variable {X : Cx} {pins : List (Addr × Obj)} {σ : L2.St} {H : Hp} {s : Shared}
theorem isX_inst {a C : Addr} (I : Inv X pins σ H s) (h : IsX H a C) : ∃ ox od, PySem.W.InstAt s.heap a ox C od := by
  cases h with
  | bare h =>
    obtain ⟨⟨oe, vs, hg, hz, hd, _⟩, _⟩ := (show ObjOk X.prog X.w H s.heap a (ExO (.ref C) a) from I.hok a _ h)
    obtain ⟨oc, od, oda, osl⟩ := oe
    obtain ⟨h1, h2⟩ := hz
    dsimp only at h1 h2 hd
    subst h1 h2 hd
    exact ⟨_, none, hg, rfl, rfl, trivial⟩
  | full h hd =>
    obtain ⟨t1, hg⟩ := exo_at I.hok h
    obtain ⟨mA, hns, _⟩ := exd_at I.hok hd
    obtain ⟨od, ho, _⟩ := lookIn_ns hns
    exact ⟨_, some od, hg, rfl, rfl, ho⟩
/-- isinstance(e, c) -/
def rIsX (K : PySem.W.Frag) : List V → Hp → VK → Prop := fun xs H Q => ∃ (a C : Addr) (c : V) (u : Value) (b : Bool), xs = [.ref a, c] ∧ IsX H a C ∧ ExcK K C ∧ ClsV c u ∧ PySem.W.kitOne K (.ref C) u = some b ∧ Q (.bl b) H
theorem call_isx : CallR X (.builtin "isinstance") (rIsX X.K) := by
  intro pins s σ H xs us Q I r h
  obtain ⟨a, C, c, u, b, rfl, hx, T, k, e, q⟩ := h
  obtain ⟨u1, u2, rfl, r1, r2⟩ := vals2 r
  cases r1
  have e2 := k.eq r2
  subst e2
  obtain ⟨ox, od, J⟩ := isX_inst I hx
  exact PySem.W.kia_one (PySem.W.kitx_exc T.cl T.ga T.gg T.sb T.ha T.hn T.ht T.hm) I.kIn J e (fun z => nomatch z) fun tk => ⟨.bl b, H, I.tok tk, rfl, q⟩
/-- e.f, an exception's field -/
def tXf (K : PySem.W.Frag) (f : Str) (te : TE) : TE := fun σ H Q => te σ H fun x H1 => ∃ (a C d : Addr) (fs : List (Str × V)) (v : V), x = .ref a ∧ H1 a = some (exo a C (some d)) ∧ H1 d = some (exd d fs) ∧ ExcK K C ∧ PySem.W.findIn K (.ref C) f = some none ∧ fs.lookup f = some v ∧ Q v H1
theorem pe_xf {e : Expr} {te : TE} {f : Str} {pos : Pos} (he : PE X e te) (hb : attributeBase e f X.env (eval e X.env) = eval e X.env := by rfl) : PE X (.Attribute e f pos) (tXf X.K f te) := by
  refine ⟨fun pins s σ H Q I h => ?_⟩
  refine attr_of hb (thn (he.run pins s σ H _ I h) fun u s1 hh => ?_)
  obtain ⟨x, H1, I1, rx, a, C, d, fs, v, ex, ha, hd, T, hno, hl, q⟩ := hh
  subst ex
  obtain rfl : u = Value.ref a := rx
  obtain ⟨t1, hg⟩ := exo_at I1.hok ha
  obtain ⟨mA, hns, hr⟩ := exd_at I1.hok hd
  obtain ⟨od, ho, hk⟩ := lookIn_ns hns
  obtain ⟨u, hu, ru⟩ := RelO.some_of (v := v) (o := mA f) (by rw [← hl]; exact hr f)
  have J : PySem.W.InstAt s1.heap a _ C (some od) := ⟨hg, rfl, rfl, ho⟩
  exact HandSPX.exc_get I1.kIn J T.ga T.gg T.sb (PySem.W.findObj_own T.hd hno rfl (by rw [hk, hu])) (handed_of ru) ⟨v, H1, I1.tok _, ru, q⟩
end
end ND
namespace ND
open PySem PySem.Spec PyProof.Rows L2
/-! ### repr of data, and of a dict of flat data -/
def flatD : V → Option PyData
  | .non => some .none
  | .bl b => some (.bool b)
  | .int i => some (.int i)
  | .str x => some (.str x)
  | _ => none
def keyD : Key → PyData
  | .inl i => .int i
  | .inr x => .str x
inductive FlatKv : List (Key × V) → List (PyData × PyData) → Prop
  | nil : FlatKv [] []
  | cons {k : Key} {v : V} {d : PyData} {kvs : List (Key × V)} {ds : List (PyData × PyData)} : flatD v = some d → FlatKv kvs ds → FlatKv ((k, v) :: kvs) ((keyD k, d) :: ds)
inductive Rp (K : PySem.W.Frag) (H : Hp) : V → PyData → Prop
  | dat {v : V} {d : PyData} (h : Dp K H v d) (hl : d.hasDict = false) : Rp K H v d
  | dic {a : Addr} {kvs : List (Key × V)} {ds : List (PyData × PyData)} (h : H a = some (.dK kvs)) (hf : FlatKv kvs ds) : Rp K H (.ref a) (.dict ds)
theorem flat_reads {h : Heap} {v : V} {d : PyData} {u : Value} (e : flatD v = some d) (r : RelV v u) : Reads h u d [] := by
  cases v with
  | non => cases e; cases r; exact .none
  | bl b => cases e; cases r; exact .bool b
  | int i => cases e; obtain ⟨t, rfl⟩ := r; exact .int i t
  | str x => cases e; obtain ⟨t, rfl⟩ := r; exact .str x t
  | byt b => cases e
  | flt b => cases e
  | ref a => cases e
  | ty n => cases e
theorem kv_reads {P : Program} {w : World} {h : Heap} : ∀ {es : List DictEntry} {vs : List (Key × Value)} {kvs : List (Key × V)} {ds : List (PyData × PyData)}, Pairs (mixKind P w) es vs → KV kvs vs → FlatKv kvs ds →
    ReadsAll h (es.map (·.key)) (ds.map (·.1)) [] ∧ ReadsAll h (es.map (·.val)) (ds.map (·.2)) []
  | _, _, _, _, .nil, kv, f => by
    cases kv
    cases f
    exact ⟨.nil, .nil⟩
  | _, _, _, _, .cons hk hv t, kv, f => by
    cases kv with
    | cons r rs =>
      cases f with
      | cons e fs =>
        obtain ⟨a1, a2⟩ := kv_reads (h := h) t rs fs
        obtain ⟨r1, r2⟩ := r
        constructor
        · refine .cons (as := []) (bs := []) ?_ a1
          dsimp only at r1 ⊢
          subst r1
          rcases keyIs_shape hk with ⟨i, tt, e1, e2⟩ | ⟨x, tt, e1, e2⟩
          · rw [e1, e2]; exact .int i tt
          · rw [e1, e2]; exact .str x tt
        · refine .cons (as := []) (bs := []) ?_ a2
          dsimp only
          rw [hv]
          exact flat_reads e r2
section
variable {X : Cx}
def rRepr (K : PySem.W.Frag) : List V → Hp → VK → Prop := fun xs H Q => ∃ x d, xs = [x] ∧ Rp K H x d ∧ d.showable = true ∧ d.depth ≤ 64 ∧ d.shown.length ≤ sizeLine ∧ Q (.str d.shown) H
theorem call_repr {K : PySem.W.Frag} (hK : X.K = K) (hg : X.A.guards = some []) (hu : X.A.units + 80 < cLine) : CallR X (.builtin "repr") (rRepr K) := by
  subst hK
  intro pins s σ H xs us Q I r h
  obtain ⟨x, d, rfl, hr, hs, hd, hz, q⟩ := h
  obtain ⟨u, rfl, ru⟩ := vals1 r
  have fin : ∀ h' tk uu, (∀ b o, s.heap.get? b = some o → h'.get? b = some o) → EP X pins σ Q (.str d.shown uu) { s with heap := h', toks := tk } := fun h' tk uu k => ⟨.str d.shown, H, I.kept (t' := tk) k, ⟨uu, rfl⟩, q⟩
  have key : ∀ as, Reads s.heap u d as → (d.hasDict = true → sysModules ∉ as) → wpAny (model X.prog X.w) X.A (call (.builtin "repr") [u]) (EP X pins σ Q) X.xe s := by
    intro as rd hsm
    cases u with
    | ref a => exact repr_of_reads' rd hs hsm hg (by omega) (fun _ _ e => e) (fun h' uu tk k => fin h' tk uu k) hz
    | none => cases rd; exact PySem.P.repr_of_none (fin _ _ _ fun _ _ e => e)
    | bool b => cases rd; exact PySem.P.repr_of_bool (fin _ _ _ fun _ _ e => e)
    | int i t => cases rd; exact PySem.P.repr_of_int (by simpa [PyData.showable] using hs) (fin _ _ _ fun _ _ e => e)
    | str y t => cases rd; exact PySem.P.repr_of_str (fin _ _ _ fun _ _ e => e) hz
    | _ => cases rd
  cases hr with
  | dat h0 hl =>
    obtain ⟨as, rd⟩ := Dp.reads I d x u h0 ru
    exact key as rd (fun z => by rw [hl] at z; cases z)
  | dic h0 hf =>
    cases ru
    obtain ⟨_, hns, vs, kv, o, es, ep, ho, hx, hdt, _, hp, _⟩ := (show ObjOk X.prog X.w H s.heap _ (.dK _) from I.hok _ _ h0)
    obtain ⟨a1, a2⟩ := kv_reads (h := s.heap) hp kv hf
    refine key _ (.dict ho hx.1 hdt a1 a2) (fun _ z => ?_)
    simp only [List.append_nil, List.mem_cons, List.not_mem_nil, or_false] at z
    rw [← z] at hns
    simp at hns
end
end ND
/-! promises of defs that are called where no repr runs (so that they may ask for one) -/
namespace ND
open PySem PySem.Spec PyProof.Rows L2
structure FnG (P : Program) (w : World) (K : PySem.W.Frag) (mg : Str → Option Value) (base : Heap) (k : Nat) (f : Addr) (fd : FuncData) (ps : List Str) (sp : Sp) : Prop where
  len : ∀ vs H Q E, sp vs H Q E → vs.length = ps.length
  run : ∀ (A : Around) (outer : List Env) (s : Shared) (H : Hp) (args : Args) (us : List Value) (vs : List V) (Q : VK) (E : XK), A.guards = some [] → Room k A → Env0 P w K mg base A outer s H → BindsTo s fd args (ps.zip us) → Vals vs us → sp vs H Q E →
    codeAny (model P w) A (.call (.ref f) args) (CR (L2.CX P w) outer P w H s Q E) s
structure GOkG (P : Program) (w : World) (K : PySem.W.Frag) (mg : Str → Option Value) (base : Heap) (k : Nat) (x : Str) (ps : List Str) (sp : Sp) : Prop where
  ex : ∃ f fd, mg x = some (.ref f) ∧ PySem.W.keepIn K (.ref f) = true ∧ Binds K fd ps [] ∧ FnG P w K mg base k f fd ps sp
section
variable {P : Program} {w : World} {K : PySem.W.Frag} {mg : Str → Option Value} {base : Heap}
theorem GOk.toG {k : Nat} {x : Str} {ps : List Str} {sp : Sp} (G : GOk P w K mg base k x ps sp) : GOkG P w K mg base k x ps sp := by
  obtain ⟨f, fd, a, b, c, d⟩ := G.ex
  exact ⟨f, fd, a, b, c, ⟨d.len, fun A outer s H args us vs Q E _ hr e hb r h => d.run A outer s H args us vs Q E hr e hb r h⟩⟩
theorem FunD.okG {x qual : Str} {st : Stmt} {f : Addr} {fd : FuncData} {N ps : List Str} {k : Nat} {sp : Sp} (F : FnP K x qual st f fd) (S : FnScope N ps (defScope st)) (len : ∀ vs H Q E, sp vs H Q E → vs.length = ps.length)
    (hbody : ∀ (cdv : Value) (A : Around) (outer : List Env) (s : Shared) (H : Hp) (vs : List V) (Q : VK) (E : XK), A.guards = some [] → Room k (A.deeper (envOfC qual (defScope st) s.heap.objs.size f cdv)) → sp vs H Q E →
      ∃ t, PSs (cxOf (L2.CX P w) P w K mg base N qual (defScope st) f cdv A outer s H E) (defBody st) t ∧ t { nx := fun _ H' => Q .non H', rt := Q } (start N vs) H) : FnG P w K mg base (k + 1) f fd ps sp := by
  obtain ⟨oc, od, dV, kV, doc, pm, an, cdv, ct, osl, rfl, lk, hcd, _, _⟩ := F.ex
  constructor
  · exact len
  intro A outer s H args us vs Q E hgd hr e0 hb r hsp
  have KX : K.In s.heap := e0.mod.kin.keeps fun b o e => (e0.bs b o e).1
  have lim : s.heap.NoLimit := e0.mod.nolimit.keeps fun b o e => (e0.bs b o e).1
  obtain ⟨t, ht, hq⟩ := hbody cdv A outer s H vs Q E hgd (hr.deeper _) hsp
  refine codeAny_call_function hr.depth (KX _ _ lk) rfl S.co S.gen rfl (PySem.W.codeRec_of KX hcd) (hb _ _ _ _ (wpAny_newFunctionEnv_cells S.kind (fun y hy => ?_) fun env he s1 x => ?_))
  · obtain ⟨n, v⟩ := y
    rcases S.par n (List.of_mem_zip hy).1 with q | q
    · exact .inl q
    · exact .inr ⟨q, PySem.W.cellsFrom_some _ _ _ (.inl q)⟩
  · subst he
    refine ⟨lim.keeps x.toInCall.keep, codeAny_func ?_⟩
    have I : Inv (cxOf (L2.CX P w) P w K mg base N qual (defScope st) f cdv A outer s H E) [] (start N vs) H s1 := inv_start S hr.hd e0 (len _ _ _ _ hsp) r x
    refine wpAny_mono (ht.run [] s1 (start N vs) H _ I hq) (fun fl s' hs => ?_) fun e s' hs => hs
    match fl, hs with
    | .ret u, ⟨v, σ', H', J, rv, q⟩ => exact ⟨v, H', J.os, J.bare, J.base, J.hok, rv, q⟩
    | .next, ⟨σ', H', J, q⟩ => exact ⟨.non, H', J.os, J.bare, J.base, J.hok, rfl, q⟩
    | .brk, ⟨_, _, _, q⟩ => exact q.elim
    | .cont, ⟨_, _, _, q⟩ => exact q.elim
theorem GFun.okG {x : Str} {st : Stmt} {N ps : List Str} {k : Nat} {sp : Sp} (F : GFun K mg x st) (S : FnScope N ps (defScope st))
    (hb : ∀ (kV doc pm : Value) (an : Option Addr) (cdv ct : Value) (us : List Value), us.length = ps.length → bindArgs (PySem.W.fnOf x x (defArgs st) (defBody st) (defScope st) .none kV doc pm an cdv ct) ⟨us, []⟩ = pure (ps.zip us))
    (len : ∀ vs H Q E, sp vs H Q E → vs.length = ps.length)
    (hbody : ∀ (f : Addr) (cdv : Value) (A : Around) (outer : List Env) (s : Shared) (H : Hp) (vs : List V) (Q : VK) (E : XK), A.guards = some [] → Room k (A.deeper (envOfC x (defScope st) s.heap.objs.size f cdv)) → sp vs H Q E →
      ∃ t, PSs (cxOf (L2.CX P w) P w K mg base N x (defScope st) f cdv A outer s H E) (defBody st) t ∧ t { nx := fun _ H' => Q .non H', rt := Q } (start N vs) H) : GOkG P w K mg base (k + 1) x ps sp := by
  obtain ⟨f, fd, F, hm⟩ := F.ex
  exact ⟨f, fd, hm, F.kp, F.bindsN hb, FunD.okG F S len fun cdv A outer s H vs Q E hg hr h => hbody f cdv A outer s H vs Q E hg hr h⟩
end
section
variable {X : Cx} {k : Nat} {ps : List Str} {sp : Sp} {E : XK} {x : Str} {p pos : Pos} {e : Expr} {es : List Expr} {t : TA}
theorem pe_gg (G : GOkG X.prog X.w X.K X.mg X.base k x ps sp) (hgd : X.A.guards = some []) (hr : Room k X.A) (hg : Gl X x) (hx : Passes (L2.CX X.prog X.w) X E)
    (ha : PA X (e :: es) t) (hdb : (x == ("__debug__" : Str)) = false := by decide) (he : starEach (e :: es) X.env = (false, eval e X.env) :: starEach es X.env := by rfl) (hpl : (backTo pos (starEach es X.env)).any (·.1) = false := by rfl) :
    PE X (.Call (.Name x p) (e :: es) [] pos) (tCall sp [] E t) := by
  obtain ⟨f, fd, hm, hk, hb, F⟩ := G.ex
  refine ⟨fun pins s σ H Q I h => wpAny_Call_Name_kw (ld_glob I hg hm ?_ hdb)⟩
  refine PySem.W.callWith_K (h₀ := X.base) I.ok.mod.kin hk (thn (ha.run pos pins s σ H _ I h) fun us s1 hh => ?_) he hpl
  obtain ⟨vs, H1, I1, r, q⟩ := hh
  have q' : sp vs H1 Q E := by
    have z : sp (vs ++ []) H1 Q E := q
    rwa [List.append_nil] at z
  refine ⟨I1.kIn, ?_⟩
  have hl : (us ++ []).length = ps.length := by rw [List.append_nil, ← r.length]; exact F.len _ _ _ _ q'
  have bd : BindsTo s1 fd ⟨us, []⟩ (ps.zip us) := by
    have z := hb s1 us I1.kIn hl
    rwa [List.append_nil] at z
  refine wpAny_call (codeAny_mono (F.run X.A X.stack s1 H1 ⟨us, []⟩ us vs Q E hgd hr I1.env0 bd r q') fun r s' hq => ?_)
  match r, hq with
  | .error e, hq => exact hx pins σ H1 s1 e s' I1 hq
  | .ok (.ret u), hq => exact I1.after hq
  | .ok .next, hq => exact hq.elim
  | .ok .brk, hq => exact hq.elim
  | .ok .cont, hq => exact hq.elim
end
end ND
/-! the end of a law's proof: its promise, over the heap behind the top -/
namespace ND
open PySem PySem.Spec PyProof.Rows L2
theorem law_G {P : Program} {w : World} {K : PySem.W.Frag} {mg mb : Str → Option Value} {k : Nat} {fa a : Addr} {fd : FuncData} {x : Str} {sp : Sp} {s1 : Shared} {vs : List Value} {ns : List Int}
    (KX : K.In s1.heap) (hns : s1.heap.Ns mainGlobals mg) (hb : s1.heap.Ns builtinsNs mb) (hbb : ∀ y : Str, y ≠ "__name__" → mb y = bootBuiltins y) (hlim : s1.heap.NoLimit) (hg : s1.gens = #[])
    (ha : s1.heap.get? a = some { cls := .type "list", data := .seq vs.toArray }) (hi : IntsAre vs ns) (hl : ns.length ≤ sizeLine) (hr : Room k callerA)
    (F : ∀ base : Heap, K.In base → base.Ns mainGlobals mg → FnG P w K mg base k fa fd [x] sp) (hbind : ∀ (s : Shared) (u : Value), BindsTo s fd ⟨[u], []⟩ [(x, u)])
    (hsp : ∀ H : Hp, SqL K H a (ns.map V.int) → sp [.ref a] H (fun v _ => v = .bl true) fun _ _ _ => False) :
    codeAny (model P w) callerA (.call (.ref fa) ⟨[.ref a], []⟩) (fun r s' => r = .ok (.ret (.bool true)) ∧ OldK s1.heap s'.heap ∧ s'.os = s1.os ∧ AllBare s'.gens) s1 := by
  have rv := vals_ints hi
  obtain ⟨Hs, hHs⟩ : ∃ Hs : Hp, Hs = fun b => if b = a ∧ K.lookup a = none then some (.frz { cls := .type "list", data := .seq vs.toArray } (.lst (ns.map V.int))) else none := ⟨_, rfl⟩
  have off : ∀ b, Hs b = none ∨ (b = a ∧ K.lookup a = none ∧ Hs b = some (.frz { cls := .type "list", data := .seq vs.toArray } (.lst (ns.map V.int)))) := fun b => by
    rw [hHs]
    by_cases c : b = a ∧ K.lookup a = none
    · exact .inr ⟨c.1, c.2, if_pos c⟩
    · exact .inl (if_neg c)
  have hok : HOk P w Hs s1.heap := fun b u q => by
    rcases off b with z | ⟨e, _, z⟩
    · rw [z] at q; cases q
    · rw [z] at q
      cases q
      subst e
      exact ⟨ha, by rw [List.length_map]; exact hl, vs, _, rv, ha⟩
  have sq : SqL K Hs a (ns.map V.int) := by
    cases hk : K.lookup a with
    | none => exact .inl (.inr ⟨_, by rw [hHs]; exact if_pos ⟨rfl, hk⟩⟩)
    | some o =>
      have e := KX a o hk
      rw [ha] at e
      cases e
      exact .inr ⟨_, vs.toArray, _, hk, rfl, rfl, rfl, by rw [List.size_toArray, hi.length]; exact hl, by simpa using rv⟩
  have inK : K.In (hidT s1.heap Hs) := fun b o e => hidT_get (KX b o e) (by
    rcases off b with z | ⟨eb, z, _⟩
    · exact z
    · rw [eb, z] at e; cases e)
  have nsB : ∀ {b : Addr} {m : Str → Option Value}, s1.heap.Ns b m → (hidT s1.heap Hs).Ns b m := fun {b m} n => by
    obtain ⟨o, es, ep, e, d, r⟩ := n
    refine ⟨o, es, ep, hidT_get e ?_, d, r⟩
    rcases off b with z | ⟨eb, _, _⟩
    · exact z
    · rw [eb, ha] at e
      cases e
      have d' : Data.seq vs.toArray _ = Data.dict es ep := d
      cases d'
  have md : Mod K mg (hidT s1.heap Hs) := by
    obtain ⟨mc, h1, h2⟩ := hlim
    exact ⟨inK, nsB hns, ⟨mb, nsB hb, hbb⟩, mc, nsB h1, h2⟩
  have e0 : Env0 P w K mg (hidT s1.heap Hs) callerA [] s1 Hs := {
    frames := rfl
    mod := md
    bs := fun b o e => of_hidT e
    bsz := Nat.le_of_eq (hidT_size _ _)
    funs := trivial
    frf := fun b q => nomatch (show b ∈ ([] : List Addr) from q)
    hok := hok
    bare := .of_eq hg }
  refine codeAny_mono ((F _ inK (nsB hns)).run callerA [] s1 Hs ⟨[.ref a], []⟩ [.ref a] [.ref a] _ _ rfl hr e0 (hbind s1 (.ref a)) (.cons rfl .nil) (hsp Hs sq)) fun r s' h => ?_
  match r, h with
  | .error e, h =>
    obtain ⟨_, _, _, _, _, _, _, _, _, _, _, _, z⟩ := h
    exact z.elim
  | .ok .next, h => exact h.elim
  | .ok .brk, h => exact h.elim
  | .ok .cont, h => exact h.elim
  | .ok (.ret u), ⟨v, H', os, bare, un, hok', r', q⟩ =>
    have q' : v = .bl true := q
    subst q'
    obtain rfl : u = Value.bool true := r'
    refine ⟨rfl, OldK.of_keep fun b o e => ?_, os, bare⟩
    rcases off b with z | ⟨eb, _, z⟩
    · exact un.keep b o e z (fun y => nomatch (show b ∈ ([] : List Addr) from y)) (fun y => nomatch y)
    · have z2 := un.frzs b _ _ z
      obtain ⟨e1, _⟩ := hok b _ z
      obtain ⟨e2, _⟩ := hok' b _ z2
      rw [e] at e1
      cases e1
      exact e2
theorem walk_G {l : PySem.W.OpenLaw} {n k : Nat} {q : Program} {loose : List Str} {XP : (Str → Option Value) → Heap → Prop} {YP : World → Heap → Prop} {d : DefRec} {x : Str}
    (hn : l.most = some n) (hn2 : n ≤ sizeLine) (hdf : d.params.defaults = []) (hr : Room k callerA)
    (F : ∀ (w : World) (mg : Str → Option Value) (fa : Addr) (h : Heap), YP w h → h.Ns mainGlobals mg → mg d.name = some (.ref fa) →
      ∃ (K : PySem.W.Frag) (fd : FuncData) (sp : Sp), K.In h ∧ (∀ (s : Shared) (u : Value), BindsTo s fd ⟨[u], []⟩ [(x, u)]) ∧
        (∀ (H : Hp) (a : Addr) (ns : List Int), ns.length ≤ n → SqL K H a (ns.map V.int) → sp [.ref a] H (fun v _ => v = .bl true) fun _ _ _ => False) ∧
        ∀ base : Heap, K.In base → base.Ns mainGlobals mg → FnG l.prog w K mg base k fa fd [x] sp) :
    PySem.W.WalkO q loose XP YP l.row.toRowW d [] (fun f vs => PySem.call f vs) := by
  refine Att.attach_call hn hdf fun w s0 s1 mg mb fa o pm cd doc a vs ns G Y ho hd hcd hmg hobj hints hlen hg => ?_
  obtain ⟨K, fd, sp, KX, hb, hsp, hF⟩ := F w mg fa _ Y G.T.g hmg
  exact law_G KX G.T.g G.T.b G.T.builtins G.T.nolimit hg hobj hints (Nat.le_trans hlen hn2) hr hF hb fun H hS => hsp H a ns hlen hS
end ND
namespace ND
open PySem PySem.Spec PyProof.Rows L2
/-! ### exceptions as values, over what stays -/
theorem IsX.mono {H H' : Hp} {a C : Addr} (e : Evl.Ex H H') (h : IsX H a C) : IsX H' a C := by
  cases h with
  | bare h => exact .bare (e _ _ h)
  | full h hd => exact .full (e _ _ h) (e _ _ hd)
section
variable {K : PySem.W.Frag} {σ : L2.St} {H : Hp} {ta te : TE}
theorem ev_isx {a C : Addr} {c : V} {u : Value} {b : Bool} {tc : TE} (h : Evl.Ev ta σ H (.ref a)) (hc : Evl.Ev tc σ H c) (hx : IsX H a C) (T : ExcK K C) (k : ClsV c u) (e : PySem.W.kitOne K (.ref C) u = some b) :
    Evl.Ev (tCB (rIsX K) (tCons ta (tCons tc tNil))) σ H (.bl b) := by
  refine Evl.ev_cb (Evl.ea_cons h (Evl.ea_cons hc Evl.ea_nil)) fun H1 e1 Q q => ?_
  exact ⟨a, C, c, u, b, rfl, hx.mono e1, T, k, e, q H1 (Evl.Ex.refl _)⟩
/-- X(v).f -/
theorem ev_supf {C : Addr} {fld : Str} {tv : TA} {v : V} (h : Evl.EvA tv σ H [v]) (T : ExcK K C) (no : PySem.W.findIn K (.ref C) fld = some none) : Evl.Ev (tXf K fld (tSup C fld tv)) σ H v := by
  intro H1 e1 Q q
  refine h H1 e1 _ fun H2 e2 => ⟨v, rfl, fun e d ne nd dn => ?_⟩
  exact ⟨e, C, d, [(fld, v)], v, rfl, excH_e, excH_d dn, T, no, by simp [List.lookup], q _ (e2.trans (excH_same ne nd))⟩
/-- a new exception of the class at C -/
def EvX (te : TE) (σ : L2.St) (H : Hp) (C : Addr) : Prop := ∀ H1, Evl.Ex H H1 → ∀ Q : VK, (∀ e H2, Evl.Ex H1 H2 → IsX H2 e C → Q (.ref e) H2) → te σ H1 Q
theorem ex_sup {C : Addr} {fld : Str} {tv : TA} {v : V} (h : Evl.EvA tv σ H [v]) : EvX (tSup C fld tv) σ H C := by
  intro H1 e1 Q q
  refine h H1 e1 _ fun H2 e2 => ⟨v, rfl, fun e d ne nd dn => ?_⟩
  exact q e _ (e2.trans (excH_same ne nd)) (.full excH_e (excH_d dn))
theorem ex_bare {C : Addr} {v : V} (h : Evl.Ev ta σ H v) : EvX (fun σ H Q => ta σ H fun _ H1 => ∀ a, H1 a = none → Q (.ref a) (upd H1 a (ExO (.ref C) a))) σ H C := by
  intro H1 e1 Q q
  refine h H1 e1 _ fun H2 e2 a na => ?_
  exact q a _ (e2.trans (Evl.Ex.new na)) (.bare upd_same)
/-- values that are exceptions of these classes -/
inductive Xs (H : Hp) : List V → List Addr → Prop
  | nil : Xs H [] []
  | cons {e C : Addr} {vs : List V} {cs : List Addr} : IsX H e C → Xs H vs cs → Xs H (.ref e :: vs) (C :: cs)
theorem Xs.mono {H H' : Hp} (e : Evl.Ex H H') : ∀ {vs : List V} {cs : List Addr}, Xs H vs cs → Xs H' vs cs
  | _, _, .nil => .nil
  | _, _, .cons h t => .cons (h.mono e) (t.mono e)
theorem Xs.append {H : Hp} : ∀ {vs ws : List V} {cs ds : List Addr}, Xs H vs cs → Xs H ws ds → Xs H (vs ++ ws) (cs ++ ds)
  | _, _, _, _, .nil, s => s
  | _, _, _, _, .cons h t, s => .cons h (t.append s)
theorem Xs.length {H : Hp} : ∀ {vs : List V} {cs : List Addr}, Xs H vs cs → vs.length = cs.length
  | _, _, .nil => rfl
  | _, _, .cons _ t => by rw [List.length_cons, List.length_cons, t.length]
theorem Xs.at {H : Hp} : ∀ {vs : List V} {cs : List Addr} {i : Nat} {v : V}, Xs H vs cs → vs[i]? = some v → ∃ e C, v = .ref e ∧ cs[i]? = some C ∧ IsX H e C
  | _, _, _, _, .nil, h => by simp at h
  | _, _, 0, _, .cons h t, e => by
    simp at e
    subst e
    exact ⟨_, _, rfl, rfl, h⟩
  | _, _, i + 1, v, .cons h t, e => by
    obtain ⟨x, C, a, b, c⟩ := t.at (i := i) (v := v) (by simpa using e)
    exact ⟨x, C, a, by simpa using b, c⟩
def EvAX (ta : TA) (σ : L2.St) (H : Hp) (cs : List Addr) : Prop := ∀ H1, Evl.Ex H H1 → ∀ Q : List V → Hp → Prop, (∀ vs H2, Evl.Ex H1 H2 → Xs H2 vs cs → Q vs H2) → ta σ H1 Q
theorem eax_nil : EvAX tNil σ H [] := fun H1 _ Q q => q [] H1 (Evl.Ex.refl _) .nil
theorem EvX.mono {C : Addr} {H' : Hp} (e : Evl.Ex H H') (h : EvX te σ H C) : EvX te σ H' C := fun H1 e1 Q q => h H1 (e.trans e1) Q q
theorem eax_cons {tr : TA} {C : Addr} {cs : List Addr} (h : EvX te σ H C) (hr : EvAX tr σ H cs) : EvAX (tCons te tr) σ H (C :: cs) := by
  intro H1 e1 Q q
  refine h H1 e1 _ fun e H2 e2 x => hr H2 (e1.trans e2) _ fun vs H3 e3 xs => ?_
  exact q _ H3 (e2.trans e3) (.cons (x.mono e3) xs)
def EvLX (te : TE) (σ : L2.St) (H : Hp) (cs : List Addr) : Prop := ∀ H1, Evl.Ex H H1 → ∀ Q : VK, (∀ p vs H2, H1 p = none → Evl.Ex H1 H2 → H2 p = some (.lst vs) → Xs H2 vs cs → Q (.ref p) H2) → te σ H1 Q
theorem elx_lst {tr : TA} {cs : List Addr} (h : EvAX tr σ H cs) (hz : cs.length ≤ 1000) : EvLX (tLst tr) σ H cs := by
  intro H1 e1 Q q
  refine h H1 e1 _ fun vs H2 e2 xs => ⟨Nat.le_of_lt (small1000 (by rw [xs.length]; exact hz)), fun p np => ?_⟩
  have e3 : Evl.Ex H2 (upd H2 p (.lst vs)) := Evl.Ex.new np
  exact q p vs _ (Evl.fresh_back e2 np) (e2.trans e3) upd_same (xs.mono e3)
theorem elx_cat {tb : TE} {l : Addr} {vs : List V} {cs ds : List Addr} (hl : H l = some (.lst vs)) (hx : Xs H vs cs) (ha : Evl.Ev ta σ H (.ref l)) (hb : EvLX tb σ H ds) (hz : cs.length + ds.length ≤ 1000) : EvLX (tOp rCat ta tb) σ H (cs ++ ds) := by
  intro H1 e1 Q q
  refine ha H1 e1 _ fun H2 e2 => hb H2 (e1.trans e2) _ fun p ws H3 np e3 hp xs => ?_
  have e02 : Evl.Ex H H3 := (e1.trans e2).trans e3
  refine ⟨l, p, vs, ws, rfl, rfl, e02 _ _ hl, hp, Nat.le_of_lt (small1000 (by rw [hx.length, xs.length]; exact hz)), fun r nr => ?_⟩
  have e4 : Evl.Ex H3 (upd H3 r (.lst (vs ++ ws))) := Evl.Ex.new nr
  exact q r _ _ (Evl.fresh_back (e2.trans e3) nr) ((e2.trans e3).trans e4) upd_same (((hx.mono e02).append xs).mono e4)
theorem el_cat {tb : TE} {l : Addr} {vs ws : List V} (hl : H l = some (.lst vs)) (ha : Evl.Ev ta σ H (.ref l)) (hb : Evl.EvL tb σ H ws) (hz : vs.length + ws.length ≤ 1000) : Evl.EvL (tOp rCat ta tb) σ H (vs ++ ws) := by
  intro H1 e1 Q q
  refine ha H1 e1 _ fun H2 e2 => hb H2 (e1.trans e2) _ fun p H3 np e3 hp => ?_
  refine ⟨l, p, vs, ws, rfl, rfl, ((e1.trans e2).trans e3) _ _ hl, hp, Nat.le_of_lt (small1000 hz), fun r nr => ?_⟩
  have e4 : Evl.Ex H3 (upd H3 r (.lst (vs ++ ws))) := Evl.Ex.new nr
  exact q r _ (Evl.fresh_back (e2.trans e3) nr) ((e2.trans e3).trans e4) upd_same
theorem q_asgX {i : Nat} {D : Ends} {tz : TS} {cs : List Addr} (h : EvLX te σ H cs) (k : ∀ p vs H1, H p = none → Evl.Ex H H1 → H1 p = some (.lst vs) → Xs H1 vs cs → tz D (σ.set i (some (.ref p))) H1) : tSeq (tAsg te (gName i)) tz D σ H :=
  h H (Evl.Ex.refl _) _ fun p vs H2 np e hp xs => k p vs H2 np e hp xs
theorem s_retX {D : Ends} {cs : List Addr} (h : EvLX te σ H cs) (k : ∀ p vs H1, H p = none → Evl.Ex H H1 → H1 p = some (.lst vs) → Xs H1 vs cs → D.rt (.ref p) H1) : tRet te D σ H :=
  h H (Evl.Ex.refl _) _ fun p vs H2 np e hp xs => k p vs H2 np e hp xs
end
end ND
namespace ND
open PySem PySem.Spec PyProof.Rows L2
section
variable {K : PySem.W.Frag} {H H' : Hp}
mutual
theorem Dp_mono (e : Evl.Ex H H') : ∀ (d : PyData) (v : V), Dp K H v d → Dp K H' v d
  | .none, _, h => by cases h; exact .non
  | .bool b, _, h => by cases h; exact .bl b
  | .int i, _, h => by cases h; exact .int i
  | .str x, _, h => by cases h; exact .str x
  | .list ds, _, h => by
    cases h with
    | lst hs ha => exact .lst (Evl.ex_l e hs) (DpAll_mono e ds _ ha)
  | .tuple ds, _, h => by
    cases h with
    | tup hs ha => exact .tup (Evl.ex_t e hs) (DpAll_mono e ds _ ha)
  | .dict _, _, h => by cases h
theorem DpAll_mono (e : Evl.Ex H H') : ∀ (ds : List PyData) (vs : List V), DpAll K H vs ds → DpAll K H' vs ds
  | [], _, h => by cases h; exact .nil
  | d :: ds, _, h => by
    cases h with
    | cons h1 h2 => exact .cons (Dp_mono e d _ h1) (DpAll_mono e ds _ h2)
end
theorem Rp.mono {v : V} {d : PyData} (e : Evl.Ex H H') (h : Rp K H v d) : Rp K H' v d := by
  cases h with
  | dat h hl => exact .dat (Dp_mono e _ _ h) hl
  | dic h hf => exact .dic (e _ _ h) hf
end
theorem u80 {k : Nat} {A : Around} (hr : Room k A) : A.units + 80 < cLine := by
  have := hr.un
  omega
/-- a value whose repr can be told -/
def Rpr (K : PySem.W.Frag) (H : Hp) (v : V) : Prop := ∃ d, Rp K H v d ∧ d.showable = true ∧ d.depth ≤ 64 ∧ d.shown.length ≤ sizeLine
theorem Rpr.mono {K : PySem.W.Frag} {H H' : Hp} {v : V} (e : Evl.Ex H H') (h : Rpr K H v) : Rpr K H' v := by
  obtain ⟨d, a, b⟩ := h
  exact ⟨d, a.mono e, b⟩
end ND
namespace ND
open PySem PySem.Spec PyProof.Rows L2
/-! ### sorted(xs) of data that are alike -/
theorem each_vals : ∀ {bs : List (V × PyData)} {us : List Value}, Vals (bs.map (·.1)) us → PySem.W.EachIs (fun (u : Value) (b : V × PyData) => RelV b.1 u) us bs
  | [], _, r => by
    cases r
    exact .nil
  | b :: bs, _, r => by
    cases r with
    | cons h t => exact .cons h (each_vals t)
theorem vals_each : ∀ {us : List Value} {bs : List (V × PyData)}, PySem.W.EachIs (fun (u : Value) (b : V × PyData) => RelV b.1 u) us bs → Vals (bs.map (·.1)) us
  | _, _, .nil => .nil
  | _, _, .cons h t => .cons h (vals_each t)
section
variable {X : Cx} {pins : List (Addr × Obj)} {σ : L2.St} {H : Hp} {s : Shared}
theorem each_reads (I : Inv X pins σ H s) : ∀ {bs : List (V × PyData)} {us : List Value}, Vals (bs.map (·.1)) us → (∀ b ∈ bs, Dp X.K H b.1 b.2) → PySem.W.EachIs (fun (u : Value) (b : V × PyData) => ∃ as, Reads s.heap u b.2 as) us bs
  | [], _, r, _ => by
    cases r
    exact .nil
  | b :: bs, _, r, h => by
    cases r with
    | cons h1 t => exact .cons (Dp.reads I b.2 b.1 _ (h b List.mem_cons_self) h1) (each_reads I t fun c hc => h c (List.mem_cons_of_mem _ hc))
/-- the sorted list of values with their data -/
def srt (bs : List (V × PyData)) : List (V × PyData) := bs.mergeSort (PySem.W.dataLe false (·.2))
def rSortD (K : PySem.W.Frag) : List V → Hp → VK → Prop := fun vs H Q => ∃ (a : Addr) (bs : List (V × PyData)), vs = [.ref a] ∧ SqL K H a (bs.map (·.1)) ∧ (∀ b ∈ bs, Dp K H b.1 b.2) ∧ PySem.W.AllAlike (bs.map (·.2)) ∧ PySem.W.Sortable (bs.map (·.2)) ∧
  (∀ b ∈ bs, b.2.depth ≤ 50) ∧ ∀ p, H p = none → Q (.ref p) (upd H p (.lst ((srt bs).map (·.1))))
theorem cr_sortD (hu : X.A.units + 80 < cLine) : CallR X (.builtin "sorted") (rSortD X.K) := by
  intro pins s σ H vs us Q I r h
  obtain ⟨a, bs, rfl, hs, hd, hal, hk, hdp, q⟩ := h
  obtain ⟨its, rv, hl, hz⟩ := I.list hs
  rw [Vals.ref1 r]
  have hz' : bs.length ≤ sizeLine := by rw [List.length_map] at hz; exact hz
  refine PySem.W.sorted_data (enc := fun b : V × PyData => b.2) (R := fun (u : Value) (b : V × PyData) => RelV b.1 u) hl.isList (each_vals rv) (each_reads I rv hd) hal hk hz' (fun b hb => ?_) (fun out hlen hout => ?_)
  · have := hdp b hb
    show X.A.units + 2 + b.2.depth < cLine
    omega
  · obtain ⟨ep, he'⟩ := PyProof.Rows.sortedAll_at s.heap its out.toArray
    have hv := vals_each hout
    have hln : ((srt bs).map (·.1)).length ≤ sizeLine := by
      rw [List.length_map]
      unfold srt
      rw [List.length_mergeSort]
      exact hz'
    exact ⟨.ref _, upd H (s.heap.objs.size + 1) (.lst ((srt bs).map (·.1))), I.laid (t' := s.toks) (fun _ _ => PyProof.Rows.sortedAll_old) (Nat.le_succ _) ⟨hln, out, ep, hv, by simpa using he'⟩, rfl, q _ (I.hok.fresh (Nat.le_succ _))⟩
end
end ND
/-! what is known of the heap beside the draw: G is the part that stays -/
namespace ND
open PySem PySem.Spec PyProof.Rows L2
structure Wd (K : PySem.W.Frag) (d aw ac : Addr) (T : Nat) (G H : Hp) : Prop where
  dr : Draw K d aw ac T H
  sub : Same G H
  nd : G d = none
  nw : G aw = none
  cc : G ac ≠ none
def noFrz : HO → Bool
  | .frz _ (.dK _) => false
  | _ => true
structure Stp (d aw : Addr) (G H G' H' : Hp) : Prop where
  g : Same G G'
  k : Keep d aw H H'
  dm : ∀ b, H' b = none → H b = none
  o : ∀ b, G b = none → H b ≠ none → G' b = none
  nf : ∀ b o kvs, G' b = some (.frz o (.dK kvs)) → G b = some (.frz o (.dK kvs))
theorem Stp.refl {d aw : Addr} {G H : Hp} : Stp d aw G H G H := ⟨Same.refl _, Keep.refl, fun _ h => h, fun _ h _ => h, fun _ _ _ h => h⟩
theorem Stp.trans {d aw : Addr} {G H G1 H1 G2 H2 : Hp} (a : Stp d aw G H G1 H1) (b : Stp d aw G1 H1 G2 H2) : Stp d aw G H G2 H2 :=
  ⟨a.g.trans b.g, a.k.trans b.k, fun x h => a.dm x (b.dm x h), fun x h h1 => b.o x (a.o x h h1) fun z => h1 (a.dm x z), fun x o k h => a.nf x o k (b.nf x o k h)⟩
/-- the world from (G0, H0) to (G, H) -/
structure Wk (K : PySem.W.Frag) (d aw ac : Addr) (T : Nat) (G0 H0 G H : Hp) : Prop where
  w : Wd K d aw ac T G H
  s : Stp d aw G0 H0 G H
/-- a local object, that may still change -/
structure Lo (d aw : Addr) (H0 G H : Hp) (p : Addr) (o : HO) : Prop where
  h : H p = some o
  g : G p = none
  nd : p ≠ d
  nw : p ≠ aw
  n0 : H0 p = none
section
variable {K : PySem.W.Frag} {d aw ac p q : Addr} {T T' : Nat} {G0 H0 G H G1 H1 : Hp} {o o' x : HO}
theorem upd_none {H : Hp} {p b : Addr} {o : HO} (h : upd H p o b = none) : b ≠ p ∧ H b = none := by
  have hb : b ≠ p := fun e => by rw [e, upd_same] at h; cases h
  exact ⟨hb, by rw [upd_ne hb] at h; exact h⟩
theorem Wd.hd (W : Wd K d aw ac T G H) : ∃ o, H d = some o := by
  obtain ⟨ws, cs, r, t, hd, _⟩ := W.dr.ex
  exact ⟨_, hd⟩
theorem Wd.hw (W : Wd K d aw ac T G H) : ∃ o, H aw = some o := by
  obtain ⟨ws, cs, r, t, hd, hw, _⟩ := W.dr.ex
  exact ⟨_, hw⟩
theorem Wd.ned (W : Wd K d aw ac T G H) (np : H p = none) : p ≠ d := by
  obtain ⟨o, h⟩ := W.hd
  exact fun e => by rw [e, h] at np; cases np
theorem Wd.new_ (W : Wd K d aw ac T G H) (np : H p = none) : p ≠ aw := by
  obtain ⟨o, h⟩ := W.hw
  exact fun e => by rw [e, h] at np; cases np
theorem Wd.gn (W : Wd K d aw ac T G H) (np : H p = none) : G p = none := W.sub.free np
theorem Wd.ne_ac (W : Wd K d aw ac T G H) (gp : G p = none) : p ≠ ac := fun e => W.cc (e ▸ gp)
theorem Draw.upd' {d aw ac : Addr} (D : Draw K d aw ac T H) (h1 : p ≠ d) (h2 : p ≠ aw) (h3 : p ≠ ac) : Draw K d aw ac T (upd H p o) := by
  obtain ⟨⟨ws, cs, r, t, hd, hw, hc, z⟩, hne⟩ := D
  exact ⟨⟨ws, cs, r, t, by rw [upd_ne h1.symm]; exact hd, by rw [upd_ne h2.symm]; exact hw, by rw [upd_ne h3.symm]; exact hc, z⟩, hne⟩
theorem same_upd (s : Same G H) (gp : G p = none) : Same G (upd H p o) := fun b u e => by
  rw [upd_ne (ne_of_none e gp)]; exact s b u e
theorem same_both (s : Same G H) : Same (upd G p o) (upd H p o) := fun b u e => by
  by_cases hb : b = p
  · subst hb; rw [upd_same] at e ⊢; exact e
  · rw [upd_ne hb] at e ⊢; exact s b u e
theorem same_seal (s : Same G H) (hp : H p = some o) : Same (upd G p o) H := fun b u e => by
  by_cases hb : b = p
  · subst hb; rw [upd_same] at e; rw [hp]; exact e
  · rw [upd_ne hb] at e; exact s b u e
theorem same_add (gp : G p = none) : Same G (upd G p o) := fun b u e => by
  rw [upd_ne (ne_of_none e gp)]; exact e
theorem Wd.start (D : Draw K d aw ac T H) (cs : HO) (hc : H ac = some cs) (h1 : ac ≠ d) (h2 : ac ≠ aw) : Wd K d aw ac T (upd (fun _ => none) ac cs) H := by
  refine ⟨D, fun b u e => ?_, ?_, ?_, ?_⟩
  · by_cases hb : b = ac
    · subst hb; rw [upd_same] at e; rw [hc]; exact e
    · rw [upd_ne hb] at e; cases e
  · rw [upd_ne h1.symm]
  · rw [upd_ne h2.symm]
  · rw [upd_same]; intro z; cases z
theorem Wk.of (W : Wd K d aw ac T G H) : Wk K d aw ac T G H G H := ⟨W, Stp.refl⟩
theorem Wk.trans {G2 H2 : Hp} (a : Wk K d aw ac T G H G1 H1) (b : Wk K d aw ac T' G1 H1 G2 H2) : Wk K d aw ac T' G H G2 H2 := ⟨b.w, a.s.trans b.s⟩
theorem nf_back {b : Addr} {u : Obj} {kvs : List (Key × V)} (ho : noFrz o = true) (h : upd G p o b = some (.frz u (.dK kvs))) : G b = some (.frz u (.dK kvs)) := by
  by_cases hb : b = p
  · subst hb
    rw [upd_same] at h
    cases h
    cases ho
  · rw [upd_ne hb] at h
    exact h
/-- a new object that stays as it is -/
theorem Wk.new (a : Wk K d aw ac T G0 H0 G H) (np : H p = none) (ho : noFrz o = true := by rfl) : Wk K d aw ac T G0 H0 (upd G p o) (upd H p o) := by
  have gp := a.w.gn np
  refine ⟨⟨a.w.dr.upd' (a.w.ned np) (a.w.new_ np) (a.w.ne_ac gp), same_both a.w.sub, ?_, ?_, ?_⟩, ?_⟩
  · rw [upd_ne (a.w.ned np).symm]; exact a.w.nd
  · rw [upd_ne (a.w.new_ np).symm]; exact a.w.nw
  · rw [upd_ne (a.w.ne_ac gp).symm]; exact a.w.cc
  · refine ⟨fun b u e => ?_, fun b u h1 h2 e => ?_, fun b h => a.s.dm b (upd_none h).2, fun b h h1 => ?_, fun b u k h => a.s.nf b u k (nf_back ho h)⟩
    · rw [upd_ne (ne_of_none (a.s.g b u e) gp)]; exact a.s.g b u e
    · rw [upd_ne (ne_of_none (a.s.k b u h1 h2 e) np)]; exact a.s.k b u h1 h2 e
    · have hb : b ≠ p := fun z => h1 (a.s.dm b (z ▸ np))
      rw [upd_ne hb]; exact a.s.o b h h1
/-- a new object that may change -/
theorem Wk.tmp (a : Wk K d aw ac T G0 H0 G H) (np : H p = none) : Wk K d aw ac T G0 H0 G (upd H p o) := by
  have gp := a.w.gn np
  refine ⟨⟨a.w.dr.upd' (a.w.ned np) (a.w.new_ np) (a.w.ne_ac gp), same_upd a.w.sub gp, a.w.nd, a.w.nw, a.w.cc⟩, ?_⟩
  exact ⟨a.s.g, fun b u h1 h2 e => by rw [upd_ne (ne_of_none (a.s.k b u h1 h2 e) np)]; exact a.s.k b u h1 h2 e, fun b h => a.s.dm b (upd_none h).2, a.s.o, a.s.nf⟩
theorem Wk.lo (a : Wk K d aw ac T G0 H0 G H) (np : H p = none) : Lo d aw H0 G (upd H p o) p o :=
  ⟨upd_same, a.w.gn np, a.w.ned np, a.w.new_ np, a.s.dm p np⟩
theorem Lo.step {G2 H2 : Hp} (l : Lo d aw H0 G H p o) (s : Stp d aw G H G2 H2) : Lo d aw H0 G2 H2 p o :=
  ⟨s.k p o l.nd l.nw l.h, s.o p l.g (by rw [l.h]; intro z; cases z), l.nd, l.nw, l.n0⟩
theorem Lo.wk {G2 H2 : Hp} (l : Lo d aw H0 G H p o) (s : Wk K d aw ac T G H G2 H2) : Lo d aw H0 G2 H2 p o := l.step s.s
theorem Lo.back {G2 H2 : Hp} (l : Lo d aw H G2 H2 p o) (s : Stp d aw G0 H0 G H) : Lo d aw H0 G2 H2 p o := ⟨l.h, l.g, l.nd, l.nw, s.dm p l.n0⟩
/-- a local object is changed -/
theorem Wk.mut (a : Wk K d aw ac T G0 H0 G H) (l : Lo d aw H0 G H p o) : Wk K d aw ac T G0 H0 G (upd H p o') := by
  refine ⟨⟨a.w.dr.upd' l.nd l.nw (a.w.ne_ac l.g), same_upd a.w.sub l.g, a.w.nd, a.w.nw, a.w.cc⟩, ?_⟩
  exact ⟨a.s.g, fun b u h1 h2 e => by rw [upd_ne (ne_of_none e l.n0)]; exact a.s.k b u h1 h2 e, fun b h => a.s.dm b (upd_none h).2, a.s.o, a.s.nf⟩
theorem Lo.put (l : Lo d aw H0 G H p o) : Lo d aw H0 G (upd H p o') p o' := ⟨upd_same, l.g, l.nd, l.nw, l.n0⟩
theorem Lo.oth (l : Lo d aw H0 G H p o) (h : p ≠ q) : Lo d aw H0 G (upd H q x) p o := ⟨by rw [upd_ne h]; exact l.h, l.g, l.nd, l.nw, l.n0⟩
theorem Lo.othN (l : Lo d aw H0 G H p o) (h : H q = none) : Lo d aw H0 G (upd H q x) p o := l.oth (ne_of_none l.h h)
theorem Lo.newN (l : Lo d aw H0 G H p o) (h : H q = none) : Lo d aw H0 (upd G q x) (upd H q x) p o :=
  ⟨by rw [upd_ne (ne_of_none l.h h)]; exact l.h, by rw [upd_ne (ne_of_none l.h h)]; exact l.g, l.nd, l.nw, l.n0⟩
/-- a local object is left as it is now -/
theorem Wk.seal (a : Wk K d aw ac T G0 H0 G H) (l : Lo d aw H0 G H p o) (ho : noFrz o = true := by rfl) : Wk K d aw ac T G0 H0 (upd G p o) H := by
  refine ⟨⟨a.w.dr, same_seal a.w.sub l.h, ?_, ?_, ?_⟩, ?_, a.s.k, a.s.dm, fun b h h1 => ?_, fun b u k h => a.s.nf b u k (nf_back ho h)⟩
  · rw [upd_ne l.nd.symm]; exact a.w.nd
  · rw [upd_ne l.nw.symm]; exact a.w.nw
  · rw [upd_ne (a.w.ne_ac l.g).symm]; exact a.w.cc
  · exact fun b u e => by rw [upd_ne (ne_of_none (a.s.g b u e) l.g)]; exact a.s.g b u e
  · rw [upd_ne fun z => h1 (by rw [z]; exact l.n0)]; exact a.s.o b h h1
theorem Lo.sealO (l : Lo d aw H0 G H p o) (h : p ≠ q) : Lo d aw H0 (upd G q x) H p o := ⟨l.h, by rw [upd_ne h]; exact l.g, l.nd, l.nw, l.n0⟩
/-- the draw goes on -/
theorem Wk.go {H2 : Hp} (a : Wk K d aw ac T G0 H0 G H) (D : Draw K d aw ac T' H2) (k : Keep d aw H H2) : Wk K d aw ac T' G H G H2 := by
  refine ⟨⟨D, fun b u e => k b u ?_ ?_ (a.w.sub b u e), a.w.nd, a.w.nw, a.w.cc⟩, Same.refl _, k, fun b h => ?_, fun _ h _ => h, fun _ _ _ h => h⟩
  · exact ne_of_none e a.w.nd
  · exact ne_of_none e a.w.nw
  · by_cases h1 : b = d
    · obtain ⟨ws, cs, r, t, hd, _⟩ := D.ex
      rw [h1, hd] at h; cases h
    · by_cases h2 : b = aw
      · obtain ⟨ws, cs, r, t, hd, hw, _⟩ := D.ex
        rw [h2, hw] at h; cases h
      · cases e : H b with
        | none => rfl
        | some u => rw [k b u h1 h2 e] at h; cases h
end
end ND
/-! own classes: made, their methods and properties -/
namespace ND
open PySem PySem.Spec PyProof.Rows L2
abbrev FnD (K : PySem.W.Frag) (x qual : Str) (st : Stmt) (dvs : List V) (f : Addr) (fd : FuncData) : Prop := FunD K x qual (defArgs st) (defBody st) (defScope st) dvs [] f fd
/-- a class whose objects' type is told -/
structure ClTy (K : PySem.W.Frag) (C : Addr) : Prop where
  cl : Cls K C
  ha : PySem.W.findIn K (.ref C) "__class__" = some (some (.builtin "object.__class__"))
  hn : PySem.W.specialIn K (.builtin "object.__class__") "__get__" = some (some (.builtin "getset_descriptor.__get__"))
  htk : PySem.W.takesIn K (.builtin "object.__class__") = some true
  hm : PySem.W.mroIn K C (.type "object") = some true
theorem ClTy.ty {K : PySem.W.Frag} {C a dx : Addr} {fs : List (Str × V)} {H : Hp} (c : ClTy K C) (e : H a = some (.ins C dx fs)) : TyX K H (.ref a) (.ref C) := .base (.ins e c.cl c.ha c.hn c.htk c.hm)
/-- a tuple of the module -/
def KTup (K : PySem.W.Frag) (a : Addr) (xs : List V) : Prop := ∀ H : Hp, SqT K H a xs
structure IFun (K : PySem.W.Frag) (C : Addr) (qual : Str) (st : Stmt) (dvs : List V) : Prop where
  ex : ∃ f fd, FnD K "__init__" qual st dvs f fd ∧ Mk K C f
structure MFun (K : PySem.W.Frag) (C : Addr) (m qual : Str) (st : Stmt) : Prop where
  ex : ∃ f fd, FnP K m qual st f fd ∧ Meth K C m f
structure PFun (K : PySem.W.Frag) (C : Addr) (m qual : Str) (st : Stmt) : Prop where
  ex : ∃ p f fd, FnP K m qual st f fd ∧ PropOf K C m p f
/-- their promises; ds: the defaults that fill up -/
structure IOk (P : Program) (w : World) (K : PySem.W.Frag) (mg : Str → Option Value) (base : Heap) (k : Nat) (C : Addr) (ps : List Str) (dvs : List V) (sp : Sp) : Prop where
  ex : ∃ f fd ds, Mk K C f ∧ Binds K fd ps ds ∧ Vals dvs ds ∧ FnOk P w K mg base (L2.CX P w) k f fd ps sp
structure MOk (P : Program) (w : World) (K : PySem.W.Frag) (mg : Str → Option Value) (base : Heap) (k : Nat) (C : Addr) (m : Str) (ps : List Str) (sp : Sp) : Prop where
  ex : ∃ f fd, Meth K C m f ∧ Binds K fd ps [] ∧ FnOk P w K mg base (L2.CX P w) k f fd ps sp
structure POk (P : Program) (w : World) (K : PySem.W.Frag) (mg : Str → Option Value) (base : Heap) (k : Nat) (C : Addr) (m : Str) (sp : Sp) : Prop where
  ex : ∃ p f fd, PropOf K C m p f ∧ Binds K fd ["self"] [] ∧ FnOk P w K mg base (L2.CX P w) k f fd ["self"] sp
section
variable {P : Program} {w : World} {K : PySem.W.Frag} {mg : Str → Option Value} {base : Heap} {C : Addr} {m qual : Str} {st : Stmt} {N ps : List Str} {k : Nat} {sp : Sp}
abbrev Body (P : Program) (w : World) (K : PySem.W.Frag) (mg : Str → Option Value) (base : Heap) (k : Nat) (N : List Str) (qual : Str) (st : Stmt) (sp : Sp) : Prop :=
  ∀ (f : Addr) (cdv : Value) (A : Around) (outer : List Env) (s : Shared) (H : Hp) (vs : List V) (Q : VK) (E : XK), Room k (A.deeper (envOfC qual (defScope st) s.heap.objs.size f cdv)) → sp vs H Q E →
      ∃ t, PSs (cxOf (L2.CX P w) P w K mg base N qual (defScope st) f cdv A outer s H E) (defBody st) t ∧ t { nx := fun _ H' => Q .non H', rt := Q } (start N vs) H
theorem PFun.ok (F : PFun K C m qual st) (S : FnScope N ["self"] (defScope st))
    (hb : ∀ (kV doc pm : Value) (an : Option Addr) (cdv ct : Value) (us : List Value), us.length = 1 → bindArgs (PySem.W.fnOf m qual (defArgs st) (defBody st) (defScope st) .none kV doc pm an cdv ct) ⟨us, []⟩ = pure ((["self"] : List Str).zip us))
    (len : ∀ vs H Q E, sp vs H Q E → vs.length = 1) (hbody : Body P w K mg base k N qual st sp) : POk P w K mg base (k + 1) C m sp := by
  obtain ⟨p, f, fd, F, M⟩ := F.ex
  exact ⟨p, f, fd, M, F.bindsN hb, F.ok S len fun cdv A outer s H vs Q E hr h => hbody f cdv A outer s H vs Q E hr h⟩
theorem MFun.ok (F : MFun K C m qual st) (S : FnScope N ps (defScope st))
    (hb : ∀ (kV doc pm : Value) (an : Option Addr) (cdv ct : Value) (us : List Value), us.length = ps.length → bindArgs (PySem.W.fnOf m qual (defArgs st) (defBody st) (defScope st) .none kV doc pm an cdv ct) ⟨us, []⟩ = pure (ps.zip us))
    (len : ∀ vs H Q E, sp vs H Q E → vs.length = ps.length) (hbody : Body P w K mg base k N qual st sp) : MOk P w K mg base (k + 1) C m ps sp := by
  obtain ⟨f, fd, F, M⟩ := F.ex
  exact ⟨f, fd, M, F.bindsN hb, F.ok S len fun cdv A outer s H vs Q E hr h => hbody f cdv A outer s H vs Q E hr h⟩
/-- __init__ without defaults -/
theorem IFun.ok (F : IFun K C qual st []) (S : FnScope N ps (defScope st))
    (hb : ∀ (kV doc pm : Value) (an : Option Addr) (cdv ct : Value) (us : List Value), us.length = ps.length → bindArgs (PySem.W.fnOf "__init__" qual (defArgs st) (defBody st) (defScope st) .none kV doc pm an cdv ct) ⟨us, []⟩ = pure (ps.zip us))
    (len : ∀ vs H Q E, sp vs H Q E → vs.length = ps.length) (hbody : Body P w K mg base k N qual st sp) : IOk P w K mg base (k + 1) C ps [] sp := by
  obtain ⟨f, fd, F, M⟩ := F.ex
  exact ⟨f, fd, [], M, F.bindsN hb, .nil, F.ok S len fun cdv A outer s H vs Q E hr h => hbody f cdv A outer s H vs Q E hr h⟩
end
section
variable {X : Cx} {k : Nat} {C : Addr} {ps : List Str} {dvs : List V} {sp : Sp} {E : XK} {x m : Str} {p pos apos : Pos} {e o : Expr} {es : List Expr} {t : TA} {ta : TE}
theorem pe_mk (G : IOk X.prog X.w X.K X.mg X.base k C ps dvs sp) (hr : Room (k + 1) X.A) (hg : Gl X x) (hm : X.mg x = some (.ref C)) (hx : Passes (L2.CX X.prog X.w) X E)
    (ha : PA X (e :: es) t) (hdb : (x == ("__debug__" : Str)) = false := by decide) (he : starEach (e :: es) X.env = (false, eval e X.env) :: starEach es X.env := by rfl) (hpl : (backTo pos (starEach es X.env)).any (·.1) = false := by rfl) :
    PE X (.Call (.Name x p) (e :: es) [] pos) (tMake C sp dvs E t) := by
  obtain ⟨f, fd, ds, M, hb, hd, F⟩ := G.ex
  exact pe_make M F hr hg hm hb hd hx ha hdb he hpl
theorem pe_pr (G : POk X.prog X.w X.K X.mg X.base k C m sp) (c : Cls X.K C) (hr : Room (k + 1) X.A) (hx : Passes (L2.CX X.prog X.w) X.nox E) (he : PE X e ta)
    (hab : attributeBase e m X.env (eval e X.env) = eval e X.env) : PE X (.Attribute e m pos) (tProp C sp [] E ta) := by
  obtain ⟨p, f, fd, M, hb, F⟩ := G.ex
  exact pe_prop he c M F hr hb .nil hx hab
end
end ND
/-! errors that are caught and kept -/
namespace ND
open PySem PySem.Spec PyProof.Rows L2
/-- an error's object that is kept -/
def XO (a C : Addr) (d : Option Addr) : HO := .ext fun h => ∃ (ob : Obj) (vs : Array Value), h.get? a = some ob ∧ Zc (.ref C) d ob ∧ ob.data = .fields vs
/-- the fields of an error -/
def XFs (G : Hp) (a : Option Addr) (fs : List (Str × V)) : Prop := match a with
  | none => fs = []
  | some d => G d = some (.xd fs)
theorem XFs.mono {G G' : Hp} {a : Option Addr} {fs : List (Str × V)} (s : Same G G') (h : XFs G a fs) : XFs G' a fs := by
  cases a with
  | none => exact h
  | some d => exact s _ _ h
theorem xo_ok {P : Program} {w : World} {H : Hp} {h : Heap} {a C : Addr} {d : Option Addr} {ob : Obj} {vs : Array Value} (e : h.get? a = some ob) (z : Zc (.ref C) d ob) (dd : ob.data = .fields vs) : ObjOk P w H h a (XO a C d) :=
  ⟨⟨ob, vs, e, z, dd⟩, ⟨ob, e⟩, fun _ _ ⟨o, v, q, r⟩ k => ⟨o, v, k o q, r⟩⟩
section
variable {X : Cx} {pins : List (Addr × Obj)} {σ : L2.St} {H : Hp} {s : Shared}
theorem xo_inst {a C : Addr} {d : Option Addr} {fs : List (Str × V)} (I : Inv X pins σ H s) (h : H a = some (XO a C d)) (hf : XFs H d fs) : ∃ ox od, PySem.W.InstAt s.heap a ox C od ∧ (∀ dd, d = some dd → ∃ (mA : Str → Option Value) (od' : Obj), od = some od' ∧ (∀ name, PySem.W.lookIn name od' = some (mA name)) ∧ ∀ f, RelO (fs.lookup f) (mA f)) := by
  obtain ⟨⟨ob, vs, hg, hz, hd⟩, _⟩ := (show ObjOk X.prog X.w H s.heap a (XO a C d) from I.hok a _ h)
  have nc : PySem.W.notCls ob = true := by unfold PySem.W.notCls; rw [hd] <;> rfl
  cases d with
  | none => exact ⟨ob, none, ⟨hg, hz.1, nc, by rw [hz.2]; trivial⟩, fun _ z => nomatch z⟩
  | some dd =>
    obtain ⟨mA, hns, hr⟩ := (show ObjOk X.prog X.w H s.heap dd (.xd fs) from I.hok dd _ hf)
    obtain ⟨od, ho, hl⟩ := lookIn_ns hns
    exact ⟨ob, some od, ⟨hg, hz.1, nc, by rw [hz.2]; exact ho⟩, fun _ _ => ⟨mA, od, rfl, hl, hr⟩⟩
/-- isinstance(e, c) of a kept error -/
def rIsK (K : PySem.W.Frag) : List V → Hp → VK → Prop := fun xs H Q => ∃ (a C : Addr) (d : Option Addr) (fs : List (Str × V)) (c : V) (u : Value) (b : Bool), xs = [.ref a, c] ∧ H a = some (XO a C d) ∧ XFs H d fs ∧ ExcK K C ∧ ClsV c u ∧ PySem.W.kitOne K (.ref C) u = some b ∧ Q (.bl b) H
theorem call_isk : CallR X (.builtin "isinstance") (rIsK X.K) := by
  intro pins s σ H xs us Q I r h
  obtain ⟨a, C, d, fs, c, u, b, rfl, hx, hf, T, k, e, q⟩ := h
  obtain ⟨u1, u2, rfl, r1, r2⟩ := vals2 r
  cases r1
  have e2 := k.eq r2
  subst e2
  obtain ⟨ox, od, J, _⟩ := xo_inst I hx hf
  exact PySem.W.kia_one (PySem.W.kitx_exc T.cl T.ga T.gg T.sb T.ha T.hn T.ht T.hm) I.kIn J e (fun z => nomatch z) fun tk => ⟨.bl b, H, I.tok tk, rfl, q⟩
/-- e.f, a kept error's field -/
def tXk (K : PySem.W.Frag) (f : Str) (te : TE) : TE := fun σ H Q => te σ H fun x H1 => ∃ (a C d : Addr) (fs : List (Str × V)) (v : V), x = .ref a ∧ H1 a = some (XO a C (some d)) ∧ H1 d = some (.xd fs) ∧ ExcK K C ∧ PySem.W.findIn K (.ref C) f = some none ∧ fs.lookup f = some v ∧ Q v H1
theorem pe_xk {e : Expr} {te : TE} {f : Str} {pos : Pos} (he : PE X e te) (hb : attributeBase e f X.env (eval e X.env) = eval e X.env := by rfl) : PE X (.Attribute e f pos) (tXk X.K f te) := by
  refine ⟨fun pins s σ H Q I h => ?_⟩
  refine attr_of hb (thn (he.run pins s σ H _ I h) fun u s1 hh => ?_)
  obtain ⟨x, H1, I1, rx, a, C, d, fs, v, ex, ha, hd, T, hno, hl, q⟩ := hh
  subst ex
  obtain rfl : u = Value.ref a := rx
  obtain ⟨ox, od, J, hm⟩ := xo_inst (d := some d) (fs := fs) I1 ha hd
  obtain ⟨mA, od', rfl, hk, hr⟩ := hm d rfl
  obtain ⟨u, hu, ru⟩ := RelO.some_of (v := v) (o := mA f) (by rw [← hl]; exact hr f)
  exact HandSPX.exc_get I1.kIn J T.ga T.gg T.sb (PySem.W.findObj_own T.hd hno rfl (by rw [hk, hu])) (handed_of ru) ⟨v, H1, I1.tok _, ru, q⟩
/-- an object that nobody tracked is tracked from now on -/
theorem Inv.adopt {a C : Addr} {d : Option Addr} {ob : Obj} {vs : Array Value} (I : Inv X pins σ H s) (na : H a = none) (n0 : X.s_0.heap.get? a = none) (ha : s.heap.get? a = some ob) (hz : Zc (.ref C) d ob) (hd : ob.data = .fields vs) (nL : a ≠ X.env.locals) (np : ∀ p ∈ X.pn ++ pins, p.1 ≠ a) :
    Inv X pins σ (upd H a (XO a C d)) s := by
  have keepO : ∀ b o, H b = some o → upd H a (XO a C d) b = some o := fun b o e => by rw [upd_ne (ne_of_none e na)]; exact e
  refine ⟨I.ok, I.os, I.bare, ⟨I.base.keep, I.base.slot, fun b o e n hx => ?_, I.base.there, fun b xs e => keepO _ _ (I.base.tups b xs e), fun b o u e => keepO _ _ (I.base.frzs b o u e), fun b ps e => ?_⟩, I.loc, I.cell, ?_, fun x c e => ?_, fun p hp => ?_, fun b u e => ?_, I.len⟩
  · have hb : b ≠ a := fun z => by rw [z, n0] at e; cases e
    rw [upd_ne hb]
    exact I.base.free b o e n hx
  · obtain ⟨more, z⟩ := I.base.tbls b ps e
    exact ⟨more, keepO _ _ z⟩
  · rw [upd_ne nL.symm]
    exact I.free
  · obtain ⟨v, o, ho, hdc⟩ := I.cell x c e
    have hc : c ≠ a := fun z => by
      rw [z, ha] at ho
      cases ho
      rw [hd] at hdc
      cases hdc
    rw [upd_ne hc]
    exact I.freeC x c e
  · obtain ⟨h1, h2, h3⟩ := I.pin p hp
    refine ⟨h1, ?_, h3⟩
    rw [upd_ne (np p hp)]
    exact h2
  · by_cases hb : b = a
    · subst hb
      rw [upd_same] at e
      cases e
      exact xo_ok ha hz hd
    · rw [upd_ne hb] at e
      exact (I.hok b u e).stay (fun _ _ _ q => q) (fun c q => keepO _ _ q) fun c xs q => keepO _ _ q
/-- what 'except x as n: suite' wishes, the error being kept: slot i is n's -/
def wKp (K : PySem.W.Frag) (c : Value) (i l : Nat) (ts : Addr → TS) (Wout : WX) (D : Ends) : WX := fun cls d σ H => σ.length = l → ∃ b, PySem.W.exmOne K cls c = some b ∧
  (b = true → ∃ C, cls = .ref C ∧ ∀ a, H a = none → ts a { nx := fun σ' H' => H' a = none → D.nx (σ'.set i none) (upd H' a (XO a C d)), rt := fun _ _ => False, bk := fun _ _ => False, ct := fun _ _ => False } (σ.set i (some (.ref a))) H) ∧ (b = false → Wout cls d σ H)
end
section
variable {X : Cx} {x n : Str} {c : Value} {i : Nat} {body suite : List Stmt} {b₀ : Stmt} {np pos pos' : Pos} {tb : WX → TS} {ts : Addr → TS} {Wout : WX}
theorem sky_none {B : Heap} {l : List Env} {a : Addr} {Z : Obj → Prop} {L : Addr} {h : Heap} (k : Sky B l a Z L h) : B.get? a = none := by
  rcases k with k | k | k
  · exact k.2.1
  · exact k.2.1
  · exact k.2.1
theorem ps_try_keep (hs : X.stack = X.env :: X.outer) (hf : X.env.frame = some X.env.locals) (hN : X.N.Nodup) (hi : X.N[i]? = some n) (hln : X.env.kindOf n = some .local) (hc : Names X x c) (tk : Takes X Wout) (hX : X.ex = [])
    (hb : ∀ (W : WX) (pn : List (Addr × Obj)) (xe : Value → Shared → Prop), Takes (X.tr pn xe) W → PassesOwn (model X.prog X.w) X.A X.env xe → PSs (X.tr pn xe) body (tb W))
    (hsu : ∀ (a : Addr) (ob : Obj) (pn : List (Addr × Obj)), PSs (X.suite a ((a, ob) :: pn)) (b₀ :: suite) (ts a)) :
    PS X (.Try body [.ExceptHandler (some (.Name x np)) (some n) (b₀ :: suite) pos'] [] [] pos) (fun D σ H => tb (wKp X.K c i X.N.length ts Wout D) D σ H) := by
  refine ⟨fun pins s σ H D I h => ?_⟩
  have okX := I.ok
  have frX : X.A.frames = some (X.env :: X.outer) := by rw [okX.frames, hs]
  have locX : Loc X.env.scope n := .inl hln
  refine wpAny_Try_except (wpAny_mono ((hb (wKp X.K c i X.N.length ts Wout D) (X.pn ++ pins) (fun e t1 => wpAny (model X.prog X.w) X.A (noteFrame e X.env) (fun _ t2 => wpAny (model X.prog X.w) X.A (setFlight e none) (fun _ t3 =>
    wpAny (model X.prog X.w) X.A (handleBy e X.env [.ExceptHandler (some (.Name x np)) (some n) (b₀ :: suite) pos']) (SP X pins D) X.xe t3) X.xe t2) X.xe t1) (fun u s' xx => ?_) PassesOwn.looking).run [] s σ H D (I.toTry _) h) (fun f s1 hsp => ?_) (fun e s1 he => he))
  · obtain ⟨a, B, sI, pins', σ', H', cls, d, rfl, J', nb, up, sky, na, os, ag, hw⟩ := xx
    have J : Inv X pins σ' H' sI := J'.ofTry okX
    obtain ⟨b, hb1, hyes, hno⟩ := hw J.len
    have Bn : B.get? a = none := sky_none sky
    have sky2 : Sky B (X.env :: X.outer) a (Zc cls d) X.env.locals s'.heap := by rw [← hs]; exact sky
    show wpAny (model X.prog X.w) X.A (noteFrame (.ref a) X.env) _ _ _
    refine Sky.land Zc.steady frX hf sky2 fun g3 fly3 up3 => ?_
    have J3 : Inv X pins σ' H' { s' with heap := g3 } := J.landed nb fly3.1 (up.trans up3) os ag
    obtain ⟨ob3, vs3, at3, z3, d3⟩ := fly3.there
    have offF : ∀ {h : Heap} {o : Obj} {vs : Array Value}, h.FunFrames B (X.env :: X.outer) → h.get? a = some o → o.data = .fields vs → a ∉ frs (X.env :: X.outer) := fun {h o vs} ff e dd hm => by
      obtain ⟨_, o', e', hnf⟩ := ff.mem hm
      rw [e] at e'
      cases e'
      exact hnf _ dd
    have nfr := offF fly3.2.2.1 at3 d3
    have nL : a ≠ X.env.locals := fun z => nfr (List.mem_filterMap.mpr ⟨X.env, List.mem_cons_self, by rw [hf, z]⟩)
    have nF : a ∉ X.fs := fun hm => by
      obtain ⟨e, he, q⟩ := List.mem_filterMap.mp hm
      exact nfr (List.mem_filterMap.mpr ⟨e, List.mem_cons_of_mem _ he, q⟩)
    have sIn : sI.heap.get? a = none := by
      cases e : sI.heap.get? a with
      | none => rfl
      | some o =>
        have := nb a o e (by rw [hs]; exact nfr)
        rw [Bn] at this
        cases this
    have s0n : X.s_0.heap.get? a = none := by
      cases e : X.s_0.heap.get? a with
      | none => rfl
      | some o =>
        obtain ⟨o', e'⟩ := J.base.there a o e (by rw [hX]; intro z; cases z)
        rw [sIn] at e'
        cases e'
    have npn : ∀ p ∈ X.pn ++ pins, p.1 ≠ a := fun p hp z => by
      have := (J.pin p hp).1
      rw [z, sIn] at this
      cases this
    have S3 := J3.suite at3 d3 na nL nF
    refine wpAny_handleBy_cons (codeAny_handlers_test ?_) (by intro q; cases q)
    have LT : PySem.W.Looks (model X.prog X.w) g3 (typeOf (.ref a)) cls := fun A Q E s k q => wpAny_typeOf_ref (k _ _ at3) (by rw [z3.1]; exact q)
    have LM := PySem.W.exm_one (M := model X.prog X.w) (J3.kIn) LT hb1
    have test : ∀ {Q : Value → Shared → Prop} {E : Value → Shared → Prop}, Q c { s' with heap := g3 } → wpAny (model X.prog X.w) (X.A.mark (some (.ref a))) (eval (.Name x np) X.env) Q E { s' with heap := g3 } := fun {Q E} q => by
      obtain ⟨hg, hdbg, hm | ⟨hm, hv, hnn⟩⟩ := hc
      · exact ld_glob (X := X.suite a ((a, ob3) :: (X.pn ++ pins))) S3 hg hm q hdbg
      · exact ld_blt (X := X.suite a ((a, ob3) :: (X.pn ++ pins))) S3 hg hm hv q hnn hdbg
    refine test (LM.here ?_)
    cases b with
    | true =>
      obtain ⟨C, rfl, hy⟩ := hyes rfl
      refine codeAny_handlers_suite_as (HandSPX.lands_againZ fly3 fun g4 fly4 up4 => ?_)
      have J4 : Inv X pins σ' H' { s' with heap := g4 } := J.landed nb fly4.1 ((up.trans up3).trans up4) os ag
      obtain ⟨ob4, vs4, at4, z4, d4⟩ := fly4.there
      have S4 := J4.suite at4 d4 na nL nF
      refine store_ok (X := X.suite a ((a, ob4) :: (X.pn ++ pins))) (v := .ref a) S4 hN hi locX rfl (fun s5 S5 => ?_) (.inr hln)
      refine wpAny_mono ((hsu a ob4 (X.pn ++ pins)).run [] s5 _ H' _ S5 (hy a na)) (fun f s6 hsp => ?_) (fun _ _ z => False.elim z)
      cases f with
      | next =>
        obtain ⟨σ6, H6, S6, q6⟩ := hsp
        have pa := S6.pin (a, ob4) (List.mem_append_left _ List.mem_cons_self)
        have J6 : Inv X ((a, ob4) :: pins) σ6 H6 s6 := (S6.unsuite okX).pins_of fun p hp => by
          rcases List.mem_cons.mp hp with rfl | hp
          · exact pa
          · exact (S6.unsuite okX).pin p (List.mem_append_right _ hp)
        refine gone_ok J6 hN hi hln fun s7 J7 => ?_
        have pa7 := J7.pin (a, ob4) (List.mem_append_right _ List.mem_cons_self)
        have J8 : Inv X pins (σ6.set i none) H6 s7 := J7.pins_of fun p hp => J7.pin p (List.mem_append_right _ (List.mem_cons_of_mem _ hp))
        exact ⟨_, _, Inv.adopt J8 pa7.2.1 s0n pa7.1 z4 d4 nL npn, q6 pa7.2.1⟩
      | brk =>
        obtain ⟨σ6, H6, S6, q6⟩ := hsp
        exact q6.elim
      | cont =>
        obtain ⟨σ6, H6, S6, q6⟩ := hsp
        exact q6.elim
      | ret u =>
        obtain ⟨v6, σ6, H6, S6, r6, q6⟩ := hsp
        exact q6.elim
    | false =>
      show wpAny _ X.A (handleBy (.ref a) X.env []) _ _ _
      refine wpAny_handleBy_nil ?_
      obtain ⟨k1, k2, k3, oe, vs, T, oT, ts', he, hz, hd, h1, hr⟩ := id fly3
      unfold PySem.passOn
      refine wpAny_bind (wpAny_field he hd h1 ?_)
      rw [if_neg (show ¬ ((Value.ref T == Value.none) = true) from by simp)]
      have fin : wpAny (model X.prog X.w) X.A (setFlight (.ref a) X.env.frame) (fun _ s4 => wpAny (model X.prog X.w) X.A (throw (.ref a) : Sem Flow) (SP X pins D) X.xe s4) X.xe { s' with heap := g3 } := by
        rw [hf]
        refine HandSPX.setFlight_upZ fly3 fun g4 fly4 up4 => wpAny_throw (tk _ _ ?_)
        exact ⟨a, B, sI, pins, σ', H', cls, d, rfl, J, nb, (up.trans up3).trans up4, .inr (.inr (by rw [hs]; exact fly4)), na, os, ag, hno rfl⟩
      first
        | exact wpAny_bind (wpAny_pure (wpAny_bind fin))
        | exact wpAny_bind fin
  · cases f with
    | next =>
      obtain ⟨σ', H', J', q⟩ := hsp
      exact wpAny_execs_nil ⟨σ', H', J'.ofTry okX, q⟩
    | brk =>
      obtain ⟨σ', H', J', q⟩ := hsp
      exact ⟨σ', H', J'.ofTry okX, q⟩
    | cont =>
      obtain ⟨σ', H', J', q⟩ := hsp
      exact ⟨σ', H', J'.ofTry okX, q⟩
    | ret u =>
      obtain ⟨v, σ', H', J', r, q⟩ := hsp
      exact ⟨v, σ', H', J'.ofTry okX, r, q⟩
end
/-! ### the def that catches -/
/-- what it makes of the lambda's reading -/
def TKeep (K : PySem.W.Frag) (CS : Addr) : (XK → Hp → VK → Prop) → Hp → VK → Prop := fun tl H Q =>
  tl (fun cls d H' => ∃ b, PySem.W.exmOne K cls (.ref CS) = some b ∧ (b = true → ∃ C, cls = .ref C ∧ ∀ a, H' a = none → Q (.ref a) (upd H' a (XO a C d))) ∧ (b = false → False)) H (fun _ H' => ∃ v : V, (some (some V.non) : Option (Option V)) = some (some v) ∧ Q v H')
theorem keep_gives {X : Cx} {x a k e n q : Str} {sg : Scope} {g CS : Addr} {cdg : Value} {p0 p1 p2 p3 p4 p5 p6 p7 p8 p9 p10 p11 p12 p13 : Pos} {j0 : Nat} (hge : sg.names.lookup e = some .globalImplicit) (hme : X.mg e = some (.ref CS)) (hde : (e == ("__debug__" : Str)) = false)
    (hnd : [a, k, n].Nodup) (hk : sg.names.lookup k = some .local) (hn : sg.names.lookup n = some .local) (dk : (k == ("__debug__" : Str)) = false := by decide) (ck : (k == ("__classdict__" : Str)) = false := by decide) (dn : (n == ("__debug__" : Str)) = false := by decide) (cn : (n == ("__classdict__" : Str)) = false := by decide) :
    LamX.GivesTo X [a, k, n] x sg g cdg [.Assign [.Name k p0] (.Constant .none j0 p1) p2, .Try [.Expr (.Call (.Name a p3) [] [] p4) p5] [.ExceptHandler (some (.Name e p6)) (some n) [.Assign [.Name k p7] (.Name n p8) p9] p10] [] [] p11, .Return (some (.Name k p12)) p13] a q (TKeep X.K CS) := by
  intro f c' s H Q tl act hc h
  have hgl : Gl (cxOf C8.CX0 X.prog X.w X.K X.mg X.base [a, k, n] x sg g cdg X.A X.stack s H C8.E0).nox e := hge
  refine ⟨_, pss_cons (ps_set (i := 1) hnd rfl (Or.inl hk) pe_non) (pss_cons (ps_try_keep (X := (cxOf C8.CX0 X.prog X.w X.K X.mg X.base [a, k, n] x sg g cdg X.A X.stack s H C8.E0).nox) (c := .ref CS) (i := 2)
      (tb := fun W D σ H => ∃ Ech : XK, (∀ cls d σ' H', Ech cls d H' → W cls d σ' H') ∧ σ[0]? = some (some (.ref f)) ∧ H c' = some (LamX.CodeO c' q) ∧ tl Ech H (fun _ H' => D.nx σ H'))
      rfl rfl hnd rfl hn ⟨hgl, hde, .inl hme⟩ LamX.takes0 rfl (fun W pn xe tk _ => ?_) (fun a' ob pn => pss_one (ps_set (i := 1) hnd rfl (Or.inl hk) (pe_var (i := 2) rfl (Or.inl hn) dn cn)))) (pss_one (ps_ret (pe_var (i := 1) rfl (Or.inl hk) dk ck)))), ?_⟩
  · refine ⟨fun pins s' σ H' D I h' => ?_⟩
    obtain ⟨Ech, hW, h1, h2, h3⟩ := h'
    have hp := act W pn xe Ech p3 p4 tk hW
    have hq := pss_one (ps_expr (pos := p5) hp)
    exact hq.run pins s' σ H' D I ⟨h1, h2, h3⟩
  · refine ⟨fun cls d H' => ∃ b, PySem.W.exmOne X.K cls (.ref CS) = some b ∧ (b = true → ∃ C, cls = .ref C ∧ ∀ a, H' a = none → Q (.ref a) (upd H' a (XO a C d))) ∧ (b = false → False), fun cls d σ' H' ⟨b, e1, e2, e3⟩ hl => ⟨b, e1, fun hb => ?_, fun hb => e3 hb⟩, rfl, hc, ?_⟩
    · obtain ⟨C, eC, hq⟩ := e2 hb
      refine ⟨C, eC, fun a' na => ?_⟩
      have hl3 : σ'.length = 3 := hl
      refine ⟨.ref a', ?_, fun hn' => ⟨.ref a', ?_, hq a' na⟩⟩
      · rw [List.getElem?_set_self (by omega)]
      · rw [List.getElem?_set_ne (by decide), List.getElem?_set_self (by rw [List.length_set]; omega)]
    · exact h
end ND
/-! a lambda handed to a def: what stays of the heap, told exactly -/
namespace ND
open PySem PySem.Spec PyProof.Rows L2 LamX
/-- all but the table at P stays -/
def ExtP (P : Addr) (H H' : Hp) : Prop := (∀ b o, b ≠ P → H b = some o → H' b = some o) ∧ ∃ qs, H' P = some (.tbl qs)
section
variable {X : Cx} {pins : List (Addr × Obj)} {σ : L2.St} {H : Hp} {s : Shared}
/-- where the lambda lies -/
structure LamAt (X : Cx) (H1 : Hp) (s' : Shared) (f c' : Addr) (ar : Arguments) (bd : Expr) (sc : Scope) (pm ctv : Value) : Prop where
  obj : s'.heap.get? f = some (PySem.W.kla_obj "<lambda>" (X.env.qual ++ "<lambda>") ar bd sc (cloFrom X.env.cells sc.names []) pm c' ctv)
  non : H1 f = none
  fr : f ∉ frs X.stack
  cod : H1 c' = some (CodeO c' (X.env.qual ++ "<lambda>"))
theorem lam_mk {T : List (Addr × Str)} {c P : Addr} {ar : Arguments} {bd : Expr} {sc : Scope} {pos : Pos} {E Q : Value → Shared → Prop} (I : Inv X pins σ H s) (B : TabB X.base X.mg c P) (hcode : X.env.code = .ref c)
    (hm : (P, X.env.qual ++ "<lambda>") ∈ T) (hu : ∀ p ∈ T, p.1 = P → p.2 = X.env.qual ++ "<lambda>") (hT : Tabs T H) (hdef : defaultsOf ar X.env = ([], [])) (hfree : ∀ y ∈ sc.names, y.2 = .free → ∃ c, X.env.cells.lookup y.1 = some c)
    (h : ∀ (f c' : Addr) (pm ctv : Value) (H1 : Hp) (s' : Shared), Inv X pins σ H1 s' → ExtP P H H1 → Tabs T H1 → LamAt X H1 s' f c' ar bd sc pm ctv → Q (.ref f) s') :
    wpAny (model X.prog X.w) X.A (eval (.Lambda ar bd sc pos) X.env) Q E s := by
  obtain ⟨qs, atP, tri, tells⟩ := hT _ hm
  have objP : s.heap.get? P = some { cls := .none, data := .fields qs } := I.hok P _ atP
  have bltP : s.heap.BuiltinsAt X.mg P := B.bm.keeps I.bk
  have above : ∀ f, s.heap.objs.size ≤ f → f ∉ frs X.stack := fun f hf z => by
    rcases List.mem_cons.mp (I.stkSub _ z) with e | e
    · have l1 := I.lt
      rw [← e] at l1
      exact Nat.lt_irrefl _ (Nat.lt_of_lt_of_le l1 hf)
    · exact I.nofs hf e
  refine PySem.W.kla_eval hdef ?_
  cases found : codeAmong pos qs.toList with
  | some cv =>
    obtain ⟨c', rfl, kno⟩ := tells pos cv found
    refine PySem.W.kla_makeFunctionHit (mg := X.mg) (c := c) (P := P) (ps := qs) (closure_ok hfree) I.ok.glob (I.mod.glob.keeps I.bk) hcode (B.code.keeps I.bk) objP tri found bltP fun ctv g tk grow size => ?_
    refine h g.objs.size c' ((X.mg "__name__").getD .none) ctv H _ (I.kept fun b o e => Heap.get?_push_of_some _ (grow b o e)) ⟨fun b o _ e => e, qs, atP⟩ hT ⟨Heap.get?_push_size _ rfl, I.hok.fresh size, above _ size, kno⟩
  | none =>
    refine PySem.W.kla_makeFunction (mg := X.mg) (c := c) (P := P) (ps := qs) (closure_ok hfree) I.ok.glob (I.mod.glob.keeps I.bk) hcode (B.code.keeps I.bk) objP tri found B.gP bltP fun c' ctv g tk grow ge lt rec tab => ?_
    obtain ⟨c2, oc, us, t, e2, hoc, hd, hv⟩ := rec
    cases e2
    have sz : s.heap.objs.size ≤ g.objs.size := Nat.le_trans ge (Nat.le_of_lt lt)
    have fresh : H c' = none := I.hok.fresh ge
    have cne : P ≠ c' := ne_of_none atP fresh
    generalize hmore : #[rawInt pos.line, rawInt pos.col, Value.ref c'] = more at tab
    have J := inv_table (t' := tk) (more := more) (q := X.env.qual ++ "<lambda>") (h' := g.push (PySem.W.kla_obj "<lambda>" (X.env.qual ++ "<lambda>") ar bd sc (cloFrom X.env.cells sc.names []) ((X.mg "__name__").getD .none) c' ctv)) I atP
      (fun b o hb e => Heap.get?_push_of_some _ (grow b o hb e)) (Heap.get?_push_of_some _ tab) ge ⟨oc, us, t, Heap.get?_push_of_some _ hoc, hd, hv⟩
    generalize hH1 : upd (upd H P (.tbl (qs ++ more))) c' (CodeO c' (X.env.qual ++ "<lambda>")) = H1 at J
    have k1 : ∀ b o, b ≠ P → H b = some o → H1 b = some o := fun b o hb e => by
      rw [← hH1, upd_ne (ne_of_none e fresh), upd_ne hb]
      exact e
    have tP : H1 P = some (.tbl (qs ++ more)) := by rw [← hH1, upd_ne cne, upd_same]
    have tc : H1 c' = some (CodeO c' (X.env.qual ++ "<lambda>")) := by rw [← hH1, upd_same]
    have spl : (qs ++ more).toList = qs.toList ++ [rawInt pos.line, rawInt pos.col, .ref c'] := by rw [← hmore]; simp
    have kc : ∀ {c0 : Addr} {z : Str}, H c0 = some (CodeO c0 z) → H1 c0 = some (CodeO c0 z) := fun {c0 z} e => k1 _ _ (fun y => by
      rw [y, atP] at e
      exact codeO_ne _ (Option.some.inj e).symm) e
    refine h g.objs.size c' ((X.mg "__name__").getD .none) ctv H1 _ J ⟨k1, _, tP⟩ (fun p hp => ?_) ⟨Heap.get?_push_size _ rfl, ?_, above _ sz, tc⟩
    · by_cases hb : p.1 = P
      · rw [hu p hp hb, hb]
        refine ⟨_, tP, by rw [spl]; exact PySem.TriplesOk_snoc _ _ _ _ tri, fun p' cv hcv => ?_⟩
        rw [spl] at hcv
        rcases among_app _ tri hcv with z | z
        · obtain ⟨c0, rfl, e2⟩ := tells p' cv z
          exact ⟨c0, rfl, kc e2⟩
        · exact ⟨c', z, tc⟩
      · obtain ⟨rs, a1, a2, a3⟩ := hT p hp
        refine ⟨rs, k1 _ _ hb a1, a2, fun p' cv hcv => ?_⟩
        obtain ⟨c0, rfl, e2⟩ := a3 p' cv hcv
        exact ⟨c0, rfl, kc e2⟩
    · have n2 : g.objs.size ≠ P := Nat.ne_of_gt (Nat.lt_of_lt_of_le (Heap.lt_size objP) sz)
      rw [← hH1, upd_ne (Nat.ne_of_gt lt), upd_ne n2]
      exact I.hok.fresh sz
/-- x(lambda: ..): what it reads -/
def tLamP (T : List (Addr × Str)) (P : Addr) (TT : (XK → Hp → VK → Prop) → Hp → VK → Prop) (t : XK → TE) : TE := fun σ H Q => Tabs T H ∧ ∀ H1, ExtP P H H1 → Tabs T H1 → TT (fun E H' Q' => t E σ H' Q') H1 Q
/-- the def that gets it -/
structure GetsL (K : PySem.W.Frag) (mg : Str → Option Value) (x a : Str) (Ng : List Str) (bg : List Stmt) (sg : Scope) (g : Addr) (cdg : Value) : Prop where
  m : mg x = some (.ref g)
  k : PySem.W.keepIn K (.ref g) = true
  f : ∃ (pg : Arguments) (dV kV doc pm ct oc : Value) (an od : Option Addr) (osl : Array (Option Value)), K.lookup g = some ⟨oc, od, .func (PySem.W.fnOf x x pg bg sg dV kV doc pm an cdg ct), osl⟩ ∧ L2.Binds K (PySem.W.fnOf x x pg bg sg dV kV doc pm an cdg ct) [a] []
  c : PySem.W.codeIn K cdg x = true
  s : FnScope Ng [a] sg
  n : Ng[0]? = some a
  v : Vis sg a
theorem pe_lamP {T : List (Addr × Str)} {TT : (XK → Hp → VK → Prop) → Hp → VK → Prop} {x a : Str} {g c P : Addr} {k : Nat} {bg : List Stmt} {sg : Scope} {cdv : Value} {Ng : List Str} {ar : Arguments} {bd : Expr} {sc : Scope} {t : XK → TE} {p lpos pos : Pos} (hg : Gl X x) (L0 : GetsL X.K X.mg x a Ng bg sg g cdv)
    (hG : GivesTo X Ng x sg g cdv bg a (X.env.qual ++ "<lambda>") TT)
    (TB : TabB X.base X.mg c P) (hcode : X.env.code = .ref c) (hmT : (P, X.env.qual ++ "<lambda>") ∈ T) (hu : ∀ p ∈ T, p.1 = P → p.2 = X.env.qual ++ "<lambda>") (hr : Room (k + 2) X.A) (L : LamS X.env.scope sc) (hdef : defaultsOf ar X.env = ([], []))
    (hbind : ∀ (q : Str) (cl : List (Str × Addr)) (pm cv ctv : Value), bindArgs (PySem.W.kla_fn "<lambda>" q ar bd sc cl pm cv ctv) ⟨[], []⟩ = pure [])
    (hbody : ∀ (A : Around) (outer : List Env) (s : Shared) (H : Hp) (E : XK) (f c' : Addr), Room k (A.deeper (lamEnv X sc s.heap.objs.size f c')) → PE (lamCx X A outer s H E sc f c') bd (t E))
    (hdb : (x == ("__debug__" : Str)) = false := by decide) (hd : (a == ("__debug__" : Str)) = false := by decide) (hcd : (a == ("__classdict__" : Str)) = false := by decide) :
    PE X (.Call (.Name x p) [.Lambda ar bd sc lpos] [] pos) (tLamP T P TT t) := by
  obtain ⟨hm, hk, ⟨pg, dV, kV, doc, pm, ct, oc, an, od, osl, lk, hb⟩, hcg, Sg, hNg, hva⟩ := L0
  refine ⟨fun pins s σ H Q I h => ?_⟩
  obtain ⟨hT, h⟩ := h
  refine wpAny_Call_Name_kw (ld_glob I hg hm (PySem.W.callWith_K (h₀ := X.base) I.ok.mod.kin hk ?_ (by rfl) (by rfl)) hdb)
  show wpAny _ _ (spliced ((false, eval (.Lambda ar bd sc lpos) X.env) :: backTo pos (starEach [] X.env))) _ _ s
  refine Calls.spliced_cons (lam_mk I TB hcode hmT hu hT hdef (L.has I.ok) fun f c' pm' ctv H1 s' I1 ext T1 la => Calls.spliced_nil ⟨I1.kIn, ?_⟩)
  have rc : codeAny (model X.prog X.w) X.A (.call (.ref g) ⟨[.ref f], []⟩) (CR C8.CX0 X.stack X.prog X.w H1 s' Q C8.E0) s' := run_ofS (N := Ng) (ps := [a]) (us := [.ref f]) (vs := [.ref f]) lk hcg Sg hr I1.env0 (hb s' [.ref f] I1.kIn rfl) (.cons rfl .nil) rfl fun hr' => by
    obtain ⟨t', ht', hq'⟩ := hG f c' s' H1 Q (fun E H' Q' => t E σ H' Q') (fun W pn xe E p1 p2 tk hW => pe_act (i := 0) I1 L la.obj la.non la.fr (hbind _ _ _ _ _) tk hW hr' (fun A outer s H hr2 => hbody A outer s H E f c' hr2) hNg hva hd hcd) la.cod (h H1 ext T1)
    exact ⟨t', ht'.nox, hq'⟩
  refine wpAny_call (codeAny_mono rc fun r s2 hq => ?_)
  match r, hq with
  | .error e, hq => exact (show False from hq).elim
  | .ok (.ret u), hq => exact I1.after hq
  | .ok .next, hq => exact hq.elim
  | .ok .brk, hq => exact hq.elim
  | .ok .cont, hq => exact hq.elim
end
end ND
/-! tuples whose objects have no dict of their own: their methods can be called -/
namespace ND
open PySem PySem.Spec PyProof.Rows L2
/-- a tuple without a dict -/
def GT (K : PySem.W.Frag) (G : Hp) (a : Addr) (vs : List V) : Prop := SqT K G a vs ∧ ∃ o : Obj, o.dict = none ∧ (G a = some (.frz o (.tup vs)) ∨ K.lookup a = some o)
theorem GT.mono {K : PySem.W.Frag} {G G' : Hp} {a : Addr} {vs : List V} (s : Same G G') (h : GT K G a vs) : GT K G' a vs := by
  obtain ⟨h1, o, h2, h3⟩ := h
  exact ⟨Evl.ex_t s h1, o, h2, h3.imp (s a _) fun z => z⟩
theorem GT.new {K : PySem.W.Frag} {G : Hp} {a : Addr} {vs : List V} {o : Obj} (h : G a = some (.frz o (.tup vs))) (ho : o.dict = none) : GT K G a vs := ⟨.inl (.inr ⟨o, h⟩), o, ho, .inl h⟩
def tupObj (its : List Value) : Obj := { cls := .type "tuple", data := .seq its.toArray }
section
variable {X : Cx} {pins : List (Addr × Obj)} {σ : L2.St} {H : Hp} {s : Shared}
theorem laidT {xs : List V} {its : List Value} (I : Inv X pins σ H s) (r : Vals xs its) (hz : xs.length ≤ sizeLine) :
    Inv X pins σ (upd H s.heap.objs.size (.frz (tupObj its) (.tup xs))) { s with heap := s.heap.push (tupObj its) } ∧ H s.heap.objs.size = none := by
  have hf := I.hok.fresh (Nat.le_refl s.heap.objs.size)
  refine ⟨I.laid (t' := s.toks) (fun c u e => Heap.get?_push_of_some _ e) (Nat.le_refl _) ?_, hf⟩
  have hg : (s.heap.push (tupObj its)).get? s.heap.objs.size = some (tupObj its) := Heap.get?_push_size _ rfl
  exact ⟨hg, hz, its, r, ⟨_, hg, rfl, _, rfl⟩⟩
def tTupF (t : TA) : TE := fun σ H Q => t σ H fun xs H1 => xs.length ≤ sizeLine ∧ ∀ p o, H1 p = none → o.dict = none → Q (.ref p) (upd H1 p (.frz o (.tup xs)))
theorem pe_tupF {es : List Expr} {t : TA} {pos : Pos} {x1} (h : PA X es t) : PE X (.Tuple es x1 pos) (tTupF t) := by
  constructor
  intro pins s σ H Q I hq
  refine wpAny_Tuple_spliced (thn (h.run pos pins s σ H _ I hq) fun us s1 hh => ?_)
  obtain ⟨xs, H1, I1, r, z, q⟩ := hh
  obtain ⟨J, hf⟩ := laidT I1 r z
  exact ⟨by rw [← r.length]; exact z, .ref _, _, J, rfl, q _ _ hf rfl⟩
def rTupOf (K : PySem.W.Frag) : List V → Hp → VK → Prop := fun xs H Q => ∃ p ys, xs = [.ref p] ∧ ((SqL K H p ys ∧ ∀ l o, H l = none → o.dict = none → Q (.ref l) (upd H l (.frz o (.tup ys)))) ∨ (SqT K H p ys ∧ Q (.ref p) H))
theorem call_tupF : CallR X (.type "tuple") (rTupOf X.K) := by
  intro pins s σ H xs us Q I r h
  obtain ⟨p, ys, rfl, h⟩ := h
  obtain ⟨u, rfl, rx⟩ := vals1 r
  cases rx
  rcases h with ⟨hs, q⟩ | ⟨hs, q⟩
  · obtain ⟨its, r', pl, hz⟩ := I.list hs
    have hl := r'.length
    refine call_tuple_list pl.isList (fun h' kp => ?_) (by simp only [List.size_toArray] <;> omega)
    obtain ⟨J, hf⟩ := laidT (I.kept (t' := s.toks) kp) r' hz
    exact ⟨.ref _, _, J, rfl, q _ _ hf rfl⟩
  · obtain ⟨its, _, pl, _⟩ := I.tuple hs
    exact call_tuple_same pl ⟨.ref _, H, I, rfl, q⟩
def rCatF (K : PySem.W.Frag) : R2 := fun x y H Q => ∃ a b xs ys, x = .ref a ∧ y = .ref b ∧ SqT K H a xs ∧ SqT K H b ys ∧ xs.length + ys.length ≤ sizeLine ∧
  (xs = [] → Q (.ref b) H) ∧ (xs ≠ [] → ys = [] → Q (.ref a) H) ∧ (xs ≠ [] → ys ≠ [] → ∀ p o, H p = none → o.dict = none → Q (.ref p) (upd H p (.frz o (.tup (xs ++ ys)))))
theorem op_catF : OpR X (binaryOp .Add) (rCatF X.K) := by
  intro pins s σ H x y v u Q I rx ry h
  obtain ⟨a, b, xs, ys, rfl, rfl, ha, hb, hz, q0, q1, q2⟩ := h
  cases rx
  cases ry
  obtain ⟨its, r1, p1, _⟩ := I.tuple ha
  obtain ⟨its2, r2, p2, _⟩ := I.tuple hb
  by_cases hx : xs = []
  · subst hx
    cases r1
    exact cat_tup0 p1 p2 ⟨.ref _, H, I, rfl, q0 rfl⟩
  · refine HT.cat_tup p1 p2 (fun z => hx (r1.nil_iff.mp z)) (fun z => ⟨.ref _, H, I, rfl, q1 hx (r2.nil_iff.mp z)⟩) (fun z => ?_) (by rw [← r1.length, ← r2.length]; exact hz)
    obtain ⟨J, hf⟩ := laidT I (r1.append r2) (by rw [List.length_append]; exact hz)
    have e : its.toArray ++ its2.toArray = (its ++ its2).toArray := by simp
    exact ⟨.ref _, _, J, rfl, q2 hx (fun w => z (r2.nil_iff.mpr w)) _ _ hf rfl⟩
def rSlF (K : PySem.W.Frag) : V → Option Int → Option Int → Hp → VK → Prop := fun x lo hi H Q => ∃ a xs, x = .ref a ∧ SqT K H a xs ∧
  (HT.sIx xs.length 0 lo = 0 ∧ HT.sIx xs.length xs.length hi = xs.length → Q (.ref a) H) ∧ (¬ (HT.sIx xs.length 0 lo = 0 ∧ HT.sIx xs.length xs.length hi = xs.length) → ∀ p o, H p = none → o.dict = none → Q (.ref p) (upd H p (.frz o (.tup (cutV xs lo hi)))))
theorem sl_tupF : SlR X (rSlF X.K) := by
  intro pins s σ H x v vl vu lo hi sl Q I rx hs pl pu h
  obtain ⟨a, xs, rfl, hx, q1, q2⟩ := h
  cases rx
  obtain ⟨its, r, ht, hz⟩ := I.tuple hx
  have hlen : its.toArray.size = xs.length := by rw [List.size_toArray]; exact r.length.symm
  refine ⟨"tuple", _, PyProof.Rows.slot_tuple_getitem.lookup, ht.typeIs, ?_⟩
  by_cases hw : HT.sIx xs.length 0 lo = 0 ∧ HT.sIx xs.length xs.length hi = xs.length
  · exact getItem_tuple_whole ht hs pl pu (by rw [hlen]; exact hw) ⟨.ref _, H, I, rfl, q1 hw⟩
  · refine HT.getItem_tuple_cut ht hs pl pu (by rw [hlen]; exact hw) ?_ (by rw [hlen]; exact hz)
    rw [hlen]
    obtain ⟨J, hf⟩ := laidT I (xs := cutV xs lo hi) ((r.drop (HT.sIx xs.length 0 lo)).take (HT.sIx xs.length xs.length hi - HT.sIx xs.length 0 lo)) (Nat.le_trans (cutV_length xs lo hi) hz)
    exact ⟨.ref _, _, J, rfl, q2 hw _ _ hf rfl⟩
/-- t[::-1] -/
def tRevF (K : PySem.W.Frag) (te : TE) : TE := fun σ H Q => te σ H fun x H1 => ∃ a xs, x = .ref a ∧ SqT K H1 a xs ∧ ∀ p o, H1 p = none → o.dict = none → Q (.ref p) (upd H1 p (.frz o (.tup xs.reverse)))
/-- names.index(x) -/
def tIdxF (K : PySem.W.Frag) (to : TE) (ta : TA) : TE := fun σ H Q => to σ H fun x H1 => ∃ a, ∃ ys : List Str, x = .ref a ∧ GT K H1 a (ys.map V.str) ∧ ta σ H1 fun ys' H2 => ∃ z j, ys' = [.str z] ∧ SqT K H2 a (ys.map V.str) ∧ ys[j]? = some z ∧ (∀ m, m < j → ys[m]? ≠ some z) ∧ Q (.int (j : Nat)) H2
theorem pe_idxF {o e : Expr} {to : TE} {ta : TA} {apos cpos : Pos} (ho : PE X o to) (ha : PA X [e] ta)
    (hbase : attributeBase o "index" X.env (eval o X.env) = eval o X.env := by rfl)
    (hfew : ((backTo cpos (starEach [e] X.env)).all (fun x => !x.1) && (backToKw cpos (keywordEach [] X.env)).all (fun x => x.1.isSome) && decide ([e].length + ([] : List Keyword).length + (if ([] : List Keyword).isEmpty then 0 else 1) < 30)) = true := by rfl)
    (hline : (apos.endLine == cpos.line) = true := by rfl) (hs : starEach [e] X.env = (false, eval e X.env) :: starEach [] X.env := by rfl) (hplain : (backTo cpos (starEach [] X.env)).any (·.1) = false := by rfl) :
    PE X (.Call (.Attribute o "index" apos) [e] [] cpos) (tIdxF X.K to ta) := by
  constructor
  intro pins s σ H Q I h
  refine wpAny_Call_method_late hbase hfew hline rfl (thn (ho.run pins s σ H _ I h) fun v s1 hh => ?_)
  obtain ⟨x, H1, I1, r1, a, ys, rfl, hg, q1⟩ := hh
  cases r1
  obtain ⟨its, rv, pl, _⟩ := I1.tuple hg.1
  have hd : ∃ ob, s1.heap.get? a = some ob ∧ ob.dict = none := by
    obtain ⟨_, ob, h2, h3⟩ := hg
    rcases h3 with h3 | h3
    · exact ⟨ob, (I1.hok a _ h3).1, h2⟩
    · exact ⟨ob, I1.kIn a ob h3, h2⟩
  refine ⟨"tuple", "tuple.index", PySem.F.plainAttrs_tuple, PySem.F.slot_tuple_index, PySem.F.type_tuple_index, pl.typeIs, fun b e => by cases e; exact hd, ?_⟩
  have hA := ha.run cpos pins s1 σ H1 _ I1 q1
  rw [hs] at hA ⊢
  refine Calls.callWith_builtin (by show (false || (backTo cpos (starEach [] X.env)).any (·.1)) = false; rw [hplain] <;> rfl) (Calls.evalArgs_plain ?_)
  refine thn hA fun us s2 h2 => ?_
  obtain ⟨vs, H2, I2, r2, z, j, rfl, hq, h4, h5, q⟩ := h2
  exact mt_tup_index pins s2 σ H2 (.ref a) _ (.ref a) us Q I2 rfl r2 ⟨a, ys, z, j, rfl, rfl, hq, h4, h5, q⟩
end
end ND
/-! t[::-1] of a tuple -/
namespace ND
open PySem PySem.Spec PyProof.Rows L2 HT
section
variable {prog : Program} {w : World} {A : Around} {E : Value → Shared → Prop} {s : Shared}
theorem adj_rev (n : Nat) : Builtin.Slice.sliceAdjust none none (-1) (n : Int) = ((n : Int) - 1, -1) := by
  unfold Builtin.Slice.sliceAdjust
  have h : ((-1 : Int) < 0) := by decide
  simp only [h, if_true]
theorem pl_rev (n : Nat) : Builtin.Slice.slicePlaces ((n : Int) - 1) (-1) (-1) = n := by
  unfold Builtin.Slice.slicePlaces
  have h : ¬ ((-1 : Int) > 0) := by decide
  rw [if_neg h]
  by_cases c : (n : Int) - 1 > -1
  · rw [if_pos c]
    have e : -(-1 : Int) = 1 := by decide
    rw [e, Int.ediv_one]
    omega
  · rw [if_neg c]
    omega
theorem pick_rev (xs : Array Value) : ((List.range xs.size).filterMap fun (m : Nat) => xs[(((xs.size : Nat) : Int) - 1 + (m : Int) * (-1)).toNat]?).toArray = xs.toList.reverse.toArray := by
  congr 1
  have e : ∀ m ∈ List.range xs.size, (fun (m : Nat) => xs[(((xs.size : Nat) : Int) - 1 + (m : Int) * (-1)).toNat]?) m = (fun m => xs.toList.reverse[m]?) m := fun m hm => by
    have hm := List.mem_range.mp hm
    show xs[(((xs.size : Nat) : Int) - 1 + (m : Int) * (-1)).toNat]? = xs.toList.reverse[m]?
    rw [List.getElem?_reverse (by simpa using hm), Array.getElem?_toList]
    congr 1
    rw [Array.length_toList]
    omega
  have key : ∀ (l : List Nat) (f g : Nat → Option Value), (∀ m ∈ l, f m = g m) → l.filterMap f = l.filterMap g := by
    intro l f g
    induction l with
    | nil => exact fun _ => rfl
    | cons a l ih =>
      intro h
      rw [List.filterMap_cons, List.filterMap_cons, h a List.mem_cons_self, ih fun m hm => h m (List.mem_cons_of_mem _ hm)]
  rw [key _ _ _ e]
  have all : ∀ ys : List Value, (List.range ys.length).filterMap (fun m => ys[m]?) = ys := by
    intro ys
    induction ys with
    | nil => rfl
    | cons y ys ih =>
      rw [List.length_cons, List.range_succ_eq_map, List.filterMap_cons]
      show y :: List.filterMap (fun m => (y :: ys)[m]?) (List.map Nat.succ (List.range ys.length)) = _
      rw [List.filterMap_map]
      have : ((fun m => (y :: ys)[m]?) ∘ Nat.succ) = fun m => ys[m]? := by
        funext m
        rfl
      rw [this, ih]
  have := all xs.toList.reverse
  rw [List.length_reverse, Array.length_toList] at this
  exact this
theorem applied_rev {sl : Addr} {vl vu vk : Value} {n : Nat} {Q : Int × Int × Nat → Shared → Prop} (hs : s.heap.IsSliceOf sl vl vu vk) (p1 : IsPart vl none) (p2 : IsPart vu none) (p3 : IsPart vk (some (-1)))
    (h : Q (((n : Nat) : Int) - 1, -1, n) s) : wpAny (model prog w) A (Builtin.Slice.sliceApplied (.ref sl) (pure (n : Int))) Q E s := by
  obtain ⟨os, hos, hcs, hds⟩ := id hs
  unfold Builtin.Slice.sliceApplied Builtin.Slice.sliceFields
  refine wpAny_bind (wpAny_bind (wpAny_field hos hds (x := vl) rfl (wpAny_bind (wpAny_field hos hds (x := vu) rfl (wpAny_bind (wpAny_field hos hds (x := vk) rfl (wpAny_pure ?_)))))))
  refine wpAny_bind (slicePart_ p3 ?_)
  show wpAny _ _ (if ((-1 : Int) == 0) = true then _ else _) _ _ s
  rw [if_neg (by decide)]
  refine wpAny_bind (slicePart_ p1 (wpAny_bind (slicePart_ p2 (wpAny_bind (wpAny_pure ?_)))))
  show wpAny _ _ (match Builtin.Slice.sliceAdjust none none (-1) (n : Int) with | (lo, hi) => pure (lo, (-1 : Int), Builtin.Slice.slicePlaces lo hi (-1))) _ _ s
  rw [adj_rev n]
  show wpAny _ _ (pure (((n : Nat) : Int) - 1, (-1 : Int), Builtin.Slice.slicePlaces (((n : Nat) : Int) - 1) (-1) (-1))) _ _ s
  rw [pl_rev]
  exact wpAny_pure h
theorem item_rev {t sl : Addr} {items : Array Value} {vl vu vk : Value} {Q : Value → Shared → Prop} (ht : IsTup s.heap t items) (hs : s.heap.IsSliceOf sl vl vu vk) (p1 : IsPart vl none) (p2 : IsPart vu none) (p3 : IsPart vk (some (-1)))
    (h : Q (.ref s.heap.objs.size) { s with heap := s.heap.push { cls := .type "tuple", data := .seq items.toList.reverse.toArray } })
    (hsz : items.size ≤ sizeLine) : wpAny (model prog w) A (getItem (.ref t) (.ref sl)) Q E s := by
  have hok : sizeOk (.seq items.toList.reverse.toArray) := by
    show items.toList.reverse.toArray.size ≤ sizeLine
    rw [List.size_toArray, List.length_reverse, Array.length_toList]
    exact hsz
  obtain ⟨os, hos, hcs, hds⟩ := id hs
  have hTs : s.TypeIs (.ref sl) "slice" := ⟨os, hos, hcs⟩
  unfold getItem
  try with_reducible refine wpAny_holding ?_
  first | refine wpAny_bind (wpAny_pure ?_) | skip
  refine wpAny_bind (wpAny_sequenceKey ht.typeIs (by decide) ?_)
  refine wpAny_bind (wpAny_callSpecial?_slot (name := Str.ofString "__getitem__") ht.typeIs PyProof.Rows.slot_tuple_getitem (wpAny_call_entry PyProof.Rows.slot_tuple_getitem ht.typeIs entry_tuple_getitem ?_ (args_tuple_getitem _ _)))
  show wpAny _ _ (Builtin.Tuple.tupleItemsOf (.ref t) >>= _) _ _ s
  refine wpAny_bind (tupleItemsOf_ ht ?_)
  refine wpAny_bind (wpAny_typeOf hTs ?_)
  rw [if_pos (by decide)]
  refine wpAny_bind (applied_rev hs p1 p2 p3 ?_)
  have hno : ¬ (((((items.size : Nat) : Int) - 1) == 0 && (-1 : Int) == 1 && items.size == items.size) = true) := by
    intro q
    rw [Bool.and_eq_true, Bool.and_eq_true] at q
    have : (-1 : Int) = 1 := eq_of_beq q.1.2
    omega
  show wpAny _ _ (if (((((items.size : Nat) : Int) - 1) == 0 && (-1 : Int) == 1 && items.size == items.size) = true) then _ else _) _ _ s
  rw [if_neg hno, pick_rev]
  first
    | exact wpAny_bind (m := Builtin.Tuple.tupleExact _) (wpAny_newObj_type (wpAny_pure ⟨_, rfl, wpAny_pure h⟩) hok)
    | exact wpAny_bind (m := Builtin.Tuple.tupleExact _) (wpAny_newObj_type (wpAny_bind (wpAny_pure (wpAny_pure ⟨_, rfl, wpAny_pure h⟩))) hok)
    | exact wpAny_bind (wpAny_bind (m := Builtin.Tuple.tupleExact _) (wpAny_newObj_type (wpAny_pure (wpAny_pure ⟨_, rfl, wpAny_pure h⟩)) hok))
    | exact wpAny_bind (wpAny_bind (m := Builtin.Tuple.tupleExact _) (wpAny_newObj_type (wpAny_pure ⟨_, rfl, wpAny_pure h⟩) hok))
end
section
variable {X : Cx}
theorem pe_revF {e : Expr} {te : TE} {k : Nat} {p1 p2 p3 pos : Pos} (he : PE X e te) : PE X (.Subscript e (.Slice none none (some (.UnaryOp .USub (.Constant (.int 1) k p1) p2)) p3) pos) (tRevF X.K te) := by
  constructor
  intro pins s σ H Q I h
  refine Subscript_ (thn (he.run pins s σ H _ I h) fun v s1 hh => ?_)
  obtain ⟨x, H1, I1, r1, a, xs, rfl, hx, q⟩ := hh
  cases r1
  have step : PO X (some (.UnaryOp .USub (.Constant (.int 1) k p1) p2)) (tPart (tUn (rU fun i => .int (-i)) (tC (.int 1)))) := po_some (pe_un un_neg pe_int)
  refine wpAny_Slice (thn (po_none.run pins s1 σ H1 (fun o H2 => o = none ∧ H2 = H1) I1 ⟨rfl, rfl⟩) fun vl s2 h2 => ?_)
  obtain ⟨l, H2, I2, pl, rfl, rfl⟩ := h2
  refine thn (po_none.run pins s2 σ H2 (fun o H3 => o = none ∧ H3 = H2) I2 ⟨rfl, rfl⟩) fun vu s3 h3 => ?_
  obtain ⟨u, H3, I3, pu, rfl, rfl⟩ := h3
  refine thn (step.run pins s3 σ H3 (fun o H4 => o = some (-1) ∧ H4 = H3) I3 ⟨1, rfl, -1, rfl, rfl, rfl⟩) fun vk s4 h4 => ?_
  obtain ⟨o, H4, I4, pk, rfl, rfl⟩ := h4
  have I5 : Inv X pins σ H4 { s4 with heap := s4.heap.push { cls := .type "slice", data := .fields #[vl, vu, vk] } } := I4.kept (t' := s4.toks) fun b ob q => Heap.get?_push_of_some _ q
  obtain ⟨its, r, ht, hz⟩ := I5.tuple hx
  have hl := r.length
  show wpAny (model X.prog X.w) X.A (subscriptTail e (.Slice none none (some (.UnaryOp .USub (.Constant (.int 1) k p1) p2)) p3) (.ref a) (.ref s4.heap.objs.size)) (EP X pins σ Q) X.xe { s4 with heap := s4.heap.push { cls := .type "slice", data := .fields #[vl, vu, vk] } }
  refine tail_any (ops := [.ref a, .ref s4.heap.objs.size]) ht.typeIs (PyProof.Rows.slot_tuple_getitem.lookup) ?_ (by with_unfolding_all rfl)
  refine item_rev ht (Heap.IsSliceOf.new _ vl vu vk) pl pu pk ?_ (by rw [List.size_toArray]; omega)
  obtain ⟨J, hf⟩ := laidT I5 (xs := xs.reverse) (its := its.reverse) r.reverse (by rw [List.length_reverse]; exact hz)
  exact ⟨.ref _, _, J, rfl, q _ _ hf rfl⟩
end
end ND
/-! plain data: what a def computes, without the heap -/
namespace ND
open PySem PySem.Spec PyProof.Rows L2
inductive D where
  | non
  | bl (b : Bool)
  | int (i : Int)
  | str (x : Str)
  | lst (xs : List D)
  | tup (xs : List D)
  | dct (kvs : List (Key × D))
  | ins (c : Str) (fs : List (Str × D))
  | exc (c : Str) (fs : List (Str × D))
  | drw
  deriving Inhabited
def tyNs : List String := ["NoneType", "bool", "int", "str", "list", "tuple", "dict"]
def errNames : List Str := ["PackError", "BadPack", "BadPlan", "BadFit", "TooMany", "NoPack", "Rolled", "NoCell", "BadState", "NoNight", "BadOrder", "BadChoice", "BadDeed", "BadSide", "Unlike", "BadRow", "NotPlain", "NotStill", "BadWorths", "BadDay", "BadNumber", "BadBounds", "BadShown", "NothingDone", "BadJournal", "BadText"]
def isaB (c c' : Str) : Bool := decide (c = c') || (decide (c' = "PackError") && decide (c ∈ errNames))
/-- what isinstance asks of the program's classes -/
structure ClsT (K : PySem.W.Frag) (cs xs : List Str) : Prop where
  ty : ∀ c ∈ cs, ClTy K (He.ga K c)
  xk : ∀ c ∈ xs, ExcK K (He.ga K c)
  bt : ∀ c ∈ cs ++ xs, ∀ n ∈ tyNs, PySem.W.kitOne K (.ref (He.ga K c)) (.type n) = some false
  tb : ∀ c ∈ cs ++ xs, ∀ n ∈ tyNs, PySem.W.kitOne K (.type n) (.ref (He.ga K c)) = some false
  oo : ∀ c ∈ cs ++ xs, ∀ c' ∈ cs ++ xs, PySem.W.kitOne K (.ref (He.ga K c)) (.ref (He.ga K c')) = some (isaB c c')
  xm : ∀ c ∈ xs, PySem.W.exmOne K (.ref (He.ga K c)) (.ref (He.ga K "PackError")) = some true
/-- the classes that the program has -/
def hasG (K : PySem.W.Frag) (c : Str) : Bool := match PySem.W.nsIn K mainGlobals c with
  | some (some (.ref _)) => true
  | _ => false
def allOwn : List Str := ["Pack", "Plan", "Drawn", "Sides", "Block", "Purse", "Read", "Desk"]
def ownCls (K : PySem.W.Frag) : List Str := allOwn.filter (hasG K)
def ownX (K : PySem.W.Frag) : List Str := errNames.filter (hasG K)
/-! the tables of the code objects that make lambdas -/
def codeOf (K : PySem.W.Frag) (x : Str) : Addr := match K.lookup (He.ga K x) with
  | some ⟨_, _, .func fd, _⟩ => (match fd.code with
    | .ref c => c
    | _ => 0)
  | _ => 0
def tabOf (K : PySem.W.Frag) (x : Str) : Addr := match K.lookup (codeOf K x) with
  | some ⟨_, _, .fields vs, _⟩ => (match vs.getD 11 .none with
    | .ref p => p
    | _ => 0)
  | _ => 0
def makers : List Str := ["_law_amounts_right", "_law_asked", "_law_due", "_law_first_errors", "_law_flow_right", "_law_flows_right", "_law_is_last_wrong", "_law_less_right", "_law_read_right", "_law_refused", "_law_right", "_law_second_errors", "_law_worth_right", "law"]
def tbsOf (K : PySem.W.Frag) : List (Addr × Str) := (makers.filter (hasG K)).map fun x => (tabOf K x, x ++ ".<locals>." ++ "<lambda>")
/-- an error's object, as a value -/
def XAt (G : Hp) (b C : Addr) (fs : List (Str × V)) : Prop := ∃ d, G b = some (XO b C d) ∧ XFs G d fs
theorem XAt.mono {G G' : Hp} {b C : Addr} {fs : List (Str × V)} (s : Same G G') (h : XAt G b C fs) : XAt G' b C fs := by
  obtain ⟨d, h1, h2⟩ := h
  exact ⟨d, s _ _ h1, h2.mono s⟩
/-- a text that is plain -/
def SOk (x : Str) : Prop := x.length ≤ 100000 ∧ PyData.strOk x = true
/-- where a law runs: the draw at d; what may change of itself (vol), and what is known of it, n steps being left -/
structure Cfg (K : PySem.W.Frag) where
  d : Addr
  vol : Addr → Prop
  inv : Nat → Hp → Prop
  /-- what stands from the beginning on, and never changes -/
  fix : Addr → Option HO
  stab : ∀ n H H', inv n H → (∀ a, vol a → H' a = H a) → (∀ a φ, ¬ vol a → H a = some (.ext φ) → H' a = some (.ext φ)) → (∀ a o, fix a = some o → H' a = some o) → inv n H'
  trk : ∀ n H a, inv n H → vol a → H a ≠ none
  ct : ClsT K (ownCls K) (ownX K)
  /-- the dicts that are walked now -/
  lk : List Addr
  fixd : ∀ a kvs, fix a ≠ some (.dK kvs)
  tbo : ∀ n H, inv n H → LamX.Tabs (tbsOf K) H
  tbv : ∀ p ∈ tbsOf K, vol p.1
  tbx : ∀ n H H' p, p ∈ tbsOf K → inv n H → ExtP p.1 H H' → LamX.Tabs (tbsOf K) H' → inv n H'
  /-- the draw goes m steps on -/
  go : ∀ n m H, inv (n + m) H → ∃ aw ac T, Draw K d aw ac T H ∧ T + m + 20000 ≤ 2 ^ 40 ∧ vol d ∧ vol aw ∧ fix ac ≠ none ∧ ∀ H', Draw K d aw ac (T + m) H' → Keep d aw H H' → inv n H'
mutual
inductive Rq (K : PySem.W.Frag) (dr : Addr) (G : Hp) : V → D → Prop where
  | non : Rq K dr G .non .non
  | bl (b : Bool) : Rq K dr G (.bl b) (.bl b)
  | int (i : Int) : Rq K dr G (.int i) (.int i)
  | str (x : Str) (h : SOk x) : Rq K dr G (.str x) (.str x)
  | lst {a : Addr} {vs : List V} {xs : List D} (h : Rd G a (.lst vs)) (t : RqL K dr G vs xs) (l : xs.length ≤ 100000) : Rq K dr G (.ref a) (.lst xs)
  | tup {a : Addr} {vs : List V} {xs : List D} (h : GT K G a vs) (t : RqL K dr G vs xs) (l : xs.length ≤ 100000) : Rq K dr G (.ref a) (.tup xs)
  | dct {a : Addr} {kvs : List (Key × V)} {xs : List (Key × D)} (h : Rd G a (.dK kvs)) (e : kvs.map (·.1) = xs.map (·.1)) (t : RqL K dr G (kvs.map (·.2)) (xs.map (·.2))) (l : xs.length ≤ 100000) : Rq K dr G (.ref a) (.dct xs)
  | ins {a dx : Addr} {c : Str} {fs : List (Str × V)} {xs : List (Str × D)} (hc : c ∈ ownCls K) (h : G a = some (.ins (He.ga K c) dx fs)) (e : fs.map (·.1) = xs.map (·.1)) (t : RqL K dr G (fs.map (·.2)) (xs.map (·.2))) : Rq K dr G (.ref a) (.ins c xs)
  | exc {a : Addr} {c : Str} {fs : List (Str × V)} {xs : List (Str × D)} (hc : c ∈ ownX K) (h : XAt G a (He.ga K c) fs) (e : fs.map (·.1) = xs.map (·.1)) (t : RqL K dr G (fs.map (·.2)) (xs.map (·.2))) : Rq K dr G (.ref a) (.exc c xs)
  | drw : Rq K dr G (.ref dr) .drw
inductive RqL (K : PySem.W.Frag) (dr : Addr) (G : Hp) : List V → List D → Prop where
  | nil : RqL K dr G [] []
  | cons {v : V} {x : D} {vs : List V} {xs : List D} (h : Rq K dr G v x) (t : RqL K dr G vs xs) : RqL K dr G (v :: vs) (x :: xs)
end
abbrev Rep {K : PySem.W.Frag} (C : Cfg K) (G : Hp) : V → D → Prop := Rq K C.d G
abbrev RepL {K : PySem.W.Frag} (C : Cfg K) (G : Hp) : List V → List D → Prop := RqL K C.d G
theorem rd_mono {G G' : Hp} {a : Addr} {u : HO} (s : Same G G') (h : Rd G a u) : Rd G' a u := Evl.ex_rd s h
section
variable {K : PySem.W.Frag} {C : Cfg K} {G G' H : Hp}
mutual
theorem Rq.mono (s : Same G G') : ∀ {v : V} {x : D}, Rep C G v x → Rep C G' v x
  | _, _, .non => .non
  | _, _, .bl b => .bl b
  | _, _, .int n => .int n
  | _, _, .str z h => .str z h
  | _, _, .lst h t l => .lst (rd_mono s h) (RqL.mono s t) l
  | _, _, .tup h t l => .tup (h.mono s) (RqL.mono s t) l
  | _, _, .dct h e t l => .dct (rd_mono s h) e (RqL.mono s t) l
  | _, _, .ins hc h e t => .ins hc (s _ _ h) e (RqL.mono s t)
  | _, _, .exc hc h e t => .exc hc (h.mono s) e (RqL.mono s t)
  | _, _, .drw => .drw
theorem RqL.mono (s : Same G G') : ∀ {vs : List V} {xs : List D}, RepL C G vs xs → RepL C G' vs xs
  | _, _, .nil => .nil
  | _, _, .cons h t => .cons (Rq.mono s h) (RqL.mono s t)
end
theorem RqL.len : ∀ {vs : List V} {xs : List D}, RepL C G vs xs → vs.length = xs.length
  | _, _, .nil => rfl
  | _, _, .cons _ t => congrArg (· + 1) t.len
theorem RqL.at : ∀ {vs : List V} {xs : List D} {i : Nat} {v : V}, RepL C G vs xs → vs[i]? = some v → ∃ x, xs[i]? = some x ∧ Rep C G v x
  | _, _, 0, _, .cons h t, e => by
    cases e
    exact ⟨_, rfl, h⟩
  | _, _, i + 1, _, .cons h t, e => t.at (i := i) e
  | _, _, 0, _, .nil, e => nomatch e
  | _, _, i + 1, _, .nil, e => nomatch e
theorem RqL.at' : ∀ {vs : List V} {xs : List D} {i : Nat} {x : D}, RepL C G vs xs → xs[i]? = some x → ∃ v, vs[i]? = some v ∧ Rep C G v x
  | _, _, 0, _, .cons h t, e => by
    cases e
    exact ⟨_, rfl, h⟩
  | _, _, i + 1, _, .cons h t, e => t.at' (i := i) e
  | _, _, 0, _, .nil, e => nomatch e
  | _, _, i + 1, _, .nil, e => nomatch e
theorem RqL.app : ∀ {vs us : List V} {xs ys : List D}, RepL C G vs xs → RepL C G us ys → RepL C G (vs ++ us) (xs ++ ys)
  | _, _, _, _, .nil, s => s
  | _, _, _, _, .cons h t, s => .cons h (t.app s)
theorem RqL.set : ∀ {vs : List V} {xs : List D} {v : V} {x : D} (i : Nat), RepL C G vs xs → Rep C G v x → RepL C G (vs.set i v) (xs.set i x)
  | _, _, _, _, _, .nil, _ => .nil
  | _, _, _, _, 0, .cons _ t, h => .cons h t
  | _, _, _, _, i + 1, .cons g t, h => .cons g (t.set i h)
theorem RqL.take : ∀ {vs : List V} {xs : List D} (i : Nat), RepL C G vs xs → RepL C G (vs.take i) (xs.take i)
  | _, _, 0, _ => .nil
  | _, _, i + 1, .nil => .nil
  | _, _, i + 1, .cons h t => .cons h (t.take i)
theorem RqL.drop : ∀ {vs : List V} {xs : List D} (i : Nat), RepL C G vs xs → RepL C G (vs.drop i) (xs.drop i)
  | _, _, 0, t => t
  | _, _, i + 1, .nil => .nil
  | _, _, i + 1, .cons h t => t.drop i
theorem RqL.erase : ∀ {vs : List V} {xs : List D} (i : Nat), RepL C G vs xs → RepL C G (vs.eraseIdx i) (xs.eraseIdx i)
  | _, _, _, .nil => .nil
  | _, _, 0, .cons h t => t
  | _, _, i + 1, .cons h t => .cons h (t.erase i)
theorem RqL.rev : ∀ {vs : List V} {xs : List D}, RepL C G vs xs → RepL C G vs.reverse xs.reverse
  | _, _, .nil => .nil
  | _, _, .cons h t => by
    rw [List.reverse_cons, List.reverse_cons]
    exact t.rev.app (.cons h .nil)
end
theorem nf_upd {G : Hp} {p : Addr} {o : HO} {l : List Addr} (h : ∀ a o kvs, G a = some (.frz o (.dK kvs)) → a ∈ l) (ho : noFrz o = true) : ∀ a o' kvs, upd G p o a = some (.frz o' (.dK kvs)) → a ∈ l := fun a o' kvs e => by
  by_cases ha : a = p
  · subst ha
    rw [upd_same] at e
    cases e
    cases ho
  · rw [upd_ne ha] at e
    exact h a o' kvs e
/-! ### the world -/
structure Wl {K : PySem.W.Frag} (C : Cfg K) (n : Nat) (G H : Hp) : Prop where
  sub : Same G H
  nv : ∀ a, C.vol a → G a = none
  fx : Same C.fix G
  nf : ∀ a o kvs, G a = some (.frz o (.dK kvs)) → a ∈ C.lk
  iv : C.inv n H
structure Ws {K : PySem.W.Frag} (C : Cfg K) (G0 H0 : Hp) (n : Nat) (G H : Hp) : Prop where
  w : Wl C n G H
  g : Same G0 G
  k : ∀ a o, ¬ C.vol a → H0 a = some o → H a = some o
  o : ∀ a, G0 a = none → H0 a ≠ none → G a = none
section
variable {K : PySem.W.Frag} {C : Cfg K} {n m : Nat} {G0 H0 G H G1 H1 : Hp} {p : Addr} {o o' : HO}
theorem Wl.nvol (w : Wl C n G H) (h : H p = none) : ¬ C.vol p := fun v => C.trk n H p w.iv v h
theorem Wl.gn (w : Wl C n G H) (h : H p = none) : G p = none := w.sub.free h
theorem Ws.dm (s : Ws C G0 H0 n G H) (h : H p = none) : H0 p = none := by
  cases e : H0 p with
  | none => rfl
  | some o =>
    rw [s.k p o (s.w.nvol h) e] at h
    cases h
theorem Ws.refl (w : Wl C n G H) : Ws C G H n G H := ⟨w, Same.refl _, fun _ _ _ h => h, fun _ h _ => h⟩
theorem Ws.trans (a : Ws C G0 H0 n G H) (b : Ws C G H m G1 H1) : Ws C G0 H0 m G1 H1 :=
  ⟨b.w, a.g.trans b.g, fun x o v h => b.k x o v (a.k x o v h), fun x h h1 => b.o x (a.o x h h1) fun z => h1 (a.dm z)⟩
/-- a new object that stays -/
theorem Ws.new (a : Ws C G0 H0 n G H) (np : H p = none) (ho : noFrz o = true := by rfl) : Ws C G0 H0 n (upd G p o) (upd H p o) := by
  have gp := a.w.gn np
  have nv := a.w.nvol np
  refine ⟨⟨same_both a.w.sub, fun x v => ?_, a.w.fx.trans (same_add gp), nf_upd a.w.nf ho, C.stab n H _ a.w.iv (fun x v => ?_) (fun x u _ h => ?_) ((a.w.fx.trans a.w.sub).trans (same_add np))⟩, fun x u h => ?_, fun x u v h => ?_, fun x h h1 => ?_⟩
  · rw [upd_ne (show x ≠ p from fun z => nv (z ▸ v))]; exact a.w.nv x v
  · rw [upd_ne (show x ≠ p from fun z => nv (z ▸ v))]
  · rw [upd_ne (ne_of_none h np)]; exact h
  · rw [upd_ne (ne_of_none (a.g x u h) gp)]; exact a.g x u h
  · rw [upd_ne (ne_of_none (a.k x u v h) np)]; exact a.k x u v h
  · rw [upd_ne (show x ≠ p from fun z => h1 (a.dm (z ▸ np)))]; exact a.o x h h1
/-- a new object that may change -/
theorem Ws.tmp (a : Ws C G0 H0 n G H) (np : H p = none) : Ws C G0 H0 n G (upd H p o) := by
  have gp := a.w.gn np
  have nv := a.w.nvol np
  refine ⟨⟨same_upd a.w.sub gp, a.w.nv, a.w.fx, a.w.nf, C.stab n H _ a.w.iv (fun x v => ?_) (fun x u _ h => ?_) ((a.w.fx.trans a.w.sub).trans (same_add np))⟩, a.g, fun x u v h => ?_, a.o⟩
  · rw [upd_ne (show x ≠ p from fun z => nv (z ▸ v))]
  · rw [upd_ne (ne_of_none h np)]; exact h
  · rw [upd_ne (ne_of_none (a.k x u v h) np)]; exact a.k x u v h
end
/-- an object of one's own -/
structure Own {K : PySem.W.Frag} (C : Cfg K) (H0 G H : Hp) (p : Addr) (o : HO) : Prop where
  h : H p = some o
  g : G p = none
  v : ¬ C.vol p
  n : H0 p = none
section
variable {K : PySem.W.Frag} {C : Cfg K} {n m : Nat} {G0 H0 G H G1 H1 : Hp} {p q : Addr} {o o' : HO}
theorem Own.step (l : Own C H0 G H p o) (s : Ws C G H n G1 H1) : Own C H0 G1 H1 p o :=
  ⟨s.k p o l.v l.h, s.o p l.g (by rw [l.h]; intro z; cases z), l.v, l.n⟩
theorem Own.oth (l : Own C H0 G H p o) (h : p ≠ q) : Own C H0 G (upd H q o') p o := ⟨by rw [upd_ne h]; exact l.h, l.g, l.v, l.n⟩
theorem Own.sealO (l : Own C H0 G H p o) (h : p ≠ q) : Own C H0 (upd G q o') H p o := ⟨l.h, by rw [upd_ne h]; exact l.g, l.v, l.n⟩
theorem Own.put (l : Own C H0 G H p o) : Own C H0 G (upd H p o') p o' := ⟨upd_same, l.g, l.v, l.n⟩
/-- it changes -/
theorem Ws.mut (a : Ws C G0 H0 n G H) (l : Own C H0 G H p o) (ho : ∀ φ, o ≠ .ext φ) : Ws C G0 H0 n G (upd H p o') := by
  refine ⟨⟨same_upd a.w.sub l.g, a.w.nv, a.w.fx, a.w.nf, C.stab n H _ a.w.iv (fun x v => ?_) (fun x φ v h => ?_) (a.w.fx.trans (same_upd a.w.sub l.g))⟩, a.g, fun x u v h => ?_, a.o⟩
  · rw [upd_ne (show x ≠ p from fun z => l.v (z ▸ v))]
  · rw [upd_ne (ne_of h l.h fun z => ho φ z.symm)]; exact h
  · rw [upd_ne (ne_of_none h l.n)]; exact a.k x u v h
/-- it stays as it is from now on -/
theorem Ws.seal (a : Ws C G0 H0 n G H) (l : Own C H0 G H p o) (ho : noFrz o = true) : Ws C G0 H0 n (upd G p o) H := by
  refine ⟨⟨same_seal a.w.sub l.h, fun x v => ?_, a.w.fx.trans (same_add l.g), nf_upd a.w.nf ho, a.w.iv⟩, fun x u h => ?_, a.k, fun x h h1 => ?_⟩
  · rw [upd_ne (show x ≠ p from fun z => l.v (z ▸ v))]; exact a.w.nv x v
  · rw [upd_ne (ne_of_none (a.g x u h) l.g)]; exact a.g x u h
  · rw [upd_ne (show x ≠ p from fun z => h1 (by rw [z]; exact l.n))]; exact a.o x h h1
end
/-! ### outcomes -/
inductive Out (α : Type) where
  | ok (a : α)
  | exc (c : Str) (fs : List (Str × D))
  | stuck
  | any (c : Nat) (P : D → Prop) (k : D → Out α)
namespace Out
variable {α β γ : Type}
def bind (o : Out α) (f : α → Out β) : Out β := match o with
  | .ok a => f a
  | .exc c fs => .exc c fs
  | .stuck => .stuck
  | .any c P k => .any c P fun d => (k d).bind f
/-- n: the steps that are left -/
def wp : Out α → Nat → (Nat → α → Prop) → (Nat → Str → List (Str × D) → Prop) → Prop
  | .ok a, n, Q, _ => Q n a
  | .exc c fs, n, _, E => E n c fs
  | .stuck, _, _, _ => False
  | .any c P k, n, Q, E => ∃ m, n = m + c ∧ ∀ d, P d → (k d).wp m Q E
theorem wp_mono {Q Q' : Nat → α → Prop} {E E' : Nat → Str → List (Str × D) → Prop} (hq : ∀ m a, Q m a → Q' m a) (he : ∀ m c fs, E m c fs → E' m c fs) : ∀ {o : Out α} {n : Nat}, o.wp n Q E → o.wp n Q' E'
  | .ok _, _, h => hq _ _ h
  | .exc _ _, _, h => he _ _ _ h
  | .stuck, _, h => h.elim
  | .any c P k, _, h => by
    obtain ⟨m, e, h⟩ := h
    exact ⟨m, e, fun d hd => wp_mono hq he (h d hd)⟩
theorem wp_bind {f : α → Out β} {Q : Nat → β → Prop} {E : Nat → Str → List (Str × D) → Prop} : ∀ {o : Out α} {n : Nat}, (o.bind f).wp n Q E → o.wp n (fun m a => (f a).wp m Q E) E
  | .ok _, _, h => h
  | .exc _ _, _, h => h
  | .stuck, _, h => h
  | .any c P k, _, h => by
    obtain ⟨m, e, h⟩ := h
    exact ⟨m, e, fun d hd => wp_bind (h d hd)⟩
theorem bind_wp {f : α → Out β} {Q : Nat → β → Prop} {E : Nat → Str → List (Str × D) → Prop} : ∀ {o : Out α} {n : Nat}, o.wp n (fun m a => (f a).wp m Q E) E → (o.bind f).wp n Q E
  | .ok _, _, h => h
  | .exc _ _, _, h => h
  | .stuck, _, h => h
  | .any c P k, _, h => by
    obtain ⟨m, e, h⟩ := h
    exact ⟨m, e, fun d hd => bind_wp (h d hd)⟩
@[simp] theorem ok_bind (a : α) (f : α → Out β) : (Out.ok a).bind f = f a := rfl
@[simp] theorem exc_bind (c : Str) (fs : List (Str × D)) (f : α → Out β) : (Out.exc c fs).bind f = .exc c fs := rfl
@[simp] theorem stuck_bind (f : α → Out β) : (Out.stuck : Out α).bind f = .stuck := rfl
@[simp] theorem any_bind (c : Nat) (P : D → Prop) (k : D → Out α) (f : α → Out β) : (Out.any c P k).bind f = .any c P fun d => (k d).bind f := rfl
theorem bind_assoc (f : α → Out β) (g : β → Out γ) : ∀ o : Out α, (o.bind f).bind g = o.bind fun a => (f a).bind g
  | .ok _ => rfl
  | .exc _ _ => rfl
  | .stuck => rfl
  | .any c P k => by
    show Out.any c P (fun d => ((k d).bind f).bind g) = Out.any c P fun d => (k d).bind fun a => (f a).bind g
    congr 1
    funext d
    exact bind_assoc f g (k d)
end Out
/-- an object's content -/
def ORep {K : PySem.W.Frag} (C : Cfg K) (G : Hp) : HO → D → Prop
  | .lst vs, .lst xs => xs.length ≤ 100000 ∧ RepL C G vs xs
  | .dK kvs, .dct xs => xs.length ≤ 100000 ∧ kvs.map (·.1) = xs.map (·.1) ∧ RepL C G (kvs.map (·.2)) (xs.map (·.2))
  | .ins a _ fs, .ins c xs => (c ∈ ownCls K ∧ a = He.ga K c) ∧ fs.map (·.1) = xs.map (·.1) ∧ RepL C G (fs.map (·.2)) (xs.map (·.2))
  | _, _ => False
/-- what is seen: it stays, or it stands now -/
def RepV {K : PySem.W.Frag} (C : Cfg K) (G H : Hp) (v : V) (d : D) : Prop := Rep C G v d ∨ ∃ p o, v = .ref p ∧ H p = some o ∧ ¬ C.vol p ∧ ORep C G o d
section
variable {K : PySem.W.Frag} {C : Cfg K} {n m : Nat} {G0 H0 G H G1 H1 : Hp} {p : Addr} {o : HO} {d : D} {v : V}
theorem ORep.mono (s : Same G G1) (h : ORep C G o d) : ORep C G1 o d := by
  cases o <;> cases d <;> first | exact h.elim | exact RqL.mono s h | exact ⟨h.1, RqL.mono s h.2⟩ | exact ⟨h.1, h.2.1, RqL.mono s h.2.2⟩
theorem ORep.nf (h : ORep C G o d) : noFrz o = true := by
  cases o with
  | frz a b => cases d <;> exact h.elim
  | _ => rfl
theorem ORep.rep (h : ORep C G o d) (hp : G p = some o) : Rep C G (.ref p) d := by
  cases o <;> cases d <;> first | exact h.elim | exact .lst (.inl hp) h.2 h.1 | exact .dct (.inl hp) h.2.1 h.2.2 h.1 | skip
  obtain ⟨⟨hc, rfl⟩, h1, h2⟩ := h
  exact .ins hc hp h1 h2
theorem RepV.step (h : RepV C G H v d) (s : Ws C G H n G1 H1) : RepV C G1 H1 v d := by
  rcases h with h | ⟨p, o, rfl, hp, nv, r⟩
  · exact .inl (h.mono s.g)
  · exact .inr ⟨p, o, rfl, s.k p o nv hp, nv, r.mono s.g⟩
theorem RepV.non (h : RepV C G H v .non) : v = .non := by
  rcases h with h | ⟨p, o, rfl, hp, nv, r⟩
  · cases h; rfl
  · cases o <;> exact r.elim
theorem RepV.bl {b : Bool} (h : RepV C G H v (.bl b)) : v = .bl b := by
  rcases h with h | ⟨p, o, rfl, hp, nv, r⟩
  · cases h; rfl
  · cases o <;> exact r.elim
theorem RepV.int {i : Int} (h : RepV C G H v (.int i)) : v = .int i := by
  rcases h with h | ⟨p, o, rfl, hp, nv, r⟩
  · cases h; rfl
  · cases o <;> exact r.elim
theorem RepV.str {x : Str} (h : RepV C G H v (.str x)) : v = .str x ∧ SOk x := by
  rcases h with h | ⟨p, o, rfl, hp, nv, r⟩
  · cases h with
    | str _ h => exact ⟨rfl, h⟩
  · cases o <;> exact r.elim
theorem RepV.lst {xs : List D} (s : Same G H) (h : RepV C G H v (.lst xs)) : ∃ a vs, v = .ref a ∧ Rd H a (.lst vs) ∧ RepL C G vs xs ∧ xs.length ≤ 100000 := by
  rcases h with h | ⟨p, o, rfl, hp, nv, r⟩
  · cases h with
    | lst h t l => exact ⟨_, _, rfl, rd_mono s h, t, l⟩
  · cases o <;> first | exact r.elim | exact ⟨_, _, rfl, .inl hp, r.2, r.1⟩
theorem RepV.tup {xs : List D} (s : Same G H) (h : RepV C G H v (.tup xs)) : ∃ a vs, v = .ref a ∧ SqT K H a vs ∧ RepL C G vs xs ∧ xs.length ≤ 100000 := by
  rcases h with h | ⟨p, o, rfl, hp, nv, r⟩
  · cases h with
    | tup h t l => exact ⟨_, _, rfl, Evl.ex_t s h.1, t, l⟩
  · cases o <;> exact r.elim
theorem RepV.dct {xs : List (Key × D)} (s : Same G H) (h : RepV C G H v (.dct xs)) : ∃ a kvs, v = .ref a ∧ Rd H a (.dK kvs) ∧ kvs.map (·.1) = xs.map (·.1) ∧ RepL C G (kvs.map (·.2)) (xs.map (·.2)) ∧ xs.length ≤ 100000 := by
  rcases h with h | ⟨p, o, rfl, hp, nv, r⟩
  · cases h with
    | dct h e t l => exact ⟨_, _, rfl, rd_mono s h, e, t, l⟩
  · cases o <;> first | exact r.elim | exact ⟨_, _, rfl, .inl hp, r.2.1, r.2.2, r.1⟩
theorem RepV.ins {c : Str} {xs : List (Str × D)} (s : Same G H) (h : RepV C G H v (.ins c xs)) : ∃ a dx fs, v = .ref a ∧ c ∈ ownCls K ∧ H a = some (.ins (He.ga K c) dx fs) ∧ fs.map (·.1) = xs.map (·.1) ∧ RepL C G (fs.map (·.2)) (xs.map (·.2)) := by
  rcases h with h | ⟨p, o, rfl, hp, nv, r⟩
  · cases h with
    | ins hc h e t => exact ⟨_, _, _, rfl, hc, s _ _ h, e, t⟩
  · cases o <;> first | exact r.elim | (obtain ⟨⟨hc, rfl⟩, h1, h2⟩ := r; exact ⟨_, _, _, rfl, hc, hp, h1, h2⟩)
end
end ND
/-! what a reading does, by plain data: the judgements and the plain rules -/
namespace ND
open PySem PySem.Spec PyProof.Rows L2
inductive Md where
  | un
  | fr
  | ow (a : Option Addr)
  | lk
def Md.isOw : Md → Bool
  | .ow _ => true
  | _ => false
abbrev Rho := List D
section
variable {K : PySem.W.Frag}
/-- a dict that is walked now -/
def LkAt (C : Cfg K) (G : Hp) (a : Addr) (d : D) : Prop := ∃ o kvs xs, d = .dct xs ∧ G a = some (.frz o (.dK kvs)) ∧ kvs.map (·.1) = xs.map (·.1) ∧ RepL C G (kvs.map (·.2)) (xs.map (·.2)) ∧ xs.length ≤ 100000
def Slot (C : Cfg K) (H0 G H : Hp) (m : Md) (s : Option (Option V)) (d : D) : Prop := match m with
  | .un => True
  | .fr => ∃ v, s = some (some v) ∧ Rep C G v d
  | .ow a => ∃ p o, s = some (some (.ref p)) ∧ Own C H0 G H p o ∧ ORep C G o d ∧ ∀ q, a = some q → p = q
  | .lk => ∃ a, s = some (some (.ref a)) ∧ LkAt C G a d
structure Er (C : Cfg K) (H0 : Hp) (Γ : List Md) (G H : Hp) (σ : L2.St) (ρ : Rho) : Prop where
  sl : ∀ i, Slot C H0 G H (Γ.getD i .un) σ[i]? (ρ.getD i .non)
  dj : ∀ i j p, i ≠ j → (Γ.getD i .un).isOw = true → (Γ.getD j .un).isOw = true → σ[i]? = some (some (.ref p)) → σ[j]? ≠ some (some (.ref p))
  lg : Γ.length ≤ σ.length
  lr : ρ.length = σ.length
/-- what is wanted behind an expression -/
def PQ (C : Cfg K) (G H : Hp) (Q : VK) : Nat → D → Prop := fun m d => ∀ v G' H', Ws C G H m G' H' → Rep C G' v d → Q v H'
def PV_ (C : Cfg K) (G H : Hp) (Q : VK) : Nat → D → Prop := fun m d => ∀ v G' H', Ws C G H m G' H' → RepV C G' H' v d → Q v H'
def PN (C : Cfg K) (G H : Hp) (Q : VK) : Nat → D → Prop := fun m d => ∀ p o G' H', Ws C G H m G' H' → H p = none → G' p = none → H' p = some o → ORep C G' o d → Q (.ref p) H'
def PX (C : Cfg K) (G H : Hp) (E : XK) : Nat → Str → List (Str × D) → Prop := fun m c fs => ∀ a us G' H', c ∈ ownX K → Ws C G H m G' H' → XFs G' a us → us.map (·.1) = fs.map (·.1) → RepL C G' (us.map (·.2)) (fs.map (·.2)) → E (.ref (He.ga K c)) a H'
def SimE (C : Cfg K) (E : XK) (Γ : List Md) (t : TE) (φ : Rho → Out D) : Prop := ∀ H0 n G H σ ρ Q, Wl C n G H → Er C H0 Γ G H σ ρ → (φ ρ).wp n (PQ C G H Q) (PX C G H E) → t σ H Q
def SimV (C : Cfg K) (E : XK) (Γ : List Md) (t : TE) (φ : Rho → Out D) : Prop := ∀ H0 n G H σ ρ Q, Wl C n G H → Er C H0 Γ G H σ ρ → (φ ρ).wp n (PV_ C G H Q) (PX C G H E) → t σ H Q
def SimN (C : Cfg K) (E : XK) (Γ : List Md) (t : TE) (φ : Rho → Out D) : Prop := ∀ H0 n G H σ ρ Q, Wl C n G H → Er C H0 Γ G H σ ρ → (φ ρ).wp n (PN C G H Q) (PX C G H E) → t σ H Q
def SimT (C : Cfg K) (E : XK) (Γ : List Md) (t : TT) (φ : Rho → Out Bool) : Prop := ∀ H0 n G H σ ρ Q, Wl C n G H → Er C H0 Γ G H σ ρ → (φ ρ).wp n (fun m b => ∀ G' H', Ws C G H m G' H' → Q b H') (PX C G H E) → t σ H Q
def SimA (C : Cfg K) (E : XK) (Γ : List Md) (k : Nat) (t : TA) (φ : Rho → Out (List D)) : Prop := ∀ H0 n G H σ ρ Q, Wl C n G H → Er C H0 Γ G H σ ρ → (φ ρ).wp n (fun m ds => ∀ vs G' H', Ws C G H m G' H' → RepL C G' vs ds → ds.length = k → Q vs H') (PX C G H E) → t σ H Q
/-- arguments that are but seen -/
inductive RepVL (C : Cfg K) (G H : Hp) : List V → List D → Prop where
  | nil : RepVL C G H [] []
  | cons {v : V} {x : D} {vs : List V} {xs : List D} (h : RepV C G H v x) (t : RepVL C G H vs xs) : RepVL C G H (v :: vs) (x :: xs)
def SimB (C : Cfg K) (E : XK) (Γ : List Md) (k : Nat) (t : TA) (φ : Rho → Out (List D)) : Prop := ∀ H0 n G H σ ρ Q, Wl C n G H → Er C H0 Γ G H σ ρ → (φ ρ).wp n (fun m ds => ∀ vs G' H', Ws C G H m G' H' → RepVL C G' H' vs ds → ds.length = k → Q vs H') (PX C G H E) → t σ H Q
end
section
variable {K : PySem.W.Frag} {C : Cfg K} {E : XK} {Γ Γ' : List Md} {n m : Nat} {H0 G H G1 H1 G2 H2 : Hp} {σ : L2.St} {ρ : Rho} {Q : VK}
theorem Er.step (e : Er C H0 Γ G H σ ρ) (s : Ws C G H n G1 H1) : Er C H0 Γ G1 H1 σ ρ := by
  refine ⟨fun i => ?_, e.dj, e.lg, e.lr⟩
  have h := e.sl i
  cases hm : Γ.getD i .un with
  | un => exact True.intro
  | fr =>
    rw [hm] at h
    obtain ⟨v, h1, h2⟩ := h
    exact ⟨v, h1, h2.mono s.g⟩
  | ow a =>
    rw [hm] at h
    obtain ⟨p, o, h1, h2, h3, h4⟩ := h
    exact ⟨p, o, h1, h2.step s, h3.mono s.g, h4⟩
  | lk =>
    rw [hm] at h
    obtain ⟨a, h1, o, kvs, xs, h2, h3, h4, h5, h6⟩ := h
    exact ⟨a, h1, o, kvs, xs, h2, s.g _ _ h3, h4, h5.mono s.g, h6⟩
theorem Er.fr (e : Er C H0 Γ G H σ ρ) {i : Nat} (hi : Γ[i]? = some .fr) : ∃ v, σ[i]? = some (some v) ∧ Rep C G v (ρ.getD i .non) := by
  have h := e.sl i
  rw [List.getD_eq_getElem?_getD, hi] at h
  exact h
theorem Er.ow (e : Er C H0 Γ G H σ ρ) {i : Nat} {a : Option Addr} (hi : Γ[i]? = some (.ow a)) : ∃ p o, σ[i]? = some (some (.ref p)) ∧ Own C H0 G H p o ∧ ORep C G o (ρ.getD i .non) ∧ ∀ q, a = some q → p = q := by
  have h := e.sl i
  rw [List.getD_eq_getElem?_getD, hi] at h
  exact h
theorem PQ.back {d : D} (s : Ws C G H n G1 H1) (h : PQ C G H Q m d) : PQ C G1 H1 Q m d := fun v G' H' s' => h v G' H' (s.trans s')
theorem PV_.back {d : D} (s : Ws C G H n G1 H1) (h : PV_ C G H Q m d) : PV_ C G1 H1 Q m d := fun v G' H' s' => h v G' H' (s.trans s')
theorem PN.back {d : D} (s : Ws C G H n G1 H1) (h : PN C G H Q m d) : PN C G1 H1 Q m d := fun p o G' H' s' hp => h p o G' H' (s.trans s') (s.dm hp)
theorem PX.back {c : Str} {fs : List (Str × D)} (s : Ws C G H n G1 H1) (h : PX C G H E m c fs) : PX C G1 H1 E m c fs := fun a us G' H' hc s' => h a us G' H' hc (s.trans s')
/-- sealed: a new object that stays -/
theorem Ws.fresh (s : Ws C G H n G1 H1) {p : Addr} {o : HO} (np : H p = none) (gp : G1 p = none) (hp : H1 p = some o) (w : Wl C m G H) (ho : noFrz o = true) : Ws C G H n (upd G1 p o) H1 := by
  have nv : ¬ C.vol p := w.nvol np
  refine ⟨⟨same_seal s.w.sub hp, fun x v => ?_, s.w.fx.trans (same_add gp), nf_upd s.w.nf ho, s.w.iv⟩, fun x u h => ?_, s.k, fun x h h1 => ?_⟩
  · rw [upd_ne (show x ≠ p from fun z => nv (z ▸ v))]; exact s.w.nv x v
  · rw [upd_ne (ne_of_none (s.g x u h) gp)]; exact s.g x u h
  · rw [upd_ne (show x ≠ p from fun z => h1 (by rw [z]; exact np))]; exact s.o x h h1
theorem SimN.e {t : TE} {φ : Rho → Out D} (h : SimN C E Γ t φ) : SimE C E Γ t φ := fun H0 n G H σ ρ Q w e q =>
  h H0 n G H σ ρ Q w e (Out.wp_mono (fun m d k p o G' H' s np gp hp r => k (.ref p) (upd G' p o) H' (s.fresh np gp hp w r.nf) ((r.mono (same_add gp)).rep upd_same)) (fun _ _ _ z => z) q)
theorem SimE.v {t : TE} {φ : Rho → Out D} (h : SimE C E Γ t φ) : SimV C E Γ t φ := fun H0 n G H σ ρ Q w e q =>
  h H0 n G H σ ρ Q w e (Out.wp_mono (fun m d k v G' H' s r => k v G' H' s (.inl r)) (fun _ _ _ z => z) q)
theorem SimN.v {t : TE} {φ : Rho → Out D} (h : SimN C E Γ t φ) : SimV C E Γ t φ := h.e.v
/-! ### names and constants -/
def eVar (i : Nat) : Rho → Out D := fun ρ => .ok (ρ.getD i .non)
def eC (d : D) : Rho → Out D := fun _ => .ok d
theorem sm_var {i : Nat} (hi : Γ[i]? = some .fr) : SimE C E Γ (tVar i) (eVar i) := fun H0 n G H σ ρ Q w e q => by
  obtain ⟨v, h1, h2⟩ := e.fr hi
  exact ⟨v, h1, q v G H (Ws.refl w) h2⟩
theorem sm_own {i : Nat} {b : Option Addr} (hi : Γ[i]? = some (.ow b)) : SimV C E Γ (tVar i) (eVar i) := fun H0 n G H σ ρ Q w e q => by
  obtain ⟨p, o, h1, h2, h3, _⟩ := e.ow hi
  exact ⟨_, h1, q _ G H (Ws.refl w) (.inr ⟨p, o, rfl, h2.h, h2.v, h3⟩)⟩
theorem sm_non : SimE C E Γ (tC .non) (eC .non) := fun H0 n G H σ ρ Q w e q => q _ G H (Ws.refl w) .non
theorem sm_bl {b : Bool} : SimE C E Γ (tC (.bl b)) (eC (.bl b)) := fun H0 n G H σ ρ Q w e q => q _ G H (Ws.refl w) (.bl b)
theorem sm_int {b : Int} : SimE C E Γ (tC (.int b)) (eC (.int b)) := fun H0 n G H σ ρ Q w e q => q _ G H (Ws.refl w) (.int b)
theorem sm_str {b : Str} (h : SOk b := by exact ⟨by decide +kernel, by decide +kernel⟩) : SimE C E Γ (tC (.str b)) (eC (.str b)) := fun H0 n G H σ ρ Q w e q => q _ G H (Ws.refl w) (.str b h)
/-! ### operators -/
def eOp (f : D → D → Out D) (a b : Rho → Out D) : Rho → Out D := fun ρ => (a ρ).bind fun x => (b ρ).bind fun y => f x y
def eUn (f : D → Out D) (a : Rho → Out D) : Rho → Out D := fun ρ => (a ρ).bind f
/-- an operator's rule on what is seen -/
def SR (C : Cfg K) (E : XK) (r : R2) (f : D → D → Out D) : Prop := ∀ n G H x y dx dy Q, Wl C n G H → RepV C G H x dx → RepV C G H y dy → (f dx dy).wp n (PQ C G H Q) (PX C G H E) → r x y H Q
def SRN (C : Cfg K) (E : XK) (r : R2) (f : D → D → Out D) : Prop := ∀ n G H x y dx dy Q, Wl C n G H → RepV C G H x dx → RepV C G H y dy → (f dx dy).wp n (PN C G H Q) (PX C G H E) → r x y H Q
def SU (C : Cfg K) (E : XK) (r : V → Hp → VK → Prop) (f : D → Out D) : Prop := ∀ n G H x dx Q, Wl C n G H → RepV C G H x dx → (f dx).wp n (PQ C G H Q) (PX C G H E) → r x H Q
theorem sm_op {r : R2} {ta tb : TE} {f : D → D → Out D} {a b : Rho → Out D} (hr : SR C E r f) (ha : SimV C E Γ ta a) (hb : SimV C E Γ tb b) : SimE C E Γ (tOp r ta tb) (eOp f a b) := fun H0 n G H σ ρ Q w e q => by
  refine ha H0 n G H σ ρ _ w e (Out.wp_mono (fun m dx k v G1 H1 s1 r1 => ?_) (fun _ _ _ z => z) (Out.wp_bind q))
  refine hb H0 m G1 H1 σ ρ _ s1.w (e.step s1) (Out.wp_mono (fun m2 dy k2 u G2 H2 s2 r2 => ?_) (fun _ _ _ z => PX.back s1 z) (Out.wp_bind k))
  exact hr m2 G2 H2 v u dx dy Q s2.w (r1.step s2) r2 (Out.wp_mono (fun _ _ z => PQ.back (s1.trans s2) z) (fun _ _ _ z => PX.back (s1.trans s2) z) k2)
theorem sm_opN {r : R2} {ta tb : TE} {f : D → D → Out D} {a b : Rho → Out D} (hr : SRN C E r f) (ha : SimV C E Γ ta a) (hb : SimV C E Γ tb b) : SimN C E Γ (tOp r ta tb) (eOp f a b) := fun H0 n G H σ ρ Q w e q => by
  refine ha H0 n G H σ ρ _ w e (Out.wp_mono (fun m dx k v G1 H1 s1 r1 => ?_) (fun _ _ _ z => z) (Out.wp_bind q))
  refine hb H0 m G1 H1 σ ρ _ s1.w (e.step s1) (Out.wp_mono (fun m2 dy k2 u G2 H2 s2 r2 => ?_) (fun _ _ _ z => PX.back s1 z) (Out.wp_bind k))
  exact hr m2 G2 H2 v u dx dy Q s2.w (r1.step s2) r2 (Out.wp_mono (fun _ _ z => PN.back (s1.trans s2) z) (fun _ _ _ z => PX.back (s1.trans s2) z) k2)
theorem sm_un {r : V → Hp → VK → Prop} {ta : TE} {f : D → Out D} {a : Rho → Out D} (hr : SU C E r f) (ha : SimV C E Γ ta a) : SimE C E Γ (tUn r ta) (eUn f a) := fun H0 n G H σ ρ Q w e q => by
  refine ha H0 n G H σ ρ _ w e (Out.wp_mono (fun m dx k v G1 H1 s1 r1 => ?_) (fun _ _ _ z => z) (Out.wp_bind q))
  exact hr m G1 H1 v dx Q s1.w r1 (Out.wp_mono (fun _ _ z => PQ.back s1 z) (fun _ _ _ z => PX.back s1 z) k)
/-! ### tests -/
def cB (a : Rho → Out D) : Rho → Out Bool := fun ρ => (a ρ).bind fun x => match x with
  | .bl b => .ok b
  | _ => .stuck
def cNot (a : Rho → Out Bool) : Rho → Out Bool := fun ρ => (a ρ).bind fun b => .ok (!b)
def cAnd (a b : Rho → Out Bool) : Rho → Out Bool := fun ρ => (a ρ).bind fun x => bif x then b ρ else .ok false
def cOr (a b : Rho → Out Bool) : Rho → Out Bool := fun ρ => (a ρ).bind fun x => bif x then .ok true else b ρ
def eIf (c : Rho → Out Bool) (a b : Rho → Out D) : Rho → Out D := fun ρ => (c ρ).bind fun x => bif x then a ρ else b ρ
theorem st_B {t : TE} {a : Rho → Out D} (ha : SimV C E Γ t a) : SimT C E Γ (tB t) (cB a) := fun H0 n G H σ ρ Q w e q => by
  refine ha H0 n G H σ ρ _ w e (Out.wp_mono (fun m dx k v G1 H1 s1 r1 => ?_) (fun _ _ _ z => z) (Out.wp_bind q))
  cases dx <;> first | exact k.elim | skip
  exact ⟨_, r1.bl, k G1 H1 s1⟩
theorem st_test {t : TE} {a : Rho → Out D} (ha : SimV C E Γ t a) : SimT C E Γ (tTest t) (cB a) := st_B ha
theorem st_not {t : TT} {a : Rho → Out Bool} (ha : SimT C E Γ t a) : SimT C E Γ (tNot t) (cNot a) := fun H0 n G H σ ρ Q w e q =>
  ha H0 n G H σ ρ _ w e (Out.wp_mono (fun m b k G1 H1 s1 => k G1 H1 s1) (fun _ _ _ z => z) (Out.wp_bind q))
theorem st_and {t u : TT} {a b : Rho → Out Bool} (ha : SimT C E Γ t a) (hb : SimT C E Γ u b) : SimT C E Γ (tAnd t u) (cAnd a b) := fun H0 n G H σ ρ Q w e q => by
  refine ha H0 n G H σ ρ _ w e (Out.wp_mono (fun m x k G1 H1 s1 => ?_) (fun _ _ _ z => z) (Out.wp_bind q))
  cases x with
  | true => exact hb H0 m G1 H1 σ ρ Q s1.w (e.step s1) (Out.wp_mono (fun m2 y k2 G2 H2 s2 => k2 G2 H2 (s1.trans s2)) (fun _ _ _ z => PX.back s1 z) k)
  | false => exact k G1 H1 s1
theorem st_or {t u : TT} {a b : Rho → Out Bool} (ha : SimT C E Γ t a) (hb : SimT C E Γ u b) : SimT C E Γ (tOr t u) (cOr a b) := fun H0 n G H σ ρ Q w e q => by
  refine ha H0 n G H σ ρ _ w e (Out.wp_mono (fun m x k G1 H1 s1 => ?_) (fun _ _ _ z => z) (Out.wp_bind q))
  cases x with
  | false => exact hb H0 m G1 H1 σ ρ Q s1.w (e.step s1) (Out.wp_mono (fun m2 y k2 G2 H2 s2 => k2 G2 H2 (s1.trans s2)) (fun _ _ _ z => PX.back s1 z) k)
  | true => exact k G1 H1 s1
theorem sm_if {t : TT} {ta tb : TE} {c : Rho → Out Bool} {a b : Rho → Out D} (hc : SimT C E Γ t c) (ha : SimE C E Γ ta a) (hb : SimE C E Γ tb b) : SimE C E Γ (tIf t ta tb) (eIf c a b) := fun H0 n G H σ ρ Q w e q => by
  refine hc H0 n G H σ ρ _ w e (Out.wp_mono (fun m x k G1 H1 s1 => ?_) (fun _ _ _ z => z) (Out.wp_bind q))
  cases x with
  | true => exact ha H0 m G1 H1 σ ρ Q s1.w (e.step s1) (Out.wp_mono (fun _ _ z => PQ.back s1 z) (fun _ _ _ z => PX.back s1 z) k)
  | false => exact hb H0 m G1 H1 σ ρ Q s1.w (e.step s1) (Out.wp_mono (fun _ _ z => PQ.back s1 z) (fun _ _ _ z => PX.back s1 z) k)
theorem sm_ifN {t : TT} {ta tb : TE} {c : Rho → Out Bool} {a b : Rho → Out D} (hc : SimT C E Γ t c) (ha : SimN C E Γ ta a) (hb : SimN C E Γ tb b) : SimN C E Γ (tIf t ta tb) (eIf c a b) := fun H0 n G H σ ρ Q w e q => by
  refine hc H0 n G H σ ρ _ w e (Out.wp_mono (fun m x k G1 H1 s1 => ?_) (fun _ _ _ z => z) (Out.wp_bind q))
  cases x with
  | true => exact ha H0 m G1 H1 σ ρ Q s1.w (e.step s1) (Out.wp_mono (fun _ _ z => PN.back s1 z) (fun _ _ _ z => PX.back s1 z) k)
  | false => exact hb H0 m G1 H1 σ ρ Q s1.w (e.step s1) (Out.wp_mono (fun _ _ z => PN.back s1 z) (fun _ _ _ z => PX.back s1 z) k)
/-- and, or, not as values -/
def eAnd (a b : Rho → Out D) : Rho → Out D := fun ρ => (a ρ).bind fun x => match x with
  | .bl true => b ρ
  | .bl false => .ok (.bl false)
  | _ => .stuck
def eOr (a b : Rho → Out D) : Rho → Out D := fun ρ => (a ρ).bind fun x => match x with
  | .bl false => b ρ
  | .bl true => .ok (.bl true)
  | _ => .stuck
def eNot (a : Rho → Out D) : Rho → Out D := fun ρ => (a ρ).bind fun x => match x with
  | .bl b => .ok (.bl (!b))
  | _ => .stuck
theorem sm_and {ta tb : TE} {a b : Rho → Out D} (ha : SimV C E Γ ta a) (hb : SimE C E Γ tb b) : SimE C E Γ (tAndV ta tb) (eAnd a b) := fun H0 n G H σ ρ Q w e q => by
  refine ha H0 n G H σ ρ _ w e (Out.wp_mono (fun m x k v G1 H1 s1 r1 => ?_) (fun _ _ _ z => z) (Out.wp_bind q))
  cases x <;> first | exact k.elim | skip
  rename_i x
  refine ⟨x, r1.bl, ?_⟩
  cases x with
  | true => exact hb H0 m G1 H1 σ ρ Q s1.w (e.step s1) (Out.wp_mono (fun _ _ z => PQ.back s1 z) (fun _ _ _ z => PX.back s1 z) k)
  | false => exact k (.bl false) G1 H1 s1 (.bl false)
theorem sm_or {ta tb : TE} {a b : Rho → Out D} (ha : SimV C E Γ ta a) (hb : SimE C E Γ tb b) : SimE C E Γ (tOrV ta tb) (eOr a b) := fun H0 n G H σ ρ Q w e q => by
  refine ha H0 n G H σ ρ _ w e (Out.wp_mono (fun m x k v G1 H1 s1 r1 => ?_) (fun _ _ _ z => z) (Out.wp_bind q))
  cases x <;> first | exact k.elim | skip
  rename_i x
  refine ⟨x, r1.bl, ?_⟩
  cases x with
  | false => exact hb H0 m G1 H1 σ ρ Q s1.w (e.step s1) (Out.wp_mono (fun _ _ z => PQ.back s1 z) (fun _ _ _ z => PX.back s1 z) k)
  | true => exact k (.bl true) G1 H1 s1 (.bl true)
theorem sm_not {ta : TE} {a : Rho → Out D} (ha : SimV C E Γ ta a) : SimE C E Γ (tNotV ta) (eNot a) := fun H0 n G H σ ρ Q w e q => by
  refine ha H0 n G H σ ρ _ w e (Out.wp_mono (fun m x k v G1 H1 s1 r1 => ?_) (fun _ _ _ z => z) (Out.wp_bind q))
  cases x <;> first | exact k.elim | skip
  exact ⟨_, r1.bl, k _ G1 H1 s1 (.bl _)⟩
/-! ### arguments, displays -/
def aNil : Rho → Out (List D) := fun _ => .ok []
def aCons (a : Rho → Out D) (r : Rho → Out (List D)) : Rho → Out (List D) := fun ρ => (a ρ).bind fun x => (r ρ).bind fun xs => .ok (x :: xs)
theorem sa_nil : SimA C E Γ 0 tNil aNil := fun H0 n G H σ ρ Q w e q => q [] G H (Ws.refl w) .nil rfl
theorem sa_cons {k : Nat} {ta : TE} {tr : TA} {a : Rho → Out D} {r : Rho → Out (List D)} (ha : SimE C E Γ ta a) (hr : SimA C E Γ k tr r) : SimA C E Γ (k + 1) (tCons ta tr) (aCons a r) := fun H0 n G H σ ρ Q w e q => by
  refine ha H0 n G H σ ρ _ w e (Out.wp_mono (fun m x k1 v G1 H1 s1 r1 => ?_) (fun _ _ _ z => z) (Out.wp_bind q))
  refine hr H0 m G1 H1 σ ρ _ s1.w (e.step s1) (Out.wp_mono (fun m2 xs k2 vs G2 H2 s2 r2 hl => ?_) (fun _ _ _ z => PX.back s1 z) (Out.wp_bind k1))
  exact k2 (v :: vs) G2 H2 (s1.trans s2) (.cons (r1.mono s2.g) r2) (congrArg (· + 1) hl)
theorem RepVL.step {vs : List V} {xs : List D} (h : RepVL C G H vs xs) (s : Ws C G H n G1 H1) : RepVL C G1 H1 vs xs := by
  induction h with
  | nil => exact .nil
  | cons h _ ih => exact .cons (h.step s) ih
theorem sb_nil : SimB C E Γ 0 tNil aNil := fun H0 n G H σ ρ Q w e q => q [] G H (Ws.refl w) .nil rfl
theorem sb_cons {k : Nat} {ta : TE} {tr : TA} {a : Rho → Out D} {r : Rho → Out (List D)} (ha : SimV C E Γ ta a) (hr : SimB C E Γ k tr r) : SimB C E Γ (k + 1) (tCons ta tr) (aCons a r) := fun H0 n G H σ ρ Q w e q => by
  refine ha H0 n G H σ ρ _ w e (Out.wp_mono (fun m x k1 v G1 H1 s1 r1 => ?_) (fun _ _ _ z => z) (Out.wp_bind q))
  refine hr H0 m G1 H1 σ ρ _ s1.w (e.step s1) (Out.wp_mono (fun m2 xs k2 vs G2 H2 s2 r2 hl => ?_) (fun _ _ _ z => PX.back s1 z) (Out.wp_bind k1))
  exact k2 (v :: vs) G2 H2 (s1.trans s2) (.cons (r1.step s2) r2) (congrArg (· + 1) hl)
def eTup (a : Rho → Out (List D)) : Rho → Out D := fun ρ => (a ρ).bind fun xs => .ok (.tup xs)
def eLst (a : Rho → Out (List D)) : Rho → Out D := fun ρ => (a ρ).bind fun xs => .ok (.lst xs)
theorem small {k : Nat} (h : k ≤ 1000) : k ≤ sizeLine := Nat.le_trans h (by decide)
theorem sm_tup {k : Nat} {ta : TA} {a : Rho → Out (List D)} (ha : SimA C E Γ k ta a) (hk : k ≤ 1000 := by decide) : SimE C E Γ (tTupF ta) (eTup a) := fun H0 n G H σ ρ Q w e q => by
  refine ha H0 n G H σ ρ _ w e (Out.wp_mono (fun m x k1 vs G1 H1 s1 r1 hl => ?_) (fun _ _ _ z => z) (Out.wp_bind q))
  refine ⟨small (by rw [r1.len]; omega), fun p o np ho => ?_⟩
  exact k1 (.ref p) _ _ (s1.new np) (.tup (GT.new upd_same ho) (r1.mono (same_add (s1.w.gn np))) (by omega))
theorem sn_lst {k : Nat} {ta : TA} {a : Rho → Out (List D)} (ha : SimA C E Γ k ta a) (hk : k ≤ 1000 := by decide) : SimN C E Γ (tLst ta) (eLst a) := fun H0 n G H σ ρ Q w e q => by
  refine ha H0 n G H σ ρ _ w e (Out.wp_mono (fun m x k1 vs G1 H1 s1 r1 hl => ?_) (fun _ _ _ z => z) (Out.wp_bind q))
  refine ⟨small (by rw [r1.len]; omega), fun p np => ?_⟩
  exact k1 p (.lst vs) _ _ (s1.tmp np) (s1.dm np) (s1.w.gn np) upd_same ⟨by omega, r1⟩
/-! ### calls -/
/-- b: it walks dicts -/
def spF (K : PySem.W.Frag) (b : Bool) (k : Nat) (F : List D → Out D) : Sp := fun vs H Q E => ∃ (C : Cfg K) (n : Nat) (G : Hp) (ds : List D), (b = true → C.lk = []) ∧ Wl C n G H ∧ RepL C G vs ds ∧ ds.length = k ∧ (F ds).wp n (PQ C G H Q) (PX C G H E)
def eCall (F : List D → Out D) (a : Rho → Out (List D)) : Rho → Out D := fun ρ => (a ρ).bind F
theorem sm_call {b : Bool} {k : Nat} {ta : TA} {a : Rho → Out (List D)} {F : List D → Out D} (hb : b = true → C.lk = []) (ha : SimA C E Γ k ta a) : SimE C E Γ (tCall (spF K b k F) [] E ta) (eCall F a) := fun H0 n G H σ ρ Q w e q => by
  refine ha H0 n G H σ ρ _ w e (Out.wp_mono (fun m xs k1 vs G1 H1 s1 r1 hl => ?_) (fun _ _ _ z => z) (Out.wp_bind q))
  refine ⟨C, m, G1, xs, hb, s1.w, ?_, hl, Out.wp_mono (fun _ _ z => PQ.back s1 z) (fun _ _ _ z => PX.back s1 z) k1⟩
  rw [List.append_nil]
  exact r1
/-- a builtin's call, on what is seen -/
def SC (C : Cfg K) (E : XK) (k : Nat) (r : List V → Hp → VK → Prop) (f : List D → Out D) : Prop := ∀ n G H vs ds Q, Wl C n G H → RepVL C G H vs ds → ds.length = k → (f ds).wp n (PQ C G H Q) (PX C G H E) → r vs H Q
def SCN (C : Cfg K) (E : XK) (k : Nat) (r : List V → Hp → VK → Prop) (f : List D → Out D) : Prop := ∀ n G H vs ds Q, Wl C n G H → RepVL C G H vs ds → ds.length = k → (f ds).wp n (PN C G H Q) (PX C G H E) → r vs H Q
theorem sm_cb {k : Nat} {r : List V → Hp → VK → Prop} {ta : TA} {a : Rho → Out (List D)} {f : List D → Out D} (hr : SC C E k r f) (ha : SimB C E Γ k ta a) : SimE C E Γ (tCB r ta) (eCall f a) := fun H0 n G H σ ρ Q w e q => by
  refine ha H0 n G H σ ρ _ w e (Out.wp_mono (fun m xs k1 vs G1 H1 s1 r1 hl => ?_) (fun _ _ _ z => z) (Out.wp_bind q))
  exact hr m G1 H1 vs xs Q s1.w r1 hl (Out.wp_mono (fun _ _ z => PQ.back s1 z) (fun _ _ _ z => PX.back s1 z) k1)
theorem sn_cb {k : Nat} {r : List V → Hp → VK → Prop} {ta : TA} {a : Rho → Out (List D)} {f : List D → Out D} (hr : SCN C E k r f) (ha : SimB C E Γ k ta a) : SimN C E Γ (tCB r ta) (eCall f a) := fun H0 n G H σ ρ Q w e q => by
  refine ha H0 n G H σ ρ _ w e (Out.wp_mono (fun m xs k1 vs G1 H1 s1 r1 hl => ?_) (fun _ _ _ z => z) (Out.wp_bind q))
  exact hr m G1 H1 vs xs Q s1.w r1 hl (Out.wp_mono (fun _ _ z => PN.back s1 z) (fun _ _ _ z => PX.back s1 z) k1)
end
end ND
/-! statements, loops, comprehensions, defs -/
namespace ND
open PySem PySem.Spec PyProof.Rows L2
theorem getD_set {α : Type} (l : List α) (i j : Nat) (a x : α) : (l.set i a).getD j x = if i = j ∧ i < l.length then a else l.getD j x := by
  rw [List.getD_eq_getElem?_getD, List.getD_eq_getElem?_getD, List.getElem?_set]
  by_cases h : i = j
  · subst h
    by_cases h2 : i < l.length
    · simp [h2]
    · simp [h2, List.getElem?_eq_none (Nat.le_of_not_lt h2)]
  · simp [h]
section
variable {K : PySem.W.Frag} {C : Cfg K} {E : XK} {Γ Γ' Γ1 Γ2 Γn Γb Γc : List Md} {n m : Nat} {G0 H0 G H G1 H1 G2 H2 : Hp} {σ : L2.St} {ρ : Rho} {Q : VK} {p : Addr} {o o' : HO} {v : V} {d d' : D} {i : Nat}
/-! ### the slots -/
theorem Er.set (e : Er C H0 Γ G H σ ρ) (h : Rep C G v d) : Er C H0 (Γ.set i .fr) G H (σ.set i (some v)) (ρ.set i d) := by
  refine ⟨fun j => ?_, fun j k q hjk hj hk e1 e2 => ?_, by rw [List.length_set, List.length_set]; exact e.lg, by rw [List.length_set, List.length_set]; exact e.lr⟩
  · rw [getD_set, getD_set]
    by_cases hij : i = j
    · subst hij
      by_cases hl : i < Γ.length
      · have h1 : i < σ.length := Nat.lt_of_lt_of_le hl e.lg
        have h2 : i < ρ.length := by rw [e.lr]; exact h1
        rw [if_pos ⟨rfl, hl⟩, if_pos ⟨rfl, h2⟩]
        exact ⟨v, List.getElem?_set_self h1, h⟩
      · rw [if_neg (fun z => hl z.2), List.getD_eq_getElem?_getD, List.getElem?_eq_none (Nat.le_of_not_lt hl)]
        exact True.intro
    · rw [if_neg (fun z => hij z.1), if_neg (fun z => hij z.1), List.getElem?_set_ne hij]
      exact e.sl j
  · rw [getD_set] at hj hk
    by_cases h1 : i = j ∧ i < Γ.length
    · rw [if_pos h1] at hj; cases hj
    · rw [if_neg h1] at hj
      by_cases h2 : i = k ∧ i < Γ.length
      · rw [if_pos h2] at hk; cases hk
      · rw [if_neg h2] at hk
        have nj : i ≠ j := fun z => by
          subst z
          rw [List.getD_eq_getElem?_getD, List.getElem?_eq_none (Nat.le_of_not_lt fun z => h1 ⟨rfl, z⟩)] at hj
          cases hj
        have nk : i ≠ k := fun z => by
          subst z
          rw [List.getD_eq_getElem?_getD, List.getElem?_eq_none (Nat.le_of_not_lt fun z => h2 ⟨rfl, z⟩)] at hk
          cases hk
        rw [List.getElem?_set_ne nj] at e1
        rw [List.getElem?_set_ne nk] at e2
        exact e.dj j k q hjk hj hk e1 e2
/-- a new object comes to a slot -/
theorem Er.setOw (e : Er C H0 Γ G H σ ρ) (l : Own C H0 G H p o) (r : ORep C G o d) (new : ∀ j q, (Γ.getD j .un).isOw = true → σ[j]? = some (some (.ref q)) → q ≠ p) : Er C H0 (Γ.set i (.ow none)) G H (σ.set i (some (.ref p))) (ρ.set i d) := by
  refine ⟨fun j => ?_, fun j k q hjk hj hk e1 e2 => ?_, by rw [List.length_set, List.length_set]; exact e.lg, by rw [List.length_set, List.length_set]; exact e.lr⟩
  · rw [getD_set, getD_set]
    by_cases hij : i = j
    · subst hij
      by_cases hl : i < Γ.length
      · have h1 : i < σ.length := Nat.lt_of_lt_of_le hl e.lg
        have h2 : i < ρ.length := by rw [e.lr]; exact h1
        rw [if_pos ⟨rfl, hl⟩, if_pos ⟨rfl, h2⟩]
        exact ⟨p, o, List.getElem?_set_self h1, l, r, fun _ z => by cases z⟩
      · rw [if_neg (fun z => hl z.2), List.getD_eq_getElem?_getD, List.getElem?_eq_none (Nat.le_of_not_lt hl)]
        exact True.intro
    · rw [if_neg (fun z => hij z.1), if_neg (fun z => hij z.1), List.getElem?_set_ne hij]
      exact e.sl j
  · have old : ∀ x, ((Γ.set i (.ow none)).getD x .un).isOw = true → i ≠ x → (Γ.getD x .un).isOw = true := fun x hx hn => by
      rw [getD_set, if_neg (fun z => hn z.1)] at hx
      exact hx
    have ilt : ∀ x, ((Γ.set i (.ow none)).getD x .un).isOw = true → i = x → i < σ.length := fun x hx hn => by
      subst hn
      rw [getD_set] at hx
      by_cases hl : i < Γ.length
      · exact Nat.lt_of_lt_of_le hl e.lg
      · rw [if_neg (fun z => hl z.2), List.getD_eq_getElem?_getD, List.getElem?_eq_none (Nat.le_of_not_lt hl)] at hx
        cases hx
    by_cases nj : i = j
    · subst nj
      rw [List.getElem?_set_self (ilt i hj rfl)] at e1
      have nk : i ≠ k := hjk
      rw [List.getElem?_set_ne nk] at e2
      cases e1
      exact new k p (old k hk nk) e2 rfl
    · rw [List.getElem?_set_ne nj] at e1
      by_cases nk : i = k
      · subst nk
        rw [List.getElem?_set_self (ilt i hk rfl)] at e2
        cases e2
        exact new j p (old j hj nj) e1 rfl
      · rw [List.getElem?_set_ne nk] at e2
        exact e.dj j k q hjk (old j hj nj) (old k hk nk) e1 e2
/-- one's own object changes -/
theorem Er.mut {a : Option Addr} (e : Er C H0 Γ G H σ ρ) (hi : Γ[i]? = some (.ow a)) (hs : σ[i]? = some (some (.ref p))) (l : Own C H0 G H p o) (r : ORep C G o' d') (ha : ∀ q, a = some q → p = q) : Er C H0 Γ G (upd H p o') σ (ρ.set i d') := by
  have hil : i < Γ.length := (List.getElem?_eq_some_iff.mp hi).1
  have hiw : Γ.getD i .un = .ow a := by rw [List.getD_eq_getElem?_getD, hi]; rfl
  have hio : (Γ.getD i .un).isOw = true := by rw [hiw]; rfl
  refine ⟨fun j => ?_, e.dj, e.lg, by rw [List.length_set]; exact e.lr⟩
  have hj := e.sl j
  by_cases hij : i = j
  · subst hij
    have h2 : i < ρ.length := by rw [e.lr]; exact Nat.lt_of_lt_of_le hil e.lg
    rw [getD_set, if_pos ⟨rfl, h2⟩, hiw]
    exact ⟨p, o', hs, l.put, r, ha⟩
  · rw [getD_set, if_neg (fun z => hij z.1)]
    cases hm : Γ.getD j .un with
    | un => exact True.intro
    | fr =>
      rw [hm] at hj
      exact hj
    | ow b =>
      rw [hm] at hj
      obtain ⟨q, u, h1, h2, h3, h4⟩ := hj
      have hne : q ≠ p := fun z => by
        subst z
        exact e.dj i j q hij hio (by rw [hm]; rfl) hs h1
      exact ⟨q, u, h1, h2.oth hne, h3, h4⟩
    | lk =>
      rw [hm] at hj
      exact hj
/-- it stays as it is from now on -/
theorem Er.frz {a : Option Addr} (e : Er C H0 Γ G H σ ρ) (hi : Γ[i]? = some (.ow a)) (s : Ws C G0 H0 n G H) : ∃ G', Ws C G0 H0 n G' H ∧ Same G G' ∧ Er C H0 (Γ.set i .fr) G' H σ ρ := by
  have hil : i < Γ.length := (List.getElem?_eq_some_iff.mp hi).1
  have hiw : Γ.getD i .un = .ow a := by rw [List.getD_eq_getElem?_getD, hi]; rfl
  have hio : (Γ.getD i .un).isOw = true := by rw [hiw]; rfl
  obtain ⟨p, o, h1, h2, h3, _⟩ := e.ow hi
  refine ⟨upd G p o, s.seal h2 h3.nf, same_add h2.g, fun j => ?_, fun j k q hjk hj hk => ?_, by rw [List.length_set]; exact e.lg, e.lr⟩
  · have hj := e.sl j
    rw [getD_set]
    by_cases hij : i = j
    · subst hij
      rw [if_pos ⟨rfl, hil⟩]
      exact ⟨_, h1, (h3.mono (same_add h2.g)).rep upd_same⟩
    · rw [if_neg (fun z => hij z.1)]
      cases hm : Γ.getD j .un with
      | un => exact True.intro
      | fr =>
        rw [hm] at hj
        obtain ⟨v, a, b⟩ := hj
        exact ⟨v, a, b.mono (same_add h2.g)⟩
      | ow b' =>
        rw [hm] at hj
        obtain ⟨q, u, a, b, c, c2⟩ := hj
        have hne : q ≠ p := fun z => by
          subst z
          exact e.dj i j q hij hio (by rw [hm]; rfl) h1 a
        exact ⟨q, u, a, b.sealO hne, c.mono (same_add h2.g), c2⟩
      | lk =>
        rw [hm] at hj
        obtain ⟨b, g1, o', kvs, xs, g2, g3, g4, g5, g6⟩ := hj
        exact ⟨b, g1, o', kvs, xs, g2, same_add h2.g _ _ g3, g4, g5.mono (same_add h2.g), g6⟩
  · rw [getD_set] at hj hk
    have a : (Γ.getD j .un).isOw = true := by
      by_cases z : i = j ∧ i < Γ.length
      · rw [if_pos z] at hj; cases hj
      · rw [if_neg z] at hj; exact hj
    have b : (Γ.getD k .un).isOw = true := by
      by_cases z : i = k ∧ i < Γ.length
      · rw [if_pos z] at hk; cases hk
      · rw [if_neg z] at hk; exact hk
    exact e.dj j k q hjk a b
theorem Er.drop (e : Er C H0 Γ G H σ ρ) : Er C H0 (Γ.set i .un) G H σ ρ := by
  have back : ∀ x, ((Γ.set i .un).getD x .un).isOw = true → (Γ.getD x .un).isOw = true := fun x hx => by
    rw [getD_set] at hx
    by_cases z : i = x ∧ i < Γ.length
    · rw [if_pos z] at hx; cases hx
    · rw [if_neg z] at hx; exact hx
  refine ⟨fun j => ?_, fun j k q hjk hj hk => e.dj j k q hjk (back j hj) (back k hk), by rw [List.length_set]; exact e.lg, e.lr⟩
  rw [getD_set]
  by_cases z : i = j ∧ i < Γ.length
  · rw [if_pos z]; exact True.intro
  · rw [if_neg z]; exact e.sl j
/-- slots are frozen, forgotten -/
inductive Go : List Md → List Md → Prop where
  | refl {Γ : List Md} : Go Γ Γ
  | frz {Γ Γ' : List Md} {a : Option Addr} (i : Nat) (hi : Γ[i]? = some (.ow a)) (t : Go (Γ.set i .fr) Γ') : Go Γ Γ'
  | drop {Γ Γ' : List Md} (i : Nat) (t : Go (Γ.set i .un) Γ') : Go Γ Γ'
theorem Er.go {Γ Γ' : List Md} (g : Go Γ Γ') : ∀ {G : Hp}, Er C H0 Γ G H σ ρ → Ws C G0 H0 n G H → ∃ G', Ws C G0 H0 n G' H ∧ Same G G' ∧ Er C H0 Γ' G' H σ ρ := by
  induction g with
  | refl => exact fun e s => ⟨_, s, Same.refl _, e⟩
  | frz i hi _ ih =>
    intro G e s
    obtain ⟨G1, s1, a1, e1⟩ := e.frz hi s
    obtain ⟨G2, s2, a2, e2⟩ := ih e1 s1
    exact ⟨G2, s2, a1.trans a2, e2⟩
  | drop i _ ih => exact fun e s => ih e.drop s
end
/-! ### statements -/
inductive Res where
  | nx (ρ : Rho)
  | rt (d : D)
  | bk (ρ : Rho)
  | ct (ρ : Rho)
section
variable {K : PySem.W.Frag}
/-- what is returned: it stays, or it is the caller's own -/
inductive RM where
  | fr
  | nw
def RRel (rm : RM) (C : Cfg K) (H0 G H : Hp) (v : V) (d : D) : Prop := match rm with
  | .fr => Rep C G v d
  | .nw => ∃ p o, v = .ref p ∧ H0 p = none ∧ G p = none ∧ H p = some o ∧ ORep C G o d
def SQ (rm : RM) (C : Cfg K) (G0 H0 Gs : Hp) (D : Ends) (Γn Γb Γc : List Md) : Nat → Res → Prop := fun m r => match r with
  | .nx ρ => ∀ σ G H, Ws C G0 H0 m G H → Same Gs G → Er C H0 Γn G H σ ρ → D.nx σ H
  | .rt d => ∀ v G H, Ws C G0 H0 m G H → Same Gs G → RRel rm C H0 G H v d → D.rt v H
  | .bk ρ => ∀ σ G H, Ws C G0 H0 m G H → Same Gs G → Er C H0 Γb G H σ ρ → D.bk σ H
  | .ct ρ => ∀ σ G H, Ws C G0 H0 m G H → Same Gs G → Er C H0 Γc G H σ ρ → D.ct σ H
def SimS (rm : RM) (C : Cfg K) (E : XK) (Γ : List Md) (t : TS) (ψ : Rho → Out Res) (Γn Γb Γc : List Md) : Prop := ∀ G0 H0 n G H σ ρ D, Ws C G0 H0 n G H → Er C H0 Γ G H σ ρ → (ψ ρ).wp n (SQ rm C G0 H0 G D Γn Γb Γc) (PX C G0 H0 E) → t D σ H
/-- but for the slots is -/
def Tch (is : List Nat) (σ σ' : L2.St) : Prop := σ'.length = σ.length ∧ ∀ j, j ∉ is → σ'[j]? = σ[j]?
/-- what a walk brings: a thing that stays, or (pr) a pair that is made just for the turn -/
def RepJ (pr : Bool) (C : Cfg K) (G : Hp) (v : V) (d : D) : Prop := Rep C G v d ∨ (pr = true ∧ ∃ a vs xs, v = .ref a ∧ d = .tup xs ∧ SqT K G a vs ∧ RepL C G vs xs)
/-- a target -/
def SimG (pr : Bool) (C : Cfg K) (Γ : List Md) (is : List Nat) (g : TG) (γ : D → Rho → Option Rho) (Γ' : List Md) : Prop := ∀ H0 n G H σ ρ v d ρ' Q, Wl C n G H → Er C H0 Γ G H σ ρ → RepJ pr C G v d → γ d ρ = some ρ' → (∀ σ', Tch is σ σ' → Er C H0 Γ' G H σ' ρ' → Q σ' H) → g v σ H Q
def SimGs (C : Cfg K) (Γ : List Md) (is : List Nat) (g : TGs) (γ : List D → Rho → Option Rho) (Γ' : List Md) : Prop := ∀ H0 n G H σ ρ vs ds ρ' Q, Wl C n G H → Er C H0 Γ G H σ ρ → RepL C G vs ds → γ ds ρ = some ρ' → (∀ σ', Tch is σ σ' → Er C H0 Γ' G H σ' ρ' → Q σ' H) → g vs σ H Q
end
section
variable {rm : RM} {pr : Bool} {K : PySem.W.Frag} {C : Cfg K} {E : XK} {Γ Γ' Γ1 Γ2 Γn Γb Γc : List Md} {n m : Nat} {G0 H0 G H G1 H1 G2 H2 : Hp} {σ : L2.St} {ρ : Rho} {Q : VK} {i : Nat}
/-- what an expression leaves behind it -/
theorem PQ.stm {d : D} {D : Ends} (s : Ws C G0 H0 n G H) (h : ∀ v G' H', Ws C G0 H0 m G' H' → Ws C G H m G' H' → Rep C G' v d → Q v H') : PQ C G H Q m d := fun v G' H' s' r => h v G' H' (s.trans s') s' r
theorem PX.stm {c : Str} {fs : List (Str × D)} (s : Ws C G0 H0 n G H) (h : PX C G0 H0 E m c fs) : PX C G H E m c fs := PX.back s h
theorem SQ.up {Gs Gt : Hp} {D : Ends} {r : Res} (a : Same Gs Gt) (k : SQ rm C G0 H0 Gs D Γn Γb Γc m r) : SQ rm C G0 H0 Gt D Γn Γb Γc m r := by
  cases r with
  | nx ρ' => exact fun σ G H s b e => k σ G H s (a.trans b) e
  | rt d => exact fun v G H s b e => k v G H s (a.trans b) e
  | bk ρ' => exact fun σ G H s b e => k σ G H s (a.trans b) e
  | ct ρ' => exact fun σ G H s b e => k σ G H s (a.trans b) e
theorem ss_go {t : TS} {ψ : Rho → Out Res} (g : Go Γ Γ1) (h : SimS rm C E Γ1 t ψ Γn Γb Γc) : SimS rm C E Γ t ψ Γn Γb Γc := fun G0 H0 n G H σ ρ D s e q => by
  obtain ⟨G', s', a', e'⟩ := e.go g s
  exact h G0 H0 n G' H σ ρ D s' e' (Out.wp_mono (fun m r k => SQ.up a' k) (fun _ _ _ z => z) q)
theorem ss_then {t : TS} {ψ : Rho → Out Res} (h : SimS rm C E Γ t ψ Γn Γb Γc) (g : Go Γn Γ1) : SimS rm C E Γ t ψ Γ1 Γb Γc := fun G0 H0 n G H σ ρ D s e q => by
  refine h G0 H0 n G H σ ρ D s e (Out.wp_mono (fun m r k => ?_) (fun _ _ _ z => z) q)
  cases r with
  | nx ρ' =>
    intro σ' G' H' s' a' e'
    obtain ⟨G2, s2, a2, e2⟩ := e'.go g s'
    exact k σ' G2 H' s2 (a'.trans a2) e2
  | rt d => exact k
  | bk ρ' => exact k
  | ct ρ' => exact k
def sNext : Rho → Out Res := fun ρ => .ok (.nx ρ)
def sSeq (a b : Rho → Out Res) : Rho → Out Res := fun ρ => (a ρ).bind fun r => match r with
  | .nx ρ' => b ρ'
  | r => .ok r
theorem ss_next : SimS rm C E Γ tNext sNext Γ Γb Γc := fun G0 H0 n G H σ ρ D s e q => q σ G H s (Same.refl _) e
theorem ss_pass : SimS rm C E Γ (fun D σ H => D.nx σ H) sNext Γ Γb Γc := fun G0 H0 n G H σ ρ D s e q => q σ G H s (Same.refl _) e
theorem ss_seq {t u : TS} {a b : Rho → Out Res} (h1 : SimS rm C E Γ t a Γ1 Γb Γc) (h2 : SimS rm C E Γ1 u b Γn Γb Γc) : SimS rm C E Γ (tSeq t u) (sSeq a b) Γn Γb Γc := fun G0 H0 n G H σ ρ D s e q => by
  refine h1 G0 H0 n G H σ ρ { D with nx := u D } s e (Out.wp_mono (fun m r k => ?_) (fun _ _ _ z => z) (Out.wp_bind q))
  cases r with
  | nx ρ' => exact fun σ' G' H' s' a' e' => h2 G0 H0 m G' H' σ' ρ' D s' e' (Out.wp_mono (fun _ _ z => SQ.up a' z) (fun _ _ _ z => z) k)
  | rt d => exact k
  | bk ρ' => exact k
  | ct ρ' => exact k
def sRet (a : Rho → Out D) : Rho → Out Res := fun ρ => (a ρ).bind fun d => .ok (.rt d)
def sRetN : Rho → Out Res := fun _ => .ok (.rt .non)
def sDrop (a : Rho → Out D) : Rho → Out Res := fun ρ => (a ρ).bind fun _ => .ok (.nx ρ)
def sIf (c : Rho → Out Bool) (a b : Rho → Out Res) : Rho → Out Res := fun ρ => (c ρ).bind fun x => bif x then a ρ else b ρ
def sBreak : Rho → Out Res := fun ρ => .ok (.bk ρ)
def sCont : Rho → Out Res := fun ρ => .ok (.ct ρ)
theorem ss_ret {te : TE} {a : Rho → Out D} (h : SimE C E Γ te a) : SimS .fr C E Γ (tRet te) (sRet a) Γn Γb Γc := fun G0 H0 n G H σ ρ D s e q =>
  h H0 n G H σ ρ D.rt s.w e (Out.wp_mono (fun m d k v G' H' s' r => k v G' H' (s.trans s') s'.g r) (fun _ _ _ z => PX.stm s z) (Out.wp_bind q))
theorem ss_retN : SimS .fr C E Γ tRetN sRetN Γn Γb Γc := fun G0 H0 n G H σ ρ D s e q => q .non G H s (Same.refl _) .non
/-- the caller gets it as its own -/
theorem ss_retNw {te : TE} {a : Rho → Out D} (h : SimN C E Γ te a) : SimS .nw C E Γ (tRet te) (sRet a) Γn Γb Γc := fun G0 H0 n G H σ ρ D s e q =>
  h H0 n G H σ ρ D.rt s.w e (Out.wp_mono (fun m d k p o G' H' s' np gp hp r => k (.ref p) G' H' (s.trans s') s'.g ⟨p, o, rfl, s.dm np, gp, hp, r⟩) (fun _ _ _ z => PX.stm s z) (Out.wp_bind q))
theorem ss_retOw {b : Option Addr} (hi : Γ[i]? = some (.ow b)) : SimS .nw C E Γ (tRet (tVar i)) (sRet (eVar i)) Γn Γb Γc := fun G0 H0 n G H σ ρ D s e q => by
  obtain ⟨p, o, h1, h2, h3, _⟩ := e.ow hi
  exact ⟨_, h1, q _ G H s (Same.refl _) ⟨p, o, rfl, h2.n, h2.g, h2.h, h3⟩⟩
theorem ss_drop {te : TE} {a : Rho → Out D} (h : SimV C E Γ te a) : SimS rm C E Γ (tDrop te) (sDrop a) Γ Γb Γc := fun G0 H0 n G H σ ρ D s e q =>
  h H0 n G H σ ρ _ s.w e (Out.wp_mono (fun m d k v G' H' s' r => k σ G' H' (s.trans s') s'.g (e.step s')) (fun _ _ _ z => PX.stm s z) (Out.wp_bind q))
theorem ss_if {tc : TT} {t u : TS} {c : Rho → Out Bool} {a b : Rho → Out Res} (hc : SimT C E Γ tc c) (h1 : SimS rm C E Γ t a Γn Γb Γc) (h2 : SimS rm C E Γ u b Γn Γb Γc) : SimS rm C E Γ (tIfS tc t u) (sIf c a b) Γn Γb Γc := fun G0 H0 n G H σ ρ D s e q => by
  refine hc H0 n G H σ ρ _ s.w e (Out.wp_mono (fun m x k G1 H1 s1 => ?_) (fun _ _ _ z => PX.stm s z) (Out.wp_bind q))
  cases x with
  | true => exact h1 G0 H0 m G1 H1 σ ρ D (s.trans s1) (e.step s1) (Out.wp_mono (fun _ _ z => SQ.up s1.g z) (fun _ _ _ z => z) k)
  | false => exact h2 G0 H0 m G1 H1 σ ρ D (s.trans s1) (e.step s1) (Out.wp_mono (fun _ _ z => SQ.up s1.g z) (fun _ _ _ z => z) k)
theorem ss_break : SimS rm C E Γ tBreak sBreak Γn Γ Γc := fun G0 H0 n G H σ ρ D s e q => q σ G H s (Same.refl _) e
theorem ss_cont : SimS rm C E Γ tCont sCont Γn Γb Γ := fun G0 H0 n G H σ ρ D s e q => q σ G H s (Same.refl _) e
def sNever : Rho → Out Res := fun _ => .stuck
theorem ss_never : SimS rm C E Γ tNever sNever Γn Γb Γc := fun G0 H0 n G H σ ρ D s e q => q
/-! ### targets, assignments -/
def gN (i : Nat) : D → Rho → Option Rho := fun d ρ => some (ρ.set i d)
def gsNil : List D → Rho → Option Rho := fun ds ρ => match ds with
  | [] => some ρ
  | _ => none
def gsCons (g : D → Rho → Option Rho) (r : List D → Rho → Option Rho) : List D → Rho → Option Rho := fun ds ρ => match ds with
  | d :: ds => (g d ρ).bind fun ρ' => r ds ρ'
  | [] => none
def gT (r : List D → Rho → Option Rho) : D → Rho → Option Rho := fun d ρ => match d with
  | .tup ds => r ds ρ
  | _ => none
theorem sg_name : SimG false C Γ [i] (gName i) (gN i) (Γ.set i .fr) := fun H0 n G H σ ρ v d ρ' Q w e r h q => by
  cases h
  have r := r.resolve_right fun z => Bool.noConfusion z.1
  refine q _ ⟨List.length_set .., fun j hj => ?_⟩ (e.set r)
  exact List.getElem?_set_ne fun z => hj (by simp [z])
theorem sgs_nil : SimGs C Γ [] gNil gsNil Γ := fun H0 n G H σ ρ vs ds ρ' Q w e r h q => by
  cases r with
  | nil =>
    cases h
    exact ⟨rfl, q _ ⟨rfl, fun _ _ => rfl⟩ e⟩
  | cons _ _ => cases h
theorem sgs_cons {g : TG} {gs : TGs} {γ : D → Rho → Option Rho} {r : List D → Rho → Option Rho} {is js : List Nat} (h1 : SimG false C Γ is g γ Γ1) (h2 : SimGs C Γ1 js gs r Γ2) : SimGs C Γ (is ++ js) (gCons g gs) (gsCons γ r) Γ2 := fun H0 n G H σ ρ vs ds ρ' Q w e rr h q => by
  cases rr with
  | nil => cases h
  | cons hv ht =>
    have h' : (γ _ ρ).bind _ = some ρ' := h
    obtain ⟨ρ1, e1, e2⟩ := Option.bind_eq_some_iff.mp h'
    exact ⟨_, _, rfl, h1 H0 n G H σ ρ _ _ ρ1 _ w e (.inl hv) e1 fun σ1 t1 er1 => h2 H0 n G H σ1 ρ1 _ _ ρ' Q w er1 ht e2 fun σ2 t2 er2 => q σ2 ⟨t2.1.trans t1.1, fun j hj => (t2.2 j fun z => hj (List.mem_append_right _ z)).trans (t1.2 j fun z => hj (List.mem_append_left _ z))⟩ er2⟩
theorem sg_tup {k : Nat} {gs : TGs} {r : List D → Rho → Option Rho} {is : List Nat} (h : SimGs C Γ is gs r Γ1) (hk : ∀ ds ρ ρ', r ds ρ = some ρ' → ds.length = k) : SimG pr C Γ is (gTup K k gs) (gT r) Γ1 := fun H0 n G H σ ρ v d ρ' Q w e rr hh q => by
  rcases rr with rr | ⟨_, a, vs, xs, rfl, rfl, hs, ht⟩
  · cases rr <;> first | cases hh | skip
    rename_i a vs xs hs ht hl
    exact ⟨a, vs, rfl, Evl.ex_t w.sub hs.1, by rw [ht.len]; exact hk _ _ _ hh, h H0 n G H σ ρ _ _ ρ' Q w e ht hh q⟩
  · exact ⟨a, vs, rfl, Evl.ex_t w.sub hs, by rw [ht.len]; exact hk _ _ _ hh, h H0 n G H σ ρ _ _ ρ' Q w e ht hh q⟩
theorem gs_len0 : ∀ ds ρ ρ', gsNil ds ρ = some ρ' → ds.length = 0 := fun ds ρ ρ' h => by
  cases ds with
  | nil => rfl
  | cons _ _ => cases h
theorem gs_len {k : Nat} {g : D → Rho → Option Rho} {r : List D → Rho → Option Rho} (hr : ∀ ds ρ ρ', r ds ρ = some ρ' → ds.length = k) : ∀ ds ρ ρ', gsCons g r ds ρ = some ρ' → ds.length = k + 1 := fun ds ρ ρ' h => by
  cases ds with
  | nil => cases h
  | cons d ds =>
    have h' : (g d ρ).bind _ = some ρ' := h
    obtain ⟨ρ1, e1, e2⟩ := Option.bind_eq_some_iff.mp h'
    exact congrArg (· + 1) (hr ds ρ1 ρ' e2)
def sAsg (a : Rho → Out D) (γ : D → Rho → Option Rho) : Rho → Out Res := fun ρ => (a ρ).bind fun d => match γ d ρ with
  | some ρ' => .ok (.nx ρ')
  | none => .stuck
theorem ss_asg {te : TE} {g : TG} {a : Rho → Out D} {γ : D → Rho → Option Rho} {is : List Nat} (h : SimE C E Γ te a) (hg : SimG false C Γ is g γ Γn) : SimS rm C E Γ (tAsg te g) (sAsg a γ) Γn Γb Γc := fun G0 H0 n G H σ ρ D s e q => by
  refine h H0 n G H σ ρ _ s.w e (Out.wp_mono (fun m d k v G' H' s' r => ?_) (fun _ _ _ z => PX.stm s z) (Out.wp_bind q))
  cases hh : γ d ρ with
  | none =>
    simp only [hh] at k
    exact k.elim
  | some ρ' =>
    simp only [hh] at k
    exact hg H0 m G' H' σ ρ v d ρ' D.nx s'.w (e.step s') (.inl r) hh fun σ' _ e' => k σ' G' H' (s.trans s') s'.g e'
/-- x = a new object -/
def sSet (i : Nat) (a : Rho → Out D) : Rho → Out Res := fun ρ => (a ρ).bind fun d => .ok (.nx (ρ.set i d))
theorem ss_new {te : TE} {a : Rho → Out D} (h : SimN C E Γ te a) : SimS rm C E Γ (tAsg te (gName i)) (sSet i a) (Γ.set i (.ow none)) Γb Γc := fun G0 H0 n G H σ ρ D s e q => by
  refine h H0 n G H σ ρ _ s.w e (Out.wp_mono (fun m d k p o G' H' s' np gp hp r => ?_) (fun _ _ _ z => PX.stm s z) (Out.wp_bind q))
  refine k _ G' H' (s.trans s') s'.g ((e.step s').setOw ⟨hp, gp, s.w.nvol np, s.dm np⟩ r fun j q hj hq z => ?_)
  subst z
  have hs := e.sl j
  cases hm : Γ.getD j .un with
  | un => rw [hm] at hj; cases hj
  | fr => rw [hm] at hj; cases hj
  | lk => rw [hm] at hj; cases hj
  | ow b =>
  rw [hm] at hs
  obtain ⟨p', o', a1, a2, a3, _⟩ := hs
  rw [hq] at a1
  cases a1
  rw [a2.h] at np
  cases np
theorem ss_set {te : TE} {a : Rho → Out D} (h : SimE C E Γ te a) : SimS rm C E Γ (tAsg te (gName i)) (sSet i a) (Γ.set i .fr) Γb Γc := fun G0 H0 n G H σ ρ D s e q =>
  h H0 n G H σ ρ _ s.w e (Out.wp_mono (fun m d k => fun v G' H' s' r => k _ G' H' (s.trans s') s'.g ((e.step s').set r)) (fun _ _ _ z => PX.stm s z) (Out.wp_bind q))
/-- a, b = e1, e2 -/
def sPar (i j : Nat) (a : Rho → Out (List D)) : Rho → Out Res := fun ρ => (a ρ).bind fun ds => match ds with
  | [x, y] => .ok (.nx ((ρ.set i x).set j y))
  | _ => .stuck
theorem ss_par {i j : Nat} {ta : TA} {a : Rho → Out (List D)} (h : SimA C E Γ 2 ta a) : SimS rm C E Γ (tPar i j ta) (sPar i j a) ((Γ.set i .fr).set j .fr) Γb Γc := fun G0 H0 n G H σ ρ D s e q => by
  refine h H0 n G H σ ρ _ s.w e (Out.wp_mono (fun m ds k vs G' H' s' r hl => ?_) (fun _ _ _ z => PX.stm s z) (Out.wp_bind q))
  match ds, hl, vs, r with
  | [x, y], _, _, .cons h1 (.cons h2 .nil) =>
    exact ⟨_, _, rfl, k _ G' H' (s.trans s') s'.g (((e.step s').set h1).set h2)⟩
/-! ### walks -/
def WalkD (pr : Bool) (C : Cfg K) (J : It) (G : Hp) (ds : List D) : Prop := ds.length ≤ 100000 ∧ ∃ (Gp : Hp → Prop) (Y : Nat → Hp → V → Hp → Prop), Walk J ds.length Gp Y ∧ (∀ H', Same G H' → Gp H') ∧
  ∀ i d n G1 H1 x H2, ds[i]? = some d → Same G G1 → Wl C n G1 H1 → Y i H1 x H2 → ∃ G2, Ws C G1 H1 n G2 H2 ∧ RepJ pr C G2 x d
def SimI (pr : Bool) (C : Cfg K) (E : XK) (Γ : List Md) (wi : TI) (φ : Rho → Out (List D)) : Prop := ∀ H0 n G H σ ρ R, Wl C n G H → Er C H0 Γ G H σ ρ → (φ ρ).wp n (fun m ds => ∀ J G' H', Ws C G H m G' H' → WalkD pr C J G' ds → R J H') (PX C G H E) → wi σ H R
def forD (γ : D → Rho → Option Rho) (b : Rho → Out Res) : List D → Rho → Out Res
  | [], ρ => .ok (.nx ρ)
  | x :: xs, ρ => match γ x ρ with
    | none => .stuck
    | some ρ1 => (b ρ1).bind fun r => match r with
      | .nx ρ2 => forD γ b xs ρ2
      | .ct ρ2 => forD γ b xs ρ2
      | .bk ρ2 => .ok (.nx ρ2)
      | .rt d => .ok (.rt d)
def sFor (φ : Rho → Out (List D)) (γ : D → Rho → Option Rho) (b : Rho → Out Res) : Rho → Out Res := fun ρ => (φ ρ).bind fun ds => forD γ b ds ρ
theorem ss_for {wi : TI} {g : TG} {tb : TS} {φ : Rho → Out (List D)} {γ : D → Rho → Option Rho} {b : Rho → Out Res} (hi : SimI pr C E Γ wi φ) {is : List Nat} (hg : SimG pr C Γ is g γ Γ1) (hb : SimS rm C E Γ1 tb b Γ Γ Γ) : SimS rm C E Γ (tFor wi g tb) (sFor φ γ b) Γ Γb Γc := fun G0 H0 n G H σ ρ D s e q => by
  refine hi H0 n G H σ ρ _ s.w e (Out.wp_mono (fun m ds k J Gi Hi si wd => ?_) (fun _ _ _ z => PX.stm s z) (Out.wp_bind q))
  obtain ⟨hl, Gp, Y, wk, hGp, hY⟩ := wd
  refine for_it wk (fun i σ' H' => ∃ m' G' ρ', Ws C G0 H0 m' G' H' ∧ Same Gi G' ∧ Er C H0 Γ G' H' σ' ρ' ∧ (forD γ b (ds.drop i) ρ').wp m' (SQ rm C G0 H0 G D Γ Γb Γc) (PX C G0 H0 E)) ⟨m, Gi, ρ, s.trans si, Same.refl _, e.step si, by rw [List.drop_zero]; exact k⟩ ?_ ?_ ?_
  · rintro i σ' H' _ ⟨m', G', ρ', s', a', e', _⟩
    exact hGp H' (a'.trans s'.w.sub)
  · rintro i x σ' H' H'' hi ⟨m', G', ρ', s', a', e', k'⟩ y
    obtain ⟨d, hd⟩ : ∃ d, ds[i]? = some d := ⟨_, List.getElem?_eq_getElem hi⟩
    obtain ⟨G2, s2, r2⟩ := hY i d m' G' H' x H'' hd a' s'.w y
    have hdr : ds.drop i = d :: ds.drop (i + 1) := by
      rw [List.drop_eq_getElem_cons hi]
      congr 1
      exact Option.some.inj ((List.getElem?_eq_getElem hi).symm.trans hd)
    rw [hdr] at k'
    unfold forD at k'
    cases hh : γ d ρ' with
    | none =>
      simp only [hh] at k'
      exact k'.elim
    | some ρ1 =>
      simp only [hh] at k'
      refine hg H0 m' G2 H'' σ' ρ' x d ρ1 _ s2.w (e'.step s2) r2 hh fun σ1 _ e1 => ?_
      have a2 : Same Gi G2 := a'.trans s2.g
      refine hb G0 H0 m' G2 H'' σ1 ρ1 _ (s'.trans s2) e1 (Out.wp_mono (fun m3 r k3 => ?_) (fun _ _ _ z => z) (Out.wp_bind k'))
      cases r with
      | nx ρ3 => exact fun σ3 G3 H3 s3 a3 e3 => ⟨m3, G3, ρ3, s3, a2.trans a3, e3, k3⟩
      | ct ρ3 => exact fun σ3 G3 H3 s3 a3 e3 => ⟨m3, G3, ρ3, s3, a2.trans a3, e3, k3⟩
      | bk ρ3 => exact fun σ3 G3 H3 s3 a3 e3 => k3 σ3 G3 H3 s3 (si.g.trans (a2.trans a3)) e3
      | rt d3 => exact fun v G3 H3 s3 a3 r3 => k3 v G3 H3 s3 (si.g.trans (a2.trans a3)) r3
  · rintro σ' H' ⟨m', G', ρ', s', a', e', k'⟩
    rw [List.drop_length] at k'
    exact k' σ' G' H' s' (si.g.trans a') e'
end
end ND
/-! comprehensions, walks, defs -/
namespace ND
open PySem PySem.Spec PyProof.Rows L2
def Out.nox {α : Type} : Out α → Out α
  | .ok a => .ok a
  | .exc _ _ => .stuck
  | .stuck => .stuck
  | .any c P k => .any c P fun d => (k d).nox
@[simp] theorem Out.nox_ok {α : Type} (a : α) : (Out.ok a).nox = .ok a := rfl
@[simp] theorem Out.nox_any {α : Type} (c : Nat) (P : D → Prop) (k : D → Out α) : (Out.any c P k).nox = .any c P fun d => (k d).nox := rfl
theorem Out.nox_wp {α : Type} {Q : Nat → α → Prop} {E E' : Nat → Str → List (Str × D) → Prop} : ∀ {o : Out α} {n : Nat}, o.nox.wp n Q E → o.wp n Q E'
  | .ok _, _, h => h
  | .exc _ _, _, h => h.elim
  | .stuck, _, h => h
  | .any c P k, _, h => by
    obtain ⟨m, e, h⟩ := h
    exact ⟨m, e, fun d hd => Out.nox_wp (h d hd)⟩
def wipeM (Γ : List Md) : List Nat → List Md
  | [] => Γ
  | v :: vs => (wipeM Γ vs).set v .un
section
variable {pr : Bool} {K : PySem.W.Frag} {C : Cfg K} {E : XK} {Γ Γ' Γ1 Γ2 Γn Γb Γc : List Md} {n m : Nat} {G0 H0 G H G1 H1 G2 H2 : Hp} {σ : L2.St} {ρ : Rho} {Q : VK} {i : Nat}
theorem Er.none (e : Er C H0 Γ G H σ ρ) : Er C H0 (Γ.set i .un) G H (σ.set i none) ρ := by
  have back : ∀ x, ((Γ.set i .un).getD x .un).isOw = true → (Γ.getD x .un).isOw = true ∧ i ≠ x := fun x hx => by
    rw [getD_set] at hx
    by_cases z : i = x ∧ i < Γ.length
    · rw [if_pos z] at hx; cases hx
    · rw [if_neg z] at hx
      refine ⟨hx, fun zz => ?_⟩
      subst zz
      rw [List.getD_eq_getElem?_getD, List.getElem?_eq_none (Nat.le_of_not_lt fun y => z ⟨rfl, y⟩)] at hx
      cases hx
  refine ⟨fun j => ?_, fun j k q hjk hj hk e1 e2 => ?_, by rw [List.length_set, List.length_set]; exact e.lg, by rw [List.length_set]; exact e.lr⟩
  · rw [getD_set]
    by_cases z : i = j ∧ i < Γ.length
    · rw [if_pos z]; exact True.intro
    · rw [if_neg z]
      by_cases zz : i = j
      · subst zz
        rw [List.getD_eq_getElem?_getD, List.getElem?_eq_none (Nat.le_of_not_lt fun y => z ⟨rfl, y⟩)]
        exact True.intro
      · rw [List.getElem?_set_ne zz]
        exact e.sl j
  · rw [List.getElem?_set_ne (back j hj).2] at e1
    rw [List.getElem?_set_ne (back k hk).2] at e2
    exact e.dj j k q hjk (back j hj).1 (back k hk).1 e1 e2
theorem Er.wipe (e : Er C H0 Γ G H σ ρ) : ∀ vs : List Nat, Er C H0 (wipeM Γ vs) G H (L2.wipe σ vs) ρ
  | [] => e
  | v :: vs => (Er.wipe e vs).none
theorem wipe_at {σ : L2.St} {j : Nat} : ∀ {vs : List Nat}, j ∈ vs → j < σ.length → (L2.wipe σ vs)[j]? = some none
  | v :: vs, h, hl => by
    unfold L2.wipe
    by_cases e : v = j
    · subst e
      rw [List.getElem?_set_self (by rw [wipe_length]; exact hl)]
    · rw [List.getElem?_set_ne e]
      rcases List.mem_cons.mp h with h | h
      · exact absurd h.symm e
      · exact wipe_at h hl
theorem Tch.wipe {is vs : List Nat} {σ σ' : L2.St} (t : Tch is (L2.wipe σ vs) σ') (h : ∀ i ∈ is, i ∈ vs) : L2.wipe σ' vs = L2.wipe σ vs := by
  have hl : σ'.length = σ.length := t.1.trans (wipe_length σ vs)
  refine List.ext_getElem? fun j => ?_
  by_cases hj : j ∈ vs
  · by_cases hjl : j < σ.length
    · rw [wipe_at hj (by rw [hl]; exact hjl), wipe_at hj hjl]
    · rw [List.getElem?_eq_none (by rw [wipe_length, hl]; exact Nat.le_of_not_lt hjl), List.getElem?_eq_none (by rw [wipe_length]; exact Nat.le_of_not_lt hjl)]
  · rw [wipe_out hj]
    exact t.2 j fun z => hj (h j z)
/-! ### comprehensions -/
def lcD (γ : D → Rho → Option Rho) (c : Rho → Out Bool) (b : Rho → Out D) (ρ : Rho) : List D → Out (List D)
  | [] => .ok []
  | x :: xs => match γ x ρ with
    | none => .stuck
    | some ρ1 => (c ρ1).nox.bind fun t => bif t then (b ρ1).nox.bind fun y => (lcD γ c b ρ xs).bind fun ys => .ok (y :: ys) else lcD γ c b ρ xs
def eLc (φ : Rho → Out (List D)) (γ : D → Rho → Option Rho) (c : Rho → Out Bool) (b : Rho → Out D) : Rho → Out D := fun ρ => (φ ρ).bind fun ds => (lcD γ c b ρ ds).bind fun ys => .ok (.lst ys)
theorem sn_lc {wi : TI} {g : TG} {tt : TT} {te : TE} {vs is : List Nat} {φ : Rho → Out (List D)} {γ : D → Rho → Option Rho} {c : Rho → Out Bool} {b : Rho → Out D} (hi : SimI pr C E Γ wi φ) (hv : ∀ i ∈ is, i ∈ vs) (hg : SimG pr C (wipeM Γ vs) is g γ Γ1)
    (hc : SimT C E0 Γ1 tt c) (hb : SimE C E0 Γ1 te b) : SimN C E Γ (tLc wi g tt te vs) (eLc φ γ c b) := fun H0 n G H σ ρ Q w e q => by
  refine hi H0 n G H σ ρ _ w e (Out.wp_mono (fun m ds k J Gi Hi si wd => ?_) (fun _ _ _ z => z) (Out.wp_bind q))
  obtain ⟨hl, Gp, Y, wk, hGp, hY⟩ := wd
  intro Dl nD
  have nvD := si.w.nvol nD
  have gD := si.w.gn nD
  refine lc_it wk (fun i H' => ∃ m' G' acc us, Ws C Gi Hi m' G' H' ∧ G' Dl = none ∧ H' Dl = some (.lst us) ∧ RepL C G' us acc ∧ acc.length ≤ i ∧ (lcD γ c b ρ (ds.drop i)).wp m' (fun m2 ys => PN C G H Q m2 (.lst (acc ++ ys))) (PX C G H E)) ?_ ?_ ?_ ?_
  · refine ⟨m, Gi, [], [], (Ws.refl si.w).tmp nD, gD, upd_same, .nil, Nat.le_refl _, ?_⟩
    rw [List.drop_zero]
    exact Out.wp_mono (fun _ _ z => z) (fun _ _ _ z => z) (Out.wp_bind k)
  · rintro i H' _ ⟨m', G', acc, us, s', gD', hD', r', _⟩
    exact hGp H' (s'.g.trans s'.w.sub)
  · rintro i x H' H'' hi' ⟨m', G', acc, us, s', gD', hD', r', la, k'⟩ y
    obtain ⟨d, hd⟩ : ∃ d, ds[i]? = some d := ⟨_, List.getElem?_eq_getElem hi'⟩
    obtain ⟨G2, s2, r2⟩ := hY i d m' G' H' x H'' hd s'.g s'.w y
    have hdr : ds.drop i = d :: ds.drop (i + 1) := by
      rw [List.drop_eq_getElem_cons hi']
      congr 1
      exact Option.some.inj ((List.getElem?_eq_getElem hi').symm.trans hd)
    rw [hdr] at k'
    unfold lcD at k'
    have hDn : H' Dl ≠ none := by rw [hD']; intro z; cases z
    -- Dl is nobody's: the slots do not know of it
    cases hh : γ d ρ with
    | none =>
      simp only [hh] at k'
      exact k'.elim
    | some ρ1 =>
      simp only [hh] at k'
      have eW : Er C H0 (wipeM Γ vs) G2 H'' (L2.wipe σ vs) ρ := ((e.wipe vs).step si |>.step s').step s2
      refine hg H0 m' G2 H'' _ ρ x d ρ1 _ s2.w eW r2 hh fun σ1 t1 e1 => ⟨t1.wipe hv, ?_⟩
      refine hc H0 m' G2 H'' σ1 ρ1 _ s2.w e1 (Out.wp_mono (fun m3 t k3 G3 H3 s3 => ?_) (fun _ _ _ z => z) (Out.nox_wp (Out.wp_bind k')))
      have s03 := (s'.trans s2).trans s3
      have hD3 : H3 Dl = some (.lst us) := s3.k Dl _ nvD (s2.k Dl _ nvD hD')
      have gD3 : G3 Dl = none := s3.o Dl (s2.o Dl gD' hDn) (by rw [s2.k Dl _ nvD hD']; intro z; cases z)
      cases t with
      | false => exact ⟨m3, G3, acc, us, s03, gD3, hD3, r'.mono (s2.g.trans s3.g), by omega, k3⟩
      | true =>
        refine hb H0 m3 G3 H3 σ1 ρ1 _ s3.w (e1.step s3) (Out.wp_mono (fun m4 yd k4 yv G4 H4 s4 r4 => ?_) (fun _ _ _ z => z) (Out.nox_wp (Out.wp_bind k3)))
        have hD4 : H4 Dl = some (.lst us) := s4.k Dl _ nvD hD3
        have gD4 : G4 Dl = none := s4.o Dl gD3 (by rw [hD3]; intro z; cases z)
        have s04 := s03.trans s4
        have hus := r'.len
        refine ⟨us, hD4, Nat.lt_of_lt_of_le (show us.length < 100000 by omega) (by decide), m4, G4, acc ++ [yd], us ++ [yv], ?_, gD4, upd_same, (r'.mono (s2.g.trans (s3.g.trans s4.g))).app (.cons r4 .nil), ?_, ?_⟩
        · exact s04.mut ⟨hD4, gD4, nvD, nD⟩ (by intro φ z; cases z)
        · rw [List.length_append]
          show acc.length + 1 ≤ i + 1
          omega
        · refine Out.wp_mono (fun m5 ys k5 => ?_) (fun _ _ _ z => z) (Out.wp_bind k4)
          rw [List.append_assoc]
          exact k5
  · rintro H' ⟨m', G', acc, us, s', gD', hD', r', la, k'⟩
    rw [List.drop_length] at k'
    have k2 : PN C G H Q m' (.lst (acc ++ [])) := k'
    rw [List.append_nil] at k2
    exact k2 Dl (.lst us) G' H' (si.trans s') (si.dm nD) gD' hD' ⟨by omega, r'⟩
/-! ### what is walked -/
def itemsL : D → Out (List D)
  | .lst xs => .ok xs
  | _ => .stuck
def itemsT : D → Out (List D)
  | .tup xs => .ok xs
  | _ => .stuck
def itemsQ : D → Out (List D)
  | .lst xs => .ok xs
  | .tup xs => .ok xs
  | _ => .stuck
def iOf (f : D → Out (List D)) (a : Rho → Out D) : Rho → Out (List D) := fun ρ => (a ρ).bind f
theorem WalkD.of {J : It} {k : Nat} {Gp : Hp → Prop} {Y : Nat → Hp → V → Hp → Prop} {ds : List D} (w : Walk J k Gp Y) (hk : k = ds.length) (l : ds.length ≤ 100000) (hG : ∀ H', Same G H' → Gp H')
    (hY : ∀ i d n G1 H1 x H2, ds[i]? = some d → Same G G1 → Wl C n G1 H1 → Y i H1 x H2 → ∃ G2, Ws C G1 H1 n G2 H2 ∧ RepJ pr C G2 x d) : WalkD pr C J G ds := ⟨l, Gp, Y, hk ▸ w, hG, hY⟩
theorem walkD_list {a : Addr} {vs : List V} {ds : List D} (h : SqL K G a vs) (r : RepL C G vs ds) (l : ds.length ≤ 100000) : WalkD false C (Itl K a) G ds := by
  refine WalkD.of (walk_list (xs := vs)) r.len l (fun H' s => s.seq h) ?_
  · rintro i d n G1 H1 x H2 hd s w ⟨rfl, hx⟩
    obtain ⟨v, hv, rv⟩ := r.at' hd
    rw [hx] at hv
    cases hv
    exact ⟨G1, Ws.refl w, .inl (rv.mono s)⟩
theorem walkD_tup {a : Addr} {vs : List V} {ds : List D} (h : SqT K G a vs) (r : RepL C G vs ds) (l : ds.length ≤ 100000) : WalkD false C (Itt K a) G ds := by
  refine WalkD.of (walk_tup (xs := vs)) r.len l (fun H' s => Evl.ex_t s h) ?_
  · rintro i d n G1 H1 x H2 hd s w ⟨rfl, hx⟩
    obtain ⟨v, hv, rv⟩ := r.at' hd
    rw [hx] at hv
    cases hv
    exact ⟨G1, Ws.refl w, .inl (rv.mono s)⟩
theorem si_list {t : TE} {a : Rho → Out D} (ha : SimE C E Γ t a) : SimI false C E Γ (iList K t) (iOf itemsL a) := fun H0 n G H σ ρ R w e q => by
  refine ha H0 n G H σ ρ _ w e (Out.wp_mono (fun m d k v G1 H1 s1 r1 => ?_) (fun _ _ _ z => z) (Out.wp_bind q))
  cases r1 <;> first | exact k.elim | skip
  rename_i h t l
  exact ⟨_, rfl, ⟨_, .inl (rd_mono s1.w.sub h)⟩, k _ G1 H1 s1 (walkD_list (.inl h) t l)⟩
theorem si_tup {t : TE} {a : Rho → Out D} (ha : SimE C E Γ t a) : SimI false C E Γ (iTup K t) (iOf itemsT a) := fun H0 n G H σ ρ R w e q => by
  refine ha H0 n G H σ ρ _ w e (Out.wp_mono (fun m d k v G1 H1 s1 r1 => ?_) (fun _ _ _ z => z) (Out.wp_bind q))
  cases r1 <;> first | exact k.elim | skip
  rename_i h t l
  exact ⟨_, rfl, ⟨_, Evl.ex_t s1.w.sub h.1⟩, k _ G1 H1 s1 (walkD_tup h.1 t l)⟩
/-- range(n), range(a, b) -/
def rangeD (lo : Int) (n : Nat) : List D := (List.range n).map fun i => D.int (lo + (i : Nat))
def iRg1 (a : Rho → Out (List D)) : Rho → Out (List D) := fun ρ => (a ρ).bind fun ds => match ds with
  | [.int j] => if j ≤ 100000 ∧ -100000 ≤ j then .ok (rangeD 0 j.toNat) else .stuck
  | _ => .stuck
def iRg2 (a : Rho → Out (List D)) : Rho → Out (List D) := fun ρ => (a ρ).bind fun ds => match ds with
  | [.int i, .int j] => if (j ≤ 50000 ∧ -50000 ≤ j) ∧ (i ≤ 50000 ∧ -50000 ≤ i) then .ok (rangeD i (j - i).toNat) else .stuck
  | _ => .stuck
theorem rangeD_at {lo : Int} {k i : Nat} {a : D} (h : (rangeD lo k)[i]? = some a) : a = .int (lo + (i : Nat)) := by
  unfold rangeD at h
  rw [List.getElem?_map] at h
  obtain ⟨j, hj, rfl⟩ := Option.map_eq_some_iff.mp h
  have hi : i < k := by simpa using (List.getElem?_eq_some_iff.mp hj).1
  rw [List.getElem?_range hi] at hj
  cases hj
  rfl
theorem walkD_range {lo : Int} {n : Nat} (l : n ≤ 100000) : WalkD false C (Itr lo n) G (rangeD lo n) := by
  have hl : (rangeD lo n).length = n := by unfold rangeD; rw [List.length_map, List.length_range]
  refine WalkD.of walk_range hl.symm (by rw [hl]; exact l) (fun _ _ => True.intro) ?_
  · rintro i d n' G1 H1 x H2 hd s w ⟨rfl, rfl⟩
    rw [rangeD_at hd]
    exact ⟨G1, Ws.refl w, .inl (.int _)⟩
theorem si_range1 {t : TA} {a : Rho → Out (List D)} (ha : SimB C E Γ 1 t a) : SimI false C E Γ (iRng1 t) (iRg1 a) := fun H0 n G H σ ρ R w e q => by
  refine ha H0 n G H σ ρ _ w e (Out.wp_mono (fun m ds k vs G1 H1 s1 r1 hl => ?_) (fun _ _ _ z => z) (Out.wp_bind q))
  match ds, hl, vs, r1 with
  | [d], _, [v], .cons h1 .nil =>
    cases d <;> first | exact k.elim | skip
    rename_i j _
    cases h1.int
    by_cases hj : j ≤ 100000 ∧ -100000 ≤ j
    · simp only [hj, and_self, if_true] at k
      exact ⟨j, rfl, by omega, by omega, k _ G1 H1 s1 (walkD_range (by omega))⟩
    · simp only [hj, if_false] at k
      exact k.elim
theorem si_range2 {t : TA} {a : Rho → Out (List D)} (ha : SimB C E Γ 2 t a) : SimI false C E Γ (iRng2 t) (iRg2 a) := fun H0 n G H σ ρ R w e q => by
  refine ha H0 n G H σ ρ _ w e (Out.wp_mono (fun m ds k vs G1 H1 s1 r1 hl => ?_) (fun _ _ _ z => z) (Out.wp_bind q))
  match ds, hl, vs, r1 with
  | [d, d2], _, [v, v2], .cons h1 (.cons h2 .nil) =>
    cases d <;> first | exact k.elim | skip
    cases d2 <;> first | exact k.elim | skip
    rename_i i j _
    cases h1.int
    cases h2.int
    by_cases hj : (j ≤ 50000 ∧ -50000 ≤ j) ∧ (i ≤ 50000 ∧ -50000 ≤ i)
    · simp only [hj, and_self, if_true] at k
      exact ⟨i, j, rfl, by omega, k _ G1 H1 s1 (walkD_range (by omega))⟩
    · simp only [hj, if_false] at k
      exact k.elim
theorem sok_sign {z : Str} {i c : Nat} (h : SOk z) (hc : z.cps[i]? = some c) : SOk ⟨#[c]⟩ := by
  refine ⟨by show 1 ≤ 100000; decide, ?_⟩
  have h2 := h.2
  unfold PyData.strOk at h2 ⊢
  rw [Array.all_eq_true] at h2 ⊢
  obtain ⟨hi, e⟩ := Array.getElem?_eq_some_iff.mp hc
  have := h2 i hi
  rw [e] at this
  intro j hj
  have : j = 0 := by simpa using hj
  subst this
  assumption
/-- the signs of a text -/
def signs (z : Str) : List D := z.cps.toList.map fun c => D.str ⟨#[c]⟩
def itemsS : D → Out (List D)
  | .str z => .ok (signs z)
  | _ => .stuck
theorem si_str {t : TE} {a : Rho → Out D} (ha : SimE C E Γ t a) : SimI false C E Γ (iStr t) (iOf itemsS a) := fun H0 n G H σ ρ R w e q => by
  refine ha H0 n G H σ ρ _ w e (Out.wp_mono (fun m d k v G1 H1 s1 r1 => ?_) (fun _ _ _ z => z) (Out.wp_bind q))
  cases r1 <;> first | exact k.elim | skip
  rename_i z hz
  have hl : (signs z).length = z.cps.size := by unfold signs; rw [List.length_map, Array.length_toList]
  refine ⟨z, rfl, k _ G1 H1 s1 (WalkD.of walk_str hl.symm (by rw [hl]; exact hz.1) (fun _ _ => True.intro) ?_)⟩
  · rintro i d n' G1 H1 x H2 hd s w ⟨rfl, c, hc, rfl⟩
    unfold signs at hd
    rw [List.getElem?_map, Array.getElem?_toList, hc] at hd
    cases hd
    exact ⟨G1, Ws.refl w, .inl <| .str _ (sok_sign hz hc)⟩
/-- pairs that are made on the way -/
def pairsD (xs ys : List D) : List D := (xs.zip ys).map fun p => D.tup [p.1, p.2]
theorem pair_step {xs ys : Nat → Option V} {ds es : List D} {i : Nat} {d : D} {x : V} (hd : (pairsD ds es)[i]? = some d) (w : Wl C n G1 H1) (hy : YPair xs ys i H1 x H2) (hx : ∀ v a, xs i = some v → ds[i]? = some a → Rep C G1 v a) (hyy : ∀ v a, ys i = some v → es[i]? = some a → Rep C G1 v a) : ∃ G2, Ws C G1 H1 n G2 H2 ∧ RepJ true C G2 x d := by
  obtain ⟨T, v, u, rfl, nT, rfl, h1, h2⟩ := hy
  unfold pairsD at hd
  rw [List.getElem?_map] at hd
  obtain ⟨p, hp, rfl⟩ := Option.map_eq_some_iff.mp hd
  obtain ⟨pa, pb⟩ := List.getElem?_zip_eq_some.mp hp
  refine ⟨_, (Ws.refl w).new nT, .inr ⟨rfl, T, _, _, rfl, rfl, SqT.of upd_same, ?_⟩⟩
  have s := same_add (o := HO.tup [v, u]) (w.gn nT)
  exact .cons ((hx v _ h1 pa).mono s) (.cons ((hyy u _ h2 pb).mono s) .nil)
theorem pairsD_len (xs ys : List D) : (pairsD xs ys).length = min xs.length ys.length := by
  unfold pairsD
  rw [List.length_map, List.length_zip]
def enumD (xs : List D) : List D := pairsD (rangeD 0 xs.length) xs
theorem rangeD_len {lo : Int} {k : Nat} : (rangeD lo k).length = k := by unfold rangeD; rw [List.length_map, List.length_range]
def iEn (f : D → Out (List D)) (a : Rho → Out (List D)) : Rho → Out (List D) := fun ρ => (a ρ).bind fun ds => match ds with
  | [d] => (f d).bind fun xs => .ok (enumD xs)
  | _ => .stuck
theorem enum_len (xs : List D) : (enumD xs).length = xs.length := by
  unfold enumD
  rw [pairsD_len, rangeD_len, Nat.min_self]
theorem si_enum {t : TA} {a : Rho → Out (List D)} (ha : SimA C E Γ 1 t a) : SimI true C E Γ (iEnum K t) (iEn itemsL a) := fun H0 n G H σ ρ R w e q => by
  refine ha H0 n G H σ ρ _ w e (Out.wp_mono (fun m ds k vs G1 H1 s1 r1 hl => ?_) (fun _ _ _ z => z) (Out.wp_bind q))
  match ds, hl, vs, r1 with
  | [d], _, [v], .cons h1 .nil =>
    cases h1 <;> first | exact k.elim | skip
    rename_i b vs xs h t l _
    refine ⟨b, vs, rfl, .inl (rd_mono s1.w.sub h), k _ G1 H1 s1 (WalkD.of (walk_enum (xs := vs)) (by rw [enum_len, t.len]) (by rw [enum_len]; exact l) (fun H' s => .inl (rd_mono s h)) ?_)⟩
    · intro i d n' G2 H2 x H3 hd s w2 hy
      refine pair_step hd w2 hy (fun v a e1 e2 => ?_) (fun v a e1 e2 => ?_)
      · cases e1
        rw [rangeD_at e2, Int.zero_add]
        exact .int _
      · obtain ⟨y, hy1, hy2⟩ := t.at e1
        rw [e2] at hy1
        cases hy1
        exact hy2.mono s
def iZp (f g : D → Out (List D)) (a : Rho → Out (List D)) : Rho → Out (List D) := fun ρ => (a ρ).bind fun ds => match ds with
  | [d, e] => (f d).bind fun xs => (g e).bind fun ys => .ok (pairsD xs ys)
  | _ => .stuck
theorem si_zip {t : TA} {a : Rho → Out (List D)} (ha : SimA C E Γ 2 t a) : SimI true C E Γ (iZip K t) (iZp itemsL itemsL a) := fun H0 n G H σ ρ R w e q => by
  refine ha H0 n G H σ ρ _ w e (Out.wp_mono (fun m ds k vs G1 H1 s1 r1 hl => ?_) (fun _ _ _ z => z) (Out.wp_bind q))
  match ds, hl, vs, r1 with
  | [d, d2], _, [v, v2], .cons h1 (.cons h2 .nil) =>
    cases h1 <;> first | exact k.elim | skip
    cases h2 <;> first | exact k.elim | skip
    rename_i b vs xs h t l b' vs' xs' h' t' l' _
    refine ⟨b, b', vs, vs', rfl, .inl (rd_mono s1.w.sub h), .inl (rd_mono s1.w.sub h'), k _ G1 H1 s1 (WalkD.of (walk_zip (xs := vs) (ys := vs') rfl) (by rw [pairsD_len, t.len, t'.len]) (by rw [pairsD_len]; omega) (fun H' s => ⟨.inl (rd_mono s h), .inl (rd_mono s h')⟩) ?_)⟩
    · intro i d n' G2 H2 x H3 hd s w2 hy
      refine pair_step hd w2 hy (fun v a e1 e2 => ?_) (fun v a e1 e2 => ?_)
      · obtain ⟨y, hy1, hy2⟩ := t.at e1
        rw [e2] at hy1
        cases hy1
        exact hy2.mono s
      · obtain ⟨y, hy1, hy2⟩ := t'.at e1
        rw [e2] at hy1
        cases hy1
        exact hy2.mono s
/-! ### a def -/
def fnD (N : Nat) (ψ : Rho → Out Res) : List D → Out D := fun ds => (ψ (ds ++ List.replicate (N - ds.length) .non)).bind fun r => match r with
  | .rt d => .ok d
  | .nx _ => .ok .non
  | _ => .stuck
def fr0 (k N : Nat) : List Md := List.replicate k .fr ++ List.replicate (N - k) .un
theorem Er.start {vs : List V} {ds : List D} {N : List Str} (r : RepL C G vs ds) (hl : ds.length ≤ N.length) : Er C H (fr0 ds.length N.length) G H (L2.start N vs) (ds ++ List.replicate (N.length - ds.length) .non) := by
  have hvl := r.len
  refine ⟨fun i => ?_, fun i j p hij hi hj => ?_, ?_, ?_⟩
  · unfold fr0
    rw [List.getD_eq_getElem?_getD]
    by_cases hi : i < ds.length
    · rw [List.getElem?_append_left (by rw [List.length_replicate]; exact hi), List.getElem?_replicate, if_pos hi]
      obtain ⟨v, hv, rv⟩ := r.at' (List.getElem?_eq_getElem hi)
      refine ⟨v, ?_, ?_⟩
      · unfold L2.start
        rw [List.getElem?_append_left (by rw [List.length_map, hvl]; exact hi), List.getElem?_map, hv]
        rfl
      · rw [List.getD_eq_getElem?_getD, List.getElem?_append_left hi, List.getElem?_eq_getElem hi]
        exact rv
    · rw [List.getElem?_append_right (by rw [List.length_replicate]; omega), List.getElem?_replicate]
      split <;> exact True.intro
  · unfold fr0 at hi
    rw [List.getD_eq_getElem?_getD] at hi
    by_cases h : i < ds.length
    · rw [List.getElem?_append_left (by rw [List.length_replicate]; exact h), List.getElem?_replicate, if_pos h] at hi
      cases hi
    · rw [List.getElem?_append_right (by rw [List.length_replicate]; omega), List.getElem?_replicate] at hi
      split at hi <;> cases hi
  · unfold fr0 L2.start
    rw [List.length_append, List.length_replicate, List.length_replicate, List.length_append, List.length_map, List.length_replicate, hvl]
    omega
  · unfold L2.start
    rw [List.length_append, List.length_replicate, List.length_append, List.length_map, List.length_replicate, hvl]
end
section
variable {P : Program} {w : World} {K : PySem.W.Frag} {mg : Str → Option Value} {base : Heap}
theorem body_sim {sp : Sp} {N : List Str} {k : Nat} {ψ : Rho → Out Res} {t : TS} {Γn Γb Γc : List Md} {C : Cfg K} {n : Nat} {G H : Hp} {vs : List V} {ds : List D} {Q : VK} {E : XK} (hS : SimS .fr C E (fr0 k N.length) t ψ Γn Γb Γc) (hk : k ≤ N.length)
    (wl : Wl C n G H) (r : RepL C G vs ds) (hl : ds.length = k) (q : (fnD N.length ψ ds).wp n (PQ C G H Q) (PX C G H E)) : t { nx := fun _ H' => Q .non H', rt := Q } (start N vs) H := by
  subst hl
  refine hS G H n G H _ _ _ (Ws.refl wl) (Er.start r hk) (Out.wp_mono (fun m rr kk => ?_) (fun _ _ _ z => z) (Out.wp_bind q))
  cases rr with
  | nx ρ => exact fun σ G' H' s' _ e' => kk .non G' H' s' .non
  | rt d => exact fun v G' H' s' _ rv => kk v G' H' s' rv
  | bk ρ => exact kk.elim
  | ct ρ => exact kk.elim
theorem GFun.sim {x : Str} {st : Stmt} {N ps : List Str} {k : Nat} {ψ : Rho → Out Res} (F : GFun K mg x st) (S : FnScope N ps (defScope st))
    (hb : ∀ (kV doc pm : Value) (an : Option Addr) (cdv ct : Value) (us : List Value), us.length = ps.length → bindArgs (PySem.W.fnOf x x (defArgs st) (defBody st) (defScope st) .none kV doc pm an cdv ct) ⟨us, []⟩ = pure (ps.zip us))
    {b : Bool} (hbody : ∀ (f : Addr) (cdv : Value) (A : Around) (outer : List Env) (s : Shared) (H : Hp) (E : XK) (C : Cfg K), (b = true → C.lk = []) → Room k (A.deeper (envOfC x (defScope st) s.heap.objs.size f cdv)) →
      ∃ t, PSs (cxOf (L2.CX P w) P w K mg base N x (defScope st) f cdv A outer s H E) (defBody st) t ∧ ∃ Γn Γb Γc, SimS .fr C E (fr0 ps.length N.length) t ψ Γn Γb Γc) (hk : ps.length ≤ N.length := by decide) :
    GOk P w K mg base (k + 1) x ps (spF K b ps.length (fnD N.length ψ)) := by
  refine GFun.ok (k := k) F S hb (fun vs H Q E h => ?_) (fun f cdv A outer s H vs Q E hr h => ?_)
  · obtain ⟨C, n, G, ds, _, _, r, hl, _⟩ := h
    rw [r.len]
    exact hl
  · obtain ⟨C, n, G, ds, hbk, wl, r, hl, q⟩ := h
    obtain ⟨t, ht, Γn, Γb, Γc, hS⟩ := hbody f cdv A outer s H E C hbk hr
    exact ⟨t, ht, body_sim (sp := spF K b ps.length (fnD N.length ψ)) hS hk wl r hl q⟩
end
end ND
/-! plain facts of names -/
namespace ND
open PySem PySem.Spec PyProof.Rows L2
def letters : Str := "abcdefghijklmnopqrstuvwxyz"
def NameOk (z : Str) : Prop := 1 ≤ z.length ∧ z.length ≤ 6 ∧ ∀ c ∈ z.cps.toList, c ∈ letters.cps.toList
instance (z : Str) : Decidable (NameOk z) := inferInstanceAs (Decidable (_ ∧ _ ∧ _))
def sgn (c : Nat) : Str := ⟨#[c]⟩
theorem len_toList (z : Str) : z.length = z.cps.toList.length := by rw [Array.length_toList]; rfl
theorem nodup_le {α : Type} [DecidableEq α] : ∀ {xs ys : List α}, xs.Nodup → (∀ x ∈ xs, x ∈ ys) → xs.length ≤ ys.length
  | [], _, _, _ => Nat.zero_le _
  | x :: xs, ys, h, hs => by
    have hx := hs x List.mem_cons_self
    have h1 := List.nodup_cons.mp h
    have := nodup_le (xs := xs) (ys := ys.erase x) h1.2 fun z hz => (List.mem_erase_of_ne (show z ≠ x from fun e => h1.1 (e ▸ hz))).mpr (hs z (List.mem_cons_of_mem _ hz))
    rw [List.length_erase_of_mem hx] at this
    have : 0 < ys.length := List.length_pos_of_mem hx
    rw [List.length_cons]
    omega
def tenW : List Str := ["a", "b", "x", "use", "night", "pack", "cost", "roll", "zzzzzz", "best"]
theorem tenW_ok : ∀ z ∈ tenW, NameOk z := by decide +kernel
theorem joinL_nil : ∀ cs : List Nat, TL.joinL [] (cs.map fun c => [c]) = cs
  | [] => rfl
  | [c] => rfl
  | c :: e :: r => by
    show c :: TL.joinL [] ((e :: r).map fun c => [c]) = _
    rw [joinL_nil (e :: r)]
theorem join_signs (cs : List Nat) : Txt.join "" (cs.map sgn) = ⟨cs.toArray⟩ := by
  have h := TL.tl_join "" (cs.map sgn)
  rw [← TL.join_eq] at h
  have h2 : (cs.map sgn).map TL.tl = cs.map fun c => [c] := by
    rw [List.map_map]
    rfl
  rw [h2] at h
  have h3 : TL.tl ("" : Str) = [] := by decide +kernel
  rw [h3, joinL_nil] at h
  have h4 : (Txt.join "" (cs.map sgn)).cps.toList = cs := h
  cases e : Txt.join "" (cs.map sgn) with
  | mk a =>
    rw [e] at h4
    rw [← h4]
theorem name_of {cs : List Nat} (h1 : 1 ≤ cs.length) (h2 : cs.length ≤ 6) (h : ∀ c ∈ cs, c ∈ letters.cps.toList) : NameOk ⟨cs.toArray⟩ :=
  ⟨by rw [len_toList]; exact h1, by rw [len_toList]; exact h2, h⟩
def near1 (z : Str) (c : Nat) : Str := cutS z none (some 5) ++ sgn c
theorem app_toList (a b : Str) : (a ++ b).cps.toList = a.cps.toList ++ b.cps.toList := by
  show (a.cps ++ b.cps).toList = _
  rw [Array.toList_append]
theorem cut5 (z : Str) : (cutS z none (some 5)).cps.toList = z.cps.toList.take 5 := by
  have hl := len_toList z
  have e1 : HT.sIx z.length 0 none = 0 := rfl
  have e2 : HT.sIx z.length z.length (some 5) = min 5 z.length := rfl
  show ((z.cps.toList.drop (HT.sIx z.length 0 none)).take (HT.sIx z.length z.length (some 5) - HT.sIx z.length 0 none)) = _
  rw [e1, e2, List.drop_zero, Nat.sub_zero, hl, ← List.take_take, List.take_length]
theorem near1_list (z : Str) (c : Nat) : (near1 z c).cps.toList = z.cps.toList.take 5 ++ [c] := by
  unfold near1
  rw [app_toList, cut5]
  rfl
theorem near1_ok {z : Str} {c : Nat} (h : NameOk z) (hc : c ∈ letters.cps.toList) : NameOk (near1 z c) := by
  have hl : (near1 z c).length = min 5 z.length + 1 := by
    rw [len_toList, near1_list, List.length_append, List.length_take, ← len_toList]
    rfl
  refine ⟨by omega, by omega, fun e he => ?_⟩
  rw [near1_list] at he
  rcases List.mem_append.mp he with h1 | h1
  · exact h.2.2 e (List.mem_of_mem_take h1)
  · rw [List.mem_singleton.mp h1]; exact hc
theorem near1_inj {z : Str} {c e : Nat} (h : near1 z c = near1 z e) : c = e := by
  have := congrArg (fun x : Str => x.cps.toList) h
  simp only [near1_list] at this
  have := List.append_cancel_left this
  cases this
  rfl
theorem letters_nd : letters.cps.toList.Nodup := by decide +kernel
theorem letters_len : letters.cps.toList.length = 26 := by decide +kernel
def nears (z : Str) : List Str := z :: letters.cps.toList.map (near1 z)
theorem nears_ok {z y : Str} (h : NameOk z) (hy : y ∈ nears z) : NameOk y := by
  rcases List.mem_cons.mp hy with rfl | h1
  · exact h
  · obtain ⟨c, hc, rfl⟩ := List.mem_map.mp h1
    exact near1_ok h hc
theorem nears_new {z : Str} {fs : List Str} (h : fs.length < 26) : ∃ y ∈ nears z, y ∉ fs := by
  apply Classical.byContradiction
  intro hn
  have h1 : (letters.cps.toList.map (near1 z)).Nodup := by
    unfold List.Nodup
    rw [List.pairwise_map]
    exact letters_nd.imp fun h e => h (near1_inj e)
  have h2 := nodup_le (ys := fs) h1 fun y hy => Classical.byContradiction fun hy2 => hn ⟨y, List.mem_cons_of_mem _ hy, hy2⟩
  rw [List.length_map, letters_len] at h2
  omega
theorem inV_strs {x : Str} : ∀ {xs : List Str}, inV (.str x) (xs.map V.str) = decide (x ∈ xs)
  | [] => rfl
  | y :: ys => by
    show ((y == x) || inV (.str x) (ys.map V.str)) = _
    rw [inV_strs (xs := ys)]
    by_cases h : y = x
    · subst h; simp
    · have h' : ¬ x = y := fun e => h e.symm
      simp [h, h']
theorem flat_strs : ∀ xs : List Str, (xs.map V.str).all flatV = true
  | [] => rfl
  | x :: xs => flat_strs xs
end ND
/-! rules whose readings name K: for the bodies of comprehensions -/
namespace ND
open PySem PySem.Spec PyProof.Rows L2
section
variable {X : Cx} (K : PySem.W.Frag) (hK : X.K = K)
include hK
theorem op_in_seqK : OpR X (compareOp .In) (rIn K false) := hK ▸ op_in_seq
theorem op_notIn_seqK : OpR X (compareOp .NotIn) (rIn K true) := hK ▸ op_notIn_seq
theorem op_inDK (hu : X.A.units + 65 < cLine) : OpR X (compareOp .In) (rInD K) := hK ▸ op_inD hu
theorem op_notInDK (hu : X.A.units + 65 < cLine) : OpR X (compareOp .NotIn) (rNotInD K) := hK ▸ op_notInD hu
theorem op_eqDK (hu : X.A.units + 64 < cLine) : OpR X (compareOp .Eq) (rEqD K) := hK ▸ op_eqD hu
theorem op_neDK (hu : X.A.units + 64 < cLine) : OpR X (compareOp .NotEq) (rNeD K) := hK ▸ op_neD hu
theorem ix_listK : IxR X (rIxL K) := hK ▸ ix_list
theorem ix_tupK : IxR X (rIxT K) := hK ▸ ix_tup
theorem ix_seqK : IxR X (rIx K) := hK ▸ ix_seq
theorem sl_listK : SlR X (rSlL K) := hK ▸ sl_list
theorem sl_tupK : SlR X (rSlT K) := hK ▸ sl_tup
theorem op_catTK : OpR X (binaryOp .Add) (rCatT K) := hK ▸ op_catT
theorem call_len_seqK : CallR X (.builtin "len") (fun xs H Q => ∃ p ys, xs = [.ref p] ∧ (SqL K H p ys ∨ SqT K H p ys) ∧ Q (.int ys.length) H) := hK ▸ call_len_seq
theorem call_lenK : CallR X (.builtin "len") (fun xs H Q => ∃ x n, xs = [x] ∧ LenV K x H n ∧ Q (.int n) H) := hK ▸ call_len
theorem call_list_ofK : CallR X (.type "list") (fun xs H Q => ∃ p ys, xs = [.ref p] ∧ (SqL K H p ys ∨ SqT K H p ys) ∧ ∀ l, H l = none → Q (.ref l) (upd H l (.lst ys))) := hK ▸ call_list_of
theorem cr_sumK (hc : X.calm = true) : CallR X (.builtin "sum") (rSum K) := hK ▸ cr_sum hc
theorem cr_maxK (hc : X.calm = true) : CallR X (.builtin "max") (rMax K) := hK ▸ cr_max hc
theorem cr_minK (hc : X.calm = true) : CallR X (.builtin "min") (rMin K) := hK ▸ cr_min hc
theorem cr_anyK (hc : X.calm = true) : CallR X (.builtin "any") (rAny K) := hK ▸ cr_any hc
theorem cr_allK (hc : X.calm = true) : CallR X (.builtin "all") (rAll K) := hK ▸ cr_all hc
theorem cr_sortedSK : CallR X (.builtin "sorted") (rSortedS K) := hK ▸ cr_sortedS
theorem call_isiK : CallR X (.builtin "isinstance") (rIsi K) := hK ▸ call_isi
theorem call_isiTK : CallR X (.builtin "isinstance") (rIsiT K) := hK ▸ call_isiT
theorem pi_listK {tg l : Expr} {tl : TE} (hl : PE X l tl) : PI X tg l (iList K tl) := hK ▸ pi_list hl
theorem pi_tupK {tg l : Expr} {tl : TE} (hl : PE X l tl) : PI X tg l (iTup K tl) := hK ▸ pi_tup hl
theorem pg_tupK {es : List Expr} {k : Nat} {t : TGs} {pos : Pos} (n : Nat) (hc : X.calm = true) (h : PGs X es t) (hn : (assignEach es X.env).length = n := by rfl) (hst : (assignEach es X.env).findIdx? (·.1) = none := by rfl) : PG X (.Tuple es k pos) (gTup K n t) := hK ▸ pg_tup hc h hn hst
theorem tru_okK : TruR X (fun x H Q => ∃ k, TruV K x H k ∧ Q k H) := hK ▸ tru_ok
theorem pe_fldK {e : Expr} {ta : TE} {f : Str} {pos : Pos} (he : PE X e ta) (hb : attributeBase e f X.env (eval e X.env) = eval e X.env) : PE X (.Attribute e f pos) (tFld K ta f) := hK ▸ pe_fld he hb
end
end ND
/-! sets of objects that are hashed and compared by value: for ANY such kind (own generalisation) -/
namespace ND
open PySem PySem.Spec PyProof.Rows L2
/-- a kind of keys that lie in the heap -/
structure KD (P : Program) (w : World) (α : Type) where
  dec : DecidableEq α
  lies : Heap → α → Addr → Prop
  hash : α → Int
  eqb : ∀ {A : Around} {E : Value → Shared → Prop} {s : Shared} {x y : α} {a b : Addr} {Q : Bool → Shared → Prop}, A.units < cLine → lies s.heap x a → lies s.heap y b → Q (decide (x = y)) s → wpAny (model P w) A (eqBool (.ref a) (.ref b)) Q E s
  quiet : ∀ {A : Around} {E : Value → Shared → Prop} {s : Shared} {x : α} {a : Addr} {Q : Bool → Shared → Prop}, lies s.heap x a → Q true s → wpAny (model P w) A (eqIsQuiet 8 (.ref a)) Q E s
  ofc : ∀ {A : Around} {E : Value → Shared → Prop} {s : Shared} {x : α} {a : Addr} {Q : Bool → Shared → Prop}, lies s.heap x a → Q false s → wpAny (model P w) A (ofAClassStatement 8 (.ref a)) Q E s
  hby : ∀ {A : Around} {E : Value → Shared → Prop} {s : Shared} {x : α} {a : Addr} {Q : Bool → Shared → Prop}, lies s.heap x a → (∀ b, Q b s) → wpAny (model P w) A (hashByValue 8 (.ref a)) Q E s
  pyh : ∀ {A : Around} {E : Value → Shared → Prop} {s : Shared} {x : α} {a : Addr} {Q : Int → Shared → Prop}, A.units < cLine → lies s.heap x a → (∀ n, Q (hash x) { s with toks := s.toks + n }) → wpAny (model P w) A (pyHash (.ref a)) Q E s
  keep : ∀ {h h' : Heap} {x : α} {a : Addr}, lies h x a → (∀ c o, h.get? c = some o → (∀ es ep t, o.data ≠ .set es ep t) → h'.get? c = some o) → lies h' x a
section
variable {P : Program} {w : World} {α : Type} {D : KD P w α} {A : Around} {E : Value → Shared → Prop} {s : Shared}
/-- nobody sees a search among them -/
theorem KD.unseen {k : α} {b : Addr} {Q : Bool → Shared → Prop} (hk : D.lies s.heap k b) {ys : List Value} (hy : ∀ y ∈ ys, ∃ k' c, y = Value.ref c ∧ D.lies s.heap k' c) (q : Q false s) : wpAny (model P w) A (searchCouldBeSeen (.ref b) ys) Q E s := by
  unfold searchCouldBeSeen
  refine wpAny_bind (wpAny_forIn_list _ (fun rest r s' => (r.1 = none ∧ s' = s) ∧ ∀ y ∈ rest, ∃ k' c, y = Value.ref c ∧ D.lies s.heap k' c) _ ?_ ?_ _ _ ⟨⟨rfl, rfl⟩, hy⟩)
  · rintro v rest r s' ⟨⟨hr, rfl⟩, hall⟩
    obtain ⟨k', c, rfl, hc⟩ := hall v List.mem_cons_self
    have more : ∀ y ∈ rest, ∃ k' c, y = Value.ref c ∧ D.lies s'.heap k' c := fun u hu => hall u (List.mem_cons_of_mem _ hu)
    dsimp only
    by_cases same : (b == c || (carriedByValue (.ref b) && carriedByValue (.ref c))) = true
    · exact wp_if_pos same (wpAny_pure ⟨⟨rfl, rfl⟩, more⟩)
    · refine wp_if_neg same (wpAny_bind (D.quiet hk ?_))
      simp only [Bool.not_true, Bool.false_eq_true, if_false]
      refine wpAny_bind (D.quiet hc ?_)
      simp only [Bool.not_true, Bool.false_eq_true, if_false]
      refine wpAny_bind (D.ofc hk ?_)
      simp only [Bool.false_eq_true, if_false]
      refine wpAny_bind (D.ofc hc ?_)
      simp only [Bool.false_eq_true, if_false]
      exact wpAny_pure ⟨⟨rfl, rfl⟩, more⟩
  · rintro ⟨r1, r2⟩ s' ⟨⟨hr, rfl⟩, _⟩
    obtain rfl : r1 = none := hr
    exact wpAny_pure q
/-- the entries of a set that holds L -/
def KD.ent (D : KD P w α) (L : List (Addr × α)) : List (Int × Value) := L.map fun p => (D.hash p.2, Value.ref p.1)
structure KD.Has (D : KD P w α) (h : Heap) (a : Addr) (L : List (Addr × α)) (es : Array (Int × Value)) (ep : Nat) (t : SetTable) : Prop where
  ob : ∃ o, h.get? a = some o ∧ o.ExactSet ∧ o.data = .set es ep t
  rows : es.toList = D.ent L
  tab : TabOk t (L.map fun p => D.hash p.2)
  nd : (L.map (·.2)).Nodup
  tup : ∀ p ∈ L, D.lies h p.2 p.1
  led : w.params.followText "set-order" = true ∨ t.led = true
  room : L.length * 5 < t.mask * 3
  few : L.length < 64
variable {a : Addr} {L : List (Addr × α)} {es : Array (Int × Value)} {ep : Nat} {t : SetTable}
theorem KD.ent_len (D : KD P w α) (L : List (Addr × α)) (h : es.toList = D.ent L) : es.size = L.length := by
  rw [← Array.length_toList, h]; exact List.length_map ..
theorem KD.Has.fits (R : D.Has s.heap a L es ep t) : t.fits es.size = true := by
  have h1 : t.place.size = L.length := by rw [R.tab.sz]; exact List.length_map ..
  have h2 := KD.ent_len D L R.rows
  have h3 := R.room
  unfold SetTable.fits SetTable.fill
  rw [R.tab.dm, Bool.and_eq_true, beq_iff_eq, decide_eq_true_eq]
  exact ⟨by omega, by show t.place.size + 0 ≤ t.mask; omega⟩
theorem KD.Has.entry (R : D.Has s.heap a L es ep t) {i : Nat} {p : Addr × α} (h : L[i]? = some p) : es[i]? = some (D.hash p.2, Value.ref p.1) := by
  rw [← Array.getElem?_toList, R.rows, KD.ent, List.getElem?_map, h]; rfl
theorem KD.Has.whole (R : D.Has s.heap a L es ep t) : ¬ t.gaveWay = true := by
  unfold SetTable.gaveWay
  rw [mask_odd R.tab.mok]; decide
/-- the place on the way of a hash -/
abbrev prb (t : SetTable) (h : Int) (c : Nat) : SetTable.Probe := nth t.mask (runAt t.mask (SetTable.bits h % (t.mask + 1)) (SetTable.bits h)) c
theorem prb_dummy (t : SetTable) (h : Int) (c : Nat) : (prb t h c).dummy = none := by
  have key : ∀ (n : Nat) (p : SetTable.Probe), p.dummy = none → (nth t.mask p n).dummy = none := fun n => by
    induction n with
    | zero => exact fun p hp => hp
    | succ n ih =>
      intro p hp
      refine ih (adv t.mask p) ?_
      unfold adv
      split <;> exact hp
  exact key c _ rfl
theorem prb_add (t : SetTable) (h : Int) (c q : Nat) : nth t.mask (prb t h c) q = prb t h (c + q) := (nth_add t.mask c _ q).symm
theorem prb_j (t : SetTable) (h : Int) (c q : Nat) : (nth t.mask (prb t h c) q).j = way t.mask h (c + q) := congrArg SetTable.Probe.j (prb_add t h c q)
/-- looking from the c-th step on -/
theorem KD.Has.look (R : D.Has s.heap a L es ep t) {x : Addr} {k : α} (hx : D.lies s.heap k x) (hu : A.units < cLine) {K : Nat} (far : K < 10 * SetTable.turns t.mask)
    (free : way t.mask (D.hash k) K ∉ t.place.toList) (held : ∀ c, c < K → way t.mask (D.hash k) c ∈ t.place.toList) {Q : SetFound → Shared → Prop}
    (yes : k ∈ L.map (·.2) → Q (.there none) s) (no : k ∉ L.map (·.2) → Q (.free (way t.mask (D.hash k) K) false) s) :
    ∀ (f c : Nat) (st : Option SetTable.Probe), st.getD (t.probeStart (D.hash k)) = prb t (D.hash k) c → c ≤ K → K - c < f →
      (∀ (i : Nat) p, L[i]? = some p → p.2 = k → ∃ c', c ≤ c' ∧ c' < K ∧ t.place.toList[i]? = some (way t.mask (D.hash k) c')) →
      wpAny (model P w) A (setSearchFrom a (.ref x) (D.hash k) true f st) Q E s
  | 0, _, _, _, _, hf, _ => absurd hf (Nat.not_lt_zero _)
  | f + 1, c, st, hst, hc, hf, ahead => by
    obtain ⟨o, ho, hex, hd⟩ := R.ob
    have spec := go_spec t R.tab.ris R.tab.dm (fun i => (es[i]?.map (·.1)).getD 0) (D.hash k) (10 * SetTable.turns t.mask) (K - c) _ (prb_dummy t (D.hash k) c) (by omega)
      (fun q hq => by rw [prb_j]; exact held (c + q) (by omega)) (by rw [prb_j, Nat.add_sub_cancel' hc]; exact free)
    have hashOf : ∀ (i : Nat) p, L[i]? = some p → (es[i]?.map (·.1)).getD 0 = D.hash p.2 := fun i p hp => by rw [R.entry hp]; rfl
    rw [setSearchFrom_succ]
    refine wpAny_bind (wpAny_setState_of ho hd R.fits ?_); dsimp only
    refine wp_if_neg R.whole ?_; try refine wpAny_bind (wpAny_pure ?_)
    rcases spec with ⟨q, i, hq, hi, hh, skip, pr⟩ | ⟨skip, pr⟩
    · rw [prb_j] at hi
      have pr' : t.probe (fun i => (es[i]?.map (·.1)).getD 0) (D.hash k) (st.getD (t.probeStart (D.hash k))) = some (.candidate (way t.mask (D.hash k) (c + q)) i (prb t (D.hash k) (c + (q + 1)))) := by
        rw [hst, ← prb_j, ← prb_add]; exact pr
      rw [pr']; dsimp only
      have hil : i < L.length := by
        have h1 : i < t.place.size := by rw [← Array.length_toList]; exact (List.getElem?_eq_some_iff.mp hi).1
        have h2 : t.place.size = L.length := by rw [R.tab.sz]; exact List.length_map ..
        omega
      obtain ⟨p, hp⟩ : ∃ p, L[i]? = some p := ⟨_, List.getElem?_eq_getElem hil⟩
      have mem : p ∈ L := List.mem_of_getElem? hp
      have rest : wpAny (model P w) A (searchRest a (.ref x) (D.hash k) true f es t (way t.mask (D.hash k) (c + q)) i (prb t (D.hash k) (c + (q + 1)))) Q E s := by
        unfold searchRest
        rw [R.entry hp]; dsimp only
        refine wpAny_bind (wpAny_holding (D.eqb hu (R.tup p mem) hx (wpAny_bind (wpAny_setState_of ho hd R.fits ?_)))); dsimp only
        by_cases hkk : p.2 = k
        · exact wp_if_pos (by simp [hkk]) (wpAny_pure (yes (List.mem_map.mpr ⟨p, mem, hkk⟩)))
        · refine wp_if_neg (by simp [hkk]) ?_; try refine wpAny_bind (wpAny_pure ?_)
          have live : t.slot (way t.mask (D.hash k) (c + q)) = .live i := slot_live R.tab.ris hi
          rw [sameMem]; dsimp only
          simp only [if_true, live, R.entry hp]
          refine wpAny_bind (wpAny_isSame_ref_self (wpAny_bind (wpAny_pure ?_))); simp only [if_true]
          refine wp_if_neg (by simp [hkk]) (KD.Has.look R hx hu far free held yes no f (c + (q + 1)) _ rfl (by omega) (by omega) fun i0 p0 h0 e0 => ?_)
          obtain ⟨c', l1, l2, l3⟩ := ahead i0 p0 h0 e0
          refine ⟨c', ?_, l2, l3⟩
          apply Classical.byContradiction
          intro hlt
          by_cases hc' : c' = c + q
          · have lv := slot_live R.tab.ris (hc' ▸ l3)
            rw [live] at lv
            cases lv
            rw [hp] at h0
            cases h0
            exact hkk e0
          · refine skip (c' - c) i0 (by omega) (by rw [prb_j, Nat.add_sub_cancel' l1]; exact l3) ?_
            exact (hashOf i0 p0 h0).trans (congrArg D.hash e0)
      by_cases hl : t.led = true
      · refine wp_if_neg (by simp [hl]) ?_; try refine wpAny_bind (wpAny_pure ?_)
        exact rest
      · refine wp_if_pos (by simp [hl]) (wpAny_bind (KD.unseen hx (fun y hy => ?_) ?_))
        · obtain ⟨e, he, rfl⟩ := List.mem_map.mp hy
          have he2 : e ∈ es.toList := by
            have : e ∈ es ∧ e.1 = D.hash k := by simpa using he
            simpa using this.1
          rw [R.rows] at he2
          obtain ⟨p2, hp2, rfl⟩ := List.mem_map.mp he2
          exact ⟨p2.2, p2.1, rfl, R.tup p2 hp2⟩
        · refine wp_if_neg (by decide) ?_; try refine wpAny_bind (wpAny_pure ?_)
          exact rest
    · have pr' : t.probe (fun i => (es[i]?.map (·.1)).getD 0) (D.hash k) (st.getD (t.probeStart (D.hash k))) = some (.empty (way t.mask (D.hash k) K) none) := by
        have e2 : way t.mask (D.hash k) K = (nth t.mask (prb t (D.hash k) c) (K - c)).j := by rw [prb_j, Nat.add_sub_cancel' hc]
        rw [hst, e2]; exact pr
      rw [pr']; dsimp only
      refine wpAny_pure (no fun hm => ?_)
      obtain ⟨p0, h0, e0⟩ := List.mem_map.mp hm
      obtain ⟨i0, hi0⟩ := List.mem_iff_getElem?.mp h0
      obtain ⟨c', l1, l2, l3⟩ := ahead i0 p0 hi0 e0
      exact skip (c' - c) i0 (by omega) (by rw [prb_j, Nat.add_sub_cancel' l1]; exact l3) ((hashOf i0 p0 hi0).trans (congrArg D.hash e0))
/-- looking, as adding asks -/
theorem KD.Has.look0 (R : D.Has s.heap a L es ep t) {x : Addr} {k : α} (hx : D.lies s.heap k x) (hu : A.units < cLine) {Q : SetFound → Shared → Prop} (yes : k ∈ L.map (·.2) → Q (.there none) s)
    (no : ∀ K, k ∉ L.map (·.2) → way t.mask (D.hash k) K ∉ t.place.toList → (∀ c, c < K → way t.mask (D.hash k) c ∈ t.place.toList) → Q (.free (way t.mask (D.hash k) K) false) s) :
    wpAny (model P w) A (setSearch a (.ref x) (D.hash k) true) Q E s := by
  have hroom := R.room
  obtain ⟨K, far, free, held⟩ := R.tab.first (by rw [List.length_map]; omega) (D.hash k)
  have hbig : 10 * SetTable.turns t.mask ≤ 1420 := by
    unfold SetTable.turns
    rcases R.tab.mok with e | e | e <;> omega
  unfold setSearch
  refine R.look hx hu far free held yes (fun hn => no K hn free held) 100000 0 none rfl (Nat.zero_le _) (by omega) fun i p hp e => ?_
  have hi : (L.map fun p => D.hash p.2)[i]? = some (D.hash k) := by rw [List.getElem?_map, hp, ← e]; rfl
  have h2 : t.place.size = L.length := by rw [R.tab.sz]; exact List.length_map ..
  have hj := List.getElem?_eq_getElem (l := t.place.toList) (i := i) (by rw [Array.length_toList, h2]; exact (List.getElem?_eq_some_iff.mp hp).1)
  obtain ⟨c, hc, e'⟩ := R.tab.before free hi hj
  exact ⟨c, Nat.zero_le _, hc, by rw [hj, e']⟩
end
end ND
/-! adding to such a set -/
namespace ND
open PySem PySem.Spec PyProof.Rows L2
section
variable {P : Program} {w : World} {α : Type} {D : KD P w α} {A : Around} {E : Value → Shared → Prop} {s : Shared}
theorem KD.stays {h h' : Heap} {k : α} {a b : Addr} {o : Obj} {es : Array (Int × Value)} {ep : Nat} {t : SetTable} (hb : D.lies h k b) (ho : h.get? a = some o) (hd : o.data = .set es ep t) (hs : Heap.SameBut a h h') : D.lies h' k b := by
  refine D.keep hb fun c o' hc ns => ?_
  have hne : c ≠ a := fun e => by
    subst e
    rw [ho] at hc
    cases hc
    exact ns _ _ _ hd
  rw [hs.2 c hne]; exact hc
theorem KD.ent_at {L : List (Addr × α)} {es : Array (Int × Value)} (hr : es.toList = D.ent L) {i : Nat} {p : Addr × α} (h : L[i]? = some p) : es[i]? = some (D.hash p.2, Value.ref p.1) := by
  rw [← Array.getElem?_toList, hr, KD.ent, List.getElem?_map, h]; rfl
theorem pick_range {β : Type} (L : List β) : ∀ n, n ≤ L.length → (List.range n).filterMap (fun i => L[i]?) = L.take n
  | 0, _ => rfl
  | n + 1, hn => by
    have hlt : n < L.length := hn
    rw [List.range_succ, List.filterMap_append, pick_range L n (Nat.le_of_lt hlt), List.take_add_one]
    rw [List.getElem?_eq_getElem hlt]
    simp [hlt]
theorem KD.reorder (D : KD P w α) (L : List (Addr × α)) (es : Array (Int × Value)) (hr : es.toList = D.ent L) : ∀ l : List Nat, (∀ i ∈ l, i < L.length) →
    l.filterMap (fun i => es[i]?) = D.ent (l.filterMap fun i => L[i]?) ∧ (l.filterMap fun i => L[i]?).map (fun p => D.hash p.2) = l.map fun i => (es.map (·.1)).getD i 0
  | [], _ => ⟨rfl, rfl⟩
  | i :: l, hl => by
    have hi := hl i List.mem_cons_self
    obtain ⟨e1, e2⟩ := KD.reorder D L es hr l fun j hj => hl j (List.mem_cons_of_mem _ hj)
    have hg : L[i]? = some L[i] := List.getElem?_eq_getElem hi
    have he := KD.ent_at hr hg
    have h5 : (es.map (·.1)).getD i 0 = D.hash (L[i]).2 := by
      have : (es.map (·.1))[i]? = some (D.hash (L[i]).2) := by rw [Array.getElem?_map, he]; rfl
      simp [Array.getD_eq_getD_getElem?, this]
    constructor
    · rw [List.filterMap_cons_some he, List.filterMap_cons_some hg, e1]; rfl
    · rw [List.filterMap_cons_some hg, List.map_cons, List.map_cons, e2, h5]
variable {a : Addr} {L : List (Addr × α)} {es : Array (Int × Value)} {ep : Nat} {t : SetTable}
/-- the table is laid anew -/
theorem KD.relay {o : Obj} (ho : s.heap.get? a = some o) (hex : o.ExactSet) (hd : o.data = .set es ep t) (rows : es.toList = D.ent L) (hsz : t.place.size = es.size) (hdm : t.dummies = #[]) (hfl : es.size ≤ t.mask)
    (nd : (L.map (·.2)).Nodup) (tup : ∀ p ∈ L, D.lies s.heap p.2 p.1) (ld : w.params.followText "set-order" = true ∨ t.led = true) (few : L.length < 64) {wanted M : Nat}
    (hw : SetTable.sizeAbove wanted - 1 = M) (hM : MaskOk M) (hw2 : SetTable.sizeAbove wanted ≤ 128) (hn : L.length * 5 < M * 3) {Q : Unit → Shared → Prop}
    (q : ∀ h' L' es' ep' t', Heap.SameBut a s.heap h' → D.Has h' a L' es' ep' t' → L'.Perm L → Q () { s with heap := h' }) : wpAny (model P w) A (setRelay a wanted) Q E s := by
  have hsl := KD.ent_len D L rows
  have hfits : t.fits es.size = true := by
    unfold SetTable.fits SetTable.fill
    rw [hdm, Bool.and_eq_true, beq_iff_eq, decide_eq_true_eq]
    exact ⟨hsz, by show t.place.size + 0 ≤ t.mask; omega⟩
  obtain ⟨t', order, e, hp, tab, em, el, epl, ed⟩ := relaid_ok t (hs := es.map (·.1)) (wanted := wanted) hw hM (by rw [Array.size_map, hsl]; omega)
  rw [Array.size_map, hsl] at hp
  obtain ⟨r1, r3⟩ := KD.reorder D L es rows order.toList fun i hi => List.mem_range.mp (hp.mem_iff.mp hi)
  have r2 : (order.toList.filterMap fun i => L[i]?).Perm L := by
    have h1 := hp.filterMap (fun i => L[i]?)
    rw [pick_range L L.length (Nat.le_refl _), List.take_length] at h1
    exact h1
  rw [← r3] at tab
  have r0 : (order.filterMap (es[·]?)).toList = D.ent (order.toList.filterMap fun i => L[i]?) := by
    first | (rw [Array.toList_filterMap]; exact r1) | simpa using r1
  generalize (order.toList.filterMap fun i => L[i]?) = L2 at r0 r2 tab
  have hs2 : (order.filterMap (es[·]?)).size = es.size := by rw [KD.ent_len D L2 r0, r2.length_eq, hsl]
  rw [setRelay_eq]
  refine wpAny_bind (wpAny_setState_of ho hd hfits ?_); dsimp only
  refine wp_if_neg (by rw [sizeLine_eq]; omega) ?_; try refine wpAny_bind (wpAny_pure ?_)
  rw [e]; dsimp only
  refine wpAny_bind (wp_if_neg (by rw [hs2]; simp) ?_); try refine wpAny_bind (wpAny_pure ?_)
  refine wpAny_pure ?_; dsimp only
  refine wpAny_storeSet_of ho hd ?_ (by rw [hs2, hsl, sizeLine_eq]; omega)
  have sb : Heap.SameBut a s.heap (s.heap.update a (Obj.putSet (order.filterMap (es[·]?)) t')) := Heap.SameBut.update ..
  refine q _ L2 _ (ep + 1) t' sb ⟨⟨_, store_at ho hd, ⟨hex.1, hex.2.1, hex.2.2⟩, rfl⟩, r0, tab, (r2.map (·.2)).nodup_iff.mpr nd, fun p hpm => KD.stays (tup p (r2.mem_iff.mp hpm)) ho hd sb, by rw [el]; exact ld, ?_, by rw [r2.length_eq]; exact few⟩ r2
  rw [r2.length_eq, em]; exact hn
/-- one more -/
theorem KD.Has.add (R : D.Has s.heap a L es ep t) {x : Addr} {k : α} (hx : D.lies s.heap k x) (hu : A.units < cLine) (hfew : L.length + 1 < 64) {Q : Bool → Shared → Prop}
    (q : ∀ b h' L' es' ep' t', Heap.SameBut a s.heap h' → D.Has h' a L' es' ep' t' → (k ∈ L.map (·.2) → L' = L) → (k ∉ L.map (·.2) → L'.Perm ((x, k) :: L)) → Q b { s with heap := h' }) :
    wpAny (model P w) A (setAddHashed a (.ref x) (D.hash k)) Q E s := by
  obtain ⟨o, ho, hex, hd⟩ := R.ob
  have hsl := KD.ent_len D L R.rows
  have hroom := R.room
  unfold setAddHashed
  refine wpAny_holding ?_
  rw [show (100000 : Nat) = 99999 + 1 from rfl]; rw [setAddHashedIn_succ]
  refine wpAny_bind (wpAny_setState_of ho hd R.fits ?_); dsimp only
  refine wp_if_neg (by simp [byScan, Value.scannable]) ?_; try refine wpAny_bind (wpAny_pure ?_)
  refine wpAny_bind (R.look0 hx hu (fun hm => ?_) fun K hm hK hb => ?_)
  · dsimp only
    exact wpAny_pure (q false s.heap L es ep t (Heap.SameBut.refl a s.heap) R (fun _ => rfl) fun z => absurd hm z)
  · dsimp only
    refine wpAny_bind (wpAny_setState_of ho hd R.fits ?_); dsimp only
    obtain ⟨q1, q2, q3, q4, q5, q6, q7, q8, q9⟩ := R.tab.put hK hb
    generalize hpt : t.put (way t.mask (D.hash k) K) = pt at q1 q3 q4 q5 q6 q7 q8 q9 ⊢
    obtain ⟨t0, p⟩ := pt
    dsimp only at q1 q3 q4 q5 q6 q7 q8 q9 ⊢
    subst q1
    have onward : ∀ b : Bool, ∃ t1 : SetTable, (if b = true then t0 else { t0 with plain := false }) = t1 ∧ TabOk t1 ((L.map fun p => D.hash p.2).take (SetTable.below t.place (way t.mask (D.hash k) K)) ++ D.hash k :: (L.map fun p => D.hash p.2).drop (SetTable.below t.place (way t.mask (D.hash k) K))) ∧ t1.mask = t.mask ∧ t1.led = t.led ∧ t1.fill = (L.map fun p => D.hash p.2).length + 1 := fun b => by
      cases b
      · exact ⟨_, rfl, ⟨q3.ris, q3.dm, q3.sz, q3.mok, q3.bd, q3.reach⟩, q4, q5, q9⟩
      · exact ⟨_, rfl, q3, q4, q5, q9⟩
    suffices fin : ∀ b : Bool, wpAny (model P w) A (do
        storeSet a (SetTable.insertAt es (SetTable.below t.place (way t.mask (D.hash k) K)) (D.hash k, Value.ref x)) (if b = true then t0 else { t0 with plain := false })
        if (!false && (if b = true then t0 else { t0 with plain := false }).tooFull) = true then do
          setRelay a (SetTable.grown (es.size + 1)); pure true
        else pure true) Q E s by
      by_cases hpl : t0.plain = true
      · exact wp_if_pos hpl (wpAny_bind (D.hby hx fin))
      · exact wp_if_neg hpl (wpAny_bind (wpAny_pure (fin true)))
    intro b
    obtain ⟨t1, et1, q3, q4, q5, q9⟩ := onward b
    rw [et1]
    generalize hpp : SetTable.below t.place (way t.mask (D.hash k) K) = p at q2 q3 ⊢
    have pm := put_perm L p (x, k)
    obtain ⟨L1, eL1⟩ : ∃ L1, L1 = L.take p ++ (x, k) :: L.drop p := ⟨_, rfl⟩
    rw [← eL1] at pm
    have hlen : L1.length = L.length + 1 := pm.length_eq
    have rows1 : (SetTable.insertAt es p (D.hash k, Value.ref x)).toList = D.ent L1 := by
      rw [SetTable.toList_insertAt, R.rows, eL1]
      unfold KD.ent
      rw [List.map_append, List.map_cons, List.map_take, List.map_drop]
    have tab1 : TabOk t1 (L1.map fun p => D.hash p.2) := by
      rw [eL1, List.map_append, List.map_cons, List.map_take, List.map_drop]; exact q3
    have nd1 : (L1.map (·.2)).Nodup := (pm.map (·.2)).nodup_iff.mpr (List.nodup_cons.mpr ⟨hm, R.nd⟩)
    have hes := KD.ent_len D L1 rows1
    generalize SetTable.insertAt es p (D.hash k, Value.ref x) = es1 at rows1 hes ⊢
    refine wpAny_bind (wpAny_storeSet_of ho hd ?_ (by rw [hes, hlen, sizeLine_eq]; omega))
    have sb : Heap.SameBut a s.heap (s.heap.update a (Obj.putSet es1 t1)) := Heap.SameBut.update ..
    have ho1 := store_at (es' := es1) (t' := t1) ho hd
    generalize s.heap.update a (Obj.putSet es1 t1) = h1 at sb ho1 ⊢
    have tup1 : ∀ p ∈ L1, D.lies h1 p.2 p.1 := fun p hp => by
      rcases List.mem_cons.mp (pm.mem_iff.mp hp) with rfl | hp'
      · exact KD.stays hx ho hd sb
      · exact KD.stays (R.tup p hp') ho hd sb
    have ld1 : w.params.followText "set-order" = true ∨ t1.led = true := q5 ▸ R.led
    have fill1 : t1.tooFull = decide ((L.length + 1) * 5 ≥ t1.mask * 3) := by unfold SetTable.tooFull; rw [q9, List.length_map]
    by_cases hf : t1.tooFull = true
    · first
        | (refine wpAny_bind ?_; refine wp_if_pos (by simp [hf]) ?_)
        | (refine wp_if_pos (by simp [hf]) ?_; refine wpAny_bind ?_)
      have hfull : (L.length + 1) * 5 ≥ t1.mask * 3 := of_decide_eq_true (fill1 ▸ hf)
      rw [hsl]
      have two : (t.mask = 7 ∧ L.length = 4) ∨ (t.mask = 31 ∧ L.length = 18) := by
        rw [q4] at hfull
        rcases R.tab.mok with e | e | e
        · exact .inl ⟨e, by omega⟩
        · exact .inr ⟨e, by omega⟩
        · omega
      have sz1 : t1.place.size = es1.size := by rw [tab1.sz, List.length_map, hes]
      have go : ∀ M, SetTable.sizeAbove (SetTable.grown (L.length + 1)) - 1 = M → MaskOk M → SetTable.sizeAbove (SetTable.grown (L.length + 1)) ≤ 128 → (L.length + 1) * 5 < M * 3 →
          wpAny (model P w) A (setRelay a (SetTable.grown (L.length + 1))) (fun _ s' => wpAny (model P w) A (pure true) Q E s') E { s with heap := h1 } := fun M g1 g2 g3 g4 =>
        KD.relay (s := { s with heap := h1 }) ho1 ⟨hex.1, hex.2.1, hex.2.2⟩ rfl rows1 sz1 tab1.dm (by rw [hes, hlen, q4]; rcases two with ⟨e, e2⟩ | ⟨e, e2⟩ <;> omega) nd1 tup1 ld1 (by rw [hlen]; exact hfew) g1 g2 g3 (by rw [hlen]; exact g4)
          fun h2 L2 es2 ep2 t2 sb2 R2 pm2 => wpAny_pure (q true h2 L2 es2 ep2 t2 (sb.trans sb2) R2 (fun z => absurd z hm) fun _ => pm2.trans pm)
      rcases two with ⟨_, e2⟩ | ⟨_, e2⟩
      · exact go 31 (by rw [e2, size_20]) (.inr (.inl rfl)) (by rw [e2, size_20]; decide) (by omega)
      · exact go 127 (by rw [e2, size_76]) (.inr (.inr rfl)) (by rw [e2, size_76]; decide) (by omega)
    · first
        | refine wp_if_neg (by simp [hf]) ?_
        | (refine wpAny_bind ?_; refine wp_if_neg (by simp [hf]) ?_; refine wpAny_pure ?_)
      refine wpAny_pure (q true h1 L1 es1 (ep + 1) t1 sb ⟨⟨_, ho1, ⟨hex.1, hex.2.1, hex.2.2⟩, rfl⟩, rows1, tab1, nd1, tup1, ld1, ?_, by rw [hlen]; exact hfew⟩ (fun z => absurd z hm) fun _ => pm)
      rw [fill1] at hf
      have := mt decide_eq_true hf
      omega
end
end ND
/-! set(xs) of such objects -/
namespace ND
open PySem PySem.Spec PyProof.Rows L2
/-- what came in by the first i of ks -/
structure Came {α : Type} (ks : List (Addr × α)) (i : Nat) (L : List (Addr × α)) : Prop where
  inn : ∀ p ∈ L, p ∈ ks.take i
  all : ∀ p ∈ ks.take i, p.2 ∈ L.map (·.2)
  few : L.length ≤ i
section
variable {α : Type} {ks L L' : List (Addr × α)} {i : Nat} {x : Addr × α}
theorem Came.nil (ks : List (Addr × α)) : Came ks 0 [] := ⟨(fun p h => nomatch h), (fun p h => by simp at h), Nat.le_refl _⟩
theorem take1 {β : Type} {l : List β} {i : Nat} {x : β} (h : l[i]? = some x) : l.take (i + 1) = l.take i ++ [x] := by
  rw [List.take_add_one, h]; rfl
theorem Came.was (g : Came ks i L) (h : ks[i]? = some x) (hm : x.2 ∈ L.map (·.2)) : Came ks (i + 1) L := by
  refine ⟨fun p hp => by rw [take1 h]; exact List.mem_append_left _ (g.inn p hp), fun p hp => ?_, Nat.le_succ_of_le g.few⟩
  rw [take1 h] at hp
  rcases List.mem_append.mp hp with z | z
  · exact g.all p z
  · exact List.mem_singleton.mp z ▸ hm
theorem Came.one (g : Came ks i L) (h : ks[i]? = some x) (pm : L'.Perm (x :: L)) : Came ks (i + 1) L' := by
  refine ⟨fun p hp => ?_, fun p hp => ?_, by rw [pm.length_eq]; exact Nat.succ_le_succ g.few⟩
  · rw [take1 h]
    rcases List.mem_cons.mp (pm.mem_iff.mp hp) with rfl | z
    · exact List.mem_append_right _ List.mem_cons_self
    · exact List.mem_append_left _ (g.inn p z)
  · rw [(pm.map (·.2)).mem_iff, List.map_cons]
    rw [take1 h] at hp
    rcases List.mem_append.mp hp with z | z
    · exact List.mem_cons_of_mem _ (g.all p z)
    · exact List.mem_singleton.mp z ▸ List.mem_cons_self
end
section
variable {P : Program} {w : World} {α : Type} {D : KD P w α} {A : Around} {E : Value → Shared → Prop} {s : Shared}
theorem KD.kept {h h' : Heap} {k : α} {b : Addr} (x : D.lies h k b) (hk : ∀ c o, h.get? c = some o → h'.get? c = some o) : D.lies h' k b := D.keep x fun c o e _ => hk c o e
theorem KD.Has.kept {h h' : Heap} {a : Addr} {L : List (Addr × α)} {es : Array (Int × Value)} {ep : Nat} {t : SetTable} (R : D.Has h a L es ep t) (ha : ∀ o, h.get? a = some o → h'.get? a = some o) (ht : ∀ p ∈ L, D.lies h' p.2 p.1) : D.Has h' a L es ep t := by
  obtain ⟨o, ho, r⟩ := R.ob
  exact { R with ob := ⟨o, ha o ho, r⟩, tup := ht }
abbrev set0 (w : World) : Obj := { cls := .type "set", dict := none, data := .set #[] 0 (.fresh 0 0 (!w.params.followText "set-order")) }
theorem KD.Has.empty {h : Heap} {a : Addr} (ho : h.get? a = some (set0 w)) : D.Has h a [] #[] 0 (.fresh 0 0 (!w.params.followText "set-order")) where
  ob := ⟨_, ho, ⟨rfl, rfl, rfl⟩, rfl⟩
  rows := rfl
  tab := ⟨List.Pairwise.nil, rfl, rfl, .inl rfl, (fun x hx => nomatch hx), fun i h j hi => by simp at hi⟩
  nd := List.nodup_nil
  tup := fun p hp => nomatch hp
  led := by
    show w.params.followText "set-order" = true ∨ (!w.params.followText "set-order") = true
    cases w.params.followText "set-order" <;> simp
  room := show 0 * 5 < 7 * 3 by decide
  few := show 0 < 64 by decide
/-- the loop of set.update -/
theorem KD.loop (D : KD P w α) {I : Addr} {fp wr : List Addr} {G : Array GenState → Array GenState → Prop} {n : Nat} {Pv : Nat → Value → Prop} {St : Nat → Shared → Prop} {R : Result → Shared → Prop}
    (W : WalksS P w A.in1 I fp wr G n Pv St) (S : Addr) (hSf : S ∉ fp) (ks : List (Addr × α)) (hn : n = ks.length) (hfew : ks.length < 64) (hval : ∀ i v, Pv i v → ∃ p, ks[i]? = some p ∧ v = .ref p.1)
    (h0 : Heap) (hk : ∀ p ∈ ks, D.lies h0 p.2 p.1) (hS0 : h0.get? S = none) (hw0 : ∀ b ∈ wr, h0.get? b = none) (hu : A.in1.units < cLine) :
    ∀ (k i : Nat) (s : Shared), n - i = k → i ≤ n → St i s → (∀ b o, h0.get? b = some o → s.heap.get? b = some o) → (∃ L es ep t, D.Has s.heap S L es ep t ∧ Came ks i L) →
      (∀ s' L es ep t, Moved (S :: wr) G s s' → D.Has s'.heap S L es ep t → Came ks n L → (∀ b o, h0.get? b = some o → s'.heap.get? b = some o) → R (.ok (.ret .none)) s') →
      codeAny (model P w) A (.builtin "set.update.loop" ⟨[.ref S, .ref I], []⟩) R s
  | 0, i, s, hk', hi, hst, hkp, ⟨L, es, ep, t, hS, g⟩, hR => by
    obtain rfl : i = n := by omega
    refine codeAny_builtin F.entry_set_update_loop ?_
    rw [Around.under_plainId F.plain_set_update_loop _]; show wpAny _ A.in1 (pyNext (.ref I) >>= _) _ _ s
    refine wpAny_bind (W.done s _ _ hst fun s' hm => ?_); show wpAny _ A.in1 (ret Value.none) _ _ s'
    have hkp' : ∀ b o, h0.get? b = some o → s'.heap.get? b = some o := fun b o e => hm.heap b o (fun hb => by rw [hw0 b hb] at e; cases e) (hkp b o e)
    exact wpAny_pure (hR s' L es ep t (hm.mono fun b hb => List.mem_cons_of_mem _ hb) (hS.kept (fun o e => hm.heap S o (fun h => hSf (W.sub _ h)) e) fun p hp => KD.kept (hk p (List.mem_of_mem_take (g.inn p hp))) hkp') g hkp')
  | k + 1, i, s, hk', hi, hst, hkp, ⟨L, es, ep, t, hS, g⟩, hR => by
    have hlt : i < n := by omega
    refine codeAny_builtin F.entry_set_update_loop ?_
    rw [Around.under_plainId F.plain_set_update_loop _]; show wpAny _ A.in1 (pyNext (.ref I) >>= _) _ _ s
    refine wpAny_bind (W.item i s _ _ hlt hst fun v s' hP hst' hm => ?_)
    obtain ⟨p, hp, rfl⟩ := hval i v hP
    have hkp' : ∀ b o, h0.get? b = some o → s'.heap.get? b = some o := fun b o e => hm.heap b o (fun hb => by rw [hw0 b hb] at e; cases e) (hkp b o e)
    have hS' : D.Has s'.heap S L es ep t := hS.kept (fun o e => hm.heap S o (fun h => hSf (W.sub _ h)) e) fun q hq => KD.kept (hk q (List.mem_of_mem_take (g.inn q hq))) hkp'
    have hx : D.lies s'.heap p.2 p.1 := KD.kept (hk p (List.mem_of_getElem? hp)) hkp'
    show wpAny _ A.in1 (holding [Value.ref p.1] (setAdd S (.ref p.1)) >>= _) _ _ s'
    refine wpAny_bind (wpAny_holding ?_)
    unfold setAdd
    refine wpAny_holding (wpAny_bind (D.pyh hu hx fun tk => ?_))
    refine KD.Has.add (s := { s' with toks := s'.toks + tk }) hS' hx hu (by have := g.few; omega) fun b h' L' es' ep' t' hsb hS2 c1 c2 => ?_
    have g' : Came ks (i + 1) L' := by
      rcases Classical.em (p.2 ∈ L.map (·.2)) with c | c
      · rw [c1 c]; exact g.was hp c
      · exact g.one hp (c2 c)
    have hkp2 : ∀ b o, h0.get? b = some o → h'.get? b = some o := fun b o e => (hsb.2 b (fun z => by rw [z, hS0] at e; cases e)).trans (hkp' b o e)
    refine wpAny_pure ⟨plainId_quiet F.plain_set_update_loop _, KD.loop D W S hSf ks hn hfew hval h0 hk hS0 hw0 hu k (i + 1) _ (by omega) hlt (W.frame _ s' _ _ hst' (Nat.le_add_right _ _) fun b hb o e => ?_) hkp2 ⟨L', es', ep', t', hS2, g'⟩ fun s'' L2 es2 ep2 t2 hm'' hS'' g'' hkp'' => ?_⟩
    · rw [hsb.2 b fun h => hSf (h ▸ hb)]; exact e
    · refine hR s'' L2 es2 ep2 t2 (Moved.trans W.gtrans ((hm.mono fun b hb => List.mem_cons_of_mem _ hb).then_heap (Nat.le_add_right _ _) fun b o hb e => ?_) hm'') hS'' g'' hkp''
      rw [hsb.2 b fun h => hb (h ▸ List.mem_cons_self)]; exact e
theorem KD.call_list (D : KD P w α) {l : Addr} {items : Array Value} (ks : List (Addr × α)) {Q : Value → Shared → Prop} (hh : A.handled = none) (hl : s.heap.IsList l items) (hit : items.toList = ks.map fun p => Value.ref p.1)
    (hk : ∀ p ∈ ks, D.lies s.heap p.2 p.1) (hfew : ks.length < 64) (hu : A.units + 3 < cLine)
    (q : ∀ (h' : Heap) (tk : Nat) L es ep t, D.Has h' s.heap.objs.size L es ep t → Came ks ks.length L → (∀ b o, s.heap.get? b = some o → h'.get? b = some o) → Q (.ref s.heap.objs.size) { s with heap := h', toks := tk }) :
    wpAny (model P w) A (call (.type "set") [.ref l]) Q E s := by
  have hisz : items.size = ks.length := by rw [← Array.length_toList, hit]; exact List.length_map ..
  obtain ⟨c, tl, hmro⟩ := F.called_set.mro
  have hmade := F.called_set.made; have hsub := F.called_set.sub
  refine wpAny_call (codeAny_of_tree ?_); show wpAny _ _ (callAny (.type "set") _) _ _ _
  refine wpAny_pure ⟨Code.quiet_builtin _ (by decide +kernel), codeAny_builtin F.entry_type_call ?_⟩; rw [Around.under_plain (weight_type_call_type "set" [.ref l] []) rfl]
  have h1 := F.called_set.notType; have h2 := F.called_set.canCreate; have hct := F.typeCall_set_1 (.ref l)
  repeat (any_goals (first | assumption | wp_step))
  refine codeAny_mono (code_set_led1 (.ref l) (E := E) (Q₁ := fun obj s₁ => obj = .ref s.heap.objs.size ∧ s₁ = { s with heap := s.heap.push (set0 w) }) ⟨rfl, rfl⟩) fun r s₁ hr => ?_
  match r, hr with
  | .error e, hr => exact hr
  | .ok (.ret obj), hr =>
    obtain ⟨rfl, rfl⟩ := hr
    have hS : (s.heap.push (set0 w)).get? s.heap.objs.size = some (set0 w) := Heap.get?_push_size _ rfl
    have hT : Shared.TypeIs { s with heap := s.heap.push (set0 w) } (.ref s.heap.objs.size) "set" := ⟨_, hS, rfl⟩
    have hli := F.called_set.init.lookup; have hbi := F.called_set.init.bind (.ref s.heap.objs.size)
    repeat (any_goals (first | assumption | wp_step))
    refine codeAny_mono (codeAny_call_builtin (R := wants (fun r s₂ => r = .none ∧ ∃ h' tk L es ep t, s₂ = { s with heap := h', toks := tk } ∧ D.Has h' s.heap.objs.size L es ep t ∧ Came ks ks.length L ∧ ∀ b o, s.heap.get? b = some o → h'.get? b = some o) E) F.called_set.init.plain F.entry_set_init (check_set_init_1 hT ?_)) fun r₂ s₂ hr₂ => ?_
    · obtain ⟨ol, hol, hcl, nl, hdl⟩ := hl
      obtain ⟨ocls, odict, odata, oslots⟩ := ol
      simp only at hcl hdl
      subst hcl; subst hdl
      have hol' : (s.heap.push (set0 w)).get? l = some { cls := .type "list", dict := odict, data := .seq items nl, slots := oslots } := Heap.get?_push_of_some _ hol
      have hsls := F.sub_list_set; have hslf := F.sub_list_frozenset
      have hne : (Value.type "list" == Value.type "dict") = false := by decide
      have hl1 : (s.heap.push (set0 w)).IsList l items := ⟨_, hol', rfl, nl, rfl⟩
      unfold Builtin.«set.__init__» noKeywords Builtin.Frozenset.updateFrom
      generalize hPI : pyIter = PI
      wp_walk
      subst hPI
      refine wpAny_pyIter_list hl1 (wpAny_bind (wpAny_runValue ?_))
      have hlS : l < s.heap.objs.size := Heap.lt_size hol
      have hh3 : A.in1.in1.in1.handled = none := by simp [hh]
      have hz1 : (s.heap.push (set0 w)).objs.size = s.heap.objs.size + 1 := Heap.size_push ..
      have none_of : ∀ b, s.heap.objs.size ≤ b → s.heap.get? b = none := fun b hb => by
        cases e : s.heap.get? b with
        | none => rfl
        | some o => exact absurd (Nat.lt_of_lt_of_le (Heap.lt_size e) hb) (Nat.lt_irrefl _)
      have hval : ∀ (i : Nat) (v : Value), items[i]? = some v → ∃ p, ks[i]? = some p ∧ v = .ref p.1 := fun i v hv => by
        have e : items.toList[i]? = some v := by rw [Array.getElem?_toList]; exact hv
        rw [hit, List.getElem?_map] at e
        obtain ⟨p, hp, rfl⟩ := Option.map_eq_some_iff.mp e
        exact ⟨p, hp, rfl⟩
      refine KD.loop D ((Walks.list hh3 _ l (by rw [hz1]; exact Nat.ne_of_lt (Nat.lt_succ_of_lt hlS)) items).toS) s.heap.objs.size (by rw [hz1]; simp only [List.mem_cons, List.not_mem_nil, or_false, not_or]; exact ⟨Nat.ne_of_lt (Nat.lt_succ_self _), Nat.ne_of_gt hlS⟩) ks hisz hfew hval s.heap hk (none_of _ (Nat.le_refl _)) (fun b hb => none_of b (by
          rw [List.mem_singleton.mp hb, hz1]; exact Nat.le_succ _)) hu (items.size - 0) 0 _ (by omega) (Nat.zero_le _)
        ⟨⟨_, Heap.get?_push_size _ rfl, rfl, rfl⟩, (hl1.push _)⟩ (fun b o e => Heap.get?_push_of_some _ (Heap.get?_push_of_some _ e)) ?hS0 ?hR
      case hS0 =>
        exact ⟨[], #[], 0, _, KD.Has.empty (Heap.get?_push_of_some _ hS), Came.nil ks⟩
      case hR =>
        intro s' L es ep t hm hS' g' hkp
        obtain ⟨h', g2, d', tk', os'⟩ := s'
        obtain rfl : g2 = s.gens := hm.gens
        obtain rfl : d' = s.drawn := hm.drawn
        obtain rfl : os' = s.os := hm.os
        show wpAny _ _ _ _ _ _
        refine wpAny_pure ?_; show wpAny _ _ (ret Value.none) _ _ _
        rw [hisz] at g'
        exact wpAny_pure ⟨rfl, h', tk', L, es, ep, t, rfl, hS', g', hkp⟩
    · match r₂, hr₂ with
      | .error e, hr₂ => exact hr₂
      | .ok (.ret r), hr₂ =>
        obtain ⟨rfl, h', tk, L, es, ep, t, rfl, hS', g', hk'⟩ := hr₂
        repeat (any_goals (first | assumption | wp_step))
        exact q _ _ _ _ _ _ hS' g' hk'
      | .ok .next, hr₂ => exact hr₂.elim
      | .ok .brk, hr₂ => exact hr₂.elim
      | .ok .cont, hr₂ => exact hr₂.elim
  | .ok .next, hr => exact hr.elim
  | .ok .brk, hr => exact hr.elim
  | .ok .cont, hr => exact hr.elim
theorem KD.call_tuple (D : KD P w α) {l : Addr} {items : Array Value} (ks : List (Addr × α)) {Q : Value → Shared → Prop} (hh : A.handled = none) (hl : s.heap.IsTuple l items) (hit : items.toList = ks.map fun p => Value.ref p.1)
    (hk : ∀ p ∈ ks, D.lies s.heap p.2 p.1) (hfew : ks.length < 64) (hu : A.units + 3 < cLine)
    (q : ∀ (h' : Heap) (tk : Nat) L es ep t, D.Has h' s.heap.objs.size L es ep t → Came ks ks.length L → (∀ b o, s.heap.get? b = some o → h'.get? b = some o) → Q (.ref s.heap.objs.size) { s with heap := h', toks := tk }) :
    wpAny (model P w) A (call (.type "set") [.ref l]) Q E s := by
  have hisz : items.size = ks.length := by rw [← Array.length_toList, hit]; exact List.length_map ..
  obtain ⟨c, tl, hmro⟩ := F.called_set.mro
  have hmade := F.called_set.made; have hsub := F.called_set.sub
  refine wpAny_call (codeAny_of_tree ?_); show wpAny _ _ (callAny (.type "set") _) _ _ _
  refine wpAny_pure ⟨Code.quiet_builtin _ (by decide +kernel), codeAny_builtin F.entry_type_call ?_⟩; rw [Around.under_plain (weight_type_call_type "set" [.ref l] []) rfl]
  have h1 := F.called_set.notType; have h2 := F.called_set.canCreate; have hct := F.typeCall_set_1 (.ref l)
  repeat (any_goals (first | assumption | wp_step))
  refine codeAny_mono (code_set_led1 (.ref l) (E := E) (Q₁ := fun obj s₁ => obj = .ref s.heap.objs.size ∧ s₁ = { s with heap := s.heap.push (set0 w) }) ⟨rfl, rfl⟩) fun r s₁ hr => ?_
  match r, hr with
  | .error e, hr => exact hr
  | .ok (.ret obj), hr =>
    obtain ⟨rfl, rfl⟩ := hr
    have hS : (s.heap.push (set0 w)).get? s.heap.objs.size = some (set0 w) := Heap.get?_push_size _ rfl
    have hT : Shared.TypeIs { s with heap := s.heap.push (set0 w) } (.ref s.heap.objs.size) "set" := ⟨_, hS, rfl⟩
    have hli := F.called_set.init.lookup; have hbi := F.called_set.init.bind (.ref s.heap.objs.size)
    repeat (any_goals (first | assumption | wp_step))
    refine codeAny_mono (codeAny_call_builtin (R := wants (fun r s₂ => r = .none ∧ ∃ h' tk L es ep t, s₂ = { s with heap := h', toks := tk } ∧ D.Has h' s.heap.objs.size L es ep t ∧ Came ks ks.length L ∧ ∀ b o, s.heap.get? b = some o → h'.get? b = some o) E) F.called_set.init.plain F.entry_set_init (check_set_init_1 hT ?_)) fun r₂ s₂ hr₂ => ?_
    · obtain ⟨ol, hol, hcl, nl, hdl⟩ := hl
      obtain ⟨ocls, odict, odata, oslots⟩ := ol
      simp only at hcl hdl
      subst hcl; subst hdl
      have hol' : (s.heap.push (set0 w)).get? l = some { cls := .type "tuple", dict := odict, data := .seq items nl, slots := oslots } := Heap.get?_push_of_some _ hol
      have hsls := F.sub_tuple_set; have hslf := F.sub_tuple_frozenset
      have hne : (Value.type "tuple" == Value.type "dict") = false := by decide
      have hl1 : (s.heap.push (set0 w)).IsTuple l items := ⟨_, hol', rfl, nl, rfl⟩
      unfold Builtin.«set.__init__» noKeywords Builtin.Frozenset.updateFrom
      generalize hPI : pyIter = PI
      wp_walk
      subst hPI
      refine wpAny_pyIter_tuple hl1 (wpAny_bind (wpAny_runValue ?_))
      have hlS : l < s.heap.objs.size := Heap.lt_size hol
      have hh3 : A.in1.in1.in1.handled = none := by simp [hh]
      have hz1 : (s.heap.push (set0 w)).objs.size = s.heap.objs.size + 1 := Heap.size_push ..
      have none_of : ∀ b, s.heap.objs.size ≤ b → s.heap.get? b = none := fun b hb => by
        cases e : s.heap.get? b with
        | none => rfl
        | some o => exact absurd (Nat.lt_of_lt_of_le (Heap.lt_size e) hb) (Nat.lt_irrefl _)
      have hval : ∀ (i : Nat) (v : Value), items[i]? = some v → ∃ p, ks[i]? = some p ∧ v = .ref p.1 := fun i v hv => by
        have e : items.toList[i]? = some v := by rw [Array.getElem?_toList]; exact hv
        rw [hit, List.getElem?_map] at e
        obtain ⟨p, hp, rfl⟩ := Option.map_eq_some_iff.mp e
        exact ⟨p, hp, rfl⟩
      refine KD.loop D ((Walks.tuple hh3 _ l (by rw [hz1]; exact Nat.ne_of_lt (Nat.lt_succ_of_lt hlS)) items).toS) s.heap.objs.size (by rw [hz1]; simp only [List.mem_cons, List.not_mem_nil, or_false, not_or]; exact ⟨Nat.ne_of_lt (Nat.lt_succ_self _), Nat.ne_of_gt hlS⟩) ks hisz hfew hval s.heap hk (none_of _ (Nat.le_refl _)) (fun b hb => none_of b (by
          rw [List.mem_singleton.mp hb, hz1]; exact Nat.le_succ _)) hu (items.size - 0) 0 _ (by omega) (Nat.zero_le _)
        ⟨⟨_, Heap.get?_push_size _ rfl, rfl, rfl⟩, (hl1.push _)⟩ (fun b o e => Heap.get?_push_of_some _ (Heap.get?_push_of_some _ e)) ?hS0 ?hR
      case hS0 =>
        exact ⟨[], #[], 0, _, KD.Has.empty (Heap.get?_push_of_some _ hS), Came.nil ks⟩
      case hR =>
        intro s' L es ep t hm hS' g' hkp
        obtain ⟨h', g2, d', tk', os'⟩ := s'
        obtain rfl : g2 = s.gens := hm.gens
        obtain rfl : d' = s.drawn := hm.drawn
        obtain rfl : os' = s.os := hm.os
        show wpAny _ _ _ _ _ _
        refine wpAny_pure ?_; show wpAny _ _ (ret Value.none) _ _ _
        rw [hisz] at g'
        exact wpAny_pure ⟨rfl, h', tk', L, es, ep, t, rfl, hS', g', hkp⟩
    · match r₂, hr₂ with
      | .error e, hr₂ => exact hr₂
      | .ok (.ret r), hr₂ =>
        obtain ⟨rfl, h', tk, L, es, ep, t, rfl, hS', g', hk'⟩ := hr₂
        repeat (any_goals (first | assumption | wp_step))
        exact q _ _ _ _ _ _ hS' g' hk'
      | .ok .next, hr₂ => exact hr₂.elim
      | .ok .brk, hr₂ => exact hr₂.elim
      | .ok .cont, hr₂ => exact hr₂.elim
  | .ok .next, hr => exact hr.elim
  | .ok .brk, hr => exact hr.elim
  | .ok .cont, hr => exact hr.elim
end
end ND
/-! tuples of ints and texts as such keys; len(set(xs)) -/
namespace ND
open PySem PySem.Spec PyProof.Rows L2
section
variable {P : Program} {w : World} {A : Around} {E : Value → Shared → Prop} {s : Shared}
theorem items_flat {k : List Key} {vs : List Value} (h : ItemsAre (mixKind P w) k vs) : ∀ v ∈ vs, (∃ i t, v = Value.int i t) ∨ ∃ x t, v = Value.str x t := by
  induction h with
  | nil => exact fun v hv => nomatch hv
  | cons h1 _ ih =>
    intro v hv
    rcases List.mem_cons.mp hv with rfl | hv
    · rcases keyIs_shape h1 with ⟨i, t, _, e⟩ | ⟨x, t, _, e⟩
      · exact .inl ⟨i, t, e⟩
      · exact .inr ⟨x, t, e⟩
    · exact ih v hv
theorem ofc_flat (n : Nat) {v : Value} (h : (∃ i t, v = Value.int i t) ∨ ∃ x t, v = Value.str x t) : ofAClassStatement n v = pure false := by
  rcases h with ⟨i, t, rfl⟩ | ⟨x, t, rfl⟩ <;> cases n <;> rfl
theorem hby_flat (n : Nat) {v : Value} (h : (∃ i t, v = Value.int i t) ∨ ∃ x t, v = Value.str x t) : ∃ b, hashByValue n v = pure b := by
  rcases h with ⟨i, t, rfl⟩ | ⟨x, t, rfl⟩
  · exact ⟨true, by cases n <;> rfl⟩
  · exact ⟨false, by cases n <;> rfl⟩
theorem ofc_mix {k : List Key} {b : Addr} {Q : Bool → Shared → Prop} (hk : IsTupleKey (mixKind P w) s.heap k b) (q : Q false s) : wpAny (model P w) A (ofAClassStatement 8 (.ref b)) Q E s := by
  have hT := hk.typeIs
  obtain ⟨o, items, n, ho, _, hd, hi⟩ := hk
  unfold ofAClassStatement
  refine wpAny_bind (wpAny_typeOf hT ?_); dsimp only
  have e : (("tuple" : String) == "tuple") = true := by decide
  simp only [e, if_true, Bool.not_true, Bool.false_eq_true, if_false]
  try refine wpAny_bind (wpAny_pure ?_)
  try simp only [Bool.not_true, Bool.false_eq_true, if_false]
  show wpAny _ _ (seqItems? (.ref b) >>= _) _ _ s
  refine wpAny_bind (wpAny_seqItems ho hd ?_); dsimp only
  refine wpAny_bind ?_; show wpAny _ _ (forIn items _ _) _ _ s
  rw [← Array.forIn_toList]
  refine wpAny_forIn_list _ (fun rest r s' => (r.1 = none ∧ s' = s) ∧ ∀ v ∈ rest, (∃ i t, v = Value.int i t) ∨ ∃ x t, v = Value.str x t) _ ?_ ?_ _ _ ⟨⟨rfl, rfl⟩, items_flat hi⟩
  · rintro v rest r s' ⟨⟨hr, rfl⟩, hall⟩
    rw [ofc_flat _ (hall v List.mem_cons_self)]
    refine wpAny_bind (wpAny_pure ?_); simp only [Bool.false_eq_true, if_false]
    exact wpAny_pure ⟨⟨rfl, rfl⟩, fun u hu => hall u (List.mem_cons_of_mem _ hu)⟩
  · rintro ⟨r1, r2⟩ s' ⟨⟨hr, rfl⟩, _⟩
    obtain rfl : r1 = none := hr
    exact wpAny_pure q
theorem hby_mix {k : List Key} {b : Addr} {Q : Bool → Shared → Prop} (hk : IsTupleKey (mixKind P w) s.heap k b) (q : ∀ c, Q c s) : wpAny (model P w) A (hashByValue 8 (.ref b)) Q E s := by
  have hT := hk.typeIs
  obtain ⟨o, items, n, ho, _, hd, hi⟩ := hk
  unfold hashByValue
  refine wpAny_bind (wpAny_specialOf hT F.slot_tuple_hash.lookup ?_); show wpAny _ _ (seqItems? (.ref b) >>= _) _ _ s
  refine wpAny_bind (wpAny_seqItems ho hd (wpAny_bind ?_)); show wpAny _ _ (forIn items _ _) _ _ s
  rw [← Array.forIn_toList]
  refine wpAny_forIn_list _ (fun rest r s' => s' = s ∧ ∀ v ∈ rest, (∃ i t, v = Value.int i t) ∨ ∃ x t, v = Value.str x t) _ ?_ ?_ _ _ ⟨rfl, items_flat hi⟩
  · rintro v rest r s' ⟨rfl, hall⟩
    obtain ⟨c, e⟩ := hby_flat 7 (hall v List.mem_cons_self)
    rw [e]
    refine wpAny_bind (wpAny_pure ?_)
    cases c
    · simp only [Bool.not_false, if_true]
      exact wpAny_pure (show wpAny _ _ (pure false) _ _ _ from wpAny_pure (q _))
    · simp only [Bool.not_true, Bool.false_eq_true, if_false]
      exact wpAny_pure ⟨rfl, fun u hu => hall u (List.mem_cons_of_mem _ hu)⟩
  · rintro ⟨r1, r2⟩ s' ⟨rfl, _⟩
    cases r1 with
    | none => exact wpAny_pure (q _)
    | some c => exact wpAny_pure (q _)
end
/-- tuples of ints and texts -/
def mixKD (P : Program) (w : World) : KD P w (List Key) where
  dec := inferInstance
  lies := fun h k a => IsTupleKey (mixKind P w) h k a
  hash := tupleKeyHash (mixKind P w)
  eqb := fun hu hx hy q => wpAny_eqBool_tuple hu hx hy q
  quiet := fun hx q => wpAny_eqIsQuiet_tuple hx q
  ofc := fun hx q => ofc_mix hx q
  hby := fun hx q => hby_mix hx q
  pyh := fun hu hx q => wpAny_pyHash_tuple hu hx (q _)
  keep := fun hx k => by
    obtain ⟨o, items, n, ho, hc, hd, hi⟩ := hx
    exact ⟨o, items, n, k _ o ho (fun es ep t e => by rw [hd] at e; cases e), hc, hd, hi⟩
theorem perm_of_nodup {β : Type} [DecidableEq β] : ∀ {xs ys : List β}, xs.Nodup → (∀ x ∈ xs, x ∈ ys) → ys.length ≤ xs.length → ys.Perm xs
  | [], [], _, _, _ => .refl _
  | [], _ :: _, _, _, h => absurd h (Nat.not_succ_le_zero _)
  | x :: xs, ys, hn, hs, hl => by
    have hx := hs x List.mem_cons_self
    have h1 := List.nodup_cons.mp hn
    have hlen := List.length_erase_of_mem hx
    refine (List.perm_cons_erase hx).trans (.cons x (perm_of_nodup h1.2 (fun z hz => (List.mem_erase_of_ne (show z ≠ x from fun e => h1.1 (e ▸ hz))).mpr (hs z (List.mem_cons_of_mem _ hz))) ?_))
    rw [hlen]
    rw [List.length_cons] at hl
    omega
/-- a set of n -/
def LenSet (h : Heap) (a : Addr) (n : Nat) : Prop := ∃ o es ep t, h.get? a = some o ∧ o.ExactSet ∧ o.data = .set es ep t ∧ t.fits es.size = true ∧ es.size = n ∧ n < 64
def SetN (a : Addr) (n : Nat) : HO := .ext fun h => LenSet h a n
theorem setN_ok {P : Program} {w : World} {H : Hp} {h : Heap} {a : Addr} {n : Nat} (R : LenSet h a n) : ObjOk P w H h a (SetN a n) := by
  have R0 := R
  obtain ⟨o, es, ep, t, ho, r⟩ := R
  refine ⟨R0, ⟨o, ho⟩, fun h1 h2 p k => ?_⟩
  have p' : LenSet h1 a n := p
  obtain ⟨o', es', ep', t', ho', r'⟩ := p'
  exact ⟨o', es', ep', t', k o' ho', r'⟩
theorem items_mix {P : Program} {w : World} : ∀ {k : List Key} {us : List Value}, Vals (k.map kV) us → ItemsAre (mixKind P w) k us
  | [], _, .nil => .nil
  | .inl n :: k, _, .cons r t => by
    obtain ⟨tk, rfl⟩ := r
    exact .cons (mixKind_int P w n tk) (items_mix t)
  | .inr n :: k, _, .cons r t => by
    obtain ⟨tk, rfl⟩ := r
    exact .cons (mixKind_str P w n tk) (items_mix t)
theorem refs_vals {α : Type} : ∀ {ks : List (Addr × α)} {us : List Value}, Vals (ks.map fun p => V.ref p.1) us → us = ks.map fun p => Value.ref p.1
  | [], _, .nil => rfl
  | p :: ks, _, .cons r t => by
    cases r
    rw [refs_vals t]; rfl
section
variable {X : Cx}
theorem inv_mix {pins : List (Addr × Obj)} {σ : L2.St} {H : Hp} {s : Shared} {b : Addr} {k : List Key} (I : Inv X pins σ H s) (h : SqT X.K H b (k.map kV)) : IsTupleKey (mixKind X.prog X.w) s.heap k b := by
  obtain ⟨its, r, ⟨o, ho, hc, n, hd⟩, _⟩ := I.tuple h
  exact ⟨o, its.toArray, n, ho, hc, hd, by simpa using items_mix r⟩
/-- set(xs), xs a list or a tuple of tuples of ints and texts -/
def rSetK (K : PySem.W.Frag) : List V → Hp → VK → Prop := fun xs H Q => ∃ (l : Addr) (ks : List (Addr × List Key)), xs = [V.ref l] ∧ (SqL K H l (ks.map fun p => V.ref p.1) ∨ SqT K H l (ks.map fun p => V.ref p.1)) ∧ (∀ p ∈ ks, SqT K H p.1 (p.2.map kV)) ∧ ks.length < 64 ∧
  ∀ a n, H a = none → n ≤ ks.length → (n = ks.length ↔ (ks.map (·.2)).Nodup) → Q (.ref a) (upd H a (SetN a n))
theorem cr_setK (hc : X.calm = true) (hu : X.A.units + 64 < cLine) : CallR X (.type "set") (rSetK X.K) := by
  intro pins s σ H xs us Q I r h
  obtain ⟨l, ks, rfl, hl, hk, hf, q⟩ := h
  rw [Vals.ref1 r]
  have hn : H s.heap.objs.size = none := I.hok.fresh (Nat.le_refl _)
  have fin : ∀ (h' : Heap) (tk : Nat) L es ep t, (mixKD X.prog X.w).Has h' s.heap.objs.size L es ep t → Came ks ks.length L → (∀ b o, s.heap.get? b = some o → h'.get? b = some o) → EP X pins σ Q (.ref s.heap.objs.size) { s with heap := h', toks := tk } := by
    intro h' tk L es ep t R g k
    obtain ⟨o, ho, hex, hd⟩ := R.ob
    have hes := KD.ent_len _ L R.rows
    have ls : LenSet h' s.heap.objs.size L.length := ⟨o, es, ep, t, ho, hex, hd, KD.Has.fits (s := { s with heap := h' }) R, hes, R.few⟩
    refine ⟨.ref s.heap.objs.size, upd H s.heap.objs.size (SetN s.heap.objs.size L.length), I.laid (t' := tk) k (Nat.le_refl _) (setN_ok ls), rfl, q _ _ hn g.few ⟨fun e => ?_, fun hnd => ?_⟩⟩
    · have hp : (ks.map (·.2)).Perm (L.map (·.2)) := perm_of_nodup R.nd (fun x hx => by
        obtain ⟨p, hp, rfl⟩ := List.mem_map.mp hx
        exact List.mem_map.mpr ⟨p, List.mem_of_mem_take (g.inn p hp), rfl⟩) (by rw [List.length_map, List.length_map, e]; exact Nat.le_refl _)
      exact hp.nodup_iff.mpr R.nd
    · refine Nat.le_antisymm g.few ?_
      have := nodup_le hnd (ys := L.map (·.2)) fun x hx => by
        obtain ⟨p, hp, rfl⟩ := List.mem_map.mp hx
        exact g.all p (by rw [List.take_length]; exact hp)
      rwa [List.length_map, List.length_map] at this
  rcases hl with hl | hl
  · obtain ⟨its, rv, pl, hz⟩ := I.list hl
    exact KD.call_list (mixKD X.prog X.w) ks (I.ok.hd hc) pl.isList (by simpa using refs_vals rv) (fun p hp => inv_mix I (hk p hp)) hf (by omega) fin
  · obtain ⟨its, rv, pl, hz⟩ := I.tuple hl
    exact KD.call_tuple (mixKD X.prog X.w) ks (I.ok.hd hc) pl (by simpa using refs_vals rv) (fun p hp => inv_mix I (hk p hp)) hf (by omega) fin
theorem call_lenN : CallR X (.builtin "len") (fun xs H Q => ∃ (a : Addr) (n : Nat), xs = [.ref a] ∧ H a = some (SetN a n) ∧ Q (.int ((n : Nat) : Int)) H) := by
  intro pins s σ H xs us Q I r h
  obtain ⟨a, n, rfl, ha, q⟩ := h
  rw [Vals.ref1 r]
  have R : LenSet s.heap a n := (I.hok a _ ha).1
  obtain ⟨o, es, ep, t, ho, hex, hd, hf, hes, hl⟩ := R
  refine call_len_set ho hex hd hf (by omega) ?_
  exact ⟨.int ((n : Nat) : Int), H, I.tok _, ⟨_, by rw [hes]⟩, q⟩
end
end ND
/-! spots, wares, sheets: as plain data, and how they lie in the heap -/
namespace ND
open PySem PySem.Spec PyProof.Rows L2
abbrev Spot := Str × Int
def dat (s : Spot) : PyData := .tuple [.str s.1, .int s.2]
def spotLe (s t : Spot) : Bool := PySem.W.dataLe false dat s t
def spSort (ss : List Spot) : List Spot := ss.mergeSort spotLe
def SpV (K : PySem.W.Frag) (G : Hp) (v : V) (s : Spot) : Prop := ∃ r, v = .ref r ∧ GT K G r [.str s.1, .int s.2]
/-- values and what they stand for -/
def All2 {α : Type} (R : V → α → Prop) (vs : List V) (ss : List α) : Prop := ∃ bs : List (V × α), bs.map (·.1) = vs ∧ bs.map (·.2) = ss ∧ ∀ b ∈ bs, R b.1 b.2
/-- a list of spots -/
def SpotsAt (K : PySem.W.Frag) (G : Hp) (a : Addr) (ss : List Spot) : Prop := ∃ vs, Rd G a (.lst vs) ∧ All2 (SpV K G) vs ss
section
variable {α : Type} {R : V → α → Prop} {vs us : List V} {ss ts : List α}
theorem All2.nil : All2 R [] [] := ⟨[], rfl, rfl, fun _ h => nomatch h⟩
theorem All2.cons {v : V} {s : α} (h : R v s) (t : All2 R vs ss) : All2 R (v :: vs) (s :: ss) := by
  obtain ⟨bs, rfl, rfl, hb⟩ := t
  refine ⟨(v, s) :: bs, rfl, rfl, fun b hb' => ?_⟩
  rcases List.mem_cons.mp hb' with rfl | h1
  · exact h
  · exact hb b h1
theorem All2.len (t : All2 R vs ss) : vs.length = ss.length := by
  obtain ⟨bs, rfl, rfl, hb⟩ := t
  rw [List.length_map, List.length_map]
theorem All2.app (t : All2 R vs ss) (u : All2 R us ts) : All2 R (vs ++ us) (ss ++ ts) := by
  obtain ⟨bs, rfl, rfl, hb⟩ := t
  obtain ⟨cs, rfl, rfl, hc⟩ := u
  refine ⟨bs ++ cs, List.map_append, List.map_append, fun b h => ?_⟩
  rcases List.mem_append.mp h with h1 | h1
  · exact hb b h1
  · exact hc b h1
theorem All2.snoc {v : V} {s : α} (t : All2 R vs ss) (h : R v s) : All2 R (vs ++ [v]) (ss ++ [s]) := t.app (.cons h .nil)
theorem All2.imp {R' : V → α → Prop} (t : All2 R vs ss) (h : ∀ v s, R v s → R' v s) : All2 R' vs ss := by
  obtain ⟨bs, h1, h2, hb⟩ := t
  exact ⟨bs, h1, h2, fun b hb' => h _ _ (hb b hb')⟩
theorem All2.sub (t : All2 R vs ss) (h : us.Sublist vs) : ∃ ts, ts.Sublist ss ∧ All2 R us ts := by
  obtain ⟨bs, rfl, rfl, hb⟩ := t
  obtain ⟨l, hl, rfl⟩ := List.sublist_map_iff.mp h
  exact ⟨l.map (·.2), hl.map _, l, rfl, rfl, fun b hb' => hb b (hl.subset hb')⟩
theorem All2.at {i : Nat} {v : V} (t : All2 R vs ss) (h : vs[i]? = some v) : ∃ s, ss[i]? = some s ∧ R v s := by
  obtain ⟨bs, rfl, rfl, hb⟩ := t
  rw [List.getElem?_map] at h
  obtain ⟨b, hb', rfl⟩ := Option.map_eq_some_iff.mp h
  exact ⟨b.2, by rw [List.getElem?_map, hb']; rfl, hb b (List.mem_of_getElem? hb')⟩
theorem All2.mem {v : V} (t : All2 R vs ss) (h : v ∈ vs) : ∃ s ∈ ss, R v s := by
  obtain ⟨bs, rfl, rfl, hb⟩ := t
  obtain ⟨b, hb', rfl⟩ := List.mem_map.mp h
  exact ⟨b.2, List.mem_map.mpr ⟨b, hb', rfl⟩, hb b hb'⟩
end
section
variable {K : PySem.W.Frag} {G H : Hp} {v : V} {s : Spot} {a : Addr} {ss : List Spot}
theorem SpV.mono (h : SpV K G v s) (e : Same G H) : SpV K H v s := by
  obtain ⟨r, rfl, t⟩ := h
  exact ⟨r, rfl, t.mono e⟩
theorem SpotsAt.mono (h : SpotsAt K G a ss) (e : Same G H) : SpotsAt K H a ss := by
  obtain ⟨vs, t, l⟩ := h
  exact ⟨vs, Evl.ex_rd e t, l.imp fun _ _ h => h.mono e⟩
theorem SpV.dp (h : SpV K G v s) : Dp K G v (dat s) := by
  obtain ⟨r, rfl, t⟩ := h
  exact .tup t.1 (.cons (.str _) (.cons (.int _) .nil))
end
/-- sorted(xs) of spots -/
def rSortSp (K : PySem.W.Frag) : List V → Hp → VK → Prop := fun vs H Q => ∃ (a : Addr) (ws : List V) (ss : List Spot) (R : V → Spot → Prop), vs = [.ref a] ∧ SqL K H a ws ∧ All2 R ws ss ∧ (∀ v s, R v s → SpV K H v s) ∧ ∀ (p : Addr) (us : List V), H p = none → All2 R us (spSort ss) → us.Perm ws → Q (.ref p) (upd H p (.lst us))
theorem cr_sortSp {X : Cx} (hu : X.A.units + 80 < cLine) : CallR X (.builtin "sorted") (rSortSp X.K) := by
  intro pins s σ H vs us Q I r h
  obtain ⟨a, ws, ss, R, rfl, hs, ⟨bs, rfl, rfl, hb⟩, hR, q⟩ := h
  refine cr_sortD hu pins s σ H _ us Q I r ⟨a, bs.map fun b => (b.1, dat b.2), rfl, ?_, ?_, ?_, ?_, ?_, fun p np => ?_⟩
  · rw [List.map_map]; exact hs
  · intro b hb'
    obtain ⟨c, hc, rfl⟩ := List.mem_map.mp hb'
    exact (hR _ _ (hb c hc)).dp
  · rw [List.map_map]
    exact PySem.W.AllAlike.of fun b b' => rfl
  · refine .inl fun d hd => ?_
    rw [List.map_map] at hd
    obtain ⟨c, hc, rfl⟩ := List.mem_map.mp hd
    exact ⟨_, _, rfl⟩
  · intro b hb'
    obtain ⟨c, hc, rfl⟩ := List.mem_map.mp hb'
    exact Nat.le_trans (show (dat c.2).depth ≤ 1 from Nat.le_refl 1) (by decide)
  · have e1 : srt (bs.map fun b => (b.1, dat b.2)) = (bs.mergeSort fun b c => spotLe b.2 c.2).map fun b => (b.1, dat b.2) := by
      unfold srt
      exact (List.map_mergeSort (f := fun b : V × Spot => (b.1, dat b.2)) (r := fun b c => spotLe b.2 c.2) (s := PySem.W.dataLe false fun x : V × PyData => x.2) (fun b _ c _ => rfl)).symm
    rw [e1, List.map_map]
    refine q p _ np ⟨bs.mergeSort fun b c => spotLe b.2 c.2, rfl, ?_, fun b hb' => hb b (List.mem_mergeSort.mp hb')⟩ ((List.mergeSort_perm _ _).map _)
    exact List.map_mergeSort fun b _ c _ => rfl
/-- all spots, date by date -/
def spots0 (kinds : List Str) (n : Nat) : List Spot := (List.range n).flatMap fun t : Nat => kinds.map fun k => (k, ((t : Nat) : Int))
def allSpots (kinds : List Str) (n : Nat) : List Spot := spSort (spots0 kinds n)
end ND
/-! wares and sheets -/
namespace ND
open PySem PySem.Spec PyProof.Rows L2
structure Ware where
  slots : List Spot
  amount : Int
  cost : Option Int
  roll : Option Spot
/-- a ware as it lies in the heap: its dict at a, its slots at sl, its roll rv -/
structure WH where
  lab : Str
  a : Addr
  sl : Addr
  rv : V
  w : Ware
def optI : Option Int → V
  | none => .non
  | some n => .int n
def wareD (e : WH) : List (Key × V) := [(kS "slots", .ref e.sl), (kS "amount", .int e.w.amount), (kS "cost", optI e.w.cost), (kS "roll", e.rv)]
def RollAt (K : PySem.W.Frag) (G : Hp) (v : V) : Option Spot → Prop
  | none => v = .non
  | some s => SpV K G v s
structure WOk (K : PySem.W.Frag) (G : Hp) (e : WH) : Prop where
  sl : SpotsAt K G e.sl e.w.slots
  rv : RollAt K G e.rv e.w.roll
def labD (ws : List WH) : List (Key × V) := ws.map fun e => (kS e.lab, .ref e.a)
def lastS : List Spot → Int
  | [] => -1
  | [s] => s.2
  | s :: t :: r => max s.2 (lastS (t :: r))
theorem lastS_mem : ∀ {ss : List Spot}, ss ≠ [] → lastS ss ∈ ss.map (·.2)
  | [], h => absurd rfl h
  | [s], _ => List.mem_cons_self
  | s :: t :: r, _ => by
    have := lastS_mem (ss := t :: r) (by simp)
    show max s.2 (lastS (t :: r)) ∈ s.2 :: (t :: r).map (·.2)
    rcases Int.le_total s.2 (lastS (t :: r)) with h | h
    · rw [Int.max_eq_right h]; exact List.mem_cons_of_mem _ this
    · rw [Int.max_eq_left h]; exact List.mem_cons_self
theorem lastS_max : ∀ {ss : List Spot} {y : Int}, y ∈ ss.map (·.2) → y ≤ lastS ss
  | [], _, h => nomatch h
  | [s], y, h => by
    have : y = s.2 := by simpa using h
    subst this
    exact Int.le_refl _
  | s :: t :: r, y, h => by
    show y ≤ max s.2 (lastS (t :: r))
    rcases List.mem_cons.mp h with h1 | h1
    · rw [h1]; exact Int.le_max_left _ _
    · exact Int.le_trans (lastS_max (ss := t :: r) h1) (Int.le_max_right _ _)
theorem lastS_uniq {ss : List Spot} {m : Int} (h1 : m ∈ ss.map (·.2)) (h2 : ∀ y, y ∈ ss.map (·.2) → y ≤ m) : m = lastS ss := by
  have hne : ss ≠ [] := by rintro rfl; cases h1
  exact Int.le_antisymm (lastS_max h1) (h2 _ (lastS_mem hne))
section
variable {K : PySem.W.Frag} {G G' H : Hp} {e : WH}
theorem RollAt.mono {v : V} {r : Option Spot} (h : RollAt K G v r) (s : Same G G') : RollAt K G' v r := by
  cases r with
  | none => exact h
  | some r => exact SpV.mono h s
theorem WOk.mono (h : WOk K G e) (s : Same G G') : WOk K G' e := ⟨h.sl.mono s, h.rv.mono s⟩
end
/-- all wares, still open -/
structure WsAt (K : PySem.W.Frag) (d aw : Addr) (H0 G H : Hp) (ws : List WH) : Prop where
  nd : (ws.map (·.a)).Nodup
  lo : ∀ e ∈ ws, Lo d aw H0 G H e.a (.dK (wareD e))
  ok : ∀ e ∈ ws, WOk K G e
section
variable {K : PySem.W.Frag} {d aw ac p : Addr} {T : Nat} {G0 H0 G H G' H' : Hp} {ws : List WH} {o : HO}
theorem WsAt.step (A : WsAt K d aw H0 G H ws) (s : Stp d aw G H G' H') : WsAt K d aw H0 G' H' ws :=
  ⟨A.nd, fun e he => (A.lo e he).step s, fun e he => (A.ok e he).mono s.g⟩
theorem WsAt.newN (A : WsAt K d aw H0 G H ws) (n : H p = none) (gp : G p = none) : WsAt K d aw H0 (upd G p o) (upd H p o) ws :=
  ⟨A.nd, fun e he => (A.lo e he).newN n, fun e he => (A.ok e he).mono (same_add gp)⟩
theorem WsAt.othN (A : WsAt K d aw H0 G H ws) (n : H p = none) : WsAt K d aw H0 G (upd H p o) ws :=
  ⟨A.nd, fun e he => (A.lo e he).othN n, A.ok⟩
theorem WsAt.oth (A : WsAt K d aw H0 G H ws) (n : ∀ e ∈ ws, e.a ≠ p) : WsAt K d aw H0 G (upd H p o) ws :=
  ⟨A.nd, fun e he => (A.lo e he).oth (n e he), A.ok⟩
theorem WsAt.sealO (A : WsAt K d aw H0 G H ws) (l : Lo d aw H0 G H p o) (n : ∀ e ∈ ws, e.a ≠ p) : WsAt K d aw H0 (upd G p o) H ws :=
  ⟨A.nd, fun e he => (A.lo e he).sealO (n e he), fun e he => (A.ok e he).mono (same_add l.g)⟩
/-- the wares stay as they are from here on -/
theorem WsAt.seal : ∀ {ws : List WH} {G : Hp}, WsAt K d aw H0 G H ws → Wk K d aw ac T G0 H0 G H → ∃ G', Wk K d aw ac T G0 H0 G' H ∧ Same G G' ∧ (∀ e ∈ ws, G' e.a = some (.dK (wareD e)) ∧ WOk K G' e) ∧ ∀ b, (∀ e ∈ ws, e.a ≠ b) → G b = none → G' b = none
  | [], G, A, W => ⟨G, W, Same.refl _, (fun _ h => nomatch h), fun _ _ h => h⟩
  | e :: ws, G, A, W => by
    have hl := A.lo e List.mem_cons_self
    have hnd := List.nodup_cons.mp A.nd
    have hne : ∀ x ∈ ws, x.a ≠ e.a := fun x hx h => hnd.1 (List.mem_map.mpr ⟨x, hx, h⟩)
    have A2 : WsAt K d aw H0 (upd G e.a (.dK (wareD e))) H ws :=
      ⟨hnd.2, fun x hx => (A.lo x (List.mem_cons_of_mem _ hx)).sealO (hne x hx), fun x hx => (A.ok x (List.mem_cons_of_mem _ hx)).mono (same_add hl.g)⟩
    obtain ⟨G', W', s', h', o'⟩ := WsAt.seal A2 (W.seal hl)
    refine ⟨G', W', (same_add hl.g).trans s', fun x hx => ?_, fun b hb hg => ?_⟩
    · rcases List.mem_cons.mp hx with rfl | hx
      · exact ⟨s' _ _ upd_same, (A.ok _ List.mem_cons_self).mono ((same_add hl.g).trans s')⟩
      · exact h' x hx
    · refine o' b (fun x hx => hb x (List.mem_cons_of_mem _ hx)) ?_
      rw [upd_ne (Ne.symm (hb e List.mem_cons_self))]
      exact hg
end
/-- a ware without its roll -/
def strip (e : WH) : Str × Addr × Addr × List Spot × Int × Option Int := (e.lab, e.a, e.sl, e.w.slots, e.w.amount, e.w.cost)
/-- its roll, among those of ws -/
def FlowOk (ws : List WH) (e : WH) : Prop := ∀ r, e.w.roll = some r → 1 ≤ r.2 ∧ r.2 ≤ 3 ∧ ∃ x ∈ ws, x.lab = r.1 ∧ lastS e.w.slots < lastS x.w.slots
end ND
namespace ND
open PySem PySem.Spec PyProof.Rows L2
structure Sheet where
  rates : List (Str × Int)
  span : Nat
  wares : List (Str × Ware)
def rateD (rs : List (Str × Int)) : List (Key × V) := rs.map fun r => (kS r.1, V.int r.2)
def sheetD (ap apk : Addr) (n : Nat) : List (Key × V) := [(kS "prices", .ref ap), (kS "days", .int n), (kS "packs", .ref apk)]
def warOf (ws : List WH) : List (Str × Ware) := ws.map fun e => (e.lab, e.w)
/-- a sheet that stays -/
structure SheetIs (K : PySem.W.Frag) (G : Hp) (a ap apk : Addr) (ws : List WH) (s : Sheet) : Prop where
  ha : G a = some (.dK (sheetD ap apk s.span))
  hp : G ap = some (.dK (rateD s.rates))
  hk : G apk = some (.dK (labD ws))
  hw : ∀ e ∈ ws, G e.a = some (.dK (wareD e)) ∧ WOk K G e
  he : s.wares = warOf ws
/-- a sheet that may still change -/
structure SheetLo (K : PySem.W.Frag) (d aw : Addr) (H0 G H : Hp) (a ap apk : Addr) (ws : List WH) (s : Sheet) : Prop where
  ha : Lo d aw H0 G H a (.dK (sheetD ap apk s.span))
  hp : Lo d aw H0 G H ap (.dK (rateD s.rates))
  hk : Lo d aw H0 G H apk (.dK (labD ws))
  hw : WsAt K d aw H0 G H ws
  he : s.wares = warOf ws
  n1 : a ≠ ap
  n2 : a ≠ apk
  n3 : ap ≠ apk
  n4 : ∀ e ∈ ws, e.a ≠ a ∧ e.a ≠ ap ∧ e.a ≠ apk
structure WareOk (kinds : List Str) (span : Nat) (w : Ware) : Prop where
  sub : w.slots.Sublist (allSpots kinds span)
  ne : w.slots ≠ []
  am0 : 0 ≤ w.amount
  am3 : w.amount ≤ 3
  cost : ∀ c, w.cost = some c → 0 ≤ c ∧ c ≤ 99
structure SheetOk (most : Nat) (units : Int) (s : Sheet) : Prop where
  r0 : 0 < s.rates.length
  r1 : s.rates.length ≤ 3
  rn : ∀ r ∈ s.rates, NameOk r.1 ∧ 0 ≤ r.2 ∧ r.2 ≤ 9
  rnd : (s.rates.map (·.1)).Nodup
  rso : sortedS (s.rates.map (·.1)) = true
  d0 : 0 < s.span
  d1 : s.span ≤ 4
  wl : s.wares.length ≤ most
  wnd : (s.wares.map (·.1)).Nodup
  wso : sortedS (s.wares.map (·.1)) = true
  wn : ∀ w ∈ s.wares, NameOk w.1
  wo : ∀ w ∈ s.wares, WareOk (s.rates.map (·.1)) s.span w.2
  sum : (s.wares.map (·.2.amount)).sum ≤ units
  roll : ∀ w ∈ s.wares, ∀ r, w.2.roll = some r → 1 ≤ r.2 ∧ r.2 ≤ 3 ∧ ∃ x ∈ s.wares, x.1 = r.1 ∧ lastS w.2.slots < lastS x.2.slots
section
variable {K : PySem.W.Frag} {d aw ac p a ap apk : Addr} {T : Nat} {G0 H0 G H G' H' : Hp} {ws : List WH} {s : Sheet}
theorem SheetIs.mono (S : SheetIs K G a ap apk ws s) (h : Same G G') : SheetIs K G' a ap apk ws s :=
  ⟨h _ _ S.ha, h _ _ S.hp, h _ _ S.hk, fun e he => ⟨h _ _ (S.hw e he).1, (S.hw e he).2.mono h⟩, S.he⟩
theorem SheetLo.seal (S : SheetLo K d aw H0 G H a ap apk ws s) (W : Wk K d aw ac T G0 H0 G H) : ∃ G', Wk K d aw ac T G0 H0 G' H ∧ Same G G' ∧ SheetIs K G' a ap apk ws s := by
  obtain ⟨G1, W1, s1, h1, o1⟩ := S.hw.seal W
  have la : Lo d aw H0 G1 H a (.dK (sheetD ap apk s.span)) := ⟨S.ha.h, o1 _ (fun e he => (S.n4 e he).1) S.ha.g, S.ha.nd, S.ha.nw, S.ha.n0⟩
  have lp : Lo d aw H0 G1 H ap (.dK (rateD s.rates)) := ⟨S.hp.h, o1 _ (fun e he => (S.n4 e he).2.1) S.hp.g, S.hp.nd, S.hp.nw, S.hp.n0⟩
  have lk : Lo d aw H0 G1 H apk (.dK (labD ws)) := ⟨S.hk.h, o1 _ (fun e he => (S.n4 e he).2.2) S.hk.g, S.hk.nd, S.hk.nw, S.hk.n0⟩
  have W2 := W1.seal la
  have lp2 := lp.sealO (x := .dK (sheetD ap apk s.span)) (Ne.symm S.n1)
  have lk2 := lk.sealO (x := .dK (sheetD ap apk s.span)) (Ne.symm S.n2)
  have W3 := W2.seal lp2
  have lk3 := lk2.sealO (x := .dK (rateD s.rates)) (Ne.symm S.n3)
  have W4 := W3.seal lk3
  have t1 := same_add (o := .dK (sheetD ap apk s.span)) la.g
  have t2 := same_add (o := .dK (rateD s.rates)) lp2.g
  have t3 := same_add (o := .dK (labD ws)) lk3.g
  exact ⟨_, W4, s1.trans (t1.trans (t2.trans t3)), (t2.trans t3) _ _ upd_same, t3 _ _ upd_same, upd_same, fun e he => ⟨(t1.trans (t2.trans t3)) _ _ (h1 e he).1, (h1 e he).2.mono (t1.trans (t2.trans t3))⟩, S.he⟩
end
end ND
/-! values of any kind -/
namespace ND
open PySem PySem.Spec PyProof.Rows L2
inductive PV where
  | non
  | bl (b : Bool)
  | int (n : Int)
  | str (z : Str)
  | lst (xs : List PV)
  | tup (xs : List PV)
  | dic
  | ins (t : Value)
def tyNames : List String := ["NoneType", "bool", "int", "str", "list", "tuple", "dict"]
/-- of none of the built-in kinds -/
structure Alien (K : PySem.W.Frag) (t : Value) : Prop where
  int : PySem.W.kitOne K t (.type "int") = some false
  bool : PySem.W.kitOne K t (.type "bool") = some false
  str : PySem.W.kitOne K t (.type "str") = some false
  list : PySem.W.kitOne K t (.type "list") = some false
  tuple : PySem.W.kitOne K t (.type "tuple") = some false
  dict : PySem.W.kitOne K t (.type "dict") = some false
mutual
inductive PvAt (K : PySem.W.Frag) (H : Hp) : V → PV → Prop where
  | non : PvAt K H .non .non
  | bl (b : Bool) : PvAt K H (.bl b) (.bl b)
  | int (n : Int) : PvAt K H (.int n) (.int n)
  | str (z : Str) (h : z.length ≤ 1000) : PvAt K H (.str z) (.str z)
  | lst {a : Addr} {vs : List V} {xs : List PV} (h : SqL K H a vs) (t : PvAll K H vs xs) (l : xs.length ≤ 1000) : PvAt K H (.ref a) (.lst xs)
  | tup {a : Addr} {vs : List V} {xs : List PV} (h : SqT K H a vs) (t : PvAll K H vs xs) (l : xs.length ≤ 1000) : PvAt K H (.ref a) (.tup xs)
  | dic {a : Addr} {kvs : List (Key × V)} (h : H a = some (.dK kvs)) : PvAt K H (.ref a) .dic
  | ins {a : Addr} {t : Value} (h : ∃ C dx fs, t = .ref C ∧ H a = some (.ins C dx fs)) (y : ∀ {H' : Hp}, H' a = H a → TyX K H' (.ref a) t) (k : Alien K t) : PvAt K H (.ref a) (.ins t)
inductive PvAll (K : PySem.W.Frag) (H : Hp) : List V → List PV → Prop where
  | nil : PvAll K H [] []
  | cons {v : V} {x : PV} {vs : List V} {xs : List PV} (h : PvAt K H v x) (t : PvAll K H vs xs) : PvAll K H (v :: vs) (x :: xs)
end
section
variable {K : PySem.W.Frag} {H H' : Hp}
mutual
theorem PvAt.mono : ∀ {v : V} {x : PV}, PvAt K H v x → Same H H' → PvAt K H' v x
  | _, _, .non, _ => .non
  | _, _, .bl b, _ => .bl b
  | _, _, .int n, _ => .int n
  | _, _, .str z h, _ => .str z h
  | _, _, .lst h t l, s => .lst (s.seq h) (t.mono s) l
  | _, _, .tup h t l, s => .tup (Evl.ex_t s h) (t.mono s) l
  | _, _, .dic h, s => .dic (s _ _ h)
  | _, _, .ins h y k, s => by
    obtain ⟨C, dx, fs, e, ha⟩ := h
    have ha' := s _ _ ha
    exact .ins ⟨C, dx, fs, e, ha'⟩ (fun {H2} e2 => y (e2.trans (ha'.trans ha.symm))) k
theorem PvAll.mono : ∀ {vs : List V} {xs : List PV}, PvAll K H vs xs → Same H H' → PvAll K H' vs xs
  | _, _, .nil, _ => .nil
  | _, _, .cons h t, s => .cons (h.mono s) (t.mono s)
end
theorem PvAll.len : ∀ {vs : List V} {xs : List PV}, PvAll K H vs xs → vs.length = xs.length
  | _, _, .nil => rfl
  | _, _, .cons _ t => congrArg (· + 1) t.len
theorem PvAll.at : ∀ {vs : List V} {xs : List PV} {i : Nat} {v : V}, PvAll K H vs xs → vs[i]? = some v → ∃ x, xs[i]? = some x ∧ PvAt K H v x
  | _, _, 0, _, .cons h t, e => by
    cases e
    exact ⟨_, rfl, h⟩
  | _, _, i + 1, _, .cons h t, e => t.at (i := i) e
  | _, _, 0, _, .nil, e => nomatch e
  | _, _, i + 1, _, .nil, e => nomatch e
end
def PV.ty : PV → Value
  | .non => .type "NoneType"
  | .bl _ => .type "bool"
  | .int _ => .type "int"
  | .str _ => .type "str"
  | .lst _ => .type "list"
  | .tup _ => .type "tuple"
  | .dic => .type "dict"
  | .ins t => t
theorem sqL_ty {K : PySem.W.Frag} {H : Hp} {a : Addr} {vs : List V} (h : SqL K H a vs) : TyX K H (.ref a) (.type "list") := by
  rcases h with (h | ⟨o, h⟩) | ⟨dd, its, n, hk, h⟩
  · exact .base (.lst h)
  · exact .base (.frz h)
  · exact .kList hk h.1
theorem sqT_ty {K : PySem.W.Frag} {H : Hp} {a : Addr} {vs : List V} (h : SqT K H a vs) : TyX K H (.ref a) (.type "tuple") := by
  rcases h with (h | ⟨o, h⟩) | ⟨dd, its, n, hk, h⟩
  · exact .base (.tup h)
  · exact .fTuple h
  · exact .kTuple hk h.1
theorem PvAt.tyx {K : PySem.W.Frag} {H : Hp} {v : V} {x : PV} (h : PvAt K H v x) : TyX K H v x.ty := by
  cases h with
  | non => exact .base .non
  | bl b => exact .base (.bl b)
  | int n => exact .base (.int n)
  | str z h => exact .base (.str z)
  | lst h t l => exact sqL_ty h
  | tup h t l => exact sqT_ty h
  | dic h => exact .base (.dK h)
  | ins h y k => exact y rfl
def PV.isInt : PV → Bool
  | .bl _ => true
  | .int _ => true
  | _ => false
def PV.isBool : PV → Bool
  | .bl _ => true
  | _ => false
def PV.isStr : PV → Bool
  | .str _ => true
  | _ => false
def PV.isLst : PV → Bool
  | .lst _ => true
  | _ => false
def PV.isTup : PV → Bool
  | .tup _ => true
  | _ => false
def PV.isDic : PV → Bool
  | .dic => true
  | _ => false
section
variable {K : PySem.W.Frag} {H : Hp} {v : V} {x : PV}
theorem PvAt.kInt (h : PvAt K H v x) : PySem.W.kitOne K x.ty (.type "int") = some x.isInt := by
  cases h with
  | ins h y k => exact k.int
  | _ => first | exact kit_ty (r := true) (by decide +kernel) | exact kit_ty (r := false) (by decide +kernel)
theorem PvAt.kBool (h : PvAt K H v x) : PySem.W.kitOne K x.ty (.type "bool") = some x.isBool := by
  cases h with
  | ins h y k => exact k.bool
  | _ => first | exact kit_ty (r := true) (by decide +kernel) | exact kit_ty (r := false) (by decide +kernel)
theorem PvAt.kStr (h : PvAt K H v x) : PySem.W.kitOne K x.ty (.type "str") = some x.isStr := by
  cases h with
  | ins h y k => exact k.str
  | _ => first | exact kit_ty (r := true) (by decide +kernel) | exact kit_ty (r := false) (by decide +kernel)
theorem PvAt.kLst (h : PvAt K H v x) : PySem.W.kitOne K x.ty (.type "list") = some x.isLst := by
  cases h with
  | ins h y k => exact k.list
  | _ => first | exact kit_ty (r := true) (by decide +kernel) | exact kit_ty (r := false) (by decide +kernel)
theorem PvAt.kTup (h : PvAt K H v x) : PySem.W.kitOne K x.ty (.type "tuple") = some x.isTup := by
  cases h with
  | ins h y k => exact k.tuple
  | _ => first | exact kit_ty (r := true) (by decide +kernel) | exact kit_ty (r := false) (by decide +kernel)
theorem PvAt.kDic (h : PvAt K H v x) : PySem.W.kitOne K x.ty (.type "dict") = some x.isDic := by
  cases h with
  | ins h y k => exact k.dict
  | _ => first | exact kit_ty (r := true) (by decide +kernel) | exact kit_ty (r := false) (by decide +kernel)
end
/-! what the checks answer -/
def PV.numB : PV → Bool
  | .int _ => true
  | _ => false
def PV.withinB (a b : Int) : PV → Bool
  | .int n => decide (a ≤ n) && decide (n ≤ b)
  | _ => false
def nameB (z : Str) : Bool := decide (1 ≤ z.length) && (decide (z.length ≤ 6) && z.cps.toList.all fun c => decide (c ∈ letters.cps.toList))
def PV.nameB : PV → Bool
  | .str z => ND.nameB z
  | _ => false
def PV.pairB (f g : PV → Bool) : PV → Bool
  | .tup [x, y] => f x && g y
  | _ => false
def PV.slotB : PV → Bool := PV.pairB PV.nameB (PV.withinB 0 3)
def PV.rollB : PV → Bool
  | .non => true
  | x => PV.pairB PV.nameB (PV.withinB 1 3) x
theorem nameB_iff {z : Str} : nameB z = true ↔ NameOk z := by
  unfold nameB NameOk
  rw [Bool.and_eq_true, Bool.and_eq_true, decide_eq_true_eq, decide_eq_true_eq, List.all_eq_true]
  simp
/-! a list or a tuple, walked -/
def iSeq (K : PySem.W.Frag) (tl : TE) : TI := fun σ H R => iList K tl σ H R ∨ iTup K tl σ H R
theorem pi_seq {X : Cx} {tg l : Expr} {tl : TE} (hl : PE X l tl) : PI X tg l (iSeq X.K tl) :=
  ⟨fun pins s σ H R I h => h.elim ((pi_list hl).run pins s σ H R I) ((pi_tup hl).run pins s σ H R I)⟩
/-! slots, all together -/
def PV.slotK : PV → List Key
  | .tup [.str z, .int n] => [.inr z, .inl n]
  | _ => []
def slotsL (xs : List PV) : Bool := decide (1 ≤ xs.length) && (decide (xs.length ≤ 12) && (xs.all PV.slotB && decide ((xs.map PV.slotK).Nodup)))
def PV.slotsB : PV → Bool
  | .lst xs => slotsL xs
  | .tup xs => slotsL xs
  | _ => false
theorem PvAt.slot {K : PySem.W.Frag} {H : Hp} {v : V} {x : PV} (h : PvAt K H v x) (hb : x.slotB = true) : ∃ r z n, v = .ref r ∧ x = .tup [.str z, .int n] ∧ SqT K H r [.str z, .int n] ∧ NameOk z ∧ 0 ≤ n ∧ n ≤ 3 := by
  cases h with
  | @tup a us xs h t l =>
    match xs, hb with
    | [x0, x1], hb =>
      have hb' : (x0.nameB && x1.withinB 0 3) = true := hb
      rw [Bool.and_eq_true] at hb'
      cases t with
      | cons h0 t =>
        cases t with
        | cons h1 t =>
          cases t with
          | nil =>
            cases h0 with
            | str z hz =>
              cases h1 with
              | int n =>
                have h2 : (decide (0 ≤ n) && decide (n ≤ 3)) = true := hb'.2
                rw [Bool.and_eq_true, decide_eq_true_eq, decide_eq_true_eq] at h2
                exact ⟨a, z, n, rfl, rfl, h, nameB_iff.mp hb'.1, h2.1, h2.2⟩
              | _ => cases hb'.2
            | _ => cases hb'.1
  | _ => cases hb
theorem PvAll.slots {K : PySem.W.Frag} {H : Hp} : ∀ {vs : List V} {xs : List PV}, PvAll K H vs xs → xs.all PV.slotB = true → ∃ ks : List (Addr × List Key), vs = (ks.map fun p => V.ref p.1) ∧ (∀ p ∈ ks, SqT K H p.1 (p.2.map kV)) ∧ ks.map (·.2) = xs.map PV.slotK
  | _, _, .nil, _ => ⟨[], rfl, (fun _ h => nomatch h), rfl⟩
  | _, _, .cons h t, hb => by
    rw [List.all_cons, Bool.and_eq_true] at hb
    obtain ⟨r, z, n, rfl, rfl, hr, _⟩ := h.slot hb.1
    obtain ⟨ks, e1, e2, e3⟩ := PvAll.slots t hb.2
    refine ⟨(r, [.inr z, .inl n]) :: ks, by rw [e1]; rfl, fun p hp => ?_, by rw [List.map_cons, List.map_cons, e3]; rfl⟩
    rcases List.mem_cons.mp hp with rfl | hp
    · exact hr
    · exact e2 p hp
end ND
/-! what the operators and the built-in functions do with plain data -/
namespace ND
open PySem PySem.Spec PyProof.Rows L2
/-! ### data that == and < take -/
def D.py : D → PyData
  | .non => .none
  | .bl b => .bool b
  | .int i => .int i
  | .str x => .str x
  | .lst xs => .list (pyL xs)
  | .tup xs => .tuple (pyL xs)
  | _ => .dict []
where pyL : List D → List PyData
  | [] => []
  | x :: xs => x.py :: pyL xs
theorem pyL_map : ∀ xs : List D, D.py.pyL xs = xs.map D.py
  | [] => rfl
  | x :: xs => by
    show x.py :: D.py.pyL xs = _
    rw [pyL_map xs]
    rfl
def D.pl : Nat → D → Bool
  | _, .non => true
  | _, .bl _ => true
  | _, .int _ => true
  | _, .str _ => true
  | n + 1, .lst xs => xs.all (D.pl n)
  | n + 1, .tup xs => xs.all (D.pl n)
  | _, _ => false
section
variable {K : PySem.W.Frag} {C : Cfg K} {E : XK} {n : Nat} {G H : Hp} {v : V} {d : D}
theorem dpAll_of {G : Hp} {k : Nat} (ih : ∀ (v : V) (d : D), Rep C G v d → D.pl k d = true → Dp K G v d.py ∧ d.py.canLay0 = true ∧ d.py.depth ≤ k) : ∀ {vs : List V} {xs : List D}, RepL C G vs xs → xs.all (D.pl k) = true → DpAll K G vs (D.py.pyL xs) ∧ PyData.canLayAll0 (D.py.pyL xs) = true ∧ PyData.depthAll (D.py.pyL xs) ≤ k
  | _, _, .nil, _ => ⟨.nil, by simp [D.py.pyL, PyData.canLayAll0], by simp [D.py.pyL, PyData.depthAll]⟩
  | _, _, .cons h t, hp => by
    rw [List.all_cons, Bool.and_eq_true] at hp
    obtain ⟨a1, a2, a3⟩ := ih _ _ h hp.1
    obtain ⟨b1, b2, b3⟩ := dpAll_of ih t hp.2
    refine ⟨.cons a1 b1, ?_, ?_⟩
    · simp only [D.py.pyL, PyData.canLayAll0, a2, b2, Bool.and_self]
    · simp only [D.py.pyL, PyData.depthAll]
      omega
theorem dp_of {G : Hp} : ∀ (k : Nat) (v : V) (d : D), Rep C G v d → D.pl k d = true → Dp K G v d.py ∧ d.py.canLay0 = true ∧ d.py.depth ≤ k
  | k, _, _, .non, _ => ⟨.non, by simp [D.py, PyData.canLay0], by simp [D.py, PyData.depth]⟩
  | k, _, _, .bl b, _ => ⟨.bl b, by simp [D.py, PyData.canLay0], by simp [D.py, PyData.depth]⟩
  | k, _, _, .int b, _ => ⟨.int b, by simp [D.py, PyData.canLay0], by simp [D.py, PyData.depth]⟩
  | k, _, _, .str b h, _ => ⟨.str b, by simp [D.py, PyData.canLay0, h.2], by simp [D.py, PyData.depth]⟩
  | k + 1, _, _, .lst h t l, hp => by
    obtain ⟨a1, a2, a3⟩ := dpAll_of (dp_of k) t hp
    exact ⟨.lst (.inl h) a1, by simp only [D.py, PyData.canLay0]; exact a2, by simp only [D.py, PyData.depth]; omega⟩
  | k + 1, _, _, .tup h t l, hp => by
    obtain ⟨a1, a2, a3⟩ := dpAll_of (dp_of k) t hp
    exact ⟨.tup h.1 a1, by simp only [D.py, PyData.canLay0]; exact a2, by simp only [D.py, PyData.depth]; omega⟩
  | 0, _, _, .lst h t l, hp => by simp [D.pl] at hp
  | 0, _, _, .tup h t l, hp => by simp [D.pl] at hp
  | 0, _, _, .dct .., hp => by simp [D.pl] at hp
  | k + 1, _, _, .dct .., hp => by simp [D.pl] at hp
  | 0, _, _, .ins .., hp => by simp [D.pl] at hp
  | k + 1, _, _, .ins .., hp => by simp [D.pl] at hp
  | 0, _, _, .exc .., hp => by simp [D.pl] at hp
  | k + 1, _, _, .exc .., hp => by simp [D.pl] at hp
  | 0, _, _, .drw, hp => by simp [D.pl] at hp
  | k + 1, _, _, .drw, hp => by simp [D.pl] at hp
mutual
theorem dpMono (s : Same G H) : ∀ {v : V} {d : PyData}, Dp K G v d → Dp K H v d
  | _, _, .non => .non
  | _, _, .bl b => .bl b
  | _, _, .int b => .int b
  | _, _, .str b => .str b
  | _, _, .lst h t => .lst (s.seq h) (dpAllMono s t)
  | _, _, .tup h t => .tup (Evl.ex_t s h) (dpAllMono s t)
theorem dpAllMono (s : Same G H) : ∀ {vs : List V} {ds : List PyData}, DpAll K G vs ds → DpAll K H vs ds
  | _, _, .nil => .nil
  | _, _, .cons h t => .cons (dpMono s h) (dpAllMono s t)
end
theorem RepV.dp {k : Nat} (s : Same G H) (h : RepV C G H v d) (hp : D.pl k d = true) : Dp K H v d.py ∧ d.py.canLay0 = true ∧ d.py.depth ≤ k := by
  rcases h with h | ⟨p, o, rfl, hpp, nv, r⟩
  · obtain ⟨a, b, c⟩ := dp_of k v d h hp
    exact ⟨dpMono s a, b, c⟩
  · cases o <;> cases d <;> first | exact r.elim | skip
    · cases k with
      | zero => simp [D.pl] at hp
      | succ k =>
        obtain ⟨a1, a2, a3⟩ := dpAll_of (dp_of k) r.2 hp
        exact ⟨.lst (SqL.of hpp) (dpAllMono s a1), by simp only [D.py, PyData.canLay0]; exact a2, by simp only [D.py, PyData.depth]; omega⟩
    · cases k <;> simp [D.pl] at hp
    · cases k <;> simp [D.pl] at hp
theorem shaped_of {d : PyData} (h1 : d.canLay0 = true) (h2 : d.depth ≤ 8) : SeqAt.shaped d = true := by
  unfold SeqAt.shaped
  rw [h1, decide_eq_true (show d.depth ≤ 64 by omega)]
  rfl
def dEqB (x y : D) : Bool := PyData.eqv x.py y.py
def dEq (x y : D) : Out D := bif D.pl 8 x && D.pl 8 y then .ok (.bl (dEqB x y)) else .stuck
def dNe (x y : D) : Out D := bif D.pl 8 x && D.pl 8 y then .ok (.bl (!dEqB x y)) else .stuck
theorem sr_eqD : SR C E (rEqD K) dEq := fun n G H x y dx dy Q w rx ry q => by
  unfold dEq at q
  cases hp : (D.pl 8 dx && D.pl 8 dy) with
  | false => rw [hp] at q; exact q.elim
  | true =>
    rw [hp] at q
    rw [Bool.and_eq_true] at hp
    obtain ⟨a1, a2, a3⟩ := rx.dp w.sub hp.1
    obtain ⟨b1, b2, b3⟩ := ry.dp w.sub hp.2
    exact ⟨_, _, a1, b1, shaped_of a2 a3, shaped_of b2 b3, q _ G H (Ws.refl w) (.bl _)⟩
theorem sr_neD : SR C E (rNeD K) dNe := fun n G H x y dx dy Q w rx ry q => by
  unfold dNe at q
  cases hp : (D.pl 8 dx && D.pl 8 dy) with
  | false => rw [hp] at q; exact q.elim
  | true =>
    rw [hp] at q
    rw [Bool.and_eq_true] at hp
    obtain ⟨a1, a2, a3⟩ := rx.dp w.sub hp.1
    obtain ⟨b1, b2, b3⟩ := ry.dp w.sub hp.2
    exact ⟨_, _, a1, b1, shaped_of a2 a3, shaped_of b2 b3, q _ G H (Ws.refl w) (.bl _)⟩
/-! ### x in xs: data in a list or a tuple -/
def rInA (K : PySem.W.Frag) (neg : Bool) : R2 := fun x y H Q => ∃ d ds, Dp K H x d ∧ (Dp K H y (.list ds) ∨ Dp K H y (.tuple ds)) ∧ d.canLay0 = true ∧ d.depth ≤ 8 ∧ PyData.canLayAll0 ds = true ∧ Q (.bl (neg ^^ ds.any fun z => PyData.eqv z d)) H
section
variable {X : Cx}
theorem op_inA (hu : X.A.units + 65 < cLine) : OpR X (compareOp .In) (rInA X.K false) := by
  intro pins s σ H x y v u Q I rx ry h
  obtain ⟨d, ds, hd, he, sd, dd, se, q⟩ := h
  obtain ⟨as, r1⟩ := Dp.reads I d x v hd rx
  have hroom : X.A.units + 1 + min (PyData.depthAll ds) d.depth < cLine := by
    have := Nat.min_le_right (PyData.depthAll ds) d.depth
    omega
  rcases he with he | he
  · obtain ⟨bs, r2⟩ := Dp.reads I _ y u he ry
    cases r2 with
    | list h1 h2 h3 h4 => exact SeqAt.in_listAt _ ⟨_, h1, h2, _, h3⟩ (SeqAt.items_eqAt h4 r1 se sd hroom) (by rw [SeqAt.any_by_data h4 se]; exact ⟨.bl _, H, I, rfl, by simpa using q⟩)
  · obtain ⟨bs, r2⟩ := Dp.reads I _ y u he ry
    cases r2 with
    | tuple h1 h2 h3 h4 => exact SeqAt.in_tupleAt _ ⟨_, h1, h2, _, h3⟩ (SeqAt.items_eqAt h4 r1 se sd hroom) (by rw [SeqAt.any_by_data h4 se]; exact ⟨.bl _, H, I, rfl, by simpa using q⟩)
theorem op_notInA (hu : X.A.units + 65 < cLine) : OpR X (compareOp .NotIn) (rInA X.K true) := by
  intro pins s σ H x y v u Q I rx ry h
  obtain ⟨d, ds, hd, he, sd, dd, se, q⟩ := h
  obtain ⟨as, r1⟩ := Dp.reads I d x v hd rx
  have hroom : X.A.units + 1 + min (PyData.depthAll ds) d.depth < cLine := by
    have := Nat.min_le_right (PyData.depthAll ds) d.depth
    omega
  rcases he with he | he
  · obtain ⟨bs, r2⟩ := Dp.reads I _ y u he ry
    cases r2 with
    | list h1 h2 h3 h4 => exact SeqAt.notIn_listAt _ ⟨_, h1, h2, _, h3⟩ (SeqAt.items_eqAt h4 r1 se sd hroom) (by rw [SeqAt.any_by_data h4 se]; exact ⟨.bl _, H, I, rfl, by simpa using q⟩)
  · obtain ⟨bs, r2⟩ := Dp.reads I _ y u he ry
    cases r2 with
    | tuple h1 h2 h3 h4 => exact SeqAt.notIn_tupleAt _ ⟨_, h1, h2, _, h3⟩ (SeqAt.items_eqAt h4 r1 se sd hroom) (by rw [SeqAt.any_by_data h4 se]; exact ⟨.bl _, H, I, rfl, by simpa using q⟩)
theorem op_inAK (K : PySem.W.Frag) (hK : X.K = K) (hu : X.A.units + 65 < cLine) : OpR X (compareOp .In) (rInA K false) := hK ▸ op_inA hu
theorem op_notInAK (K : PySem.W.Frag) (hK : X.K = K) (hu : X.A.units + 65 < cLine) : OpR X (compareOp .NotIn) (rInA K true) := hK ▸ op_notInA hu
end
def seqD : D → Option (List D)
  | .lst xs => some xs
  | .tup xs => some xs
  | _ => none
def dInB (x : D) (xs : List D) : Bool := xs.any fun z => dEqB z x
def dInN (neg : Bool) (x y : D) : Out D := match seqD y with
  | some xs => bif D.pl 8 x && xs.all (D.pl 8) then .ok (.bl (neg ^^ dInB x xs)) else .stuck
  | none => .stuck
abbrev dIn : D → D → Out D := dInN false
abbrev dNotIn : D → D → Out D := dInN true
theorem any_py (x : D) (xs : List D) : ((D.py.pyL xs).any fun z => PyData.eqv z x.py) = dInB x xs := by
  rw [pyL_map, List.any_map]
  rfl
theorem sr_inA {neg : Bool} : SR C E (rInA K neg) (dInN neg) := fun n G H x y dx dy Q w rx ry q => by
  unfold dInN at q
  cases hy : seqD dy with
  | none => simp only [hy] at q; exact q.elim
  | some xs =>
    simp only [hy] at q
    cases hp : (D.pl 8 dx && xs.all (D.pl 8)) with
    | false => rw [hp] at q; exact q.elim
    | true =>
      rw [hp] at q
      rw [Bool.and_eq_true] at hp
      obtain ⟨a1, a2, a3⟩ := rx.dp w.sub hp.1
      have key : ∃ d', (Dp K H y (.list (D.py.pyL xs)) ∨ Dp K H y (.tuple (D.py.pyL xs))) ∧ PyData.canLayAll0 (D.py.pyL xs) = d' ∧ d' = true := by
        cases dy <;> first | cases hy | skip
        · obtain ⟨b1, b2, b3⟩ := ry.dp (k := 9) w.sub hp.2
          exact ⟨_, .inl b1, rfl, by simpa only [D.py, PyData.canLay0] using b2⟩
        · obtain ⟨b1, b2, b3⟩ := ry.dp (k := 9) w.sub hp.2
          exact ⟨_, .inr b1, rfl, by simpa only [D.py, PyData.canLay0] using b2⟩
      obtain ⟨_, k1, k2, k3⟩ := key
      refine ⟨dx.py, _, a1, k1, a2, a3, k2.trans k3, ?_⟩
      rw [any_py]
      exact q _ G H (Ws.refl w) (.bl _)
/-! ### numbers -/
def d2I (f : Int → Int → D) : D → D → Out D := fun x y => match x, y with
  | .int i, .int j => .ok (f i j)
  | _, _ => .stuck
def d2C (c : Int → Int → Bool) (f : Int → Int → D) : D → D → Out D := fun x y => match x, y with
  | .int i, .int j => bif c i j then .ok (f i j) else .stuck
  | _, _ => .stuck
abbrev dAdd := d2I fun i j => .int (i + j)
abbrev dSub := d2I fun i j => .int (i - j)
abbrev dLt := d2I fun i j => .bl (decide (i < j))
abbrev dLe := d2I fun i j => .bl (decide (i ≤ j))
abbrev dGt := d2I fun i j => .bl (decide (j < i))
abbrev dGe := d2I fun i j => .bl (decide (j ≤ i))
theorem sr_I0 {g : Int → Int → V} {f : Int → Int → D} (h : ∀ G i j, Rep C G (g i j) (f i j)) : SR C E (rI0 g) (d2I f) := fun n G H x y dx dy Q w rx ry q => by
  cases dx <;> first | exact q.elim | skip
  cases dy <;> first | exact q.elim | skip
  cases rx.int
  cases ry.int
  exact ⟨_, _, rfl, rfl, q _ G H (Ws.refl w) (h G _ _)⟩
theorem sr_I {g : Int → Int → V} {f : Int → Int → D} {P : Int → Int → Prop} {c : Int → Int → Bool} (h : ∀ G i j, Rep C G (g i j) (f i j)) (hc : ∀ i j, c i j = true → P i j) : SR C E (rI P g) (d2C c f) := fun n G H x y dx dy Q w rx ry q => by
  cases dx <;> first | exact q.elim | skip
  cases dy <;> first | exact q.elim | skip
  rename_i i j
  cases rx.int
  cases ry.int
  cases hh : c i j with
  | false => unfold d2C at q; simp only [hh] at q; exact q.elim
  | true =>
    unfold d2C at q
    simp only [hh] at q
    exact ⟨_, _, rfl, rfl, hc _ _ hh, q _ G H (Ws.refl w) (h G _ _)⟩
theorem sr_add : SR C E (rI0 fun i j => .int (i + j)) dAdd := sr_I0 fun _ _ _ => .int _
theorem sr_sub : SR C E (rI0 fun i j => .int (i - j)) dSub := sr_I0 fun _ _ _ => .int _
theorem sr_lt : SR C E (rI0 fun i j => .bl (decide (i < j))) dLt := sr_I0 fun _ _ _ => .bl _
theorem sr_le : SR C E (rI0 fun i j => .bl (decide (i ≤ j))) dLe := sr_I0 fun _ _ _ => .bl _
theorem sr_gt : SR C E (rI0 fun i j => .bl (decide (j < i))) dGt := sr_I0 fun _ _ _ => .bl _
theorem sr_ge : SR C E (rI0 fun i j => .bl (decide (j ≤ i))) dGe := sr_I0 fun _ _ _ => .bl _
def cMul (i j : Int) : Bool := decide (-1000000 < i) && decide (i < 1000000) || decide (-1000000 < j) && decide (j < 1000000)
abbrev dMul := d2C cMul fun i j => .int (i * j)
theorem sr_mul : SR C E (rI CMul fun i j => .int (i * j)) dMul := sr_I (fun _ _ _ => .int _) fun i j h => by
  unfold cMul at h
  simp only [Bool.or_eq_true, Bool.and_eq_true, decide_eq_true_eq] at h
  unfold CMul
  rcases h with h | h
  · exact .inl ⟨by omega, by omega⟩
  · exact .inr ⟨by omega, by omega⟩
abbrev dMod := d2C (fun _ j => decide (0 < j)) fun i j => .int (i % j)
theorem sr_mod : SR C E (rI (fun _ j => 0 < j) fun i j => .int (i % j)) dMod := sr_I (fun _ _ _ => .int _) fun i j h => of_decide_eq_true h
abbrev dDiv := d2C (fun _ j => decide (0 < j) && decide (j < 1000000)) fun i j => .int (i / j)
theorem sr_div : SR C E (rI CDiv fun i j => .int (i / j)) dDiv := sr_I (fun _ _ _ => .int _) fun i j h => by
  simp only [Bool.and_eq_true, decide_eq_true_eq] at h
  exact ⟨h.1, by omega⟩
/-! ### None -/
def D.isNon : D → Bool
  | .non => true
  | _ => false
theorem RepV.isNon (h : RepV C G H v d) : decide (v = .non) = d.isNon := by
  rcases h with h | ⟨p, o, rfl, hp, nv, r⟩
  · cases h <;> first | rfl | exact decide_eq_false (fun z => by cases z)
  · cases d <;> first | exact decide_eq_false (fun z => by cases z) | skip
    cases o <;> exact r.elim
def dIsN (x y : D) : Out D := match y with
  | .non => .ok (.bl x.isNon)
  | _ => .stuck
def dNotN (x y : D) : Out D := match y with
  | .non => .ok (.bl (!x.isNon))
  | _ => .stuck
theorem sr_isN : SR C E (fun x y H Q => y = .non ∧ Q (.bl (decide (x = .non))) H) dIsN := fun n G H x y dx dy Q w rx ry q => by
  cases dy <;> first | exact q.elim | skip
  refine ⟨ry.non, ?_⟩
  rw [rx.isNon]
  exact q _ G H (Ws.refl w) (.bl _)
theorem sr_notN : SR C E (fun x y H Q => y = .non ∧ Q (.bl (!decide (x = .non))) H) dNotN := fun n G H x y dx dy Q w rx ry q => by
  cases dy <;> first | exact q.elim | skip
  refine ⟨ry.non, ?_⟩
  rw [rx.isNon]
  exact q _ G H (Ws.refl w) (.bl _)
/-! ### texts -/
theorem sok_app {a b : Str} (ha : SOk a) (hb : SOk b) (h : a.length + b.length ≤ 100000) : SOk (a ++ b) := by
  refine ⟨?_, ?_⟩
  · show (a.cps ++ b.cps).size ≤ 100000
    rw [Array.size_append]
    exact h
  · have h1 := ha.2
    have h2 := hb.2
    unfold PyData.strOk at *
    show (a.cps ++ b.cps).all _ = true
    rw [Array.all_append, h1, h2]
    rfl
def dCatS (x y : D) : Out D := match x, y with
  | .str a, .str b => bif decide (a.length + b.length ≤ 100000) then .ok (.str (a ++ b)) else .stuck
  | _, _ => .stuck
theorem sr_catS : SR C E (fun x y H Q => ∃ i j, x = .str i ∧ y = .str j ∧ i.length + j.length ≤ sizeLine ∧ Q (.str (i ++ j)) H) dCatS := fun n G H x y dx dy Q w rx ry q => by
  cases dx <;> first | exact q.elim | skip
  cases dy <;> first | exact q.elim | skip
  rename_i a b
  obtain ⟨rfl, sa⟩ := rx.str
  obtain ⟨rfl, sb⟩ := ry.str
  cases hh : decide (a.length + b.length ≤ 100000) with
  | false => unfold dCatS at q; simp only [hh] at q; exact q.elim
  | true =>
    unfold dCatS at q
    simp only [hh] at q
    have hl := of_decide_eq_true hh
    exact ⟨a, b, rfl, rfl, Nat.le_trans hl (by decide), q _ G H (Ws.refl w) (.str _ (sok_app sa sb hl))⟩
/-- a sign in a text -/
def dInS (neg : Bool) (x y : D) : Out D := match x, y with
  | .str a, .str z => match a.cps.toList with
    | [c] => .ok (.bl (neg ^^ decide (c ∈ z.cps.toList)))
    | _ => .stuck
  | _, _ => .stuck
theorem str_one {a : Str} {c : Nat} (h : a.cps.toList = [c]) : a = ⟨#[c]⟩ := by
  obtain ⟨l⟩ := a
  congr 1
  exact Array.ext' h
theorem sr_inS : SR C E (fun x y H Q => ∃ (c : Nat) (z : Str), x = .str ⟨#[c]⟩ ∧ y = .str z ∧ Q (.bl (decide (c ∈ z.cps.toList))) H) (dInS false) := fun n G H x y dx dy Q w rx ry q => by
  cases dx <;> first | exact q.elim | skip
  cases dy <;> first | exact q.elim | skip
  rename_i a b
  obtain ⟨rfl, sa⟩ := rx.str
  obtain ⟨rfl, sb⟩ := ry.str
  unfold dInS at q
  cases hh : a.cps.toList with
  | nil => simp only [hh] at q; exact q.elim
  | cons c t =>
    cases t with
    | cons _ _ => simp only [hh] at q; exact q.elim
    | nil =>
      simp only [hh] at q
      rw [str_one hh]
      exact ⟨c, b, rfl, rfl, by simpa using q _ G H (Ws.refl w) (.bl _)⟩
theorem sr_notInS : SR C E (fun x y H Q => ∃ (c : Nat) (z : Str), x = .str ⟨#[c]⟩ ∧ y = .str z ∧ Q (.bl (!decide (c ∈ z.cps.toList))) H) (dInS true) := fun n G H x y dx dy Q w rx ry q => by
  cases dx <;> first | exact q.elim | skip
  cases dy <;> first | exact q.elim | skip
  rename_i a b
  obtain ⟨rfl, sa⟩ := rx.str
  obtain ⟨rfl, sb⟩ := ry.str
  unfold dInS at q
  cases hh : a.cps.toList with
  | nil => simp only [hh] at q; exact q.elim
  | cons c t =>
    cases t with
    | cons _ _ => simp only [hh] at q; exact q.elim
    | nil =>
      simp only [hh] at q
      rw [str_one hh]
      exact ⟨c, b, rfl, rfl, by simpa using q _ G H (Ws.refl w) (.bl _)⟩
end
end ND
/-! places, slices, lengths, kinds, fields, dicts, changes of one's own objects -/
namespace ND
open PySem PySem.Spec PyProof.Rows L2
def optD : Option D → Out D
  | some d => .ok d
  | none => .stuck
@[simp] theorem optD_some (d : D) : optD (some d) = .ok d := rfl
section
variable {K : PySem.W.Frag} {C : Cfg K} {E : XK} {Γ Γn Γb Γc : List Md} {n m : Nat} {G0 H0 G H G1 H1 : Hp} {v : V} {d : D} {σ : L2.St} {ρ : Rho} {Q : VK} {i : Nat}
/-! ### places -/
theorem RqL.atI {vs : List V} {xs : List D} {i : Int} {d : D} (r : RepL C G vs xs) (h : L2.atI xs i = some d) : ∃ v, L2.atI vs i = some v ∧ Rep C G v d := by
  unfold L2.atI at h ⊢
  rw [r.len]
  obtain ⟨j, h1, h2⟩ := Option.bind_eq_some_iff.mp h
  obtain ⟨v, h3, h4⟩ := r.at' h2
  exact ⟨v, by rw [h1]; exact h3, h4⟩
def dIx (x y : D) : Out D := match x, y with
  | .lst xs, .int i => optD (L2.atI xs i)
  | .tup xs, .int i => optD (L2.atI xs i)
  | .str z, .int i => match L2.atI z.cps.toList i with
    | some c => .ok (.str ⟨#[c]⟩)
    | none => .stuck
  | _, _ => .stuck
theorem atI_mem {α : Type} {xs : List α} {i : Int} {v : α} (h : L2.atI xs i = some v) : ∃ j : Nat, xs[j]? = some v := by
  unfold L2.atI at h
  obtain ⟨j, _, h2⟩ := Option.bind_eq_some_iff.mp h
  exact ⟨j, h2⟩
theorem sr_ix : SR C E (rIx K) dIx := fun n G H x y dx dy Q w rx ry q => by
  cases dx <;> first | exact q.elim | skip
  · rename_i z
    cases dy <;> first | exact q.elim | skip
    rename_i i
    obtain ⟨rfl, sz⟩ := rx.str
    cases ry.int
    unfold dIx at q
    cases hh : L2.atI z.cps.toList i with
    | none => simp only [hh] at q; exact q.elim
    | some c =>
      simp only [hh] at q
      obtain ⟨j, hj⟩ := atI_mem hh
      refine .inr (.inr ⟨z, i, c, rfl, rfl, Nat.le_trans sz.1 (by decide), hh, q _ G H (Ws.refl w) (.str _ (sok_sign sz (i := j) ?_))⟩)
      rw [← Array.getElem?_toList]
      exact hj
  · rename_i xs
    cases dy <;> first | exact q.elim | skip
    rename_i i
    obtain ⟨a, vs, rfl, h, t, l⟩ := rx.lst w.sub
    cases ry.int
    unfold dIx at q
    cases hh : L2.atI xs i with
    | none => simp only [hh] at q; exact q.elim
    | some c =>
      simp only [hh] at q
      obtain ⟨v, h1, h2⟩ := t.atI hh
      exact .inl ⟨a, vs, i, v, rfl, rfl, .inl h, h1, q v G H (Ws.refl w) h2⟩
  · rename_i xs
    cases dy <;> first | exact q.elim | skip
    rename_i i
    obtain ⟨a, vs, rfl, h, t, l⟩ := rx.tup w.sub
    cases ry.int
    unfold dIx at q
    cases hh : L2.atI xs i with
    | none => simp only [hh] at q; exact q.elim
    | some c =>
      simp only [hh] at q
      obtain ⟨v, h1, h2⟩ := t.atI hh
      exact .inr (.inl ⟨a, vs, i, v, rfl, rfl, h, h1, q v G H (Ws.refl w) h2⟩)
/-! ### slices -/
def SimO (C : Cfg K) (E : XK) (Γ : List Md) (t : TO) (φ : Rho → Out (Option Int)) : Prop := ∀ H0 n G H σ ρ Q, Wl C n G H → Er C H0 Γ G H σ ρ → (φ ρ).wp n (fun m o => ∀ G' H', Ws C G H m G' H' → Q o H') (PX C G H E) → t σ H Q
def oNone : Rho → Out (Option Int) := fun _ => .ok none
def oSome (a : Rho → Out D) : Rho → Out (Option Int) := fun ρ => (a ρ).bind fun d => match d with
  | .int i => .ok (some i)
  | _ => .stuck
theorem so_none : SimO C E Γ tNoPart oNone := fun H0 n G H σ ρ Q w e q => q G H (Ws.refl w)
theorem so_some {t : TE} {a : Rho → Out D} (ha : SimV C E Γ t a) : SimO C E Γ (tPart t) (oSome a) := fun H0 n G H σ ρ Q w e q => by
  refine ha H0 n G H σ ρ _ w e (Out.wp_mono (fun m d k v G1 H1 s1 r1 => ?_) (fun _ _ _ z => z) (Out.wp_bind q))
  cases d <;> first | exact k.elim | skip
  exact ⟨_, r1.int, k G1 H1 s1⟩
def cutL {α : Type} (xs : List α) (lo hi : Option Int) : List α := (xs.drop (HT.sIx xs.length 0 lo)).take (HT.sIx xs.length xs.length hi - HT.sIx xs.length 0 lo)
theorem cutL_len {α : Type} (xs : List α) (lo hi : Option Int) : (cutL xs lo hi).length ≤ xs.length := by
  unfold cutL
  rw [List.length_take, List.length_drop]
  omega
theorem RqL.cut {vs : List V} {xs : List D} (r : RepL C G vs xs) (lo hi : Option Int) : RepL C G (cutV vs lo hi) (cutL xs lo hi) := by
  unfold cutV cutL
  rw [r.len]
  exact (r.drop _).take _
def eSl (f : D → Option Int → Option Int → Out D) (a : Rho → Out D) (l h : Rho → Out (Option Int)) : Rho → Out D := fun ρ => (a ρ).bind fun x => (l ρ).bind fun lo => (h ρ).bind fun hi => f x lo hi
def dSlL (x : D) (lo hi : Option Int) : Out D := match x with
  | .lst xs => .ok (.lst (cutL xs lo hi))
  | _ => .stuck
def dSlT (x : D) (lo hi : Option Int) : Out D := match x with
  | .tup xs => .ok (.tup (cutL xs lo hi))
  | _ => .stuck
def dSlS (x : D) (lo hi : Option Int) : Out D := match x with
  | .str z => .ok (.str (cutS z lo hi))
  | _ => .stuck
theorem sn_slL {te : TE} {tl th : TO} {a : Rho → Out D} {l h : Rho → Out (Option Int)} (ha : SimV C E Γ te a) (hl : SimO C E Γ tl l) (hh : SimO C E Γ th h) : SimN C E Γ (tSl (rSlL K) te tl th) (eSl dSlL a l h) := fun H0 n G H σ ρ Q w e q => by
  refine ha H0 n G H σ ρ _ w e (Out.wp_mono (fun m d k v G1 H1 s1 r1 => ?_) (fun _ _ _ z => z) (Out.wp_bind q))
  refine hl H0 m G1 H1 σ ρ _ s1.w (e.step s1) (Out.wp_mono (fun m2 lo k2 G2 H2 s2 => ?_) (fun _ _ _ z => PX.back s1 z) (Out.wp_bind k))
  refine hh H0 m2 G2 H2 σ ρ _ s2.w ((e.step s1).step s2) (Out.wp_mono (fun m3 hi k3 G3 H3 s3 => ?_) (fun _ _ _ z => PX.back (s1.trans s2) z) (Out.wp_bind k2))
  cases d <;> first | exact k3.elim | skip
  have s23 := s2.trans s3
  obtain ⟨a, vs, rfl, hx, t, hz⟩ := (r1.step s23).lst s3.w.sub
  refine ⟨a, vs, rfl, .inl hx, fun p np => ?_⟩
  have s13 := s1.trans s23
  exact k3 p _ _ _ (s13.tmp np) (s13.dm np) (s13.w.gn np) upd_same ⟨Nat.le_trans (cutL_len _ _ _) hz, t.cut _ _⟩
theorem cutL_whole {α : Type} {xs : List α} {lo hi : Option Int} (h : HT.sIx xs.length 0 lo = 0 ∧ HT.sIx xs.length xs.length hi = xs.length) : cutL xs lo hi = xs := by
  unfold cutL
  rw [h.1, h.2, List.drop_zero, Nat.sub_zero, List.take_length]
theorem sm_slT {te : TE} {tl th : TO} {a : Rho → Out D} {l h : Rho → Out (Option Int)} (ha : SimE C E Γ te a) (hl : SimO C E Γ tl l) (hh : SimO C E Γ th h) : SimE C E Γ (tSl (rSlF K) te tl th) (eSl dSlT a l h) := fun H0 n G H σ ρ Q w e q => by
  refine ha H0 n G H σ ρ _ w e (Out.wp_mono (fun m d k v G1 H1 s1 r1 => ?_) (fun _ _ _ z => z) (Out.wp_bind q))
  refine hl H0 m G1 H1 σ ρ _ s1.w (e.step s1) (Out.wp_mono (fun m2 lo k2 G2 H2 s2 => ?_) (fun _ _ _ z => PX.back s1 z) (Out.wp_bind k))
  refine hh H0 m2 G2 H2 σ ρ _ s2.w ((e.step s1).step s2) (Out.wp_mono (fun m3 hi k3 G3 H3 s3 => ?_) (fun _ _ _ z => PX.back (s1.trans s2) z) (Out.wp_bind k2))
  cases d <;> first | exact k3.elim | skip
  rename_i xs
  have s23 := s2.trans s3
  have s13 := s1.trans s23
  have r3 := r1.mono s23.g
  cases r3 with
  | @tup a vs _ hx t hz =>
    refine ⟨a, vs, rfl, Evl.ex_t s3.w.sub hx.1, fun hw => ?_, fun _ p o np ho => ?_⟩
    · refine k3 (.ref a) G3 H3 s13 ?_
      rw [t.len] at hw
      rw [cutL_whole hw]
      exact .tup hx t hz
    · have gp := s13.w.gn np
      exact k3 _ _ _ (s13.new np) (.tup (GT.new upd_same ho) ((t.cut _ _).mono (same_add gp)) (Nat.le_trans (cutL_len _ _ _) hz))
theorem sok_sub {z y : Str} (h : SOk z) (hl : y.length ≤ z.length) (hm : ∀ c ∈ y.cps.toList, c ∈ z.cps.toList) : SOk y := by
  refine ⟨Nat.le_trans hl h.1, ?_⟩
  have h2 := h.2
  unfold PyData.strOk at h2 ⊢
  rw [← Array.all_toList, List.all_eq_true] at h2 ⊢
  exact fun c hc => h2 c (hm c hc)
theorem cutS_list (z : Str) (lo hi : Option Int) : (cutS z lo hi).cps.toList = cutL z.cps.toList lo hi := by
  have hl : z.length = z.cps.toList.length := by rw [Array.length_toList]; rfl
  unfold cutL
  rw [← hl]
  rfl
theorem sok_cut {z : Str} (h : SOk z) (lo hi : Option Int) : SOk (cutS z lo hi) := by
  have hl : ∀ y : Str, y.length = y.cps.toList.length := fun y => by rw [Array.length_toList]; rfl
  refine sok_sub h ?_ fun c hc => ?_
  · rw [hl, hl, cutS_list]
    exact cutL_len _ _ _
  · rw [cutS_list] at hc
    unfold cutL at hc
    exact List.mem_of_mem_drop (List.mem_of_mem_take hc)
theorem sm_slS {te : TE} {tl th : TO} {a : Rho → Out D} {l h : Rho → Out (Option Int)} (ha : SimE C E Γ te a) (hl : SimO C E Γ tl l) (hh : SimO C E Γ th h) : SimE C E Γ (tSl rSlS te tl th) (eSl dSlS a l h) := fun H0 n G H σ ρ Q w e q => by
  refine ha H0 n G H σ ρ _ w e (Out.wp_mono (fun m d k v G1 H1 s1 r1 => ?_) (fun _ _ _ z => z) (Out.wp_bind q))
  refine hl H0 m G1 H1 σ ρ _ s1.w (e.step s1) (Out.wp_mono (fun m2 lo k2 G2 H2 s2 => ?_) (fun _ _ _ z => PX.back s1 z) (Out.wp_bind k))
  refine hh H0 m2 G2 H2 σ ρ _ s2.w ((e.step s1).step s2) (Out.wp_mono (fun m3 hi k3 G3 H3 s3 => ?_) (fun _ _ _ z => PX.back (s1.trans s2) z) (Out.wp_bind k2))
  cases d <;> first | exact k3.elim | skip
  cases r1 with
  | str z hz => exact ⟨_, rfl, Nat.le_trans hz.1 (by decide), k3 _ G3 H3 ((s1.trans s2).trans s3) (.str _ (sok_cut hz _ _))⟩
/-! ### len -/
theorem orCall {X : Cx} {f : Value} {r1 r2 : List V → Hp → VK → Prop} (a : CallR X f r1) (b : CallR X f r2) : CallR X f (fun xs H Q => r1 xs H Q ∨ r2 xs H Q) := by
  intro pins s σ H xs us Q I r h
  rcases h with h | h
  · exact a pins s σ H xs us Q I r h
  · exact b pins s σ H xs us Q I r h
def rLenA (K : PySem.W.Frag) : List V → Hp → VK → Prop := fun xs H Q => (∃ p ys, xs = [.ref p] ∧ (SqL K H p ys ∨ SqT K H p ys) ∧ Q (.int ys.length) H) ∨ (∃ z, xs = [.str z] ∧ z.length ≤ sizeLine ∧ Q (.int z.length) H) ∨ ∃ a kvs, xs = [V.ref a] ∧ Rd H a (.dK kvs) ∧ Q (.int kvs.length) H
theorem call_lenR {X : Cx} : CallR X (.builtin "len") (fun xs H Q => ∃ a kvs, xs = [V.ref a] ∧ Rd H a (.dK kvs) ∧ Q (.int kvs.length) H) := by
  intro pins s σ H xs us Q I r h
  obtain ⟨a, kvs, rfl, ha, q⟩ := h
  obtain ⟨u, rfl, ru⟩ := vals1 r
  cases ru
  exact d_len I ha fun t s' I' => ⟨.int kvs.length, H, I', ⟨t, rfl⟩, q⟩
theorem call_lenA {X : Cx} : CallR X (.builtin "len") (rLenA X.K) := orCall call_len_seq (orCall call_len_str call_lenR)
theorem call_lenAK {X : Cx} (K : PySem.W.Frag) (hK : X.K = K) : CallR X (.builtin "len") (rLenA K) := hK ▸ call_lenA
def dLen : List D → Out D
  | [.lst xs] => .ok (.int xs.length)
  | [.tup xs] => .ok (.int xs.length)
  | [.str z] => .ok (.int z.length)
  | [.dct kvs] => .ok (.int kvs.length)
  | _ => .stuck
theorem sc_len : SC C E 1 (rLenA K) dLen := fun n G H vs ds Q w r hl q => by
  match ds, hl, vs, r with
  | [d], _, [v], .cons h .nil =>
    cases d <;> first | exact q.elim | skip
    · obtain ⟨rfl, sz⟩ := h.str
      exact .inr (.inl ⟨_, rfl, Nat.le_trans sz.1 (by decide), q _ G H (Ws.refl w) (.int _)⟩)
    · obtain ⟨a, us, rfl, hx, t, hz⟩ := h.lst w.sub
      refine .inl ⟨a, us, rfl, .inl (.inl hx), ?_⟩
      rw [t.len]
      exact q _ G H (Ws.refl w) (.int _)
    · obtain ⟨a, us, rfl, hx, t, hz⟩ := h.tup w.sub
      refine .inl ⟨a, us, rfl, .inr hx, ?_⟩
      rw [t.len]
      exact q _ G H (Ws.refl w) (.int _)
    · obtain ⟨a, us, rfl, hx, e, t, hz⟩ := h.dct w.sub
      refine .inr (.inr ⟨a, us, rfl, hx, ?_⟩)
      have := congrArg List.length e
      rw [List.length_map, List.length_map] at this
      rw [this]
      exact q _ G H (Ws.refl w) (.int _)
/-! ### isinstance -/
def tyOfD : D → String
  | .non => "NoneType"
  | .bl _ => "bool"
  | .int _ => "int"
  | .str _ => "str"
  | .lst _ => "list"
  | .tup _ => "tuple"
  | _ => "dict"
def isTyS (t n : String) : Bool := decide (t = n) || (decide (t = "bool") && decide (n = "int"))
def dIsTyB (n : String) : D → Option Bool
  | .ins _ _ => some false
  | .exc _ _ => some false
  | .drw => none
  | d => some (isTyS (tyOfD d) n)
def dIsClB (c : Str) : D → Option Bool
  | .ins c' _ => some (isaB c' c)
  | .exc c' _ => some (isaB c' c)
  | .drw => none
  | _ => some false
def boD : Option Bool → Out D
  | some b => .ok (.bl b)
  | none => .stuck
@[simp] theorem boD_some (b : Bool) : boD (some b) = .ok (.bl b) := rfl
def rIsA (K : PySem.W.Frag) : List V → Hp → VK → Prop := fun xs H Q => rIsi K xs H Q ∨ rIsK K xs H Q
theorem call_isA {X : Cx} : CallR X (.builtin "isinstance") (rIsA X.K) := orCall call_isi call_isk
theorem call_isAK {X : Cx} (K : PySem.W.Frag) (hK : X.K = K) : CallR X (.builtin "isinstance") (rIsA K) := hK ▸ call_isA
theorem kit_tys : ∀ t ∈ tyNs, ∀ n ∈ tyNs, PySem.W.kitOne K (.type t) (.type n) = some (isTyS t n) := by
  intro t ht n hn
  have key : ∀ t ∈ tyNs, ∀ n ∈ tyNs, kitB t n = some (isTyS t n) := by decide +kernel
  exact kit_ty (key t ht n hn)
theorem rd_lst_ty {a : Addr} {vs : List V} (h : Rd H a (.lst vs)) : TyX K H (.ref a) (.type "list") := sqL_ty (.inl h)
/-- its kind: a built-in one, or a class -/
theorem RepV.ty (w : Same G H) (h : RepV C G H v d) (hn : d ≠ .drw) : (TyX K H v (.type (tyOfD d)) ∧ tyOfD d ∈ tyNs ∧ (∀ c fs, d ≠ .ins c fs) ∧ ∀ c fs, d ≠ .exc c fs) ∨ (∃ c fs, d = .ins c fs ∧ c ∈ ownCls K ∧ TyX K H v (.ref (He.ga K c))) ∨ ∃ c fs a, d = .exc c fs ∧ c ∈ ownX K ∧ v = .ref a ∧ ∃ dd us, H a = some (XO a (He.ga K c) dd) ∧ XFs H dd us := by
  cases d with
  | non => rw [h.non]; exact .inl ⟨.base .non, (by show "NoneType" ∈ tyNs; decide), (fun _ _ z => nomatch z), (fun _ _ z => nomatch z)⟩
  | bl b => rw [h.bl]; exact .inl ⟨.base (.bl b), (by show "bool" ∈ tyNs; decide), (fun _ _ z => nomatch z), (fun _ _ z => nomatch z)⟩
  | int b => rw [h.int]; exact .inl ⟨.base (.int b), (by show "int" ∈ tyNs; decide), (fun _ _ z => nomatch z), (fun _ _ z => nomatch z)⟩
  | str b => rw [h.str.1]; exact .inl ⟨.base (.str b), (by show "str" ∈ tyNs; decide), (fun _ _ z => nomatch z), (fun _ _ z => nomatch z)⟩
  | lst xs =>
    obtain ⟨a, us, rfl, hx, _⟩ := h.lst w
    exact .inl ⟨rd_lst_ty hx, (by show "list" ∈ tyNs; decide), (fun _ _ z => nomatch z), (fun _ _ z => nomatch z)⟩
  | tup xs =>
    obtain ⟨a, us, rfl, hx, _⟩ := h.tup w
    exact .inl ⟨sqT_ty hx, (by show "tuple" ∈ tyNs; decide), (fun _ _ z => nomatch z), (fun _ _ z => nomatch z)⟩
  | dct xs =>
    obtain ⟨a, us, rfl, hx, _⟩ := h.dct w
    refine .inl ⟨?_, (by show "dict" ∈ tyNs; decide), (fun _ _ z => nomatch z), (fun _ _ z => nomatch z)⟩
    rcases hx with hx | ⟨o, hx⟩
    · exact .base (.dK hx)
    · exact .fDict hx
  | ins c fs =>
    obtain ⟨a, dx, us, rfl, hc, hx, _⟩ := h.ins w
    exact .inr (.inl ⟨c, fs, rfl, hc, (C.ct.ty c hc).ty hx⟩)
  | exc c fs =>
    rcases h with h | ⟨p, o, rfl, hp, nv, r⟩
    · cases h with
      | @exc a _ us _ hc hx e t =>
        refine .inr (.inr ⟨c, fs, a, rfl, hc, rfl, ?_⟩)
        obtain ⟨dd, h1, h2⟩ := hx
        exact ⟨dd, us, w _ _ h1, h2.mono w⟩
    · cases o <;> exact r.elim
  | drw => exact absurd rfl hn
theorem sm_isTy {s : String} {ta : TE} {a : Rho → Out D} (ha : SimV C E Γ ta a) (hs : s ∈ tyNs := by decide) : SimE C E Γ (tCB (rIsA K) (tCons ta (tCons (tC (.ty s)) tNil))) (eUn (fun d => boD (dIsTyB s d)) a) := fun H0 n G H σ ρ Q w e q => by
  refine ha H0 n G H σ ρ _ w e (Out.wp_mono (fun m d k v G1 H1 s1 r1 => ?_) (fun _ _ _ z => z) (Out.wp_bind q))
  by_cases hd : d = .drw
  · subst hd; exact k.elim
  rcases r1.ty s1.w.sub hd with ⟨h1, h2, h3, h4⟩ | ⟨c, fs, rfl, hc, h1⟩ | ⟨c, fs, b, rfl, hc, rfl, dd, us, h1, h1x⟩
  · refine .inl ⟨v, _, _, _, isTyS (tyOfD d) s, rfl, .ty s, h1, kit_tys _ h2 _ hs, ?_⟩
    have e : dIsTyB s d = some (isTyS (tyOfD d) s) := by
      cases d <;> first | rfl | exact absurd rfl hd | exact absurd rfl (h3 _ _) | exact absurd rfl (h4 _ _)
    simp only [e, boD_some] at k
    exact k _ G1 H1 s1 (.bl _)
  · exact .inl ⟨v, _, _, _, false, rfl, .ty s, h1, C.ct.bt c (List.mem_append_left _ hc) s hs, k _ G1 H1 s1 (.bl _)⟩
  · exact .inr ⟨b, _, dd, us, _, _, false, rfl, h1, h1x, C.ct.xk c hc, .ty s, C.ct.bt c (List.mem_append_right _ hc) s hs, k _ G1 H1 s1 (.bl _)⟩
theorem sm_isCl {c : Str} {ta : TE} {a : Rho → Out D} (hc : c ∈ ownCls K ++ ownX K) (ha : SimV C E Γ ta a) : SimE C E Γ (tCB (rIsA K) (tCons ta (tCons (tC (.ref (He.ga K c))) tNil))) (eUn (fun d => boD (dIsClB c d)) a) := fun H0 n G H σ ρ Q w e q => by
  refine ha H0 n G H σ ρ _ w e (Out.wp_mono (fun m d k v G1 H1 s1 r1 => ?_) (fun _ _ _ z => z) (Out.wp_bind q))
  by_cases hd : d = .drw
  · subst hd; exact k.elim
  rcases r1.ty s1.w.sub hd with ⟨h1, h2, h3, h4⟩ | ⟨c', fs, rfl, hc', h1⟩ | ⟨c', fs, b, rfl, hc', rfl, dd, us, h1, h1x⟩
  · refine .inl ⟨v, _, _, _, false, rfl, .own _, h1, C.ct.tb c hc _ h2, ?_⟩
    have e : dIsClB c d = some false := by
      cases d <;> first | rfl | exact absurd rfl hd | exact absurd rfl (h3 _ _) | exact absurd rfl (h4 _ _)
    simp only [e, boD_some] at k
    exact k _ G1 H1 s1 (.bl _)
  · exact .inl ⟨v, _, _, _, _, rfl, .own _, h1, C.ct.oo c' (List.mem_append_left _ hc') c hc, k _ G1 H1 s1 (.bl _)⟩
  · exact .inr ⟨b, _, dd, us, _, _, _, rfl, h1, h1x, C.ct.xk c' hc', .own _, C.ct.oo c' (List.mem_append_right _ hc') c hc, k _ G1 H1 s1 (.bl _)⟩
/-- isinstance(x, (list, tuple)) -/
def dIsSeqB : D → Option Bool
  | .lst _ => some true
  | .tup _ => some true
  | .exc _ _ => none
  | .drw => none
  | _ => some false
theorem kit_any {t : Value} {a b : Bool} {u1 u2 : Value} (h1 : PySem.W.kitOne K t u1 = some a) (h2 : PySem.W.kitOne K t u2 = some b) : PySem.W.kitAny K t [u1, u2] = some (a || b) := by
  unfold PySem.W.kitAny
  rw [h1]
  cases a
  · show PySem.W.kitAny K t [u2] = _
    unfold PySem.W.kitAny
    rw [h2]
    cases b <;> rfl
  · rfl
theorem sm_isSeq {ta : TE} {a : Rho → Out D} (ha : SimV C E Γ ta a) : SimE C E Γ (tCB (rIsiT K) (tCons ta (tCons (tTup (tCons (tC (.ty "list")) (tCons (tC (.ty "tuple")) tNil))) tNil))) (eUn (fun d => boD (dIsSeqB d)) a) := fun H0 n G H σ ρ Q w e q => by
  refine ha H0 n G H σ ρ _ w e (Out.wp_mono (fun m d k v G1 H1 s1 r1 => ?_) (fun _ _ _ z => z) (Out.wp_bind q))
  by_cases hd : d = .drw
  · subst hd; exact k.elim
  refine ⟨by decide, fun p np => ?_⟩
  have s2 := s1.new (o := .tup [.ty "list", .ty "tuple"]) np
  have r2 := r1.step ((Ws.refl s1.w).new (o := .tup [.ty "list", .ty "tuple"]) np)
  rcases r2.ty s2.w.sub hd with ⟨h1, h2, h3, h4⟩ | ⟨c, fs, rfl, hc, h1⟩ | ⟨c, fs, b, rfl, hc, rfl, dd, us, h1, h1x⟩
  · refine ⟨v, p, _, _, _, _, rfl, upd_same, .cons (.ty _) (.cons (.ty _) .nil), h1, kit_any (kit_tys _ h2 "list" (by decide)) (kit_tys _ h2 "tuple" (by decide)), ?_⟩
    have e : dIsSeqB d = some (isTyS (tyOfD d) "list" || isTyS (tyOfD d) "tuple") := by
      cases d <;> first | rfl | exact absurd rfl hd | exact absurd rfl (h3 _ _) | exact absurd rfl (h4 _ _)
    simp only [e, boD_some] at k
    exact k _ _ _ s2 (.bl _)
  · exact ⟨v, p, _, _, _, _, rfl, upd_same, .cons (.ty _) (.cons (.ty _) .nil), h1, kit_any (C.ct.bt c (List.mem_append_left _ hc) "list" (by decide)) (C.ct.bt c (List.mem_append_left _ hc) "tuple" (by decide)), k _ _ _ s2 (.bl _)⟩
  · exact k.elim
end
end ND
/-! dict comprehensions over any walk -/
namespace ND
open PySem PySem.Spec PyProof.Rows L2
theorem dc_it {J : It} {n : Nat} {G : Hp → Prop} {Y : Nat → Hp → V → Hp → Prop} (w : Walk J n G Y) {g : TG} {tt : TT} {tk tv : TE} {vs : List Nat} {σ : L2.St} {H1 : Hp} {D : Addr} {Qd : Hp → Prop} (Pv : Nat → Hp → Prop) (h0 : Pv 0 (upd H1 D (.dK []))) (hG : ∀ i H, i ≤ n → Pv i H → G H)
    (hs : ∀ i x H H', i < n → Pv i H → Y i H x H' → g x (wipe σ vs) H' fun σ2 H2 => wipe σ2 vs = wipe σ vs ∧ tt σ2 H2 fun b H3 =>
      if b = true then tk σ2 H3 fun y H4 => tv σ2 H4 fun z H5 => ∃ kvs k, y = kV k ∧ H5 D = some (.dK kvs) ∧ kvs.length < sizeLine ∧ Pv (i + 1) (upd H5 D (.dK (putK kvs k z))) else Pv (i + 1) H3) (hd : ∀ H, Pv n H → Qd H) :
    ∃ W : Nat → Nat → Hp → Prop, (∃ m, W 0 m (upd H1 D (.dK []))) ∧ ∀ i m H, W i m H →
      (J.stop i H ∧ Qd H) ∨ (J.go i H ∧ ∃ Nx : Hp → Prop, (∀ H', Nx H' → ∃ m', m' < m ∧ W (i + 1) m' H') ∧ ∀ x H', J.yld i H x H' → g x (wipe σ vs) H' fun σ2 H2 => wipe σ2 vs = wipe σ vs ∧ tt σ2 H2 fun b H3 =>
        if b = true then tk σ2 H3 fun y H4 => tv σ2 H4 fun z H5 => ∃ kvs k, y = kV k ∧ H5 D = some (.dK kvs) ∧ kvs.length < sizeLine ∧ Nx (upd H5 D (.dK (putK kvs k z))) else Nx H3) := by
  refine ⟨fun i m H => m = n - i ∧ i ≤ n ∧ Pv i H, ⟨n, rfl, Nat.zero_le _, h0⟩, ?_⟩
  rintro i m H ⟨rfl, hi, p⟩
  have gH := hG i H hi p
  rcases Nat.lt_or_ge i n with hlt | hge
  · exact .inr ⟨w.goes i H hlt gH, Pv (i + 1), fun H' h' => ⟨n - (i + 1), by omega, rfl, hlt, h'⟩, fun x H' hy => hs i x H H' hlt p (w.yields i H x H' hlt gH hy)⟩
  · obtain rfl : i = n := by omega
    exact .inl ⟨w.stops H gH, hd H p⟩
end ND
/-! built-in functions, fields, dicts, changes of one's own objects -/
namespace ND
open PySem PySem.Spec PyProof.Rows L2
def intsD : List D → Option (List Int)
  | [] => some []
  | .int i :: xs => (intsD xs).map (i :: ·)
  | _ => none
def boolsD : List D → Option (List Bool)
  | [] => some []
  | .bl i :: xs => (boolsD xs).map (i :: ·)
  | _ => none
def strsD : List D → Option (List Str)
  | [] => some []
  | .str i :: xs => (strsD xs).map (i :: ·)
  | _ => none
theorem intsD_map : ∀ ns : List Int, intsD (ns.map D.int) = some ns
  | [] => rfl
  | n :: ns => by
    show (intsD (ns.map D.int)).map (n :: ·) = _
    rw [intsD_map ns]
    rfl
theorem boolsD_map : ∀ ns : List Bool, boolsD (ns.map D.bl) = some ns
  | [] => rfl
  | n :: ns => by
    show (boolsD (ns.map D.bl)).map (n :: ·) = _
    rw [boolsD_map ns]
    rfl
theorem strsD_map : ∀ ns : List Str, strsD (ns.map D.str) = some ns
  | [] => rfl
  | n :: ns => by
    show (strsD (ns.map D.str)).map (n :: ·) = _
    rw [strsD_map ns]
    rfl
theorem intsD_eq : ∀ {xs : List D} {ns : List Int}, intsD xs = some ns → xs = ns.map D.int
  | [], _, h => by cases h; rfl
  | .int i :: xs, _, h => by
    have h' : (intsD xs).map (i :: ·) = some _ := h
    obtain ⟨ms, h1, rfl⟩ := Option.map_eq_some_iff.mp h'
    rw [intsD_eq h1]
    rfl
theorem boolsD_eq : ∀ {xs : List D} {ns : List Bool}, boolsD xs = some ns → xs = ns.map D.bl
  | [], _, h => by cases h; rfl
  | .bl i :: xs, _, h => by
    have h' : (boolsD xs).map (i :: ·) = some _ := h
    obtain ⟨ms, h1, rfl⟩ := Option.map_eq_some_iff.mp h'
    rw [boolsD_eq h1]
    rfl
theorem strsD_eq : ∀ {xs : List D} {ns : List Str}, strsD xs = some ns → xs = ns.map D.str
  | [], _, h => by cases h; rfl
  | .str i :: xs, _, h => by
    have h' : (strsD xs).map (i :: ·) = some _ := h
    obtain ⟨ms, h1, rfl⟩ := Option.map_eq_some_iff.mp h'
    rw [strsD_eq h1]
    rfl
section
variable {K : PySem.W.Frag} {C : Cfg K} {E : XK} {Γ Γn Γb Γc : List Md} {n m : Nat} {G0 H0 G H G1 H1 : Hp} {v : V} {d : D} {σ : L2.St} {ρ : Rho} {Q : VK} {i : Nat}
theorem RqL.ints : ∀ {ns : List Int} {vs : List V}, RepL C G vs (ns.map D.int) → vs = ns.map V.int
  | [], _, h => by cases h; rfl
  | n :: ns, _, h => by
    cases h with
    | cons h t => cases h; rw [RqL.ints t]; rfl
theorem RqL.bools : ∀ {ns : List Bool} {vs : List V}, RepL C G vs (ns.map D.bl) → vs = ns.map V.bl
  | [], _, h => by cases h; rfl
  | n :: ns, _, h => by
    cases h with
    | cons h t => cases h; rw [RqL.bools t]; rfl
theorem RqL.strs : ∀ {ns : List Str} {vs : List V}, RepL C G vs (ns.map D.str) → vs = ns.map V.str ∧ ∀ z ∈ ns, SOk z
  | [], _, h => by cases h; exact ⟨rfl, fun _ h => nomatch h⟩
  | n :: ns, _, h => by
    cases h with
    | cons h t =>
      cases h with
      | str _ hz =>
        obtain ⟨rfl, h2⟩ := RqL.strs t
        refine ⟨rfl, fun z hz' => ?_⟩
        rcases List.mem_cons.mp hz' with rfl | h3
        · exact hz
        · exact h2 z h3
theorem repL_strs : ∀ {ns : List Str}, (∀ z ∈ ns, SOk z) → RepL C G (ns.map V.str) (ns.map D.str)
  | [], _ => .nil
  | n :: ns, h => .cons (.str _ (h n List.mem_cons_self)) (repL_strs fun z hz => h z (List.mem_cons_of_mem _ hz))
/-! ### all, any, sum, max, min -/
def dLs (f : List D → Out D) : List D → Out D
  | [.lst xs] => f xs
  | _ => .stuck
def dAll : List D → Out D := dLs fun xs => match boolsD xs with
  | some bs => .ok (.bl (bs.all id))
  | none => .stuck
def dAny : List D → Out D := dLs fun xs => match boolsD xs with
  | some bs => .ok (.bl (bs.any id))
  | none => .stuck
def dSum : List D → Out D := dLs fun xs => match intsD xs with
  | some ns => .ok (.int ns.sum)
  | none => .stuck
def maxL : List Int → Option Int
  | [] => none
  | x :: xs => some (xs.foldl max x)
def minL : List Int → Option Int
  | [] => none
  | x :: xs => some (xs.foldl min x)
def dMax : List D → Out D := dLs fun xs => match (intsD xs).bind maxL with
  | some n => .ok (.int n)
  | none => .stuck
def dMin : List D → Out D := dLs fun xs => match (intsD xs).bind minL with
  | some n => .ok (.int n)
  | none => .stuck
theorem foldl_max : ∀ (xs : List Int) (x : Int), xs.foldl max x ∈ x :: xs ∧ ∀ y ∈ x :: xs, y ≤ xs.foldl max x
  | [], x => ⟨List.mem_cons_self, fun y hy => by rw [List.mem_singleton.mp hy]; exact Int.le_refl _⟩
  | z :: xs, x => by
    obtain ⟨h1, h2⟩ := foldl_max xs (max x z)
    rw [List.foldl_cons]
    refine ⟨?_, fun y hy => ?_⟩
    · rcases List.mem_cons.mp h1 with h | h
      · rw [h]
        rcases Int.le_total x z with hz | hz
        · rw [Int.max_eq_right hz]; exact List.mem_cons_of_mem _ List.mem_cons_self
        · rw [Int.max_eq_left hz]; exact List.mem_cons_self
      · exact List.mem_cons_of_mem _ (List.mem_cons_of_mem _ h)
    · have hm := h2 (max x z) List.mem_cons_self
      rcases List.mem_cons.mp hy with rfl | hy
      · exact Int.le_trans (Int.le_max_left _ _) hm
      · rcases List.mem_cons.mp hy with rfl | hy
        · exact Int.le_trans (Int.le_max_right _ _) hm
        · exact h2 y (List.mem_cons_of_mem _ hy)
theorem foldl_min : ∀ (xs : List Int) (x : Int), xs.foldl min x ∈ x :: xs ∧ ∀ y ∈ x :: xs, xs.foldl min x ≤ y
  | [], x => ⟨List.mem_cons_self, fun y hy => by rw [List.mem_singleton.mp hy]; exact Int.le_refl _⟩
  | z :: xs, x => by
    obtain ⟨h1, h2⟩ := foldl_min xs (min x z)
    rw [List.foldl_cons]
    refine ⟨?_, fun y hy => ?_⟩
    · rcases List.mem_cons.mp h1 with h | h
      · rw [h]
        rcases Int.le_total x z with hz | hz
        · rw [Int.min_eq_left hz]; exact List.mem_cons_self
        · rw [Int.min_eq_right hz]; exact List.mem_cons_of_mem _ List.mem_cons_self
      · exact List.mem_cons_of_mem _ (List.mem_cons_of_mem _ h)
    · have hm := h2 (min x z) List.mem_cons_self
      rcases List.mem_cons.mp hy with rfl | hy
      · exact Int.le_trans hm (Int.min_le_left _ _)
      · rcases List.mem_cons.mp hy with rfl | hy
        · exact Int.le_trans hm (Int.min_le_right _ _)
        · exact h2 y (List.mem_cons_of_mem _ hy)
theorem sc_ls {r : List V → Hp → VK → Prop} {f : List D → Out D} (h : ∀ n G H a vs xs Q, Wl C n G H → Rd H a (.lst vs) → RepL C G vs xs → (f xs).wp n (PQ C G H Q) (PX C G H E) → r [.ref a] H Q) : SC C E 1 r (dLs f) := fun n G H vs ds Q w r hl q => by
  match ds, hl, vs, r with
  | [d], _, [v], .cons hd .nil =>
    cases d <;> first | exact q.elim | skip
    obtain ⟨a, us, rfl, hx, t, hz⟩ := hd.lst w.sub
    exact h n G H a us _ Q w hx t q
theorem sc_all : SC C E 1 (rAll K) dAll := sc_ls fun n G H a vs xs Q w hx t q => by
  cases hh : boolsD xs with
  | none => simp only [hh] at q; exact q.elim
  | some bs =>
    simp only [hh] at q
    rw [boolsD_eq hh] at t
    rw [t.bools] at hx
    exact ⟨a, bs, rfl, .inl hx, q _ G H (Ws.refl w) (.bl _)⟩
theorem sc_any : SC C E 1 (rAny K) dAny := sc_ls fun n G H a vs xs Q w hx t q => by
  cases hh : boolsD xs with
  | none => simp only [hh] at q; exact q.elim
  | some bs =>
    simp only [hh] at q
    rw [boolsD_eq hh] at t
    rw [t.bools] at hx
    exact ⟨a, bs, rfl, .inl hx, q _ G H (Ws.refl w) (.bl _)⟩
theorem sc_sum : SC C E 1 (rSum K) dSum := sc_ls fun n G H a vs xs Q w hx t q => by
  cases hh : intsD xs with
  | none => simp only [hh] at q; exact q.elim
  | some bs =>
    simp only [hh] at q
    rw [intsD_eq hh] at t
    rw [t.ints] at hx
    exact ⟨a, bs, rfl, .inl hx, q _ G H (Ws.refl w) (.int _)⟩
theorem sc_max : SC C E 1 (rMax K) dMax := sc_ls fun n G H a vs xs Q w hx t q => by
  cases hh : intsD xs with
  | none => simp only [hh, Option.bind_none] at q; exact q.elim
  | some bs =>
    rw [intsD_eq hh] at t
    rw [t.ints] at hx
    cases bs with
    | nil => simp only [hh, Option.bind_some, maxL] at q; exact q.elim
    | cons b bs =>
      simp only [hh, Option.bind_some, maxL] at q
      refine ⟨a, _, rfl, .inl hx, Nat.succ_pos _, fun m h1 h2 => ?_⟩
      obtain ⟨g1, g2⟩ := foldl_max bs b
      have : m = bs.foldl max b := Int.le_antisymm (g2 m h1) (h2 _ g1)
      rw [this]
      exact q _ G H (Ws.refl w) (.int _)
theorem sc_min : SC C E 1 (rMin K) dMin := sc_ls fun n G H a vs xs Q w hx t q => by
  cases hh : intsD xs with
  | none => simp only [hh, Option.bind_none] at q; exact q.elim
  | some bs =>
    rw [intsD_eq hh] at t
    rw [t.ints] at hx
    cases bs with
    | nil => simp only [hh, Option.bind_some, minL] at q; exact q.elim
    | cons b bs =>
      simp only [hh, Option.bind_some, minL] at q
      refine ⟨a, _, rfl, .inl hx, Nat.succ_pos _, fun m h1 h2 => ?_⟩
      obtain ⟨g1, g2⟩ := foldl_min bs b
      have : m = bs.foldl min b := Int.le_antisymm (h2 _ g1) (g2 m h1)
      rw [this]
      exact q _ G H (Ws.refl w) (.int _)
def dMin2 : List D → Out D
  | [.int i, .int j] => .ok (.int (if j < i then j else i))
  | _ => .stuck
def dMax2 : List D → Out D
  | [.int i, .int j] => .ok (.int (if j > i then j else i))
  | _ => .stuck
theorem sc_min2 : SC C E 2 (fun xs H Q => ∃ i j, xs = [.int i, .int j] ∧ Q (.int (if j < i then j else i)) H) dMin2 := fun n G H vs ds Q w r hl q => by
  match ds, hl, vs, r with
  | [d, e], _, [v, u], .cons hd (.cons he .nil) =>
    cases d <;> first | exact q.elim | skip
    cases e <;> first | exact q.elim | skip
    rw [hd.int, he.int]
    exact ⟨_, _, rfl, q _ G H (Ws.refl w) (.int _)⟩
theorem sc_max2 : SC C E 2 (fun xs H Q => ∃ i j, xs = [.int i, .int j] ∧ Q (.int (if j > i then j else i)) H) dMax2 := fun n G H vs ds Q w r hl q => by
  match ds, hl, vs, r with
  | [d, e], _, [v, u], .cons hd (.cons he .nil) =>
    cases d <;> first | exact q.elim | skip
    cases e <;> first | exact q.elim | skip
    rw [hd.int, he.int]
    exact ⟨_, _, rfl, q _ G H (Ws.refl w) (.int _)⟩
def dInt : List D → Out D
  | [.int i] => .ok (.int i)
  | [.bl b] => .ok (.int (if b then 1 else 0))
  | _ => .stuck
theorem sc_int : SC C E 1 (fun xs H Q => (∃ i, xs = [.int i] ∧ Q (.int i) H) ∨ ∃ k, xs = [.bl k] ∧ Q (.int (if k then 1 else 0)) H) dInt := fun n G H vs ds Q w r hl q => by
  match ds, hl, vs, r with
  | [d], _, [v], .cons hd .nil =>
    cases d <;> first | exact q.elim | skip
    · rw [hd.bl]
      exact .inr ⟨_, rfl, q _ G H (Ws.refl w) (.int _)⟩
    · rw [hd.int]
      exact .inl ⟨_, rfl, q _ G H (Ws.refl w) (.int _)⟩
def dAbs : List D → Out D
  | [.int i] => .ok (.int (if i < 0 then -i else i))
  | _ => .stuck
theorem sc_abs : SC C E 1 (fun xs H Q => ∃ i, xs = [.int i] ∧ Q (.int (if i < 0 then -i else i)) H) dAbs := fun n G H vs ds Q w r hl q => by
  match ds, hl, vs, r with
  | [d], _, [v], .cons hd .nil =>
    cases d <;> first | exact q.elim | skip
    rw [hd.int]
    exact ⟨_, rfl, q _ G H (Ws.refl w) (.int _)⟩
/-! ### list(..), tuple(..), dict(..), sorted(..) -/
def dList : List D → Out D
  | [.lst xs] => .ok (.lst xs)
  | [.tup xs] => .ok (.lst xs)
  | _ => .stuck
theorem sc_list : SCN C E 1 (fun xs H Q => ∃ p ys, xs = [.ref p] ∧ (SqL K H p ys ∨ SqT K H p ys) ∧ ∀ l, H l = none → Q (.ref l) (upd H l (.lst ys))) dList := fun n G H vs ds Q w r hl q => by
  match ds, hl, vs, r with
  | [d], _, [v], .cons hd .nil =>
    cases d <;> first | exact q.elim | skip
    · obtain ⟨a, us, rfl, hx, t, hz⟩ := hd.lst w.sub
      exact ⟨a, us, rfl, .inl (.inl hx), fun p np => q p _ _ _ ((Ws.refl w).tmp np) np (w.gn np) upd_same ⟨hz, t⟩⟩
    · obtain ⟨a, us, rfl, hx, t, hz⟩ := hd.tup w.sub
      exact ⟨a, us, rfl, .inr hx, fun p np => q p _ _ _ ((Ws.refl w).tmp np) np (w.gn np) upd_same ⟨hz, t⟩⟩
def dTuple : List D → Out D
  | [.lst xs] => .ok (.tup xs)
  | [.tup xs] => .ok (.tup xs)
  | _ => .stuck
theorem RepV.tupR {xs : List D} (h : RepV C G H v (.tup xs)) : Rep C G v (.tup xs) := by
  rcases h with h | ⟨p, o, rfl, hp, nv, r⟩
  · exact h
  · cases o <;> exact r.elim
theorem sc_tuple : SC C E 1 (rTupOf K) dTuple := fun n G H vs ds Q w r hl q => by
  match ds, hl, vs, r with
  | [d], _, [v], .cons hd .nil =>
    cases d <;> first | exact q.elim | skip
    · obtain ⟨a, us, rfl, hx, t, hz⟩ := hd.lst w.sub
      exact ⟨a, us, rfl, .inl ⟨.inl hx, fun p o np ho => q _ _ _ ((Ws.refl w).new np) (.tup (GT.new upd_same ho) (t.mono (same_add (w.gn np))) hz)⟩⟩
    · have hr := hd.tupR
      obtain ⟨a, us, rfl, hx, t, hz⟩ := hd.tup w.sub
      exact ⟨a, us, rfl, .inr ⟨hx, q _ G H (Ws.refl w) hr⟩⟩
def dDict : List D → Out D
  | [.dct kvs] => .ok (.dct kvs)
  | _ => .stuck
theorem sc_dict : SCN C E 1 (fun xs H Q => ∃ (a : Addr) (kvs : List (Key × V)), xs = [.ref a] ∧ Rd H a (.dK kvs) ∧ ∀ p, H p = none → Q (.ref p) (upd H p (.dK kvs))) dDict := fun n G H vs ds Q w r hl q => by
  match ds, hl, vs, r with
  | [d], _, [v], .cons hd .nil =>
    cases d <;> first | exact q.elim | skip
    obtain ⟨a, us, rfl, hx, e, t, hz⟩ := hd.dct w.sub
    exact ⟨a, us, rfl, hx, fun p np => q p _ _ _ ((Ws.refl w).tmp np) np (w.gn np) upd_same ⟨hz, e, t⟩⟩
/-- sorted(xs) -/
def dLeB (a b : D) : Bool := PySem.W.dataLe false D.py a b
def sortD (xs : List D) : List D := xs.mergeSort dLeB
def tupNe : D → Bool
  | .tup (_ :: _) => true
  | _ => false
def notTN : D → Bool
  | .tup _ => false
  | .non => false
  | _ => true
def canSort (xs : List D) : Bool := xs.all (D.pl 8) && ((xs.all fun a => xs.all fun b => PySem.W.alike a.py b.py) && (xs.all tupNe || xs.all notTN))
def dSorted : List D → Out D := dLs fun xs => bif canSort xs then .ok (.lst (sortD xs)) else .stuck
theorem zip_of {P : V → D → Prop} : ∀ {vs : List V} {xs : List D}, vs.length = xs.length → (vs.zip xs).map (·.1) = vs ∧ (vs.zip xs).map (·.2) = xs
  | [], [], _ => ⟨rfl, rfl⟩
  | v :: vs, x :: xs, h => by
    obtain ⟨a, b⟩ := zip_of (P := P) (vs := vs) (xs := xs) (Nat.succ.inj h)
    exact ⟨by rw [List.zip_cons_cons, List.map_cons, a], by rw [List.zip_cons_cons, List.map_cons, b]⟩
theorem RqL.zip : ∀ {vs : List V} {xs : List D}, RepL C G vs xs → ∀ p ∈ vs.zip xs, Rep C G p.1 p.2
  | _, _, .nil, p, hp => nomatch hp
  | _, _, .cons h t, p, hp => by
    rw [List.zip_cons_cons] at hp
    rcases List.mem_cons.mp hp with rfl | hp
    · exact h
    · exact RqL.zip t p hp
theorem repL_of : ∀ {bs : List (V × D)}, (∀ p ∈ bs, Rep C G p.1 p.2) → RepL C G (bs.map (·.1)) (bs.map (·.2))
  | [], _ => .nil
  | b :: bs, h => .cons (h b List.mem_cons_self) (repL_of fun p hp => h p (List.mem_cons_of_mem _ hp))
theorem scn_ls {r : List V → Hp → VK → Prop} {f : List D → Out D} (h : ∀ n G H a vs xs Q, Wl C n G H → Rd H a (.lst vs) → RepL C G vs xs → xs.length ≤ 100000 → (f xs).wp n (PN C G H Q) (PX C G H E) → r [.ref a] H Q) : SCN C E 1 r (dLs f) := fun n G H vs ds Q w r hl q => by
  match ds, hl, vs, r with
  | [d], _, [v], .cons hd .nil =>
    cases d <;> first | exact q.elim | skip
    obtain ⟨a, us, rfl, hx, t, hz⟩ := hd.lst w.sub
    exact h n G H a us _ Q w hx t hz q
theorem sc_sorted : SCN C E 1 (rSortD K) dSorted := scn_ls fun n G H a vs xs Q w hx t hz q => by
  cases hc : canSort xs with
  | false => rw [hc] at q; exact q.elim
  | true =>
    rw [hc] at q
    unfold canSort at hc
    rw [Bool.and_eq_true, Bool.and_eq_true, Bool.or_eq_true, List.all_eq_true, List.all_eq_true] at hc
    obtain ⟨c1, c2, c3⟩ := hc
    obtain ⟨z1, z2⟩ := zip_of (P := Rep C G) t.len
    have hm : ∀ p ∈ vs.zip xs, p.2 ∈ xs := fun p hp => by
      rw [← z2]
      exact List.mem_map.mpr ⟨p, hp, rfl⟩
    refine ⟨a, (vs.zip xs).map fun p => (p.1, p.2.py), rfl, ?_, ?_, ?_, ?_, ?_, fun p np => ?_⟩
    · rw [List.map_map]
      show SqL K H a ((vs.zip xs).map (·.1))
      rw [z1]
      exact .inl hx
    · intro b hb
      obtain ⟨c, hc, rfl⟩ := List.mem_map.mp hb
      exact dpMono w.sub (dp_of 8 _ _ (t.zip c hc) (c1 _ (hm c hc))).1
    · rw [List.map_map]
      intro d hd d' hd'
      obtain ⟨c, hc, rfl⟩ := List.mem_map.mp hd
      obtain ⟨c', hc', rfl⟩ := List.mem_map.mp hd'
      have := c2 _ (hm c hc)
      rw [List.all_eq_true] at this
      exact this _ (hm c' hc')
    · rw [List.map_map]
      rcases c3 with c3 | c3
      · rw [List.all_eq_true] at c3
        refine .inl fun d hd => ?_
        obtain ⟨c, hc, rfl⟩ := List.mem_map.mp hd
        have h1 := c3 _ (hm c hc)
        show ∃ x r, c.2.py = .tuple (x :: r)
        cases h2 : c.2 <;> rw [h2] at h1 <;> first | exact absurd h1 Bool.false_ne_true | skip
        rename_i ys
        cases ys with
        | nil => exact absurd h1 Bool.false_ne_true
        | cons y ys => exact ⟨y.py, _, rfl⟩
      · rw [List.all_eq_true] at c3
        refine .inr fun d hd => ?_
        obtain ⟨c, hc, rfl⟩ := List.mem_map.mp hd
        have h1 := c3 _ (hm c hc)
        show c.2.py ≠ .none ∧ ∀ xs, c.2.py ≠ .tuple xs
        cases h2 : c.2 <;> rw [h2] at h1 <;> first | exact absurd h1 Bool.false_ne_true | exact ⟨(fun z => nomatch z), fun _ z => nomatch z⟩
    · intro b hb
      obtain ⟨c, hc, rfl⟩ := List.mem_map.mp hb
      exact Nat.le_trans (dp_of 8 _ _ (t.zip c hc) (c1 _ (hm c hc))).2.2 (by decide)
    · have e1 : srt ((vs.zip xs).map fun p => (p.1, p.2.py)) = ((vs.zip xs).mergeSort fun b c => dLeB b.2 c.2).map fun p => (p.1, p.2.py) := by
        unfold srt
        exact (List.map_mergeSort (f := fun p : V × D => (p.1, p.2.py)) (r := fun b c => dLeB b.2 c.2) (s := PySem.W.dataLe false fun x : V × PyData => x.2) (fun b _ c _ => rfl)).symm
      have e2 : ((vs.zip xs).mergeSort fun b c => dLeB b.2 c.2).map (·.2) = sortD xs := by
        unfold sortD
        refine (List.map_mergeSort (f := fun p : V × D => p.2) (r := fun b c => dLeB b.2 c.2) (s := dLeB) (fun b _ c _ => rfl)).trans ?_
        rw [z2]
      rw [e1, List.map_map]
      have hr : RepL C G (((vs.zip xs).mergeSort fun b c => dLeB b.2 c.2).map (·.1)) (sortD xs) := by
        rw [← e2]
        exact repL_of fun b hb => t.zip b (List.mem_mergeSort.mp hb)
      refine q p _ _ _ ((Ws.refl w).tmp np) np (w.gn np) upd_same ⟨?_, hr⟩
      unfold sortD
      rw [List.length_mergeSort]
      exact hz
/-- sorted(d), the keys being texts -/
def keysS : List (Key × D) → Option (List Str)
  | [] => some []
  | (.inr z, _) :: r => (keysS r).map (z :: ·)
  | _ => none
end
end ND
/-! dicts, fields, one's own objects, classes, errors -/
namespace ND
open PySem PySem.Spec PyProof.Rows L2
def valD (kvs : List (Key × D)) (k : Key) : Option D := (kvs.find? fun kv => decide (kv.1 = k)).map (·.2)
def putD (kvs : List (Key × D)) (k : Key) (d : D) : List (Key × D) := if (kvs.any fun kv => decide (kv.1 = k)) = true then kvs.map (fun kv => if kv.1 = k then (kv.1, d) else kv) else kvs ++ [(k, d)]
def keyOfD : D → Option Key
  | .int i => some (.inl i)
  | .str z => some (.inr z)
  | _ => none
theorem valD_cons (p : Key × D) (r : List (Key × D)) (k : Key) : valD (p :: r) k = if p.1 = k then some p.2 else valD r k := by
  unfold valD
  rw [List.find?_cons]
  by_cases h : p.1 = k
  · rw [decide_eq_true h, if_pos h]; rfl
  · rw [decide_eq_false h, if_neg h]
@[simp] theorem valD_nil (k : Key) : valD [] k = none := rfl
section
variable {rm : RM} {K : PySem.W.Frag} {C : Cfg K} {E : XK} {Γ Γn Γb Γc : List Md} {n m : Nat} {G0 H0 G H G1 H1 : Hp} {v : V} {d : D} {σ : L2.St} {ρ : Rho} {Q : VK} {i : Nat}
theorem rk_val : ∀ {kvs : List (Key × V)} {xs : List (Key × D)} {k : Key}, kvs.map (·.1) = xs.map (·.1) → RepL C G (kvs.map (·.2)) (xs.map (·.2)) → (∃ v d, valV kvs k = some v ∧ valD xs k = some d ∧ Rep C G v d) ∨ (valV kvs k = none ∧ valD xs k = none)
  | [], [], k, _, _ => .inr ⟨rfl, rfl⟩
  | [], _ :: _, k, e, _ => by cases e
  | _ :: _, [], k, e, _ => by cases e
  | p :: kvs, x :: xs, k, e, t => by
    rw [List.map_cons, List.map_cons] at e t
    injection e with e1 e2
    cases t with
    | cons h t =>
      by_cases hk : p.1 = k
      · exact .inl ⟨p.2, x.2, valV_pos hk, by rw [valD_cons, if_pos (e1 ▸ hk)], h⟩
      · rw [valV_neg hk, valD_cons, if_neg (e1 ▸ hk)]
        exact rk_val e2 t
theorem rk_any : ∀ {kvs : List (Key × V)} {xs : List (Key × D)} {k : Key}, kvs.map (·.1) = xs.map (·.1) → (kvs.any fun kv => decide (kv.1 = k)) = (xs.any fun kv => decide (kv.1 = k)) := fun {kvs xs k} e => by
  have h1 : (kvs.any fun kv => decide (kv.1 = k)) = ((kvs.map (·.1)).any fun z => decide (z = k)) := by rw [List.any_map]; rfl
  have h2 : (xs.any fun kv => decide (kv.1 = k)) = ((xs.map (·.1)).any fun z => decide (z = k)) := by rw [List.any_map]; rfl
  rw [h1, h2, e]
theorem rk_map {k : Key} (hv : Rep C G v d) : ∀ {kvs : List (Key × V)} {xs : List (Key × D)}, kvs.map (·.1) = xs.map (·.1) → RepL C G (kvs.map (·.2)) (xs.map (·.2)) →
    (kvs.map fun kv => if kv.1 = k then (kv.1, v) else kv).map (·.1) = (xs.map fun kv => if kv.1 = k then (kv.1, d) else kv).map (·.1) ∧ RepL C G ((kvs.map fun kv => if kv.1 = k then (kv.1, v) else kv).map (·.2)) ((xs.map fun kv => if kv.1 = k then (kv.1, d) else kv).map (·.2))
  | [], [], _, _ => ⟨rfl, .nil⟩
  | [], _ :: _, e, _ => by cases e
  | _ :: _, [], e, _ => by cases e
  | p :: kvs, x :: xs, e, t => by
    rw [List.map_cons, List.map_cons] at e t
    injection e with e1 e2
    cases t with
    | cons h t =>
      obtain ⟨a, b⟩ := rk_map hv (k := k) e2 t
      by_cases hk : p.1 = k
      · have hk' : x.1 = k := e1 ▸ hk
        simp only [List.map_cons, if_pos hk, if_pos hk']
        exact ⟨by rw [e1, a], .cons hv b⟩
      · have hk' : ¬ x.1 = k := e1 ▸ hk
        simp only [List.map_cons, if_neg hk, if_neg hk']
        exact ⟨by rw [e1, a], .cons h b⟩
theorem rk_put {k : Key} {kvs : List (Key × V)} {xs : List (Key × D)} (hv : Rep C G v d) (e : kvs.map (·.1) = xs.map (·.1)) (t : RepL C G (kvs.map (·.2)) (xs.map (·.2))) : (putK kvs k v).map (·.1) = (putD xs k d).map (·.1) ∧ RepL C G ((putK kvs k v).map (·.2)) ((putD xs k d).map (·.2)) := by
  unfold putK putD
  rw [rk_any (k := k) e]
  by_cases h : (xs.any fun kv => decide (kv.1 = k)) = true
  · rw [if_pos h, if_pos h]
    exact rk_map hv e t
  · rw [if_neg h, if_neg h]
    refine ⟨by rw [List.map_append, List.map_append, e]; rfl, ?_⟩
    rw [List.map_append, List.map_append]
    exact t.app (.cons hv .nil)
theorem putD_len (xs : List (Key × D)) (k : Key) (d : D) : (putD xs k d).length ≤ xs.length + 1 := by
  unfold putD
  split
  · rw [List.length_map]; omega
  · rw [List.length_append]; exact Nat.le_refl _
theorem RepV.key {k : Key} (h : RepV C G H v d) (hk : keyOfD d = some k) : v = kV k := by
  cases d with
  | int i => cases hk; exact h.int
  | str z => cases hk; exact h.str.1
  | _ => cases hk
/-! ### d[k], k in d -/
def dGet (x y : D) : Out D := match x, keyOfD y with
  | .dct kvs, some k => optD (valD kvs k)
  | _, _ => .stuck
theorem sm_dget {td ty : TE} {a b : Rho → Out D} (ha : SimV C E Γ td a) (hb : SimV C E Γ ty b) : SimE C E Γ (tDGet td ty) (eOp dGet a b) := fun H0 n G H σ ρ Q w e q => by
  refine ha H0 n G H σ ρ _ w e (Out.wp_mono (fun m dx k v G1 H1 s1 r1 => ?_) (fun _ _ _ z => z) (Out.wp_bind q))
  refine hb H0 m G1 H1 σ ρ _ s1.w (e.step s1) (Out.wp_mono (fun m2 dy k2 u G2 H2 s2 r2 => ?_) (fun _ _ _ z => PX.back s1 z) (Out.wp_bind k))
  unfold dGet at k2
  cases dx <;> first | exact k2.elim | skip
  rename_i xs
  cases hk : keyOfD dy with
  | none => simp only [hk] at k2; exact k2.elim
  | some ky =>
    simp only [hk] at k2
    obtain ⟨a, kvs, rfl, hx, e1, t, _⟩ := (r1.step s2).dct s2.w.sub
    rcases rk_val (k := ky) e1 t with ⟨v, d, h1, h2, h3⟩ | ⟨h1, h2⟩
    · rw [h2] at k2
      exact ⟨a, v, rfl, .inl ⟨kvs, ky, hx, r2.key hk, h1.symm⟩, k2 v G2 H2 (s1.trans s2) h3⟩
    · rw [h2] at k2
      exact k2.elim
def dDin (neg : Bool) (x y : D) : Out D := match keyOfD x, y with
  | some k, .dct kvs => .ok (.bl (neg ^^ (valD kvs k).isSome))
  | _, _ => .stuck
theorem sm_din {td ty : TE} {a b : Rho → Out D} (ha : SimV C E Γ ty a) (hb : SimV C E Γ td b) : SimE C E Γ (tDIn ty td) (eOp (dDin false) a b) := fun H0 n G H σ ρ Q w e q => by
  refine ha H0 n G H σ ρ _ w e (Out.wp_mono (fun m dx k v G1 H1 s1 r1 => ?_) (fun _ _ _ z => z) (Out.wp_bind q))
  refine hb H0 m G1 H1 σ ρ _ s1.w (e.step s1) (Out.wp_mono (fun m2 dy k2 u G2 H2 s2 r2 => ?_) (fun _ _ _ z => PX.back s1 z) (Out.wp_bind k))
  unfold dDin at k2
  cases hk : keyOfD dx with
  | none => simp only [hk] at k2; exact k2.elim
  | some ky =>
    cases dy <;> first | (simp only [hk] at k2; exact k2.elim) | skip
    rename_i xs
    simp only [hk, Bool.false_xor] at k2
    obtain ⟨a, kvs, rfl, hx, e1, t, _⟩ := r2.dct s2.w.sub
    refine ⟨a, valV kvs ky, rfl, .inl ⟨kvs, ky, hx, r1.key hk, rfl⟩, ?_⟩
    rcases rk_val (k := ky) e1 t with ⟨v, d, h1, h2, h3⟩ | ⟨h1, h2⟩
    · rw [h2] at k2
      rw [h1]
      exact k2 _ G2 H2 (s1.trans s2) (.bl _)
    · rw [h2] at k2
      rw [h1]
      exact k2 _ G2 H2 (s1.trans s2) (.bl _)
theorem sm_dnotin {td ty : TE} {a b : Rho → Out D} (ha : SimV C E Γ ty a) (hb : SimV C E Γ td b) : SimE C E Γ (tDNotIn ty td) (eOp (dDin true) a b) := fun H0 n G H σ ρ Q w e q => by
  refine ha H0 n G H σ ρ _ w e (Out.wp_mono (fun m dx k v G1 H1 s1 r1 => ?_) (fun _ _ _ z => z) (Out.wp_bind q))
  refine hb H0 m G1 H1 σ ρ _ s1.w (e.step s1) (Out.wp_mono (fun m2 dy k2 u G2 H2 s2 r2 => ?_) (fun _ _ _ z => PX.back s1 z) (Out.wp_bind k))
  unfold dDin at k2
  cases hk : keyOfD dx with
  | none => simp only [hk] at k2; exact k2.elim
  | some ky =>
    cases dy <;> first | (simp only [hk] at k2; exact k2.elim) | skip
    rename_i xs
    simp only [hk, Bool.true_xor] at k2
    obtain ⟨a, kvs, rfl, hx, e1, t, _⟩ := r2.dct s2.w.sub
    refine ⟨a, valV kvs ky, rfl, .inl ⟨kvs, ky, hx, r1.key hk, rfl⟩, ?_⟩
    rcases rk_val (k := ky) e1 t with ⟨v, d, h1, h2, h3⟩ | ⟨h1, h2⟩
    · rw [h2] at k2
      rw [h1]
      exact k2 _ G2 H2 (s1.trans s2) (.bl _)
    · rw [h2] at k2
      rw [h1]
      exact k2 _ G2 H2 (s1.trans s2) (.bl _)
/-! ### {}, {k: v, ..} -/
theorem sn_dnew : SimN C E Γ tDNewK (eC (.dct [])) := fun H0 n G H σ ρ Q w e q p np => q p _ _ _ ((Ws.refl w).tmp np) np (w.gn np) upd_same ⟨by show 0 ≤ 100000; decide, rfl, .nil⟩
def SimP (C : Cfg K) (E : XK) (Γ : List Md) (k : Nat) (ts : List (TE × TE)) (φ : Rho → Out (List (D × D))) : Prop := ∀ H0 n G H σ ρ Q, Wl C n G H → Er C H0 Γ G H σ ρ → (φ ρ).wp n (fun m ds => ∀ ps G' H', Ws C G H m G' H' → RepL C G' (ps.map (·.1)) (ds.map (·.1)) → RepL C G' (ps.map (·.2)) (ds.map (·.2)) → ds.length = k → Q ps H') (PX C G H E) → tPairs ts σ H Q
def pNil : Rho → Out (List (D × D)) := fun _ => .ok []
def pCons (a b : Rho → Out D) (r : Rho → Out (List (D × D))) : Rho → Out (List (D × D)) := fun ρ => (a ρ).bind fun x => (b ρ).bind fun y => (r ρ).bind fun ps => .ok ((x, y) :: ps)
theorem sp_nil : SimP C E Γ 0 [] pNil := fun H0 n G H σ ρ Q w e q => q [] G H (Ws.refl w) .nil .nil rfl
theorem sp_cons {k : Nat} {ta tb : TE} {ts : List (TE × TE)} {a b : Rho → Out D} {r : Rho → Out (List (D × D))} (ha : SimE C E Γ ta a) (hb : SimE C E Γ tb b) (hr : SimP C E Γ k ts r) : SimP C E Γ (k + 1) ((ta, tb) :: ts) (pCons a b r) := fun H0 n G H σ ρ Q w e q => by
  refine ha H0 n G H σ ρ _ w e (Out.wp_mono (fun m x k1 v G1 H1 s1 r1 => ?_) (fun _ _ _ z => z) (Out.wp_bind q))
  refine hb H0 m G1 H1 σ ρ _ s1.w (e.step s1) (Out.wp_mono (fun m2 y k2 u G2 H2 s2 r2 => ?_) (fun _ _ _ z => PX.back s1 z) (Out.wp_bind k1))
  refine hr H0 m2 G2 H2 σ ρ _ s2.w ((e.step s1).step s2) (Out.wp_mono (fun m3 ps k3 vs G3 H3 s3 r3 r4 hl => ?_) (fun _ _ _ z => PX.back (s1.trans s2) z) (Out.wp_bind k2))
  exact k3 ((v, u) :: vs) G3 H3 ((s1.trans s2).trans s3) (.cons (r1.mono (s2.trans s3).g) r3) (.cons (r2.mono s3.g) r4) (congrArg (· + 1) hl)
def keysOf : List (D × D) → Option (List (Key × D))
  | [] => some []
  | (x, y) :: r => match keyOfD x, keysOf r with
    | some k, some t => some ((k, y) :: t)
    | _, _ => none
def mergeD (kvs more : List (Key × D)) : List (Key × D) := more.foldl (fun acc kv => putD acc kv.1 kv.2) kvs
def eDisp (r : Rho → Out (List (D × D))) : Rho → Out D := fun ρ => (r ρ).bind fun ps => match keysOf ps with
  | some kvs => .ok (.dct (mergeD [] kvs))
  | none => .stuck
theorem keys_rep : ∀ {ps : List (V × V)} {ds : List (D × D)} {kvs : List (Key × D)}, RepL C G (ps.map (·.1)) (ds.map (·.1)) → RepL C G (ps.map (·.2)) (ds.map (·.2)) → keysOf ds = some kvs → ∃ us : List (Key × V), ps = us.map (fun kv => (kV kv.1, kv.2)) ∧ us.map (·.1) = kvs.map (·.1) ∧ RepL C G (us.map (·.2)) (kvs.map (·.2)) ∧ kvs.length = ds.length
  | [], [], _, _, _, h => by cases h; exact ⟨[], rfl, rfl, .nil, rfl⟩
  | [], _ :: _, _, h, _, _ => by cases h
  | _ :: _, [], _, h, _, _ => by cases h
  | p :: ps, d :: ds, kvs, h1, h2, h => by
    obtain ⟨x, y⟩ := d
    rw [List.map_cons, List.map_cons] at h1 h2
    cases h1 with
    | cons a1 t1 =>
      cases h2 with
      | cons a2 t2 =>
        unfold keysOf at h
        cases hk : keyOfD x with
        | none => simp only [hk] at h; cases h
        | some k =>
          cases hr : keysOf ds with
          | none => simp only [hk, hr] at h; cases h
          | some t =>
            simp only [hk, hr] at h
            cases h
            obtain ⟨us, e1, e2, e3, e4⟩ := keys_rep t1 t2 hr
            refine ⟨(k, p.2) :: us, ?_, ?_, .cons a2 e3, congrArg (· + 1) e4⟩
            · rw [List.map_cons, ← e1]
              congr 1
              have : p.1 = kV k := RepV.key (H := fun _ => none) (.inl a1) hk
              obtain ⟨pa, pb⟩ := p
              exact Prod.ext this rfl
            · rw [List.map_cons, List.map_cons, e2]
theorem merge_rep : ∀ {us : List (Key × V)} {kvs : List (Key × D)} {bs : List (Key × V)} {cs : List (Key × D)}, us.map (·.1) = kvs.map (·.1) → RepL C G (us.map (·.2)) (kvs.map (·.2)) → bs.map (·.1) = cs.map (·.1) → RepL C G (bs.map (·.2)) (cs.map (·.2)) → (mergeK bs us).map (·.1) = (mergeD cs kvs).map (·.1) ∧ RepL C G ((mergeK bs us).map (·.2)) ((mergeD cs kvs).map (·.2))
  | [], [], _, _, _, _, e, t => ⟨e, t⟩
  | [], _ :: _, _, _, h, _, _, _ => by cases h
  | _ :: _, [], _, _, h, _, _, _ => by cases h
  | p :: us, x :: kvs, bs, cs, h1, h2, e, t => by
    rw [List.map_cons, List.map_cons] at h1 h2
    injection h1 with g1 g2
    cases h2 with
    | cons a b =>
      obtain ⟨c1, c2⟩ := rk_put (k := x.1) a e t
      show (mergeK (putK bs p.1 p.2) us).map (·.1) = (mergeD (putD cs x.1 x.2) kvs).map (·.1) ∧ RepL C G ((mergeK (putK bs p.1 p.2) us).map (·.2)) ((mergeD (putD cs x.1 x.2) kvs).map (·.2))
      rw [g1]
      exact merge_rep g2 b c1 c2
theorem merge_len : ∀ (kvs cs : List (Key × D)), (mergeD cs kvs).length ≤ cs.length + kvs.length
  | [], cs => Nat.le_refl _
  | x :: kvs, cs => by
    have h1 := merge_len kvs (putD cs x.1 x.2)
    have h2 := putD_len cs x.1 x.2
    show (mergeD (putD cs x.1 x.2) kvs).length ≤ cs.length + (kvs.length + 1)
    omega
theorem sn_disp {k : Nat} {ts : List (TE × TE)} {r : Rho → Out (List (D × D))} (hr : SimP C E Γ k ts r) (hk : k ≤ 15 := by decide) : SimN C E Γ (tDisp ts) (eDisp r) := fun H0 n G H σ ρ Q w e q p np => by
  have s0 := (Ws.refl w).tmp (o := .dK []) np
  have gp := w.gn np
  have nv := w.nvol np
  refine hr H0 n G _ σ ρ _ s0.w (e.step s0) (Out.wp_mono (fun m ds k1 ps G1 H1 s1 r1 r2 hl => ?_) (fun _ _ _ z => PX.back s0 z) (Out.wp_bind q))
  have hp1 : H1 p = some (.dK []) := s1.k p _ nv upd_same
  have gp1 : G1 p = none := s1.o p gp (by rw [upd_same]; intro z; cases z)
  refine ⟨hp1, ?_⟩
  cases hh : keysOf ds with
  | none => simp only [hh] at k1; exact k1.elim
  | some kvs =>
    simp only [hh] at k1
    obtain ⟨us, e1, e2, e3, e4⟩ := keys_rep r1 r2 hh
    have hus : us.length = kvs.length := by simpa using congrArg List.length e2
    obtain ⟨c1, c2⟩ := merge_rep (bs := []) (cs := []) e2 e3 rfl .nil
    refine ⟨us, e1, by omega, ?_⟩
    have s01 := s0.trans s1
    have hl2 := merge_len kvs []
    rw [List.length_nil] at hl2
    exact k1 p _ G1 _ (s01.mut ⟨hp1, gp1, nv, np⟩ (by intro φ z; cases z)) np gp1 upd_same ⟨by omega, c1, c2⟩
/-! ### fields -/
def dFld (c f : Str) (x : D) : Out D := match x with
  | .ins c' fs => bif decide (c' = c) then optD (fs.lookup f) else .stuck
  | _ => .stuck
theorem rf_get : ∀ {fs : List (Str × V)} {xs : List (Str × D)} {f : Str} {d : D}, fs.map (·.1) = xs.map (·.1) → RepL C G (fs.map (·.2)) (xs.map (·.2)) → xs.lookup f = some d → ∃ v, fs.lookup f = some v ∧ Rep C G v d
  | [], [], _, _, _, _, h => by cases h
  | [], _ :: _, _, _, h, _, _ => by cases h
  | _ :: _, [], _, _, h, _, _ => by cases h
  | (g, v) :: fs, (g', x) :: xs, f, d, e, t, h => by
    rw [List.map_cons, List.map_cons] at e t
    injection e with e1 e2
    have e1' : g = g' := e1
    subst e1'
    cases t with
    | cons a b =>
      rw [List.lookup_cons] at h ⊢
      cases hb : (f == g) with
      | true => simp only [hb] at h ⊢; cases h; exact ⟨v, rfl, a⟩
      | false => simp only [hb] at h ⊢; exact rf_get e2 b h
theorem rf_none : ∀ {fs : List (Str × V)} {xs : List (Str × D)} {f : Str}, fs.map (·.1) = xs.map (·.1) → xs.lookup f = none → fs.lookup f = none
  | [], [], _, _, _ => rfl
  | [], _ :: _, _, h, _ => by cases h
  | _ :: _, [], _, h, _ => by cases h
  | (g, v) :: fs, (g', x) :: xs, f, e, h => by
    rw [List.map_cons, List.map_cons] at e
    injection e with e1 e2
    have e1' : g = g' := e1
    subst e1'
    rw [List.lookup_cons] at h ⊢
    cases hb : (f == g) with
    | true => simp only [hb] at h; cases h
    | false => simp only [hb] at h ⊢; exact rf_none e2 h
theorem sm_fld {c f : Str} {ta : TE} {a : Rho → Out D} (hc : Cls K (He.ga K c)) (hn : NoAttr K (He.ga K c) f) (ha : SimV C E Γ ta a) : SimE C E Γ (tFld K ta f) (eUn (dFld c f) a) := fun H0 n G H σ ρ Q w e q => by
  refine ha H0 n G H σ ρ _ w e (Out.wp_mono (fun m d k v G1 H1 s1 r1 => ?_) (fun _ _ _ z => z) (Out.wp_bind q))
  unfold dFld at k
  cases d <;> first | exact k.elim | skip
  rename_i c' xs
  by_cases hcc : c' = c
  · subst hcc
    simp only [decide_true, cond_true] at k
    cases hl : xs.lookup f with
    | none => simp only [hl] at k; exact k.elim
    | some d =>
      simp only [hl] at k
      obtain ⟨a, dx, fs, rfl, _, hx, e1, t⟩ := r1.ins s1.w.sub
      obtain ⟨v, h1, h2⟩ := rf_get e1 t hl
      exact ⟨a, _, dx, fs, v, rfl, hx, hc, hn, h1, k v G1 H1 s1 h2⟩
  · simp only [hcc, decide_false, cond_false] at k
    exact k.elim
def putFD (f : Str) (d : D) : List (Str × D) → List (Str × D)
  | [] => [(f, d)]
  | (g, x) :: r => if g = f then (g, d) :: r else (g, x) :: putFD f d r
theorem rf_put {f : Str} (hv : Rep C G v d) : ∀ {fs : List (Str × V)} {xs : List (Str × D)}, fs.map (·.1) = xs.map (·.1) → RepL C G (fs.map (·.2)) (xs.map (·.2)) → (putF f v fs).map (·.1) = (putFD f d xs).map (·.1) ∧ RepL C G ((putF f v fs).map (·.2)) ((putFD f d xs).map (·.2))
  | [], [], _, _ => ⟨rfl, .cons hv .nil⟩
  | [], _ :: _, h, _ => by cases h
  | _ :: _, [], h, _ => by cases h
  | (g, u) :: fs, (g', x) :: xs, e, t => by
    rw [List.map_cons, List.map_cons] at e t
    injection e with e1 e2
    have e1' : g = g' := e1
    subst e1'
    cases t with
    | cons a b =>
      unfold putF putFD
      by_cases h : g = f
      · rw [if_pos h, if_pos h]
        exact ⟨by rw [List.map_cons, List.map_cons, e2], .cons hv b⟩
      · rw [if_neg h, if_neg h]
        obtain ⟨c1, c2⟩ := rf_put (f := f) hv e2 b
        exact ⟨by rw [List.map_cons, List.map_cons, c1], .cons a c2⟩
/-- x.f = e, x one's own -/
def sFldS (c f : Str) (i : Nat) (a : Rho → Out D) : Rho → Out Res := fun ρ => (a ρ).bind fun d => match ρ.getD i .non with
  | .ins c' fs => bif decide (c' = c) && decide (fs.length < 1000) then .ok (.nx (ρ.set i (.ins c' (putFD f d fs)))) else .stuck
  | _ => .stuck
theorem ss_fld {c f : Str} {tv : TE} {a : Rho → Out D} {b : Option Addr} (hc : Cls K (He.ga K c)) (hn : NoAttr K (He.ga K c) f) (hi : Γ[i]? = some (.ow b)) (ha : SimE C E Γ tv a) : SimS rm C E Γ (sFld K (tVar i) tv f) (sFldS c f i a) Γ Γb Γc := fun G0 H0 n G H σ ρ D s e q => by
  refine ha H0 n G H σ ρ _ s.w e (Out.wp_mono (fun m d k v G1 H1 s1 r1 => ?_) (fun _ _ _ z => PX.stm s z) (Out.wp_bind q))
  have e1 := e.step s1
  obtain ⟨p, o, h1, h2, h3, h4⟩ := e1.ow hi
  refine ⟨_, h1, ?_⟩
  cases hx : ρ.getD i .non <;> simp only [hx] at k <;> first | exact k.elim | skip
  rename_i c' xs
  rw [hx] at h3
  cases hb : (decide (c' = c) && decide (xs.length < 1000)) with
  | false => simp only [hb, cond_false] at k; exact k.elim
  | true =>
    simp only [hb, cond_true] at k
    rw [Bool.and_eq_true, decide_eq_true_eq, decide_eq_true_eq] at hb
    obtain ⟨rfl, hl⟩ := hb
    cases o <;> first | exact h3.elim | skip
    rename_i Ca dx fs
    obtain ⟨⟨hcl, rfl⟩, g1, g2⟩ := h3
    have hfl : fs.length = xs.length := by simpa using congrArg List.length g1
    obtain ⟨c1, c2⟩ := rf_put (f := f) r1 g1 g2
    have s2 := s.trans s1
    exact ⟨p, _, dx, fs, rfl, h2.h, hc, hn, by omega, k _ G1 _ (s2.mut h2 (by intro φ z; cases z)) s1.g (e1.mut hi h1 h2 ⟨⟨hcl, rfl⟩, c1, c2⟩ h4)⟩
/-! ### one's own lists and dicts change -/
/-- the i-th slot holds a list -/
def onL (i : Nat) (f : List D → Out Res) (ρ : Rho) : Out Res := match ρ.getD i .non with
  | .lst xs => f xs
  | _ => .stuck
theorem Er.onL {a : Option Addr} {f : List D → Out Res} {Q : Nat → Res → Prop} {X : Nat → Str → List (Str × D) → Prop} (e : Er C H0 Γ G H σ ρ) (hi : Γ[i]? = some (.ow a)) (q : (ND.onL i f ρ).wp n Q X) : ∃ p vs xs, ρ.getD i .non = .lst xs ∧ σ[i]? = some (some (.ref p)) ∧ Own C H0 G H p (.lst vs) ∧ RepL C G vs xs ∧ xs.length ≤ 100000 ∧ (∀ q, a = some q → p = q) ∧ (f xs).wp n Q X := by
  obtain ⟨p, o, h1, h2, h3, h4⟩ := e.ow hi
  unfold ND.onL at q
  cases hx : ρ.getD i .non <;> simp only [hx] at q <;> first | exact q.elim | skip
  rename_i xs
  rw [hx] at h3
  cases o <;> first | exact h3.elim | skip
  exact ⟨p, _, xs, rfl, h1, h2, h3.2, h3.1, h4, q⟩
def sApp (i : Nat) (a : Rho → Out D) : Rho → Out Res := fun ρ => onL i (fun xs => (a ρ).bind fun d => bif decide (xs.length < 100000) then .ok (.nx (ρ.set i (.lst (xs ++ [d])))) else .stuck) ρ
theorem ss_app {te : TE} {a : Rho → Out D} {b : Option Addr} (hi : Γ[i]? = some (.ow b)) (ha : SimE C E Γ te a) : SimS rm C E Γ (tDrop (tBM K "list" rAppend (tVar i) (tCons te tNil))) (sApp i a) Γ Γb Γc := fun G0 H0 n G H σ ρ D s e q => by
  obtain ⟨p, vs, xs, hx, h1, h2, t, hz, h4, q⟩ := e.onL hi q
  refine ⟨_, h1, .inl ⟨rfl, vs, SqL.of h2.h⟩, ?_⟩
  refine ha H0 n G H σ ρ _ s.w e (Out.wp_mono (fun m d k v G1 H1 s1 r1 => ?_) (fun _ _ _ z => PX.stm s z) (Out.wp_bind q))
  cases hb : decide (xs.length < 100000) with
  | false => simp only [hb, cond_false] at k; exact k.elim
  | true =>
    simp only [hb, cond_true] at k
    have hl := of_decide_eq_true hb
    have h2' := h2.step s1
    have hvl := t.len
    refine ⟨p, vs, v, rfl, rfl, h2'.h, Nat.lt_of_lt_of_le (show vs.length < 100000 by omega) (by decide), ?_⟩
    refine k σ G1 _ ((s.trans s1).mut h2' (by intro φ z; cases z)) s1.g ((e.step s1).mut hi h1 h2' ⟨?_, (t.mono s1.g).app (.cons r1 .nil)⟩ h4)
    rw [List.length_append]
    show xs.length + 1 ≤ 100000
    omega
/-- d[k] = v, d one's own -/
def sDPutO (i : Nat) (b v : Rho → Out D) : Rho → Out Res := fun ρ => (v ρ).bind fun y => (b ρ).bind fun x => match ρ.getD i .non, keyOfD x with
  | .dct kvs, some k => bif decide (kvs.length < 99999) then .ok (.nx (ρ.set i (.dct (putD kvs k y)))) else .stuck
  | _, _ => .stuck
theorem ss_dput {ty tv : TE} {b v : Rho → Out D} {c : Option Addr} (hi : Γ[i]? = some (.ow c)) (hv : SimE C E Γ tv v) (hb : SimV C E Γ ty b) : SimS rm C E Γ (sDPut (tVar i) ty tv) (sDPutO i b v) Γ Γb Γc := fun G0 H0 n G H σ ρ D s e q => by
  refine hv H0 n G H σ ρ _ s.w e (Out.wp_mono (fun m d k v G1 H1 s1 r1 => ?_) (fun _ _ _ z => PX.stm s z) (Out.wp_bind q))
  have e1 := e.step s1
  obtain ⟨p, o, h1, h2, h3, h4⟩ := e1.ow hi
  refine ⟨_, h1, ?_⟩
  refine hb H0 m G1 H1 σ ρ _ s1.w e1 (Out.wp_mono (fun m2 dy k2 u G2 H2 s2 r2 => ?_) (fun _ _ _ z => PX.stm (s.trans s1) z) (Out.wp_bind k))
  cases hx : ρ.getD i .non <;> simp only [hx] at k2 <;> first | exact k2.elim | skip
  rename_i xs
  cases hk : keyOfD dy with
  | none => simp only [hk] at k2; exact k2.elim
  | some ky =>
    simp only [hk] at k2
    cases hb : decide (xs.length < 99999) with
    | false => simp only [hb, cond_false] at k2; exact k2.elim
    | true =>
      simp only [hb, cond_true] at k2
      have hl := of_decide_eq_true hb
      rw [hx] at h3
      cases o <;> first | exact h3.elim | skip
      rename_i kvs
      obtain ⟨g0, g1, g2⟩ := h3
      have h2' := h2.step s2
      have hkl : kvs.length = xs.length := by simpa using congrArg List.length g1
      obtain ⟨c1, c2⟩ := rk_put (k := ky) (r1.mono s2.g) g1 (g2.mono s2.g)
      have hpl := putD_len xs ky d
      exact ⟨p, _, rfl, .inl ⟨kvs, ky, h2'.h, r2.key hk, Nat.lt_of_lt_of_le (show kvs.length < 100000 by omega) (by decide), rfl⟩, k2 σ G2 _ (((s.trans s1).trans s2).mut h2' (by intro φ z; cases z)) (s1.g.trans s2.g) ((e1.step s2).mut hi h1 h2' ⟨by omega, c1, c2⟩ h4)⟩
/-- xs.clear() -/
def sClear (i : Nat) : Rho → Out Res := fun ρ => onL i (fun _ => .ok (.nx (ρ.set i (.lst [])))) ρ
theorem ss_clear {b : Option Addr} (hi : Γ[i]? = some (.ow b)) : SimS rm C E Γ (tDrop (tBM0 K "list" rClear (tVar i))) (sClear i) Γ Γb Γc := fun G0 H0 n G H σ ρ D s e q => by
  obtain ⟨p, vs, xs, hx, h1, h2, t, hz, h4, q⟩ := e.onL hi q
  exact ⟨_, h1, .inl ⟨rfl, vs, SqL.of h2.h⟩, p, vs, rfl, rfl, h2.h, q σ G _ (s.mut h2 (by intro φ z; cases z)) (Same.refl _) (e.mut hi h1 h2 ⟨Nat.zero_le _, .nil⟩ h4)⟩
/-- xs[i] = e, xs one's own list -/
def sSetL (i : Nat) (b v : Rho → Out D) : Rho → Out Res := fun ρ => (v ρ).bind fun y => (b ρ).bind fun x => match ρ.getD i .non, x with
  | .lst xs, .int k => match ixN xs.length k with
    | some j => .ok (.nx (ρ.set i (.lst (xs.set j y))))
    | none => .stuck
  | _, _ => .stuck
theorem ss_setL {ty tv : TE} {b v : Rho → Out D} {c : Option Addr} (hi : Γ[i]? = some (.ow c)) (hv : SimE C E Γ tv v) (hb : SimV C E Γ ty b) : SimS rm C E Γ (tAsg tv (gSub (tVar i) ty rSetL)) (sSetL i b v) Γ Γb Γc := fun G0 H0 n G H σ ρ D s e q => by
  refine hv H0 n G H σ ρ _ s.w e (Out.wp_mono (fun m d k v G1 H1 s1 r1 => ?_) (fun _ _ _ z => PX.stm s z) (Out.wp_bind q))
  have e1 := e.step s1
  obtain ⟨p, o, h1, h2, h3, h4⟩ := e1.ow hi
  refine ⟨_, h1, ?_⟩
  refine hb H0 m G1 H1 σ ρ _ s1.w e1 (Out.wp_mono (fun m2 dy k2 u G2 H2 s2 r2 => ?_) (fun _ _ _ z => PX.stm (s.trans s1) z) (Out.wp_bind k))
  cases hx : ρ.getD i .non <;> simp only [hx] at k2 <;> first | exact k2.elim | skip
  rename_i xs
  cases dy <;> first | exact k2.elim | skip
  rename_i kk
  cases hj : ixN xs.length kk with
  | none => simp only [hj] at k2; exact k2.elim
  | some j =>
    simp only [hj] at k2
    rw [hx] at h3
    cases o <;> first | exact h3.elim | skip
    rename_i vs
    have h2' := h2.step s2
    have hvl := h3.2.len
    refine ⟨p, vs, kk, j, rfl, r2.int, h2'.h, by rw [hvl]; exact hj, k2 σ G2 _ (((s.trans s1).trans s2).mut h2' (by intro φ z; cases z)) (s1.g.trans s2.g) ((e1.step s2).mut hi h1 h2' ⟨by rw [List.length_set]; exact h3.1, (h3.2.mono s2.g).set j (r1.mono s2.g)⟩ h4)⟩
/-! ### xs + ys -/
def rCatQ : R2 := fun x y H Q => ∃ l b xs zs, x = .ref l ∧ y = .ref b ∧ Rd H l (.lst xs) ∧ Rd H b (.lst zs) ∧ xs.length + zs.length ≤ sizeLine ∧ ∀ p, H p = none → Q (.ref p) (upd H p (.lst (xs ++ zs)))
theorem op_catQ {X : Cx} : OpR X (binaryOp .Add) rCatQ := by
  intro pins s σ H x y v u Q I rx ry h
  obtain ⟨l, b, xs, zs, rfl, rfl, hH, hB, hz, q⟩ := h
  cases rx
  cases ry
  obtain ⟨z, its, n, r, e⟩ := hH.ok I.hok
  obtain ⟨z2, its2, n2, r2, e2⟩ := hB.ok I.hok
  have hl := r.length
  have hl2 := r2.length
  refine PySem.P.add_list e e2 ?_ (by rw [List.size_toArray, List.size_toArray]; omega)
  have ea : its.toArray ++ its2.toArray = (its ++ its2).toArray := by simp
  rw [ea]
  exact ⟨.ref _, _, I.lnew (t' := s.toks) (r.append r2) (by rw [List.length_append]; omega), rfl, q _ I.fresh⟩
def dCatL (x y : D) : Out D := match x, y with
  | .lst xs, .lst ys => bif decide (xs.length + ys.length ≤ 100000) then .ok (.lst (xs ++ ys)) else .stuck
  | _, _ => .stuck
theorem sr_catL : SRN C E rCatQ dCatL := fun n G H x y dx dy Q w rx ry q => by
  unfold dCatL at q
  cases dx <;> first | exact q.elim | skip
  cases dy <;> first | exact q.elim | skip
  rename_i xs ys
  cases hb : decide (xs.length + ys.length ≤ 100000) with
  | false => simp only [hb, cond_false] at q; exact q.elim
  | true =>
    simp only [hb, cond_true] at q
    have hl := of_decide_eq_true hb
    obtain ⟨a, us, rfl, hx, t, hz⟩ := rx.lst w.sub
    obtain ⟨a2, us2, rfl, hx2, t2, hz2⟩ := ry.lst w.sub
    have h1 := t.len
    have h2 := t2.len
    refine ⟨a, a2, us, us2, rfl, rfl, hx, hx2, Nat.le_trans (show us.length + us2.length ≤ 100000 by omega) (by decide), fun p np => ?_⟩
    exact q p _ _ _ ((Ws.refl w).tmp np) np (w.gn np) upd_same ⟨by rw [List.length_append]; exact hl, t.app t2⟩
/-- t + u -/
def dCatT (x y : D) : Out D := match x, y with
  | .tup xs, .tup ys => bif decide (xs.length + ys.length ≤ 100000) then .ok (.tup (xs ++ ys)) else .stuck
  | _, _ => .stuck
theorem sr_catT : SR C E (rCatF K) dCatT := fun n G H x y dx dy Q w rx ry q => by
  unfold dCatT at q
  cases dx <;> first | exact q.elim | skip
  cases dy <;> first | exact q.elim | skip
  rename_i xs ys
  cases hb : decide (xs.length + ys.length ≤ 100000) with
  | false => simp only [hb, cond_false] at q; exact q.elim
  | true =>
    simp only [hb, cond_true] at q
    have hl := of_decide_eq_true hb
    have rx' := rx.tupR
    have ry' := ry.tupR
    cases rx' with
    | @tup a us _ hx t hz =>
      cases ry' with
      | @tup a2 us2 _ hx2 t2 hz2 =>
        have h1 := t.len
        have h2 := t2.len
        refine ⟨a, a2, us, us2, rfl, rfl, Evl.ex_t w.sub hx.1, Evl.ex_t w.sub hx2.1, Nat.le_trans (show us.length + us2.length ≤ 100000 by omega) (by decide), fun e => ?_, fun _ e => ?_, fun _ _ p o np ho => ?_⟩
        · subst e
          cases t
          exact q _ G H (Ws.refl w) (.tup hx2 t2 hz2)
        · subst e
          cases t2
          refine q _ G H (Ws.refl w) ?_
          rw [List.append_nil]
          exact .tup hx t hz
        · have gp := w.gn np
          exact q _ _ _ ((Ws.refl w).new np) (.tup (GT.new upd_same ho) ((t.app t2).mono (same_add gp)) (by rw [List.length_append]; exact hl))
end
end ND
/-! classes, properties, methods, errors -/
namespace ND
open PySem PySem.Spec PyProof.Rows L2
/-! ### raise X(e) -/
section
variable {X : Cx} {C fI : Addr} {fld : Str} {pins : List (Addr × Obj)} {σ : L2.St} {H : Hp}
theorem excH_del {e d : Addr} {v : V} (ne : H e = none) (hde : d ≠ e) : upd (del (excH H e d C fld v) e) d (.xd [(fld, v)]) = upd H d (.xd [(fld, v)]) := by
  funext b
  unfold upd
  by_cases hb : b = d
  · rw [if_pos hb, if_pos hb]
  · rw [if_neg hb, if_neg hb]
    by_cases he : b = e
    · subst he
      rw [del_same, ne]
    · rw [del_ne he, excH_ne he hb]
def tMkSup (C : Addr) (fld : Str) (ta : TA) : L2.St → Hp → XK → Prop := fun σ H Q => ta σ H fun vs H1 => ∃ v, vs = [v] ∧ ∀ d, H1 d = none → Q (.ref C) (some d) (upd H1 d (.xd [(fld, v)]))
theorem pmk_sup {k : Nat} {x : Str} {a : Expr} {ta : TA} {p pos : Pos} (T : SupC X.prog X.K C fI fld) (gC : X.mg x = some (.ref C)) (hr : Room k X.A) (hg : Gl X x) (ha : PA X [a] ta)
    (hdb : (x == ("__debug__" : Str)) = false := by decide) (he : starEach (a :: []) X.env = (false, eval a X.env) :: starEach [] X.env := by rfl) (hpl : (backTo pos (starEach [] X.env)).any (·.1) = false := by rfl) :
    PMk X (.Call (.Name x p) [a] [] pos) (tMkSup C fld ta) := by
  intro pins s σ H Q I h
  refine wpAny_Call_Name_kw (ld_glob I hg gC ?_ hdb)
  refine PySem.W.callWith_K (h₀ := X.base) I.ok.mod.kin T.o.kC (thn (ha.run pos pins s σ H _ I h) fun us s1 hh => ?_) he hpl
  obtain ⟨vs, H1, I1, r1, v, ev, q1⟩ := hh
  subst ev
  cases r1 with
  | cons rv rn =>
    cases rn
    refine ⟨I1.kIn, ?_⟩
    obtain ⟨mb, hb, hbs⟩ := I1.ok.mod.blt
    have hn := I1.nolimit
    have kin := I1.kIn
    have gl : s1.heap.Ns mainGlobals X.mg := I1.ok.mod.glob.keeps I1.bk
    have bl := hb.keeps I1.bk
    have bare := I1.bare
    obtain ⟨hp, g, dr, tk, os⟩ := s1
    refine wpAny_call (sup_made T (.inl rfl) kin hn gl bl hbs (by have := hr.dp; omega) fun h' tk' e d M => ?_)
    obtain ⟨J, ne, nd, dn⟩ := sup_val (tk' := tk') I1 rv M
    have off : ∀ b o, hp.get? b = some o → b ≠ e ∧ b ≠ d := fun b o q => ⟨Nat.ne_of_lt (Nat.lt_of_lt_of_le (Heap.lt_size q) M.new), Nat.ne_of_lt (Nat.lt_of_lt_of_le (Heap.lt_size q) M.dbig)⟩
    have sm := excH_same (C := C) (fld := fld) (v := v) ne nd
    have un : Un (frs X.stack) [] (upd H1 e (exo e C none)) (excH H1 e d C fld v) hp h' := {
      keep := fun b o q _ _ _ => M.keep b o q
      slot := fun b o q _ _ _ => ⟨o.slots, M.keep b o q⟩
      free := fun b o q n _ => by
        rw [excH_ne (off b o q).1 (off b o q).2]
        rw [upd_ne (off b o q).1] at n
        exact n
      there := fun b o q _ => ⟨o, M.keep b o q⟩
      tups := fun b xs q => by
        have hb : b ≠ e := fun z => by
          rw [z, upd_same] at q
          exact exo_tup (Option.some.inj q)
        rw [upd_ne hb] at q
        exact sm b _ q
      frzs := fun b o u q => by
        have hb : b ≠ e := fun z => by
          rw [z, upd_same] at q
          have q' : exo e C none = .frz o u := Option.some.inj q
          unfold exo at q'
          cases q'
        rw [upd_ne hb] at q
        exact sm b _ q
      tbls := fun b ps q => by
        have hb : b ≠ e := fun z => by
          rw [z, upd_same] at q
          have q' : exo e C none = .tbl ps := Option.some.inj q
          unfold exo at q'
          cases q'
        rw [upd_ne hb] at q
        exact ⟨#[], by rw [sm b _ q]; simp⟩ }
    refine mk_end (raises_own T.o.exC T.o.tyC) I1 M.new (fun _ _ z => z) un J.hok rfl bare excH_e (excH_d dn) nd ?_
    rw [excH_del ne dn]
    exact q1 d nd
end
section
variable {rm : RM} {K : PySem.W.Frag} {C : Cfg K} {E : XK} {Γ Γn Γb Γc : List Md} {n m : Nat} {G0 H0 G H G1 H1 : Hp} {v : V} {d : D} {σ : L2.St} {ρ : Rho} {Q : VK} {i : Nat}
def sRaise (c f : Str) (a : Rho → Out (List D)) : Rho → Out Res := fun ρ => (a ρ).bind fun ds => match ds with
  | [d] => .exc c [(f, d)]
  | _ => .stuck
theorem ss_raise {c f : Str} {ta : TA} {a : Rho → Out (List D)} (hc : c ∈ ownX K) (ha : SimA C E Γ 1 ta a) : SimS rm C E Γ (fun _ σ H => tMkSup (He.ga K c) f ta σ H fun cls d H' => E cls d H') (sRaise c f a) Γn Γb Γc := fun G0 H0 n G H σ ρ D s e q => by
  refine ha H0 n G H σ ρ _ s.w e (Out.wp_mono (fun m ds k vs G1 H1 s1 r1 hl => ?_) (fun _ _ _ z => PX.stm s z) (Out.wp_bind q))
  match ds, hl, vs, r1 with
  | [d], _, [v], .cons h .nil =>
    refine ⟨v, rfl, fun dd nd => ?_⟩
    have s2 := (s.trans s1).new (o := .xd [(f, v)]) nd
    refine k (some dd) [(f, v)] _ _ hc s2 upd_same rfl ?_
    exact .cons (h.mono (same_add ((s.trans s1).w.gn nd))) .nil
def sRaiseB (c : Str) : Rho → Out Res := fun _ => .exc c []
theorem ss_raiseB {c : Str} (hc : c ∈ ownX K) : SimS rm C E Γ (fun _ σ H => (fun (_ : L2.St) (H : Hp) (Q : XK) => Q (.ref (He.ga K c)) none H) σ H fun cls d H' => E cls d H') (sRaiseB c) Γn Γb Γc := fun G0 H0 n G H σ ρ D s e q => q none [] G H hc s rfl rfl .nil
/-! ### properties, methods -/
def dProp (c : Str) (F : List D → Out D) (x : D) : Out D := match x with
  | .ins c' fs => bif decide (c' = c) then F [.ins c' fs] else .stuck
  | _ => .stuck
theorem Rq.insI {c : Str} {xs : List (Str × D)} (h : Rep C G v (.ins c xs)) : ∃ a dx fs, v = .ref a ∧ c ∈ ownCls K ∧ G a = some (.ins (He.ga K c) dx fs) ∧ fs.map (·.1) = xs.map (·.1) ∧ RepL C G (fs.map (·.2)) (xs.map (·.2)) := by
  cases h with
  | ins hc h e t => exact ⟨_, _, _, rfl, hc, h, e, t⟩
theorem sm_prop {b : Bool} {c : Str} {F : List D → Out D} {ta : TE} {a : Rho → Out D} (hbk : b = true → C.lk = []) (ha : SimE C E Γ ta a) : SimE C E Γ (tProp (He.ga K c) (spF K b 1 F) [] E0 ta) (fun ρ => (a ρ).bind fun x => (dProp c F x).nox) := fun H0 n G H σ ρ Q w e q => by
  refine ha H0 n G H σ ρ _ w e (Out.wp_mono (fun m d k v G1 H1 s1 r1 => ?_) (fun _ _ _ z => z) (Out.wp_bind q))
  replace k := Out.nox_wp (E' := PX C G H E0) k
  unfold dProp at k
  cases d <;> first | exact k.elim | skip
  rename_i c' xs
  by_cases hcc : c' = c
  · subst hcc
    simp only [decide_true, cond_true] at k
    obtain ⟨b, dx, fs, rfl, hc, hx, e1, t⟩ := r1.insI
    exact ⟨b, dx, fs, rfl, s1.w.sub _ _ hx, C, m, G1, _, hbk, s1.w, .cons r1 .nil, rfl, Out.wp_mono (fun _ _ z => PQ.back s1 z) (fun _ _ _ z => PX.back s1 z) k⟩
  · simp only [hcc, decide_false, cond_false] at k
    exact k.elim
def eMeth (c m : Str) (F : List D → Out D) (a : Rho → Out D) (r : Rho → Out (List D)) : Rho → Out D := fun ρ => (a ρ).bind fun x => match x with
  | .ins c' fs => bif decide (c' = c) && (fs.lookup m).isNone then (r ρ).bind fun ds => F (.ins c' fs :: ds) else .stuck
  | _ => .stuck
theorem sm_meth {b : Bool} {c mm : Str} {k : Nat} {F : List D → Out D} {ta : TE} {tr : TA} {a : Rho → Out D} {r : Rho → Out (List D)} (hbk : b = true → C.lk = []) (ha : SimE C E Γ ta a) (hr : SimA C E Γ k tr r) : SimE C E Γ (tMeth (He.ga K c) mm (spF K b (k + 1) F) [] E ta tr) (eMeth c mm F a r) := fun H0 n G H σ ρ Q w e q => by
  refine ha H0 n G H σ ρ _ w e (Out.wp_mono (fun m d k1 v G1 H1 s1 r1 => ?_) (fun _ _ _ z => z) (Out.wp_bind q))
  cases d <;> first | exact k1.elim | skip
  rename_i c' xs
  cases hb : (decide (c' = c) && (xs.lookup mm).isNone) with
  | false => simp only [hb, cond_false] at k1; exact k1.elim
  | true =>
    simp only [hb, cond_true] at k1
    rw [Bool.and_eq_true, decide_eq_true_eq, Option.isNone_iff_eq_none] at hb
    obtain ⟨rfl, hl⟩ := hb
    obtain ⟨b, dx, fs, rfl, hc, hx, e1, t⟩ := r1.insI
    refine ⟨b, dx, fs, rfl, s1.w.sub _ _ hx, rf_none e1 hl, ?_⟩
    refine hr H0 m G1 H1 σ ρ _ s1.w (e.step s1) (Out.wp_mono (fun m2 ds k2 vs G2 H2 s2 r2 hl => ?_) (fun _ _ _ z => PX.back s1 z) (Out.wp_bind k1))
    refine ⟨C, m2, G2, .ins c' xs :: ds, hbk, s2.w, .cons (r1.mono s2.g) ?_, congrArg (· + 1) hl, Out.wp_mono (fun _ _ z => PQ.back (s1.trans s2) z) (fun _ _ _ z => PX.back (s1.trans s2) z) k2⟩
    rw [List.append_nil]
    exact r2
/-! ### objects are made -/
def PI_ (C : Cfg K) (G1 H1 : Hp) (x : Addr) (Q : VK) : Nat → D → Prop := fun m d => ∀ o G' H', Ws C G1 H1 m G' H' → G' x = none → H' x = some o → ORep C G' o d → Q .non H'
def spI (K : PySem.W.Frag) (b : Bool) (c : Str) (k : Nat) (F : List D → Out D) : Sp := fun vs H Q E => ∃ (C : Cfg K) (n : Nat) (G1 H1 : Hp) (x dx : Addr) (us : List V) (ds : List D), (b = true → C.lk = []) ∧ vs = .ref x :: us ∧ H = upd (upd H1 dx (.own x)) x (.ins (He.ga K c) dx []) ∧ H1 x = none ∧ H1 dx = none ∧ dx ≠ x ∧
  Wl C n G1 H1 ∧ RepL C G1 us ds ∧ ds.length = k ∧ c ∈ ownCls K ∧ (F ds).wp n (PI_ C G1 H1 x Q) (PX C G1 H1 E)
theorem sn_make {b : Bool} {c : Str} {k j : Nat} {F : List D → Out D} {dvs : List V} {dds : List D} {ta : TA} {a : Rho → Out (List D)} (hbk : b = true → C.lk = []) (hc : c ∈ ownCls K) (hd : ∀ G, RepL C G dvs dds) (ha : SimA C E Γ j ta a) (hk : j + dds.length = k := by rfl) : SimN C E Γ (tMake (He.ga K c) (spI K b c k F) dvs E ta) (eCall (fun ds => F (ds ++ dds)) a) := fun H0 n G H σ ρ Q w e q => by
  refine ha H0 n G H σ ρ _ w e (Out.wp_mono (fun m xs k1 vs G1 H1 s1 r1 hl => ?_) (fun _ _ _ z => z) (Out.wp_bind q))
  intro x dx nx nd hne
  refine ⟨C, m, G1, H1, x, dx, _, xs ++ dds, hbk, rfl, rfl, nx, nd, hne, s1.w, r1.app (hd G1), by rw [List.length_append, hl]; exact hk, hc, Out.wp_mono (fun m2 d z => ?_) (fun _ _ _ z => PX.back s1 z) k1⟩
  exact fun o G' H' s' gx hx r => ⟨rfl, z x o G' H' (s1.trans s') (s1.dm nx) gx hx r⟩
def fnI (c : Str) (N : Nat) (ψ : Rho → Out Res) : List D → Out D := fun ds => (ψ (.ins c [] :: ds ++ List.replicate (N - (ds.length + 1)) .non)).bind fun r => match r with
  | .nx ρ => .ok (ρ.getD 0 .non)
  | _ => .stuck
def fr1 (x : Addr) (k N : Nat) : List Md := .ow (some x) :: (List.replicate k .fr ++ List.replicate (N - (k + 1)) .un)
theorem erStartI {c : Str} {vs : List V} {ds : List D} {N : List Str} {x dx : Addr} (r : RepL C G vs ds) (hl : ds.length + 1 ≤ N.length) (w : Wl C n G H1) (nx : H1 x = none) (nd : H1 dx = none) (hne : dx ≠ x) (hc : c ∈ ownCls K) :
    Er C H1 (fr1 x ds.length N.length) G (upd (upd H1 dx (.own x)) x (.ins (He.ga K c) dx [])) (L2.start N (.ref x :: vs)) (.ins c [] :: ds ++ List.replicate (N.length - (ds.length + 1)) .non) := by
  have hvl := r.len
  have hown : ∀ j, j ≠ 0 → ((fr1 x ds.length N.length).getD j .un).isOw = false := fun j hj => by
    obtain ⟨j, rfl⟩ := Nat.exists_eq_succ_of_ne_zero hj
    unfold fr1
    rw [List.getD_cons_succ, List.getD_eq_getElem?_getD]
    by_cases h : j < ds.length
    · rw [List.getElem?_append_left (by rw [List.length_replicate]; exact h), List.getElem?_replicate, if_pos h]
      rfl
    · rw [List.getElem?_append_right (by rw [List.length_replicate]; omega), List.getElem?_replicate]
      split <;> rfl
  refine ⟨fun i => ?_, fun i j p hij hi hj => ?_, ?_, ?_⟩
  · cases i with
    | zero =>
      refine ⟨x, _, rfl, ⟨upd_same, w.gn nx, w.nvol nx, nx⟩, ⟨⟨hc, rfl⟩, rfl, .nil⟩, fun q z => ?_⟩
      cases z
      rfl
    | succ i =>
      unfold fr1
      rw [List.getD_cons_succ, List.getD_eq_getElem?_getD]
      by_cases hi : i < ds.length
      · rw [List.getElem?_append_left (by rw [List.length_replicate]; exact hi), List.getElem?_replicate, if_pos hi]
        obtain ⟨v, hv, rv⟩ := r.at' (List.getElem?_eq_getElem hi)
        refine ⟨v, ?_, ?_⟩
        · unfold L2.start
          rw [List.getElem?_append_left (by rw [List.length_map, List.length_cons]; omega), List.getElem?_map, List.getElem?_cons_succ, hv]
          rfl
        · rw [List.cons_append, List.getD_cons_succ, List.getD_eq_getElem?_getD, List.getElem?_append_left hi, List.getElem?_eq_getElem hi]
          exact rv
      · rw [List.getElem?_append_right (by rw [List.length_replicate]; omega), List.getElem?_replicate]
        split <;> exact True.intro
  · by_cases h : i = 0
    · have : j ≠ 0 := fun z => hij (h.trans z.symm)
      rw [hown j this] at hj
      cases hj
    · rw [hown i h] at hi
      cases hi
  · unfold fr1 L2.start
    rw [List.length_cons, List.length_append, List.length_replicate, List.length_replicate, List.length_append, List.length_map, List.length_replicate, List.length_cons, hvl]
    omega
  · unfold L2.start
    rw [List.length_append, List.length_replicate, List.length_append, List.length_map, List.length_replicate, List.length_cons, List.length_cons, hvl]
end
section
variable {P : Program} {w : World} {K : PySem.W.Frag} {mg : Str → Option Value} {base : Heap}
theorem FunD.simI {c qual : Str} {st : Stmt} {f : Addr} {fd : FuncData} {dvs : List V} {N ps : List Str} {k j : Nat} {ψ : Rho → Out Res} (F : FnD K "__init__" qual st dvs f fd) (S : FnScope N ps (defScope st)) (hj : ps.length = j + 1) {b : Bool}
    (hbody : ∀ (cdv : Value) (A : Around) (outer : List Env) (s : Shared) (H : Hp) (E : XK) (C : Cfg K) (x : Addr), (b = true → C.lk = []) → Room k (A.deeper (envOfC qual (defScope st) s.heap.objs.size f cdv)) →
      ∃ t, PSs (cxOf (L2.CX P w) P w K mg base N qual (defScope st) f cdv A outer s H E) (defBody st) t ∧ ∃ Γn Γb Γc, SimS .fr C E (fr1 x j N.length) t ψ (.ow (some x) :: Γn) Γb Γc) (hk : ps.length ≤ N.length := by decide) :
    FnOk P w K mg base (L2.CX P w) (k + 1) f fd ps (spI K b c j (fnI c N.length ψ)) := by
  refine F.ok (k := k) S (fun vs H Q E h => ?_) (fun cdv A outer s H vs Q E hr h => ?_)
  · obtain ⟨C, n, G1, H1, x, dx, us, ds, _, rfl, _, _, _, _, _, r, hl, _⟩ := h
    rw [List.length_cons, r.len, hl, hj]
  · obtain ⟨C, n, G1, H1, x, dx, us, ds, hbk, rfl, rfl, nx, nd, hne, wl, r, hl, hc, q⟩ := h
    obtain ⟨t, ht, Γn, Γb, Γc, hS⟩ := hbody cdv A outer s _ E C x hbk hr
    refine ⟨t, ht, ?_⟩
    subst hl
    have s0 : Ws C G1 H1 n G1 (upd (upd H1 dx (.own x)) x (.ins (He.ga K c) dx [])) := ((Ws.refl wl).tmp nd).tmp (by rw [upd_ne hne.symm]; exact nx)
    refine hS G1 H1 n G1 _ _ _ _ s0 (erStartI r (by omega) wl nx nd hne hc) (Out.wp_mono (fun m rr kk => ?_) (fun _ _ _ z => z) (Out.wp_bind q))
    cases rr with
    | nx ρ =>
      intro σ G' H' s' _ e'
      obtain ⟨p, o, h1, h2, h3, h4⟩ := e'.ow (i := 0) rfl
      cases h4 x rfl
      exact kk o G' H' s' h2.g h2.h h3
    | rt d => exact kk.elim
    | bk ρ => exact kk.elim
    | ct ρ => exact kk.elim
theorem PFun.sim {C0 : Addr} {x qual : Str} {st : Stmt} {N : List Str} {k : Nat} {ψ : Rho → Out Res} (F : PFun K C0 x qual st) (S : FnScope N ["self"] (defScope st))
    (hb : ∀ (kV doc pm : Value) (an : Option Addr) (cdv ct : Value) (us : List Value), us.length = 1 → bindArgs (PySem.W.fnOf x qual (defArgs st) (defBody st) (defScope st) .none kV doc pm an cdv ct) ⟨us, []⟩ = pure ((["self"] : List Str).zip us))
    {b : Bool} (hbody : ∀ (f : Addr) (cdv : Value) (A : Around) (outer : List Env) (s : Shared) (H : Hp) (E : XK) (C : Cfg K), (b = true → C.lk = []) → Room k (A.deeper (envOfC qual (defScope st) s.heap.objs.size f cdv)) →
      ∃ t, PSs (cxOf (L2.CX P w) P w K mg base N qual (defScope st) f cdv A outer s H E) (defBody st) t ∧ ∃ Γn Γb Γc, SimS .fr C E (fr0 1 N.length) t ψ Γn Γb Γc) (hk : 1 ≤ N.length := by decide) :
    POk P w K mg base (k + 1) C0 x (spF K b 1 (fnD N.length ψ)) := by
  refine PFun.ok (k := k) F S hb (fun vs H Q E h => ?_) (fun f cdv A outer s H vs Q E hr h => ?_)
  · obtain ⟨C, n, G, ds, _, _, r, hl, _⟩ := h
    rw [r.len]
    exact hl
  · obtain ⟨C, n, G, ds, hbk, wl, r, hl, q⟩ := h
    obtain ⟨t, ht, Γn, Γb, Γc, hS⟩ := hbody f cdv A outer s H E C hbk hr
    exact ⟨t, ht, body_sim (sp := spF K b 1 (fnD N.length ψ)) hS hk wl r hl q⟩
theorem MFun.sim {C0 : Addr} {x qual : Str} {st : Stmt} {N ps : List Str} {k : Nat} {ψ : Rho → Out Res} (F : MFun K C0 x qual st) (S : FnScope N ps (defScope st))
    (hb : ∀ (kV doc pm : Value) (an : Option Addr) (cdv ct : Value) (us : List Value), us.length = ps.length → bindArgs (PySem.W.fnOf x qual (defArgs st) (defBody st) (defScope st) .none kV doc pm an cdv ct) ⟨us, []⟩ = pure (ps.zip us))
    {b : Bool} (hbody : ∀ (f : Addr) (cdv : Value) (A : Around) (outer : List Env) (s : Shared) (H : Hp) (E : XK) (C : Cfg K), (b = true → C.lk = []) → Room k (A.deeper (envOfC qual (defScope st) s.heap.objs.size f cdv)) →
      ∃ t, PSs (cxOf (L2.CX P w) P w K mg base N qual (defScope st) f cdv A outer s H E) (defBody st) t ∧ ∃ Γn Γb Γc, SimS .fr C E (fr0 ps.length N.length) t ψ Γn Γb Γc) (hk : ps.length ≤ N.length := by decide) :
    MOk P w K mg base (k + 1) C0 x ps (spF K b ps.length (fnD N.length ψ)) := by
  refine MFun.ok (k := k) F S hb (fun vs H Q E h => ?_) (fun f cdv A outer s H vs Q E hr h => ?_)
  · obtain ⟨C, n, G, ds, _, _, r, hl, _⟩ := h
    rw [r.len]
    exact hl
  · obtain ⟨C, n, G, ds, hbk, wl, r, hl, q⟩ := h
    obtain ⟨t, ht, Γn, Γb, Γc, hS⟩ := hbody f cdv A outer s H E C hbk hr
    exact ⟨t, ht, body_sim (sp := spF K b ps.length (fnD N.length ψ)) hS hk wl r hl q⟩
end
end ND
/-! dicts that are walked; chains; dict comprehensions -/
namespace ND
open PySem PySem.Spec PyProof.Rows L2
/-- the same things to be read -/
structure Cg (G G' : Hp) : Prop where
  rd : ∀ b u, ((∃ vs, u = HO.lst vs) ∨ (∃ vs, u = HO.tup vs) ∨ ∃ kvs, u = HO.dK kvs) → Rd G b u → Rd G' b u
  o : ∀ b o, ((∃ C dx fs, o = HO.ins C dx fs) ∨ (∃ φ, o = HO.ext φ) ∨ (∃ fs, o = HO.xd fs) ∨ ∃ ob vs, o = HO.frz ob (.tup vs)) → G b = some o → G' b = some o
section
variable {K : PySem.W.Frag} {dr : Addr} {G G' H : Hp}
theorem Cg.x {a C : Addr} {fs : List (Str × V)} (s : Cg G G') (h : XAt G a C fs) : XAt G' a C fs := by
  obtain ⟨d, h1, h2⟩ := h
  refine ⟨d, s.o _ _ (.inr (.inl ⟨_, rfl⟩)) h1, ?_⟩
  cases d with
  | none => exact h2
  | some d => exact s.o _ _ (.inr (.inr (.inl ⟨_, rfl⟩))) h2
theorem Cg.t {a : Addr} {vs : List V} (s : Cg G G') (h : SqT K G a vs) : SqT K G' a vs := by
  rcases h with h | h
  · exact .inl (s.rd _ _ (.inr (.inl ⟨_, rfl⟩)) h)
  · exact .inr h
theorem Cg.g {a : Addr} {vs : List V} (s : Cg G G') (h : GT K G a vs) : GT K G' a vs := by
  obtain ⟨h1, o, h2, h3⟩ := h
  refine ⟨s.t h1, o, h2, h3.imp (fun z => ?_) fun z => z⟩
  exact s.o _ _ (.inr (.inr (.inr ⟨_, _, rfl⟩))) z
mutual
theorem Rq.cg (s : Cg G G') : ∀ {v : V} {x : D}, Rq K dr G v x → Rq K dr G' v x
  | _, _, .non => .non
  | _, _, .bl b => .bl b
  | _, _, .int n => .int n
  | _, _, .str z h => .str z h
  | _, _, .lst h t l => .lst (s.rd _ _ (.inl ⟨_, rfl⟩) h) (RqL.cg s t) l
  | _, _, .tup h t l => .tup (s.g h) (RqL.cg s t) l
  | _, _, .dct h e t l => .dct (s.rd _ _ (.inr (.inr ⟨_, rfl⟩)) h) e (RqL.cg s t) l
  | _, _, .ins hc h e t => .ins hc (s.o _ _ (.inl ⟨_, _, _, rfl⟩) h) e (RqL.cg s t)
  | _, _, .exc hc h e t => .exc hc (s.x h) e (RqL.cg s t)
  | _, _, .drw => .drw
theorem RqL.cg (s : Cg G G') : ∀ {vs : List V} {xs : List D}, RqL K dr G vs xs → RqL K dr G' vs xs
  | _, _, .nil => .nil
  | _, _, .cons h t => .cons (Rq.cg s h) (RqL.cg s t)
end
theorem cg_lock {a : Addr} {od : Obj} {kvs : List (Key × V)} (h : G a = some (.dK kvs)) : Cg G (upd G a (.frz od (.dK kvs))) := by
  refine ⟨fun b u hu r => ?_, fun b o ho e => ?_⟩
  · by_cases hb : b = a
    · subst hb
      rcases r with r | ⟨o, r⟩
      · rw [h] at r
        cases r
        exact .inr ⟨od, upd_same⟩
      · rw [h] at r
        cases r
    · rcases r with r | ⟨o, r⟩
      · exact .inl (by rw [upd_ne hb]; exact r)
      · exact .inr ⟨o, by rw [upd_ne hb]; exact r⟩
  · have hb : b ≠ a := fun z => by
      subst z
      rw [h] at e
      cases e
      rcases ho with ⟨_, _, _, z⟩ | ⟨_, z⟩ | ⟨_, z⟩ | ⟨_, _, z⟩ <;> cases z
    rw [upd_ne hb]
    exact e
theorem cg_unlock {a : Addr} {od : Obj} {kvs : List (Key × V)} (h : G a = some (.frz od (.dK kvs))) : Cg G (upd G a (.dK kvs)) := by
  refine ⟨fun b u hu r => ?_, fun b o ho e => ?_⟩
  · by_cases hb : b = a
    · subst hb
      rcases r with r | ⟨o, r⟩
      · rw [h] at r
        cases r
        rcases hu with ⟨_, z⟩ | ⟨_, z⟩ | ⟨_, z⟩ <;> cases z
      · rw [h] at r
        cases r
        exact .inl upd_same
    · rcases r with r | ⟨o, r⟩
      · exact .inl (by rw [upd_ne hb]; exact r)
      · exact .inr ⟨o, by rw [upd_ne hb]; exact r⟩
  · have hb : b ≠ a := fun z => by
      subst z
      rw [h] at e
      cases e
      rcases ho with ⟨_, _, _, z⟩ | ⟨_, z⟩ | ⟨_, z⟩ | ⟨_, _, z⟩ <;> cases z
    rw [upd_ne hb]
    exact e
end
def Cfg.lock {K : PySem.W.Frag} (C : Cfg K) (a : Addr) : Cfg K := { C with lk := [a] }
section
variable {K : PySem.W.Frag} {C : Cfg K} {E : XK} {Γ Γn Γb Γc : List Md} {n m : Nat} {G0 H0 G H G1 H1 : Hp} {v : V} {d : D} {σ : L2.St} {ρ : Rho} {Q : VK} {i : Nat} {a : Addr} {od : Obj} {kvs : List (Key × V)}
theorem ORep.cg {o : HO} (s : Cg G G1) (h : ORep C G o d) : ORep C G1 o d := by
  cases o <;> cases d <;> first | exact h.elim | exact ⟨h.1, RqL.cg s h.2⟩ | exact ⟨h.1, h.2.1, RqL.cg s h.2.2⟩
theorem lock_w (w : Wl C n G H) (hl : C.lk = []) (ga : G a = some (.dK kvs)) : Wl (C.lock a) n (upd G a (.frz od (.dK kvs))) (upd H a (.frz od (.dK kvs))) := by
  have nv : ¬ C.vol a := fun z => by rw [w.nv a z] at ga; cases ga
  have ha : H a = some (.dK kvs) := w.sub _ _ ga
  refine ⟨same_both w.sub, fun x v => ?_, fun x o h => ?_, fun x o u h => ?_, C.stab n H _ w.iv (fun x v => ?_) (fun x φ _ h => ?_) fun x o h => ?_⟩
  · rw [upd_ne (show x ≠ a from fun z => nv (z ▸ v))]; exact w.nv x v
  · have hx : x ≠ a := fun z => by
      have := w.fx x o h
      rw [z, ga] at this
      cases this
      exact C.fixd x kvs h
    rw [upd_ne hx]; exact w.fx x o h
  · by_cases hx : x = a
    · rw [hx]; exact List.mem_singleton.mpr rfl
    · rw [upd_ne hx] at h
      have := w.nf x o u h
      rw [hl] at this
      cases this
  · rw [upd_ne (show x ≠ a from fun z => nv (z ▸ v))]
  · rw [upd_ne (ne_of h ha (by intro z; cases z))]; exact h
  · have hx : x ≠ a := fun z => by
      have := w.fx x o h
      rw [z, ga] at this
      cases this
      exact C.fixd x kvs h
    rw [upd_ne hx]; exact w.sub _ _ (w.fx x o h)
/-- the entry, but for a -/
def without (G : Hp) (a : Addr) : Hp := fun b => if b = a then none else G b
theorem without_ne {b : Addr} (h : b ≠ a) : without G a b = G b := if_neg h
theorem without_same : without G a a = none := if_pos rfl
theorem lock_s (s : Ws C G0 H0 n G H) (hl : C.lk = []) (ga : G a = some (.dK kvs)) : Ws (C.lock a) (without G0 a) (without H0 a) n (upd G a (.frz od (.dK kvs))) (upd H a (.frz od (.dK kvs))) := by
  refine ⟨lock_w s.w hl ga, fun x o h => ?_, fun x o v h => ?_, fun x h h1 => ?_⟩
  · have hx : x ≠ a := fun z => by rw [z, without_same] at h; cases h
    rw [without_ne hx] at h
    rw [upd_ne hx]; exact s.g x o h
  · have hx : x ≠ a := fun z => by rw [z, without_same] at h; cases h
    rw [without_ne hx] at h
    rw [upd_ne hx]; exact s.k x o v h
  · have hx : x ≠ a := fun z => h1 (by rw [z]; exact without_same)
    rw [without_ne hx] at h h1
    rw [upd_ne hx]; exact s.o x h h1
theorem unlock_s (s : Ws C G0 H0 n G H) (ga : G a = some (.dK kvs)) (s1 : Ws (C.lock a) (without G0 a) (without H0 a) m G1 H1) (g1 : G1 a = some (.frz od (.dK kvs))) : Ws C G0 H0 m (upd G1 a (.dK kvs)) (upd H1 a (.dK kvs)) := by
  have nv : ¬ C.vol a := fun z => by rw [s.w.nv a z] at ga; cases ga
  have h1 : H1 a = some (.frz od (.dK kvs)) := s1.w.sub _ _ g1
  refine ⟨⟨same_both s1.w.sub, fun x v => ?_, fun x o h => ?_, fun x o u h => ?_, C.stab m H1 _ s1.w.iv (fun x v => ?_) (fun x φ _ h => ?_) fun x o h => ?_⟩, fun x o h => ?_, fun x o v h => ?_, fun x h hn => ?_⟩
  · rw [upd_ne (show x ≠ a from fun z => nv (z ▸ v))]; exact s1.w.nv x v
  · have hx : x ≠ a := fun z => by
      have := s.w.fx x o h
      rw [z, ga] at this
      cases this
      exact C.fixd x kvs h
    rw [upd_ne hx]; exact s1.w.fx x o h
  · by_cases hx : x = a
    · rw [hx, upd_same] at h; cases h
    · rw [upd_ne hx] at h
      have := s1.w.nf x o u h
      exact absurd (List.mem_singleton.mp this) hx
  · rw [upd_ne (show x ≠ a from fun z => nv (z ▸ v))]
  · rw [upd_ne (ne_of h h1 (by intro z; cases z))]; exact h
  · have hx : x ≠ a := fun z => by
      have := s.w.fx x o h
      rw [z, ga] at this
      cases this
      exact C.fixd x kvs h
    rw [upd_ne hx]; exact s1.w.sub _ _ (s1.w.fx x o h)
  · by_cases hx : x = a
    · subst hx
      have := s.g x o h
      rw [ga] at this
      cases this
      exact upd_same
    · rw [upd_ne hx]
      exact s1.g x o (by rw [without_ne hx]; exact h)
  · by_cases hx : x = a
    · subst hx
      have h2 := s.k x o v h
      rw [s.w.sub _ _ ga] at h2
      cases h2
      exact upd_same
    · rw [upd_ne hx]
      exact s1.k x o v (by rw [without_ne hx]; exact h)
  · have hx : x ≠ a := fun z => by
      have := s.o x h hn
      rw [z, ga] at this
      cases this
    rw [upd_ne hx]
    exact s1.o x (by rw [without_ne hx]; exact h) (by rw [without_ne hx]; exact hn)
/-- the slots, while the dict of the i-th one is walked -/
theorem Er.lock (e : Er C H0 Γ G H σ ρ) (hi : Γ[i]? = some .fr) (w : Wl C n G H) (hs : σ[i]? = some (some (.ref a))) {xs : List (Key × D)} (hx : ρ.getD i .non = .dct xs) (ga : G a = some (.dK kvs)) (e1 : kvs.map (·.1) = xs.map (·.1)) (t : RepL C G (kvs.map (·.2)) (xs.map (·.2))) (l : xs.length ≤ 100000) :
    Er (C.lock a) (without H0 a) (Γ.set i .lk) (upd G a (.frz od (.dK kvs))) (upd H a (.frz od (.dK kvs))) σ ρ := by
  have hil : i < Γ.length := (List.getElem?_eq_some_iff.mp hi).1
  have cg := cg_lock (od := od) ga
  have back : ∀ x, ((Γ.set i .lk).getD x .un).isOw = true → (Γ.getD x .un).isOw = true := fun x hx => by
    rw [getD_set] at hx
    by_cases z : i = x ∧ i < Γ.length
    · rw [if_pos z] at hx; cases hx
    · rw [if_neg z] at hx; exact hx
  refine ⟨fun j => ?_, fun j k q hjk hj hk => e.dj j k q hjk (back j hj) (back k hk), by rw [List.length_set]; exact e.lg, e.lr⟩
  rw [getD_set]
  by_cases hij : i = j
  · subst hij
    rw [if_pos ⟨rfl, hil⟩, hx]
    exact ⟨a, hs, od, kvs, xs, rfl, upd_same, e1, RqL.cg cg t, l⟩
  · rw [if_neg (fun z => hij z.1)]
    have hj := e.sl j
    cases hm : Γ.getD j .un with
    | un => exact True.intro
    | fr =>
      rw [hm] at hj
      obtain ⟨v, h1, h2⟩ := hj
      exact ⟨v, h1, Rq.cg cg h2⟩
    | ow b =>
      rw [hm] at hj
      obtain ⟨p, o, h1, h2, h3, h4⟩ := hj
      have hp : p ≠ a := fun z => by have := h2.g; rw [z, ga] at this; cases this
      exact ⟨p, o, h1, ⟨by rw [upd_ne hp]; exact h2.h, by rw [upd_ne hp]; exact h2.g, h2.v, by rw [without_ne hp]; exact h2.n⟩, h3.cg cg, h4⟩
    | lk =>
      rw [hm] at hj
      obtain ⟨b, h1, o, kvs', xs', h2, h3, h4, h5, h6⟩ := hj
      have hb : b ≠ a := fun z => by rw [z, ga] at h3; cases h3
      exact ⟨b, h1, o, kvs', xs', h2, by rw [upd_ne hb]; exact h3, h4, RqL.cg cg h5, h6⟩
def eLock (i : Nat) (φ : Rho → Out D) : Rho → Out D := fun ρ => match ρ.getD i .non with
  | .dct _ => (φ ρ).nox
  | _ => .stuck
theorem sm_lock {t : TE} {φ : Rho → Out D} (hl : C.lk = []) (hi : Γ[i]? = some .fr) (h : ∀ C' : Cfg K, SimE C' E0 (Γ.set i .lk) t φ) : SimE C E Γ (tLockE t) (eLock i φ) := fun H0 n G H σ ρ Q w e q => by
  obtain ⟨v, h1, h2⟩ := e.fr hi
  unfold eLock at q
  cases hx : ρ.getD i .non <;> simp only [hx] at q <;> first | exact q.elim | skip
  rename_i xs
  rw [hx] at h2
  cases h2 with
  | @dct a kvs _ hr e1 t l =>
    have ga : G a = some (.dK kvs) := by
      rcases hr with hr | ⟨o, hr⟩
      · exact hr
      · have := w.nf _ _ _ hr
        rw [hl] at this
        cases this
    refine ⟨a, _, w.sub _ _ ga, True.intro, fun od => ?_⟩
    have s0 := Ws.refl w
    have ls := lock_s (od := od) s0 hl ga
    have el := e.lock (od := od) hi w h1 hx ga e1 t l
    refine h (C.lock a) (without H0 a) n _ _ σ ρ _ ls.w el (Out.wp_mono (fun m d k v G1 H1 s1 r1 => ?_) (fun _ _ _ z => z) (Out.nox_wp (E' := PX (C.lock a) _ _ E0) q))
    have g1 : G1 a = some (.frz od (.dK kvs)) := s1.g _ _ upd_same
    refine ⟨s1.w.sub _ _ g1, ?_⟩
    exact k v _ _ (unlock_s s0 ga (ls.trans s1) g1) (Rq.cg (cg_unlock g1) r1)
theorem sm_varL (hi : Γ[i]? = some .lk) : SimE C E Γ (tVar i) (eVar i) := fun H0 n G H σ ρ Q w e q => by
  have hh := e.sl i
  rw [List.getD_eq_getElem?_getD, hi] at hh
  obtain ⟨a, h1, o, kvs, xs, h2, h3, h4, h5, h6⟩ := hh
  refine ⟨_, h1, q _ G H (Ws.refl w) ?_⟩
  rw [h2]
  exact .dct (.inr ⟨o, h3⟩) h4 h5 h6
def keyD_ : Key → D
  | .inl i => .int i
  | .inr z => .str z
/-- the keys of a dict; texts are plain -/
def keyOkB (k : Key) : Bool := match k with
  | .inl _ => true
  | .inr z => decide (z.length ≤ 100000) && PyData.strOk z
def itemsK : D → Out (List D)
  | .dct kvs => bif (kvs.all fun kv => keyOkB kv.1) then .ok (kvs.map fun kv => keyD_ kv.1) else .stuck
  | _ => .stuck
theorem key_rep {k : Key} (h : keyOkB k = true) : Rep C G (kV k) (keyD_ k) := by
  cases k with
  | inl i => exact .int i
  | inr z =>
    unfold keyOkB at h
    rw [Bool.and_eq_true, decide_eq_true_eq] at h
    exact .str z ⟨h.1, h.2⟩
theorem si_keysL (hi : Γ[i]? = some .lk) : SimI false C E Γ (iKeys (tVar i)) (iOf itemsK (eVar i)) := fun H0 n G H σ ρ R w e q => by
  have hh := e.sl i
  rw [List.getD_eq_getElem?_getD, hi] at hh
  obtain ⟨a, h1, o, kvs, xs, h2, h3, h4, h5, h6⟩ := hh
  replace q : (itemsK (ρ.getD i .non)).wp n _ _ := q
  rw [h2] at q
  unfold itemsK at q
  cases hb : (xs.all fun kv => keyOkB kv.1) with
  | false => simp only [hb, cond_false] at q; exact q.elim
  | true =>
    simp only [hb, cond_true] at q
    rw [List.all_eq_true] at hb
    have hkl : kvs.length = xs.length := by simpa using congrArg List.length h4
    refine ⟨_, h1, a, o, rfl, .inl ⟨kvs, w.sub _ _ h3, q _ G H (Ws.refl w) (WalkD.of walk_keys (by rw [List.length_map]; exact hkl) (by rw [List.length_map]; exact h6) (fun H' s => s _ _ h3) ?_)⟩⟩
    rintro j d n' G1 H1 x H2 hd s w1 ⟨rfl, k, v, hkv, rfl⟩
    rw [List.getElem?_map] at hd
    obtain ⟨kv, hkv', rfl⟩ := Option.map_eq_some_iff.mp hd
    have : k = kv.1 := by
      have e1 : (kvs.map (·.1))[j]? = some k := by rw [List.getElem?_map, hkv]; rfl
      rw [h4, List.getElem?_map, hkv'] at e1
      exact (Option.some.inj e1).symm
    subst this
    exact ⟨G1, Ws.refl w1, .inl <| key_rep (hb kv (List.mem_of_getElem? hkv'))⟩
/-! ### a < b < c -/
def eChain (f g : D → D → Out D) (a b c : Rho → Out D) : Rho → Out D := fun ρ => (a ρ).bind fun x => (b ρ).bind fun y => (f x y).bind fun z => match z with
  | .bl true => (c ρ).bind fun w => g y w
  | .bl false => .ok (.bl false)
  | _ => .stuck
theorem sm_chain {r r' : R2} {ta tb tc : TE} {f g : D → D → Out D} {a b c : Rho → Out D} (hr : SR C E r f) (hr' : SR C E r' g) (ha : SimV C E Γ ta a) (hb : SimV C E Γ tb b) (hc : SimV C E Γ tc c) : SimE C E Γ (tChain r r' ta tb tc) (eChain f g a b c) := fun H0 n G H σ ρ Q w e q => by
  refine ha H0 n G H σ ρ _ w e (Out.wp_mono (fun m dx k v G1 H1 s1 r1 => ?_) (fun _ _ _ z => z) (Out.wp_bind q))
  refine hb H0 m G1 H1 σ ρ _ s1.w (e.step s1) (Out.wp_mono (fun m2 dy k2 u G2 H2 s2 r2 => ?_) (fun _ _ _ z => PX.back s1 z) (Out.wp_bind k))
  have s12 := s1.trans s2
  refine hr m2 G2 H2 v u dx dy _ s2.w (r1.step s2) r2 (Out.wp_mono (fun m3 dz k3 z G3 H3 s3 r3 => ?_) (fun _ _ _ z => PX.back s12 z) (Out.wp_bind k2))
  have s13 := s12.trans s3
  cases dz <;> first | exact k3.elim | skip
  rename_i bb
  refine ⟨bb, RepV.bl (H := H3) (.inl r3), ?_⟩
  cases bb with
  | false => exact k3 _ G3 H3 s13 (.bl _)
  | true =>
    refine hc H0 m3 G3 H3 σ ρ _ s3.w (e.step s13) (Out.wp_mono (fun m4 dw k4 x G4 H4 s4 r4 => ?_) (fun _ _ _ z => PX.back s13 z) (Out.wp_bind k3))
    exact hr' m4 G4 H4 u x dy dw Q s4.w ((r2.step s3).step s4) r4 (Out.wp_mono (fun _ _ z => PQ.back (s13.trans s4) z) (fun _ _ _ z => PX.back (s13.trans s4) z) k4)
/-! ### a dict comprehension -/
def dcD (γ : D → Rho → Option Rho) (c : Rho → Out Bool) (a b : Rho → Out D) (ρ : Rho) : List D → List (Key × D) → Out (List (Key × D))
  | [], acc => .ok acc
  | x :: xs, acc => match γ x ρ with
    | none => .stuck
    | some ρ1 => (c ρ1).nox.bind fun t => bif t then (a ρ1).nox.bind fun y => (b ρ1).nox.bind fun z => match keyOfD y with
      | some k => dcD γ c a b ρ xs (putD acc k z)
      | none => .stuck
      else dcD γ c a b ρ xs acc
def eDc (φ : Rho → Out (List D)) (γ : D → Rho → Option Rho) (c : Rho → Out Bool) (a b : Rho → Out D) : Rho → Out D := fun ρ => (φ ρ).bind fun ds => (dcD γ c a b ρ ds []).bind fun kvs => .ok (.dct kvs)
theorem sn_dc {wi : TI} {g : TG} {tt : TT} {tk tv : TE} {vs is : List Nat} {φ : Rho → Out (List D)} {γ : D → Rho → Option Rho} {c : Rho → Out Bool} {a b : Rho → Out D} {Γ1 : List Md} (hi : SimI pr C E Γ wi φ) (hv : ∀ i ∈ is, i ∈ vs) (hg : SimG pr C (wipeM Γ vs) is g γ Γ1)
    (hc : SimT C E0 Γ1 tt c) (ha : SimE C E0 Γ1 tk a) (hb : SimE C E0 Γ1 tv b) : SimN C E Γ (tDc wi g tt tk tv vs) (eDc φ γ c a b) := fun H0 n G H σ ρ Q w e q => by
  refine hi H0 n G H σ ρ _ w e (Out.wp_mono (fun m ds k J Gi Hi si wd => ?_) (fun _ _ _ z => z) (Out.wp_bind q))
  obtain ⟨hl, Gp, Y, wk, hGp, hY⟩ := wd
  intro Dl nD
  have nvD := si.w.nvol nD
  have gD := si.w.gn nD
  refine dc_it wk (fun i H' => ∃ m' G' acc us, Ws C Gi Hi m' G' H' ∧ G' Dl = none ∧ H' Dl = some (.dK us) ∧ us.map (·.1) = acc.map (·.1) ∧ RepL C G' (us.map (·.2)) (acc.map (·.2)) ∧ acc.length ≤ i ∧ (dcD γ c a b ρ (ds.drop i) acc).wp m' (fun m2 kvs => PN C G H Q m2 (.dct kvs)) (PX C G H E)) ?_ ?_ ?_ ?_
  · refine ⟨m, Gi, [], [], (Ws.refl si.w).tmp nD, gD, upd_same, rfl, .nil, Nat.le_refl _, ?_⟩
    rw [List.drop_zero]
    exact Out.wp_mono (fun _ _ z => z) (fun _ _ _ z => z) (Out.wp_bind k)
  · rintro i H' _ ⟨m', G', acc, us, s', _⟩
    exact hGp H' (s'.g.trans s'.w.sub)
  · rintro i x H' H'' hi' ⟨m', G', acc, us, s', gD', hD', e', r', la, k'⟩ y
    obtain ⟨d, hd⟩ : ∃ d, ds[i]? = some d := ⟨_, List.getElem?_eq_getElem hi'⟩
    obtain ⟨G2, s2, r2⟩ := hY i d m' G' H' x H'' hd s'.g s'.w y
    have hdr : ds.drop i = d :: ds.drop (i + 1) := by
      rw [List.drop_eq_getElem_cons hi']
      congr 1
      exact Option.some.inj ((List.getElem?_eq_getElem hi').symm.trans hd)
    rw [hdr] at k'
    unfold dcD at k'
    have hDn : H' Dl ≠ none := by rw [hD']; intro z; cases z
    cases hh : γ d ρ with
    | none =>
      simp only [hh] at k'
      exact k'.elim
    | some ρ1 =>
      simp only [hh] at k'
      have eW : Er C H0 (wipeM Γ vs) G2 H'' (L2.wipe σ vs) ρ := ((e.wipe vs).step si |>.step s').step s2
      refine hg H0 m' G2 H'' _ ρ x d ρ1 _ s2.w eW r2 hh fun σ1 t1 e1 => ⟨t1.wipe hv, ?_⟩
      refine hc H0 m' G2 H'' σ1 ρ1 _ s2.w e1 (Out.wp_mono (fun m3 t k3 G3 H3 s3 => ?_) (fun _ _ _ z => z) (Out.nox_wp (Out.wp_bind k')))
      have s03 := (s'.trans s2).trans s3
      have hD3 : H3 Dl = some (.dK us) := s3.k Dl _ nvD (s2.k Dl _ nvD hD')
      have gD3 : G3 Dl = none := s3.o Dl (s2.o Dl gD' hDn) (by rw [s2.k Dl _ nvD hD']; intro z; cases z)
      cases t with
      | false => exact ⟨m3, G3, acc, us, s03, gD3, hD3, e', r'.mono (s2.g.trans s3.g), by omega, k3⟩
      | true =>
        refine ha H0 m3 G3 H3 σ1 ρ1 _ s3.w (e1.step s3) (Out.wp_mono (fun m4 yd k4 yv G4 H4 s4 r4 => ?_) (fun _ _ _ z => z) (Out.nox_wp (Out.wp_bind k3)))
        refine hb H0 m4 G4 H4 σ1 ρ1 _ s4.w ((e1.step s3).step s4) (Out.wp_mono (fun m5 zd k5 zv G5 H5 s5 r5 => ?_) (fun _ _ _ z => z) (Out.nox_wp (Out.wp_bind k4)))
        have s45 := s4.trans s5
        have hD5 : H5 Dl = some (.dK us) := s45.k Dl _ nvD hD3
        have gD5 : G5 Dl = none := s45.o Dl gD3 (by rw [hD3]; intro z; cases z)
        have s05 := s03.trans s45
        have hus : us.length = acc.length := by simpa using congrArg List.length e'
        cases hk : keyOfD yd with
        | none => simp only [hk] at k5; exact k5.elim
        | some ky =>
          simp only [hk] at k5
          obtain ⟨c1, c2⟩ := rk_put (k := ky) r5 e' (r'.mono (s2.g.trans (s3.g.trans s45.g)))
          have hpl := putD_len acc ky zd
          exact ⟨us, ky, RepV.key (H := H4) (.inl r4) hk, hD5, Nat.lt_of_lt_of_le (show us.length < 100000 by omega) (by decide), m5, G5, _, _, s05.mut ⟨hD5, gD5, nvD, nD⟩ (by intro φ z; cases z), gD5, upd_same, c1, c2, by omega, k5⟩
  · rintro H' ⟨m', G', acc, us, s', gD', hD', e', r', la, k'⟩
    rw [List.drop_length] at k'
    exact k' Dl (.dK us) G' H' (si.trans s') (si.dm nD) gD' hD' ⟨by omega, e', r'⟩
end
end ND
/-! more rules -/
namespace ND
open PySem PySem.Spec PyProof.Rows L2
section
variable {X : Cx} (K : PySem.W.Frag) (hK : X.K = K)
include hK
theorem sl_tupFK : SlR X (rSlF K) := hK ▸ sl_tupF
theorem op_catFK : OpR X (binaryOp .Add) (rCatF K) := hK ▸ op_catF
theorem call_tupFK : CallR X (.type "tuple") (rTupOf K) := hK ▸ call_tupF
theorem cr_sortDK (hu : X.A.units + 80 < cLine) : CallR X (.builtin "sorted") (rSortD K) := hK ▸ cr_sortD hu
end
theorem u65 {k : Nat} {A : Around} (hr : Room k A) : A.units + 65 < cLine := by have := u80 hr; omega
section
variable {rm : RM} {K : PySem.W.Frag} {C : Cfg K} {E : XK} {Γ Γn Γb Γc : List Md} {n m : Nat} {G0 H0 G H G1 H1 : Hp} {v : V} {d : D} {σ : L2.St} {ρ : Rho} {Q : VK} {i j : Nat}
theorem sm_kt {a : Addr} {vs : List V} {ds : List D} (h : KTup K a vs) (hd : ∃ o, K.lookup a = some o ∧ o.dict = none) (r : ∀ G, RepL C G vs ds) (hl : ds.length ≤ 100000 := by decide) : SimE C E Γ (tC (.ref a)) (eC (.tup ds)) := fun H0 n G H σ ρ Q w e q => q _ G H (Ws.refl w) (.tup ⟨h G, hd.elim fun o z => ⟨o, z.2, .inr z.1⟩⟩ (r G) hl)
/-! ### a, b = e1, e2: new objects among them -/
def sPar2 (i j : Nat) (a b : Rho → Out D) : Rho → Out Res := fun ρ => (a ρ).bind fun x => (b ρ).bind fun y => .ok (.nx ((ρ.set i x).set j y))
theorem owns_ne {p : Addr} (e : Er C H0 Γ G H σ ρ) (np : H p = none) : ∀ j q, (Γ.getD j .un).isOw = true → σ[j]? = some (some (.ref q)) → q ≠ p := fun j q hj hq z => by
  subst z
  have hs := e.sl j
  cases hm : Γ.getD j .un with
  | un => rw [hm] at hj; cases hj
  | fr => rw [hm] at hj; cases hj
  | lk => rw [hm] at hj; cases hj
  | ow b =>
    rw [hm] at hs
    obtain ⟨p', o', a1, a2, _⟩ := hs
    rw [hq] at a1
    cases a1
    rw [a2.h] at np
    cases np
theorem ss_parEE {ta tb : TE} {a b : Rho → Out D} (ha : SimE C E Γ ta a) (hb : SimE C E Γ tb b) : SimS rm C E Γ (tPar i j (tCons ta (tCons tb tNil))) (sPar2 i j a b) ((Γ.set i .fr).set j .fr) Γb Γc := fun G0 H0 n G H σ ρ D s e q => by
  refine ha H0 n G H σ ρ _ s.w e (Out.wp_mono (fun m x k v G1 H1 s1 r1 => ?_) (fun _ _ _ z => PX.stm s z) (Out.wp_bind q))
  refine hb H0 m G1 H1 σ ρ _ s1.w (e.step s1) (Out.wp_mono (fun m2 y k2 u G2 H2 s2 r2 => ?_) (fun _ _ _ z => PX.stm (s.trans s1) z) (Out.wp_bind k))
  exact ⟨v, u, rfl, k2 _ G2 H2 ((s.trans s1).trans s2) (s1.g.trans s2.g) ((((e.step s1).step s2).set (r1.mono s2.g)).set r2)⟩
theorem ss_parEN {ta tb : TE} {a b : Rho → Out D} (ha : SimE C E Γ ta a) (hb : SimN C E Γ tb b) : SimS rm C E Γ (tPar i j (tCons ta (tCons tb tNil))) (sPar2 i j a b) ((Γ.set i .fr).set j (.ow none)) Γb Γc := fun G0 H0 n G H σ ρ D s e q => by
  refine ha H0 n G H σ ρ _ s.w e (Out.wp_mono (fun m x k v G1 H1 s1 r1 => ?_) (fun _ _ _ z => PX.stm s z) (Out.wp_bind q))
  refine hb H0 m G1 H1 σ ρ _ s1.w (e.step s1) (Out.wp_mono (fun m2 y k2 p o G2 H2 s2 np gp hp r2 => ?_) (fun _ _ _ z => PX.stm (s.trans s1) z) (Out.wp_bind k))
  have e2 := ((e.step s1).step s2).set (i := i) (r1.mono s2.g)
  refine ⟨v, _, rfl, k2 _ G2 H2 ((s.trans s1).trans s2) (s1.g.trans s2.g) (e2.setOw ⟨hp, gp, s1.w.nvol np, (s.trans s1).dm np⟩ r2 ?_)⟩
  intro j' q' h1 h2 z
  subst z
  rw [getD_set] at h1
  by_cases hz : i = j' ∧ i < Γ.length
  · rw [if_pos hz] at h1; cases h1
  · rw [if_neg hz] at h1
    have hne : i ≠ j' := fun z => by
      subst z
      rw [List.getD_eq_getElem?_getD, List.getElem?_eq_none (Nat.le_of_not_lt fun y => hz ⟨rfl, y⟩)] at h1
      cases h1
    rw [List.getElem?_set_ne hne] at h2
    exact owns_ne (e.step s1) np j' _ h1 h2 rfl
theorem ss_parNN {ta tb : TE} {a b : Rho → Out D} (ha : SimN C E Γ ta a) (hb : SimN C E Γ tb b) (hij : i ≠ j := by decide) : SimS rm C E Γ (tPar i j (tCons ta (tCons tb tNil))) (sPar2 i j a b) ((Γ.set i (.ow none)).set j (.ow none)) Γb Γc := fun G0 H0 n G H σ ρ D s e q => by
  refine ha H0 n G H σ ρ _ s.w e (Out.wp_mono (fun m x k v o1 G1 H1 s1 nv gv hv r1 => ?_) (fun _ _ _ z => PX.stm s z) (Out.wp_bind q))
  refine hb H0 m G1 H1 σ ρ _ s1.w (e.step s1) (Out.wp_mono (fun m2 y k2 p o G2 H2 s2 np gp hp r2 => ?_) (fun _ _ _ z => PX.stm (s.trans s1) z) (Out.wp_bind k))
  have ov : Own C H0 G1 H1 v o1 := ⟨hv, gv, s.w.nvol nv, s.dm nv⟩
  have e1 := ((e.step s1).setOw (i := i) ov r1 fun j' q' h1 h2 => owns_ne e nv j' q' h1 h2).step s2
  refine ⟨_, _, rfl, k2 _ G2 H2 ((s.trans s1).trans s2) (s1.g.trans s2.g) (e1.setOw ⟨hp, gp, s1.w.nvol np, (s.trans s1).dm np⟩ r2 ?_)⟩
  intro j' q' h1 h2 z
  subst z
  rw [getD_set] at h1
  by_cases hz : i = j'
  · subst hz
    by_cases hl : i < Γ.length
    · rw [List.getElem?_set_self (Nat.lt_of_lt_of_le hl e.lg)] at h2
      cases h2
      rw [hv] at np
      cases np
    · rw [if_neg (fun z => hl z.2), List.getD_eq_getElem?_getD, List.getElem?_eq_none (Nat.le_of_not_lt hl)] at h1
      cases h1
  · rw [if_neg (fun z => hz z.1)] at h1
    rw [List.getElem?_set_ne hz] at h2
    exact owns_ne (e.step s1) np j' _ h1 h2 rfl
theorem ss_parNE {ta tb : TE} {a b : Rho → Out D} (ha : SimN C E Γ ta a) (hb : SimE C E Γ tb b) : SimS rm C E Γ (tPar i j (tCons ta (tCons tb tNil))) (sPar2 i j a b) ((Γ.set i (.ow none)).set j .fr) Γb Γc := fun G0 H0 n G H σ ρ D s e q => by
  refine ha H0 n G H σ ρ _ s.w e (Out.wp_mono (fun m x k v o1 G1 H1 s1 nv gv hv r1 => ?_) (fun _ _ _ z => PX.stm s z) (Out.wp_bind q))
  refine hb H0 m G1 H1 σ ρ _ s1.w (e.step s1) (Out.wp_mono (fun m2 y k2 u G2 H2 s2 r2 => ?_) (fun _ _ _ z => PX.stm (s.trans s1) z) (Out.wp_bind k))
  have ov : Own C H0 G1 H1 v o1 := ⟨hv, gv, s.w.nvol nv, s.dm nv⟩
  have e1 := ((e.step s1).setOw (i := i) ov r1 fun j' q' h1 h2 => owns_ne e nv j' q' h1 h2).step s2
  exact ⟨_, _, rfl, k2 _ G2 H2 ((s.trans s1).trans s2) (s1.g.trans s2.g) (e1.set r2)⟩
/-! ### x += e -/
def sAug (i : Nat) (f : D → D → Out D) (a : Rho → Out D) : Rho → Out Res := fun ρ => (a ρ).bind fun y => (f (ρ.getD i .non) y).bind fun z => .ok (.nx (ρ.set i z))
theorem ss_augI {te : TE} {a : Rho → Out D} {g : Int → Int → Int} (hi : Γ[i]? = some .fr) (ha : SimV C E Γ te a) : SimS rm C E Γ (tAug i te (ipI g)) (sAug i (d2I fun x y => .int (g x y)) a) (Γ.set i .fr) Γb Γc := fun G0 H0 n G H σ ρ D s e q => by
  obtain ⟨v, h1, h2⟩ := e.fr hi
  refine ⟨v, h1, ?_⟩
  refine ha H0 n G H σ ρ _ s.w e (Out.wp_mono (fun m y k u G1 H1 s1 r1 => ?_) (fun _ _ _ z => PX.stm s z) (Out.wp_bind q))
  replace k := Out.wp_bind k
  unfold d2I at k
  cases hx : ρ.getD i .non <;> simp only [hx] at k <;> first | exact k.elim | skip
  cases y <;> first | exact k.elim | skip
  rw [hx] at h2
  rw [RepV.int (H := H) (.inl h2), r1.int]
  exact ⟨_, _, rfl, rfl, k _ G1 H1 (s.trans s1) s1.g ((e.step s1).set (.int _))⟩
/-! ### starred items -/
def aStar (a : Rho → Out D) (r : Rho → Out (List D)) : Rho → Out (List D) := fun ρ => (a ρ).bind fun x => (r ρ).bind fun xs => match seqD x with
  | some ys => .ok (ys ++ xs)
  | none => .stuck
end
end ND
/-! more rules: walks of lists or tuples, texts in order, stars, errors' fields -/
namespace ND
open PySem PySem.Spec PyProof.Rows L2
/-! ### the walk of a list or a tuple -/
def iSq (K : PySem.W.Frag) (tl : TE) : TI := fun σ H R => tl σ H fun x H1 => ∃ a, x = .ref a ∧ (((∃ xs, SqL K H1 a xs) ∧ R (Itl K a) H1) ∨ ((∃ xs, SqT K H1 a xs) ∧ R (Itt K a) H1))
theorem pi_sq {X : Cx} {tg l : Expr} {tl : TE} (hl : PE X l tl) : PI X tg l (iSq X.K tl) := by
  refine ⟨fun pins s σ H R I h => ?_⟩
  refine thn (hl.run pins s σ H _ I h) fun v s1 ⟨x, H1, I1, r1, q1⟩ => ?_
  obtain ⟨a, e, q⟩ := q1
  subst e
  cases r1
  rcases q with ⟨⟨xs, hq⟩, q⟩ | ⟨⟨xs, hq⟩, q⟩
  · obtain ⟨its, rv, p, hz⟩ := I1.list hq
    refine wpAny_pyIter_list p.isList ?_
    refine ⟨s1.heap.objs.size, [s1.heap.objs.size], _, _, H1, rfl, I1.kept (t' := s1.toks) fun b o e => Heap.get?_push_of_some _ e, turn_list a _, ⟨_, Heap.get?_push_size _ rfl, rfl, rfl⟩, fun b hb => ?_, q⟩
    have e : b = s1.heap.objs.size := by simpa using hb
    subst e
    exact I1.fpOk (Nat.le_refl _) (I1.hok.fresh (Nat.le_refl _))
  · obtain ⟨its, rv, p, hz⟩ := I1.tuple hq
    refine wpAny_pyIter_tuple (show s1.heap.IsTuple a its.toArray from p) ?_
    refine ⟨s1.heap.objs.size, [s1.heap.objs.size], _, _, H1, rfl, I1.kept (t' := s1.toks) fun b o e => Heap.get?_push_of_some _ e, turn_tuple a _, ⟨_, Heap.get?_push_size _ rfl, rfl, rfl⟩, fun b hb => ?_, q⟩
    have e : b = s1.heap.objs.size := by simpa using hb
    subst e
    exact I1.fpOk (Nat.le_refl _) (I1.hok.fresh (Nat.le_refl _))
theorem pi_sqK {X : Cx} (K : PySem.W.Frag) (hK : X.K = K) {tg l : Expr} {tl : TE} (hl : PE X l tl) : PI X tg l (iSq K tl) := hK ▸ pi_sq hl
section
variable {rm : RM} {K : PySem.W.Frag} {C : Cfg K} {E : XK} {Γ Γn Γb Γc : List Md} {n m : Nat} {G0 H0 G H G1 H1 : Hp} {v : V} {d : D} {σ : L2.St} {ρ : Rho} {Q : VK} {i j : Nat}
theorem si_sq {t : TE} {a : Rho → Out D} (ha : SimE C E Γ t a) : SimI false C E Γ (iSq K t) (iOf itemsQ a) := fun H0 n G H σ ρ R w e q => by
  refine ha H0 n G H σ ρ _ w e (Out.wp_mono (fun m d k v G1 H1 s1 r1 => ?_) (fun _ _ _ z => z) (Out.wp_bind q))
  cases r1 <;> first | exact k.elim | skip
  · rename_i h t l
    exact ⟨_, rfl, .inl ⟨⟨_, .inl (rd_mono s1.w.sub h)⟩, k _ G1 H1 s1 (walkD_list (.inl h) t l)⟩⟩
  · rename_i h t l
    exact ⟨_, rfl, .inr ⟨⟨_, Evl.ex_t s1.w.sub h.1⟩, k _ G1 H1 s1 (walkD_tup h.1 t l)⟩⟩
theorem ss_nev : SimS rm C E Γ tNever sNever Γ Γ Γ := fun G0 H0 n G H σ ρ D s e q => q
def cYes : Rho → Out Bool := fun _ => .ok true
theorem st_yes : SimT C E Γ tYes cYes := fun H0 n G H σ ρ Q w e q => q G H (Ws.refl w)
def dNeg (x : D) : Out D := match x with
  | .int i => .ok (.int (-i))
  | _ => .stuck
theorem su_neg : SU C E (rU fun i => .int (-i)) dNeg := fun n G H x dx Q w r q => by
  cases dx <;> first | exact q.elim | skip
  rw [r.int]
  exact ⟨_, rfl, q _ G H (Ws.refl w) (.int _)⟩
def ltS (a b : Str) : Bool := decide (a.cps.toList < b.cps.toList)
def dLtS (x y : D) : Out D := match x, y with
  | .str a, .str b => .ok (.bl (ltS a b))
  | _, _ => .stuck
theorem sr_ltS : SR C E (fun x y H Q => ∃ i j, x = .str i ∧ y = .str j ∧ Q (.bl (decide (i.cps.toList < j.cps.toList))) H) dLtS := fun n G H x y dx dy Q w rx ry q => by
  cases dx <;> first | exact q.elim | skip
  cases dy <;> first | exact q.elim | skip
  exact ⟨_, _, rx.str.1, ry.str.1, q _ G H (Ws.refl w) (.bl _)⟩
/-! ### an error's field -/
def dXf (f : Str) (x : D) : Out D := match x with
  | .exc _ fs => optD (fs.lookup f)
  | _ => .stuck
def NoX (K : PySem.W.Frag) (f : Str) : Prop := ∀ c ∈ ownX K, PySem.W.findIn K (.ref (He.ga K c)) f = some none
theorem sm_xf {f : Str} {ta : TE} {a : Rho → Out D} (hn : NoX K f) (ha : SimV C E Γ ta a) : SimE C E Γ (tXk K f ta) (eUn (dXf f) a) := fun H0 n G H σ ρ Q w e q => by
  refine ha H0 n G H σ ρ _ w e (Out.wp_mono (fun m d k v G1 H1 s1 r1 => ?_) (fun _ _ _ z => z) (Out.wp_bind q))
  unfold dXf at k
  cases d <;> first | exact k.elim | skip
  rename_i c xs
  rcases r1 with r1 | ⟨p, o, rfl, hp, nv, r⟩
  · cases r1 with
    | @exc b _ fs _ hc hx e1 t =>
      obtain ⟨d, h1, h2⟩ := hx
      cases d with
      | none =>
        have hz : fs = [] := h2
        subst hz
        have : xs = [] := by simpa using e1.symm
        subst this
        exact k.elim
      | some dd =>
        cases hl : xs.lookup f with
        | none => simp only [hl] at k; exact k.elim
        | some y =>
          simp only [hl] at k
          obtain ⟨v, g1, g2⟩ := rf_get e1 t hl
          exact ⟨b, _, dd, fs, v, rfl, s1.w.sub _ _ h1, s1.w.sub _ _ h2, C.ct.xk c hc, hn c hc, g1, k v G1 H1 s1 g2⟩
  · cases o <;> exact r.elim
end
end ND
/-! the draw, errors that are caught -/
namespace ND
open PySem PySem.Spec PyProof.Rows L2 LamX
/-! ### caught -/
def Out.caught : Out D → Out D
  | .ok _ => .ok .non
  | .exc c fs => .ok (.exc c fs)
  | .stuck => .stuck
  | .any c P k => .any c P fun d => (k d).caught
@[simp] theorem Out.caught_ok (a : D) : (Out.ok a).caught = .ok .non := rfl
@[simp] theorem Out.caught_exc (c : Str) (fs : List (Str × D)) : (Out.exc c fs : Out D).caught = .ok (.exc c fs) := rfl
def eCaught (φ : Rho → Out D) : Rho → Out D := fun ρ => (φ ρ).caught
section
variable {K : PySem.W.Frag} {C : Cfg K} {E : XK} {Γ : List Md} {n m : Nat} {G0 H0 G H G1 H1 : Hp} {Q : VK} {p : Addr × Str}
theorem Wl.lam (w : Wl C n G H) (hp : p ∈ tbsOf K) (x : ExtP p.1 H H1) (t : Tabs (tbsOf K) H1) : Ws C G H n G H1 := by
  have nP : ∀ a o, G a = some o → a ≠ p.1 := fun a o e z => by
    rw [z, w.nv _ (C.tbv p hp)] at e
    cases e
  refine ⟨⟨fun a o e => x.1 a o (nP a o e) (w.sub a o e), w.nv, w.fx, w.nf, C.tbx n H H1 p hp w.iv x t⟩, Same.refl _, fun a o v e => x.1 a o (fun z => v (z ▸ C.tbv p hp)) e, fun _ h _ => h⟩
theorem caught_wp {s : Ws C G H n G1 H1} : ∀ {o : Out D} {m : Nat}, o.caught.wp m (PQ C G H Q) (PX C G H E) →
    o.wp m (PV_ C G1 H1 fun _ H' => ∃ v : V, (some (some V.non) : Option (Option V)) = some (some v) ∧ Q v H') (PX C G1 H1 fun cls d H' => ∃ b, PySem.W.exmOne K cls (.ref (He.ga K "PackError")) = some b ∧ (b = true → ∃ C, cls = .ref C ∧ ∀ a, H' a = none → Q (.ref a) (upd H' a (XO a C d))) ∧ (b = false → False))
  | .ok d, m, h => fun v G' H' s' r => ⟨.non, rfl, h .non G' H' (s.trans s') .non⟩
  | .exc c fs, m, h => fun a us G' H' hc s' hx hm hr => ⟨true, C.ct.xm c hc, fun _ => ⟨_, rfl, fun q nq => by
      have g := s'.w.gn nq
      refine h (.ref q) (upd G' q (XO q (He.ga K c) a)) _ ((s.trans s').new nq) ?_
      exact .exc hc ⟨a, upd_same, hx.mono (same_add g)⟩ hm (hr.mono (same_add g))⟩, fun z => nomatch z⟩
  | .stuck, _, h => h.elim
  | .any c P k, _, h => by
    obtain ⟨m', e, h⟩ := h
    exact ⟨m', e, fun d hd => caught_wp (s := s) (h d hd)⟩
theorem sm_caught {t : XK → TE} {φ : Rho → Out D} (hp : p ∈ tbsOf K) (h : ∀ E, SimV C E Γ (t E) φ) : SimE C E Γ (tLamP (tbsOf K) p.1 (TKeep K (He.ga K "PackError")) t) (eCaught φ) := fun H0 n G H σ ρ Q w e q => by
  refine ⟨C.tbo n H w.iv, fun H1 x t1 => ?_⟩
  have s := w.lam hp x t1
  exact h _ H0 n G H1 σ ρ _ s.w (e.step s) (caught_wp (s := s) q)
/-! ### the draw -/
theorem Wl.draw {aw ac : Addr} {T : Nat} {H' : Hp} (w : Wl C m G H) (v1 : C.vol C.d) (v2 : C.vol aw) (k : Keep C.d aw H H') (i : C.inv n H') : Ws C G H n G H' := by
  have ne : ∀ a o, ¬ C.vol a → H a = some o → H' a = some o := fun a o v e => k a o (fun z => v (z ▸ v1)) (fun z => v (z ▸ v2)) e
  have nv : ∀ a o, G a = some o → ¬ C.vol a := fun a o e z => by
    rw [w.nv a z] at e
    cases e
  exact ⟨⟨fun a o e => ne a o (nv a o e) (w.sub a o e), w.nv, w.fx, w.nf, i⟩, Same.refl _, ne, fun _ h _ => h⟩
def inR (n : Int) (d : D) : Prop := ∃ i, 0 ≤ i ∧ i < n ∧ d = .int i
def takeD (ds : List D) : Out D := match ds with
  | [.drw, .int n] => if 0 < n ∧ n < 1000000 then .any 1 (inR n) .ok else .stuck
  | _ => .stuck
def spTk (K : PySem.W.Frag) : Sp := fun vs H Q _ => ∃ (d aw ac : Addr) (T : Nat) (n : Int), vs = [.ref d, .int n] ∧ Draw K d aw ac T H ∧ T ≤ 2 ^ 40 ∧ 0 < n ∧ n < 1000000 ∧ ∀ (k : Int) (H' : Hp), 0 ≤ k → k < n → Draw K d aw ac (T + 1) H' → Keep d aw H H' → Q (.int k) H'
theorem take_sp {vs : List V} {E : XK} (h : spF K false 2 takeD vs H Q E) : spTk K vs H Q E := by
  obtain ⟨C, n, G, ds, _, w, r, hl, q⟩ := h
  match ds, hl, vs, r with
  | [x, y], _, [v, u], .cons h1 (.cons h2 .nil) =>
    cases h1 <;> first | exact q.elim | skip
    cases h2 <;> first | exact q.elim | skip
    rename_i k _
    unfold takeD at q
    by_cases hk : 0 < k ∧ k < 1000000
    · simp only [hk, and_self, if_true] at q
      obtain ⟨m, rfl, q⟩ := q
      obtain ⟨aw, ac, T, hD, hT, v1, v2, _, hi⟩ := C.go m 1 H w.iv
      exact ⟨C.d, aw, ac, T, k, rfl, hD, by omega, hk.1, hk.2, fun i H' i0 i1 hD' hK => q (.int i) ⟨i, i0, i1, rfl⟩ (.int i) G H' (w.draw (ac := ac) (T := T) v1 v2 hK (hi H' hD' hK)) (.int i)⟩
    · simp only [hk, if_false] at q
      exact q.elim
/-! ### sheets -/
def encSpot (s : Spot) : D := .tup [.str s.1, .int s.2]
def encOI : Option Int → D
  | none => .non
  | some n => .int n
def encOS : Option Spot → D
  | none => .non
  | some s => encSpot s
def encWare (w : Ware) : D := .dct [(kS "slots", .lst (w.slots.map encSpot)), (kS "amount", .int w.amount), (kS "cost", encOI w.cost), (kS "roll", encOS w.roll)]
def encSheet (s : Sheet) : D := .dct [(kS "prices", .dct (s.rates.map fun r => (kS r.1, .int r.2))), (kS "days", .int s.span), (kS "packs", .dct (s.wares.map fun w => (kS w.1, encWare w.2)))]
theorem rep_all {α : Type} {R : V → α → Prop} {f : α → D} {vs : List V} {ss : List α} (h : All2 R vs ss) (hs : ∀ v s, s ∈ ss → R v s → Rep C G v (f s)) : RepL C G vs (ss.map f) := by
  obtain ⟨bs, rfl, rfl, hb⟩ := h
  induction bs with
  | nil => exact .nil
  | cons b bs ih => exact .cons (hs _ _ List.mem_cons_self (hb b List.mem_cons_self)) (ih (fun x hx => hb x (List.mem_cons_of_mem _ hx)) fun v s m r => hs v s (List.mem_cons_of_mem _ m) r)
theorem rep_spot {v : V} {s : Spot} (h : SpV K G v s) (hs : SOk s.1) : Rep C G v (encSpot s) := by
  obtain ⟨r, rfl, t⟩ := h
  exact .tup t (.cons (.str _ hs) (.cons (.int _) .nil)) (by show 2 ≤ 100000; decide)
theorem rep_spots {a : Addr} {ss : List Spot} (h : SpotsAt K G a ss) (hs : ∀ s ∈ ss, SOk s.1) (hl : ss.length ≤ 100000) : Rep C G (.ref a) (.lst (ss.map encSpot)) := by
  obtain ⟨vs, t, l⟩ := h
  exact .lst t (rep_all l fun v s m r => rep_spot r (hs s m)) (by rw [List.length_map]; exact hl)
theorem rep_oi {o : Option Int} : Rep C G (optI o) (encOI o) := by
  cases o with
  | none => exact .non
  | some n => exact .int n
theorem rep_roll {v : V} {o : Option Spot} (h : RollAt K G v o) (hs : ∀ s, o = some s → SOk s.1) : Rep C G v (encOS o) := by
  cases o with
  | none =>
    have : v = .non := h
    subst this
    exact .non
  | some s => exact rep_spot h (hs s rfl)
/-- a ware whose texts are plain -/
structure WPl (w : Ware) : Prop where
  s : ∀ s ∈ w.slots, SOk s.1
  l : w.slots.length ≤ 100000
  r : ∀ s, w.roll = some s → SOk s.1
theorem rep_ware {e : WH} (ha : G e.a = some (.dK (wareD e))) (h : WOk K G e) (p : WPl e.w) : Rep C G (.ref e.a) (encWare e.w) := by
  refine .dct (.inl ha) rfl ?_ (by show 4 ≤ 100000; decide)
  exact .cons (rep_spots h.sl p.s p.l) (.cons (.int _) (.cons rep_oi (.cons (rep_roll h.rv p.r) .nil)))
theorem rep_rates : ∀ {rs : List (Str × Int)}, RepL C G ((rateD rs).map (·.2)) ((rs.map fun r => ((kS r.1 : Key), D.int r.2)).map (·.2))
  | [] => .nil
  | r :: rs => .cons (.int _) (rep_rates (rs := rs))
theorem rep_wares : ∀ {ws : List WH}, (∀ e ∈ ws, G e.a = some (.dK (wareD e)) ∧ WOk K G e ∧ WPl e.w) → RepL C G ((labD ws).map (·.2)) (((warOf ws).map fun w => ((kS w.1 : Key), encWare w.2)).map (·.2))
  | [], _ => .nil
  | e :: ws, h => .cons (rep_ware (h e List.mem_cons_self).1 (h e List.mem_cons_self).2.1 (h e List.mem_cons_self).2.2) (rep_wares (ws := ws) fun x hx => h x (List.mem_cons_of_mem _ hx))
theorem keys_rates (rs : List (Str × Int)) : (rateD rs).map (·.1) = (rs.map fun r => ((kS r.1 : Key), D.int r.2)).map (·.1) := by
  unfold rateD
  rw [List.map_map, List.map_map]
  rfl
theorem keys_wares (ws : List WH) : (labD ws).map (·.1) = ((warOf ws).map fun w => ((kS w.1 : Key), encWare w.2)).map (·.1) := by
  unfold labD warOf
  rw [List.map_map, List.map_map, List.map_map]
  rfl
theorem rep_sheet {a ap apk : Addr} {ws : List WH} {s : Sheet} (h : SheetIs K G a ap apk ws s) (hw : ∀ w ∈ s.wares, WPl w.2) (l1 : s.rates.length ≤ 100000) (l2 : s.wares.length ≤ 100000) : Rep C G (.ref a) (encSheet s) := by
  refine .dct (.inl h.ha) rfl ?_ (by show 3 ≤ 100000; decide)
  refine .cons (.dct (.inl h.hp) (keys_rates _) rep_rates (by rw [List.length_map]; exact l1)) (.cons (.int _) (.cons ?_ .nil))
  rw [h.he] at hw l2 ⊢
  refine .dct (.inl h.hk) (keys_wares ws) (rep_wares fun e he => ⟨(h.hw e he).1, (h.hw e he).2, ?_⟩) (by rw [List.length_map]; exact l2)
  exact hw (e.lab, e.w) (List.mem_map.mpr ⟨e, he, rfl⟩)
theorem nameOk_sok {z : Str} (h : NameOk z) : SOk z := by
  refine ⟨by have := h.2.1; omega, ?_⟩
  unfold PyData.strOk
  rw [Array.all_eq_true]
  intro i hi
  have hc := h.2.2 z.cps[i] (by rw [← Array.getElem_toList]; exact List.getElem_mem _)
  have key : ∀ c ∈ letters.cps.toList, (decide (c < 0x110000) && !(decide (0xD800 ≤ c) && decide (c < 0xE000))) = true := by decide +kernel
  first
    | exact key _ hc
    | (have k := key _ hc; simp at k ⊢; omega)
theorem sp0_len (kinds : List Str) : ∀ n : Nat, (spots0 kinds n).length = n * kinds.length := by
  intro n
  unfold spots0
  rw [List.length_flatMap]
  simp only [List.length_map]
  rw [List.map_const', List.sum_replicate_nat, List.length_range]
theorem sp_mem {kinds : List Str} {n : Nat} {s : Spot} (h : s ∈ allSpots kinds n) : s.1 ∈ kinds ∧ 0 ≤ s.2 ∧ s.2 < n := by
  unfold allSpots spSort at h
  have h := List.mem_mergeSort.mp h
  unfold spots0 at h
  obtain ⟨t, ht, h⟩ := List.mem_flatMap.mp h
  obtain ⟨k, hk, rfl⟩ := List.mem_map.mp h
  have := List.mem_range.mp ht
  exact ⟨hk, Int.natCast_nonneg _, by show (t : Int) < n; omega⟩
theorem SheetOk.pl {most : Nat} {units : Int} {s : Sheet} (h : SheetOk most units s) : ∀ w ∈ s.wares, WPl w.2 := fun w hw => by
  have o := h.wo w hw
  have key : ∀ k ∈ s.rates.map (·.1), SOk k := fun k hk => by
    obtain ⟨r, hr, rfl⟩ := List.mem_map.mp hk
    exact nameOk_sok (h.rn r hr).1
  refine ⟨fun x hx => key _ (sp_mem (o.sub.subset hx)).1, ?_, fun r hr => ?_⟩
  · have l := o.sub.length_le
    unfold allSpots spSort at l
    rw [List.length_mergeSort, sp0_len, List.length_map] at l
    have h1 := h.d1
    have h2 := h.r1
    have : s.span * s.rates.length ≤ 4 * 3 := Nat.mul_le_mul h1 h2
    omega
  · obtain ⟨_, _, x, hx, e, _⟩ := h.roll w hw r hr
    rw [← e]
    exact nameOk_sok (h.wn x hx)
def isSheet (most : Nat) (units : Int) (d : D) : Prop := ∃ s, SheetOk most units s ∧ d = encSheet s
def sheetF (ds : List D) : Out D := match ds with
  | [.drw, .int most, .int units, .int fees, .int fl] => if 0 ≤ most ∧ most ≤ 10 ∧ 0 ≤ units ∧ 0 < fees ∧ fees < 1000000 ∧ 0 < fl ∧ fl < 1000000 then .any 2000 (isSheet most.toNat units) .ok else .stuck
  | _ => .stuck
def spSh (K : PySem.W.Frag) : Sp := fun vs H Q _ => ∃ (d aw ac : Addr) (T : Nat) (G : Hp) (most : Nat) (units fees fl : Int), vs = [.ref d, .int most, .int units, .int fees, .int fl] ∧ Wd K d aw ac T G H ∧ T + 20000 ≤ 2 ^ 40 ∧ most ≤ 10 ∧ 0 ≤ units ∧ 0 < fees ∧ fees < 1000000 ∧ 0 < fl ∧ fl < 1000000 ∧
  ∀ (a ap apk : Addr) (ws : List WH) (s : Sheet) (G' H' : Hp), Wk K d aw ac (T + 2000) G H G' H' → SheetLo K d aw H G' H' a ap apk ws s → SheetOk most units s → Q (.ref a) H'
theorem Wl.wk {aw ac : Addr} {T : Nat} {G' H' : Hp} (w : Wl C m G H) (v1 : C.vol C.d) (v2 : C.vol aw) (W : Wk K C.d aw ac T G H G' H') (i : C.inv n H') : Ws C G H n G' H' := by
  refine ⟨⟨W.w.sub, fun a v => W.s.o a (w.nv a v) (C.trk m H a w.iv v), w.fx.trans W.s.g, fun a o k h => w.nf a o k (W.s.nf a o k h), i⟩, W.s.g, fun a o v e => W.s.k a o (fun z => v (z ▸ v1)) (fun z => v (z ▸ v2)) e, W.s.o⟩
theorem Wl.wd {aw ac : Addr} {T : Nat} (w : Wl C m G H) (v1 : C.vol C.d) (v2 : C.vol aw) (hc : C.fix ac ≠ none) (hD : Draw K C.d aw ac T H) : Wd K C.d aw ac T G H := by
  refine ⟨hD, w.sub, w.nv _ v1, w.nv _ v2, fun z => ?_⟩
  cases e : C.fix ac with
  | none => exact hc e
  | some o =>
    have := w.fx ac o e
    rw [z] at this
    cases this
theorem sheet_sp {vs : List V} {E : XK} (h : spF K false 5 sheetF vs H Q E) : spSh K vs H Q E := by
  obtain ⟨C, n, G, ds, _, w, r, hl, q⟩ := h
  match ds, hl, vs, r with
  | [x1, x2, x3, x4, x5], _, [v1, v2, v3, v4, v5], .cons h1 (.cons h2 (.cons h3 (.cons h4 (.cons h5 .nil)))) =>
    cases h1 <;> first | exact q.elim | skip
    cases h2 <;> first | exact q.elim | skip
    cases h3 <;> first | exact q.elim | skip
    cases h4 <;> first | exact q.elim | skip
    cases h5 <;> first | exact q.elim | skip
    rename_i most units fees fl _
    unfold sheetF at q
    by_cases hk : 0 ≤ most ∧ most ≤ 10 ∧ 0 ≤ units ∧ 0 < fees ∧ fees < 1000000 ∧ 0 < fl ∧ fl < 1000000
    · simp only [hk, and_self, if_true] at q
      obtain ⟨m, rfl, q⟩ := q
      obtain ⟨aw, ac, T, hD, hT, vd, va, hc, hi⟩ := C.go m 2000 H w.iv
      obtain ⟨k0, k1, k2, k3, k4, k5, k6⟩ := hk
      obtain ⟨mn, rfl⟩ : ∃ mn : Nat, most = mn := ⟨most.toNat, by omega⟩
      refine ⟨C.d, aw, ac, T, G, mn, units, fees, fl, rfl, w.wd vd va hc hD, by omega, by omega, k2, k3, k4, k5, k6, fun a ap apk ws s G' H' W L ok => ?_⟩
      obtain ⟨G2, W2, _, S⟩ := L.seal W
      have okl : s.wares.length ≤ 100000 := by have := ok.wl; omega
      have okr : s.rates.length ≤ 100000 := by have := ok.r1; omega
      exact q (encSheet s) ⟨s, ok, rfl⟩ (.ref a) G2 H' (w.wk vd va W2 (hi H' W2.w.dr W2.s.k)) (rep_sheet S ok.pl okr okl)
    · simp only [hk, if_false] at q
      exact q.elim
end
section
variable {P : Program} {w : World} {K : PySem.W.Frag} {mg : Str → Option Value} {base : Heap}
theorem GOk.imp {k : Nat} {x : Str} {ps : List Str} {sp sp' : Sp} (g : GOk P w K mg base k x ps sp) (h : ∀ vs H Q E, sp' vs H Q E → sp vs H Q E) : GOk P w K mg base k x ps sp' := by
  obtain ⟨f, fd, a, b, c, d⟩ := g.ex
  exact ⟨f, fd, a, b, c, d.imp h⟩
end
end ND
/-! while; append of a pop; len(set(..)) -/
namespace ND
open PySem PySem.Spec PyProof.Rows L2
section
variable {rm : RM} {K : PySem.W.Frag} {C : Cfg K} {E : XK} {Γ Γ1 Γb Γc : List Md} {n m : Nat} {G0 H0 G H G1 H1 : Hp} {Q : VK} {i j : Nat}
/-! ### while -/
def whD (c : Rho → Out Bool) (b : Rho → Out Res) : Nat → Rho → Out Res
  | 0, _ => .stuck
  | k + 1, ρ => (c ρ).bind fun x => bif x then (b ρ).bind fun r => (match r with
    | .nx ρ2 => whD c b k ρ2
    | .ct ρ2 => whD c b k ρ2
    | .bk ρ2 => .ok (.nx ρ2)
    | .rt d => .ok (.rt d)) else .ok (.nx ρ)
def sWhile (c : Rho → Out Bool) (b : Rho → Out Res) : Rho → Out Res := fun ρ => whD c b 100001 ρ
theorem ss_while {tc : TT} {tb : TS} {c : Rho → Out Bool} {b : Rho → Out Res} (hc : SimT C E Γ tc c) (hb : SimS rm C E Γ tb b Γ Γ Γ) : SimS rm C E Γ (tWhile tc tb) (sWhile c b) Γ Γb Γc := fun G0 H0 n G H σ ρ D s e q => by
  refine ⟨fun k σ' H' => ∃ m' G' ρ', Ws C G0 H0 m' G' H' ∧ Same G G' ∧ Er C H0 Γ G' H' σ' ρ' ∧ (whD c b k ρ').wp m' (SQ rm C G0 H0 G D Γ Γb Γc) (PX C G0 H0 E), ⟨100001, n, G, ρ, s, Same.refl _, e, q⟩, ?_⟩
  rintro k σ' H' ⟨m', G', ρ', s', a', e', q'⟩
  cases k with
  | zero => exact q'.elim
  | succ k =>
    refine hc H0 m' G' H' σ' ρ' _ s'.w e' (Out.wp_mono (fun m2 x k2 G2 H2 s2 => ?_) (fun _ _ _ z => PX.stm s' z) (Out.wp_bind q'))
    cases x with
    | false =>
      rw [if_neg (by decide)]
      exact k2 σ' G2 H2 (s'.trans s2) (a'.trans s2.g) (e'.step s2)
    | true =>
      rw [if_pos rfl]
      refine ⟨fun σ3 H3 => ∃ m3 G3 ρ3, Ws C G0 H0 m3 G3 H3 ∧ Same G G3 ∧ Er C H0 Γ G3 H3 σ3 ρ3 ∧ (whD c b k ρ3).wp m3 (SQ rm C G0 H0 G D Γ Γb Γc) (PX C G0 H0 E), fun σ3 H3 h => ⟨k, Nat.lt_succ_self k, h⟩, ?_⟩
      refine hb G0 H0 m2 G2 H2 σ' ρ' _ (s'.trans s2) (e'.step s2) (Out.wp_mono (fun m3 r k3 => ?_) (fun _ _ _ z => z) (Out.wp_bind k2))
      have a2 := a'.trans s2.g
      cases r with
      | nx ρ3 => exact fun σ3 G3 H3 s3 a3 e3 => ⟨m3, G3, ρ3, s3, a2.trans a3, e3, k3⟩
      | ct ρ3 => exact fun σ3 G3 H3 s3 a3 e3 => ⟨m3, G3, ρ3, s3, a2.trans a3, e3, k3⟩
      | bk ρ3 => exact fun σ3 G3 H3 s3 a3 e3 => k3 σ3 G3 H3 s3 (a2.trans a3) e3
      | rt d => exact fun v G3 H3 s3 a3 r3 => k3 v G3 H3 s3 (a2.trans a3) r3
/-! ### xs.append(ys.pop(k)) -/
def sAppPop (i j : Nat) (a : Rho → Out D) : Rho → Out Res := fun ρ => match ρ.getD i .non, ρ.getD j .non with
  | .lst xs, .lst ys => (a ρ).bind fun d => match d with
    | .int k => if 0 ≤ k ∧ xs.length < 100000 then (match ys[k.toNat]? with
      | some y => .ok (.nx ((ρ.set j (.lst (ys.eraseIdx k.toNat))).set i (.lst (xs ++ [y]))))
      | none => .stuck) else .stuck
    | _ => .stuck
  | _, _ => .stuck
theorem sixN {k : Int} {l : Nat} (h : 0 ≤ k) (h2 : k.toNat < l) : seqIndex? k l = some k.toNat := by
  unfold seqIndex?
  have h3 : k < l := by omega
  simp [show ¬ k < 0 by omega, h, h3]
theorem ss_appPop {te : TE} {a : Rho → Out D} {b c : Option Addr} (hi : Γ[i]? = some (.ow b)) (hj : Γ[j]? = some (.ow c)) (ha : SimE C E Γ te a) (hij : i ≠ j := by decide) :
    SimS rm C E Γ (tDrop (tBM K "list" rAppend (tVar i) (tCons (tBM K "list" rPopAt (tVar j) (tCons te tNil)) tNil))) (sAppPop i j a) Γ Γb Γc := fun G0 H0 n G H σ ρ D s e q => by
  obtain ⟨p, o, h1, h2, h3, h4⟩ := e.ow hi
  obtain ⟨p', o', g1, g2, g3, g4⟩ := e.ow hj
  unfold sAppPop at q
  cases hd1 : ρ.getD i .non <;> rw [hd1] at q h3 <;> first | exact q.elim | skip
  rename_i xs
  cases hd2 : ρ.getD j .non <;> rw [hd2] at q g3 <;> first | exact q.elim | skip
  rename_i ys
  cases o <;> first | exact h3.elim | skip
  cases o' <;> first | exact g3.elim | skip
  rename_i vs us
  refine ⟨_, h1, .inl ⟨rfl, vs, SqL.of h2.h⟩, _, g1, .inl ⟨rfl, us, SqL.of g2.h⟩, ?_⟩
  refine ha H0 n G H σ ρ _ s.w e (Out.wp_mono (fun m d k v G1 H1 s1 r1 => ?_) (fun _ _ _ z => PX.stm s z) (Out.wp_bind q))
  cases r1 <;> first | exact k.elim | skip
  rename_i t
  by_cases ht : 0 ≤ t ∧ xs.length < 100000
  · simp only [ht, and_self, if_true] at k
    cases hy : ys[t.toNat]? with
    | none => simp only [hy] at k; exact k.elim
    | some y =>
      simp only [hy] at k
      obtain ⟨u, hu, ru⟩ := g3.2.at' hy
      have h2' := h2.step s1
      have g2' := g2.step s1
      have hlu := g3.2.len
      have hty : t.toNat < ys.length := (List.getElem?_eq_some_iff.mp hy).1
      have e1 := e.step s1
      have pne : p ≠ p' := fun z => e.dj i j p hij (by rw [List.getD_eq_getElem?_getD, hi]; rfl) (by rw [List.getD_eq_getElem?_getD, hj]; rfl) h1 (by rw [g1, z])
      have big : ys.length ≤ 100000 := g3.1
      refine ⟨p', us, t, t.toNat, u, rfl, rfl, g2'.h, by omega, by omega, sixN ht.1 (by omega), hu, ?_⟩
      have sa := s.trans s1
      have sb := sa.mut (o' := .lst (us.eraseIdx t.toNat)) g2' (by intro φ z; cases z)
      have eb := e1.mut (d' := .lst (ys.eraseIdx t.toNat)) (o' := .lst (us.eraseIdx t.toNat)) hj g1 g2' ⟨by rw [List.length_eraseIdx]; split <;> omega, (g3.2.mono s1.g).erase _⟩ g4
      have hb2 : Own C H0 G1 (upd H1 p' (.lst (us.eraseIdx t.toNat))) p (.lst vs) := h2'.oth pne
      have hvl := h3.2.len
      refine ⟨p, vs, u, rfl, rfl, hb2.h, Nat.lt_of_lt_of_le (show vs.length < 100000 by omega) (by decide), ?_⟩
      refine k σ G1 _ (sb.mut hb2 (by intro φ z; cases z)) s1.g (eb.mut hi h1 hb2 ⟨by rw [List.length_append]; show xs.length + 1 ≤ 100000; omega, (h3.2.mono s1.g).app (.cons (ru.mono s1.g) .nil)⟩ h4)
  · simp only [ht, if_false] at k
    exact k.elim
/-! ### len(set(xs)) -/
def tkeys : List D → Option (List Key)
  | [] => some []
  | d :: ds => (keyOfD d).bind fun k => (tkeys ds).map fun ks => k :: ks
def tkeysL : List D → Option (List (List Key))
  | [] => some []
  | .tup xs :: ds => (tkeys xs).bind fun k => (tkeysL ds).map fun ks => k :: ks
  | _ => none
def setN (ks : List (List Key)) (d : D) : Prop := ∃ n : Nat, n ≤ ks.length ∧ (n = ks.length ↔ ks.Nodup) ∧ d = .int n
def dSetLen (x : D) : Out D := (itemsQ x).bind fun xs => match tkeysL xs with
  | some ks => bif decide (ks.length < 64) then .any 0 (setN ks) .ok else .stuck
  | none => .stuck
theorem tkeys_rep : ∀ {vs : List V} {xs : List D} {ks : List Key}, RepL C G vs xs → tkeys xs = some ks → vs = ks.map kV
  | _, _, _, .nil, h => by cases h; rfl
  | _, _, _, .cons (v := v) (x := x) (vs := vs) (xs := xs) h t, hk => by
    have hk' : (keyOfD x).bind _ = some _ := hk
    obtain ⟨k, h1, h2⟩ := Option.bind_eq_some_iff.mp hk'
    obtain ⟨ks, h3, rfl⟩ := Option.map_eq_some_iff.mp h2
    rw [tkeys_rep t h3]
    cases h <;> first | cases h1 | skip
    all_goals rfl
theorem tkeysL_rep (s : Same G H) : ∀ {vs : List V} {xs : List D} {ks : List (List Key)}, RepL C G vs xs → tkeysL xs = some ks → ∃ ps : List (Addr × List Key), vs = ps.map (fun p => V.ref p.1) ∧ ps.map (·.2) = ks ∧ ∀ p ∈ ps, SqT K H p.1 (p.2.map kV)
  | _, _, _, .nil, h => by cases h; exact ⟨[], rfl, rfl, fun _ z => nomatch z⟩
  | _, _, _, .cons (v := v) (x := x) (vs := vs) (xs := xs) h t, hk => by
    cases h <;> first | cases hk | skip
    rename_i a us ys hs ht hl
    have hk' : (tkeys ys).bind _ = some _ := hk
    obtain ⟨k, h1, h2⟩ := Option.bind_eq_some_iff.mp hk'
    obtain ⟨ks, h3, rfl⟩ := Option.map_eq_some_iff.mp h2
    obtain ⟨ps, rfl, rfl, hp⟩ := tkeysL_rep s t h3
    refine ⟨(a, k) :: ps, rfl, rfl, fun p hpm => ?_⟩
    rcases List.mem_cons.mp hpm with rfl | hpm
    · have := tkeys_rep ht h1
      subst this
      exact Evl.ex_t s hs.1
    · exact hp p hpm
def rLenN : List V → Hp → VK → Prop := fun xs H Q => ∃ (a : Addr) (n : Nat), xs = [.ref a] ∧ H a = some (SetN a n) ∧ Q (.int ((n : Nat) : Int)) H
theorem call_lenN' {X : Cx} : CallR X (.builtin "len") rLenN := call_lenN
theorem sm_setLen {ta : TE} {a : Rho → Out D} (ha : SimV C E Γ ta a) : SimE C E Γ (tCB rLenN (tCons (tCB (rSetK K) (tCons ta tNil)) tNil)) (eUn dSetLen a) := fun H0 n G H σ ρ Q w e q => by
  refine ha H0 n G H σ ρ _ w e (Out.wp_mono (fun m d k v G1 H1 s1 r1 => ?_) (fun _ _ _ z => z) (Out.wp_bind q))
  have k := Out.wp_bind k
  have hq : ∃ xs vs b, itemsQ d = .ok xs ∧ v = .ref b ∧ (SqL K H1 b vs ∨ SqT K H1 b vs) ∧ RepL C G1 vs xs := by
    cases d <;> first | exact k.elim | skip
    · obtain ⟨b, vs, rfl, h1, h2, _⟩ := r1.lst s1.w.sub
      exact ⟨_, vs, b, rfl, rfl, .inl (.inl h1), h2⟩
    · obtain ⟨b, vs, rfl, h1, h2, _⟩ := r1.tup s1.w.sub
      exact ⟨_, vs, b, rfl, rfl, .inr h1, h2⟩
  obtain ⟨xs, vs, b, hi, rfl, hs, hr⟩ := hq
  rw [hi] at k
  have k : (match tkeysL xs with
    | some ks => bif decide (ks.length < 64) then Out.any 0 (setN ks) .ok else .stuck
    | none => .stuck).wp m (PQ C G H Q) (PX C G H E) := k
  cases hk : tkeysL xs with
  | none => simp only [hk] at k; exact k.elim
  | some ks =>
    simp only [hk] at k
    cases hb : decide (ks.length < 64) with
    | false => simp only [hb, cond_false] at k; exact k.elim
    | true =>
      simp only [hb, cond_true] at k
      obtain ⟨ps, rfl, rfl, hp⟩ := tkeysL_rep s1.w.sub hr hk
      have hl := of_decide_eq_true hb
      rw [List.length_map] at hl
      refine ⟨b, ps, rfl, hs, hp, hl, fun c t nc h1 h2 => ⟨c, t, rfl, upd_same, ?_⟩⟩
      obtain ⟨m', rfl, k⟩ := k
      exact k (.int t) ⟨t, by rw [List.length_map]; exact h1, by rw [List.length_map]; exact h2, rfl⟩ (.int t) G1 _ (s1.trans ((Ws.refl s1.w).tmp nc)) (.int _)
end
end ND
/-! dict(zip(s, t)) of two tuples -/
namespace ND
open PySem PySem.Spec PyProof.Rows L2
/-- a walk over two tuples at once: where its objects lie -/
structure ZW where
  z : Addr
  ti : Addr
  tp : Addr
  c : Addr
  d : Addr
  s : Addr
  t : Addr
  us : Array Value
  ws : Array Value
/-- it stands at k -/
structure ZW.At (Z : ZW) (k : Nat) (h : Heap) : Prop where
  pr : IsPair h Z.ti (.ref Z.c) (.ref Z.d)
  i1 : h.IsTupleIter Z.c Z.s k
  i2 : h.IsTupleIter Z.d Z.t k
  t1 : h.IsTuple Z.s Z.us
  t2 : h.IsTuple Z.t Z.ws
abbrev ZW.Ap (Z : ZW) : Prop := ZipApart Z.z Z.ti Z.tp Z.c Z.d Z.s Z.t
section
variable {prog : Program} {w : World} {A : Around} {E : Value → Shared → Prop} {g : Shared} {Z : ZW} {k : Nat}
theorem ZW.At.keep {h h' : Heap} (x : Z.At k h) (e : ∀ b o, h.get? b = some o → b = Z.ti ∨ b = Z.c ∨ b = Z.d ∨ b = Z.s ∨ b = Z.t → h'.get? b = some o) : Z.At k h' :=
  ⟨e _ _ x.pr (.inl rfl), x.i1.at fun o q => e _ o q (.inr (.inl rfl)), x.i2.at fun o q => e _ o q (.inr (.inr (.inl rfl))), x.t1.at fun o q => e _ o q (.inr (.inr (.inr (.inl rfl)))), x.t2.at fun o q => e _ o q (.inr (.inr (.inr (.inr rfl))))⟩
/-- the next pair, the last one being out -/
theorem held_item {T : Addr} {f : Bool} {oT : Obj} {x y : Value} {Q : Value → Shared → Prop} (D : Z.Ap) (kz : IsZipHeld g.heap Z.z Z.ti Z.tp T f) (hT : g.heap.get? T = some oT) (a : Z.At k g.heap) (hx : Z.us[k]? = some x) (hy : Z.ws[k]? = some y)
    (hQ : ∀ h', IsZipHeld h' Z.z Z.ti Z.tp T true → Z.At (k + 1) h' → IsPair h' g.heap.objs.size x y → h'.objs.size = g.heap.objs.size + 1 → (∀ b o, b ≠ Z.z → b ≠ Z.c → b ≠ Z.d → g.heap.get? b = some o → h'.get? b = some o) → Q (.ref g.heap.objs.size) { g with heap := h' }) :
    wpAny (model prog w) A (Builtin.«zip.__next__» ⟨[.ref Z.z], []⟩) (fun fin s' => ∃ v, fin = .done (.ret v) ∧ Q v s') E g := by
  show wpAny _ _ (field (.ref Z.z) 2 >>= _) _ _ _
  refine wpAny_bind (wpAny_field kz rfl (x := .bool false) rfl ?_)
  show wpAny _ _ (field (.ref Z.z) 3 >>= _) _ _ _
  refine wpAny_bind (wpAny_field kz rfl (x := .ref Z.ti) rfl (wpAny_bind (wpAny_seqItems a.pr rfl ?_)))
  show wpAny _ _ (Builtin.SmallTypes.ownedTupleIsFree (.ref Z.z) >>= _) _ _ _
  refine wpAny_bind (wpAny_tupleHeld_zip kz hT fun g1 kz1 b1 => ?_)
  simp only [Bool.false_eq_true, if_false]
  rw [← Array.forIn_toList]
  simp only [List.forIn_cons, List.forIn_nil]
  refine wpAny_bind (wpAny_bind (wpAny_bind (wpAny_holding ?_)))
  show wpAny _ _ (Builtin.SmallTypes.nextOf (.ref Z.c) >>= _) _ _ _
  refine wpAny_bind (RZ.nextOf_tuple_item (s := { g with heap := g1 }) (a.i1.extBut b1.extBut D.i1z) (a.t1.extBut b1.extBut D.l1z) hx fun g2 c2 b2 => wpAny_pure (wpAny_pure (wpAny_bind (wpAny_bind (wpAny_holding ?_)))))
  show wpAny _ _ (Builtin.SmallTypes.nextOf (.ref Z.d) >>= _) _ _ _
  refine wpAny_bind (RZ.nextOf_tuple_item (s := { g with heap := g2 }) ((a.i2.extBut b1.extBut D.i2z).extBut b2.extBut D.i12.symm) ((a.t2.extBut b1.extBut D.l2z).extBut b2.extBut D.l2i1) hy fun g3 c3 b3 => wpAny_pure (wpAny_pure (wpAny_pure ?_)))
  show wpAny _ _ (newTuple [x, y] >>= _) _ _ _
  refine wpAny_bind (wpAny_newTuple (wpAny_pure ⟨_, rfl, ?_⟩))
  have size : g3.objs.size = g.heap.objs.size := b3.1.trans (b2.1.trans b1.1)
  have all : ∀ b o, b ≠ Z.z → b ≠ Z.c → b ≠ Z.d → g.heap.get? b = some o → g3.get? b = some o := fun b o n1 n2 n3 q => b3.extBut _ _ n3 (b2.extBut _ _ n2 (b1.extBut _ _ n1 q))
  have at3 : Z.At (k + 1) g3 := ⟨all _ _ D.TIz D.TIi1 D.TIi2 a.pr, c2.extBut b3.extBut D.i12, c3, a.t1.at fun o q => all _ o D.l1z D.l1i1 D.l1i2 q, a.t2.at fun o q => all _ o D.l2z D.l2i1 D.l2i2 q⟩
  have z3 : IsZipHeld g3 Z.z Z.ti Z.tp T true := b3.extBut _ _ D.i2z.symm (b2.extBut _ _ D.i1z.symm kz1)
  have new : IsPair (g3.push { cls := .type "tuple", data := .seq #[x, y] }) g3.objs.size x y := Heap.get?_push_size _ rfl
  have size4 : (g3.push { cls := .type "tuple", data := .seq #[x, y] }).objs.size = g3.objs.size + 1 := Heap.size_push ..
  show Q (.ref g3.objs.size) _
  rw [size] at new size4 ⊢
  exact hQ _ (Heap.get?_push_of_some _ z3) (at3.keep fun b o q _ => Heap.get?_push_of_some _ q) new size4 fun b o n1 n2 n3 q => Heap.get?_push_of_some _ (all b o n1 n2 n3 q)
/-- no pair any more -/
theorem held_end {T : Addr} {f : Bool} {oT : Obj} {Q : Fin → Shared → Prop} (hh : A.handled = none) (D : Z.Ap) (kz : IsZipHeld g.heap Z.z Z.ti Z.tp T f) (hT : g.heap.get? T = some oT) (a : Z.At k g.heap) (he : Z.us[k]? = none ∨ Z.ws[k]? = none)
    (hE : ∀ h' e, (∀ b o, b ≠ Z.z → b ≠ Z.c → b ≠ Z.d → g.heap.get? b = some o → h'.get? b = some o) → (∃ o, h'.get? e = some o ∧ o.cls = .type "StopIteration") → E (.ref e) { g with heap := h' }) :
    wpAny (model prog w) A (Builtin.«zip.__next__» ⟨[.ref Z.z], []⟩) Q E g := by
  show wpAny _ _ (field (.ref Z.z) 2 >>= _) _ _ _
  refine wpAny_bind (wpAny_field kz rfl (x := .bool false) rfl ?_)
  show wpAny _ _ (field (.ref Z.z) 3 >>= _) _ _ _
  refine wpAny_bind (wpAny_field kz rfl (x := .ref Z.ti) rfl (wpAny_bind (wpAny_seqItems a.pr rfl ?_)))
  show wpAny _ _ (Builtin.SmallTypes.ownedTupleIsFree (.ref Z.z) >>= _) _ _ _
  refine wpAny_bind (wpAny_tupleHeld_zip kz hT fun g1 kz1 b1 => ?_)
  simp only [Bool.false_eq_true, if_false]
  rw [← Array.forIn_toList]
  simp only [List.forIn_cons, List.forIn_nil]
  refine wpAny_bind (wpAny_bind (wpAny_bind (wpAny_holding ?_)))
  show wpAny _ _ (Builtin.SmallTypes.nextOf (.ref Z.c) >>= _) _ _ _
  cases hx : Z.us[k]? with
  | none => exact wpAny_bind (RZ.nextOf_tuple_end (s := { g with heap := g1 }) hh (a.i1.extBut b1.extBut D.i1z) (a.t1.extBut b1.extBut D.l1z) hx fun g2 e b2 ho => hE g2 e (fun b o n1 n2 _ q => b2 _ _ n2 (b1.extBut _ _ n1 q)) ho)
  | some x =>
    have hy : Z.ws[k]? = none := he.resolve_left (by rw [hx]; intro q; cases q)
    refine wpAny_bind (RZ.nextOf_tuple_item (s := { g with heap := g1 }) (a.i1.extBut b1.extBut D.i1z) (a.t1.extBut b1.extBut D.l1z) hx fun g2 c2 b2 => wpAny_pure (wpAny_pure (wpAny_bind (wpAny_bind (wpAny_holding ?_)))))
    show wpAny _ _ (Builtin.SmallTypes.nextOf (.ref Z.d) >>= _) _ _ _
    exact wpAny_bind (RZ.nextOf_tuple_end (s := { g with heap := g2 }) hh ((a.i2.extBut b1.extBut D.i2z).extBut b2.extBut D.i12.symm) ((a.t2.extBut b1.extBut D.l2z).extBut b2.extBut D.l2i1) hy fun g3 e b3 ho => hE g3 e (fun b o n1 n2 n3 q => b3 _ _ n3 (b2.extBut _ _ n2 (b1.extBut _ _ n1 q))) ho)
/-- how it stands: no tuple out, or one that is nobody's -/
def ZW.St (Z : ZW) (d : Addr) (k : Nat) (h : Heap) : Prop := Z.At k h ∧ ((IsZip h Z.z Z.ti Z.tp .none ∧ ∃ a b, IsPair h Z.tp a b) ∨ ∃ T f oT, IsZipHeld h Z.z Z.ti Z.tp T f ∧ h.get? T = some oT ∧ T ≠ Z.z ∧ T ≠ Z.c ∧ T ≠ Z.d ∧ T ≠ d)
theorem zip_src {d : Addr} (hh : A.handled = none) (D : Z.Ap) (hd : d ∉ [Z.z, Z.ti, Z.tp, Z.c, Z.d, Z.s, Z.t]) : PairSrc prog w A Z.z d [Z.z, Z.tp, Z.c, Z.d] (min Z.us.size Z.ws.size) (fun i k v => Z.us[i]? = some k ∧ Z.ws[i]? = some v) (Z.St d) := by
  simp only [List.mem_cons, List.not_mem_nil, or_false, not_or] at hd
  obtain ⟨n1, n2, n3, n4, n5, n6, n7⟩ := hd
  refine ⟨fun hm => ?_, fun i h h' st hk => ?_, fun i s Q E hi st hds hQ => ?_, fun s Q E st hQ => ?_⟩
  · simp only [List.mem_cons, List.not_mem_nil, or_false] at hm
    rcases hm with q | q | q | q
    · exact n1 q
    · exact n3 q
    · exact n4 q
    · exact n5 q
  · obtain ⟨a, r⟩ := st
    refine ⟨a.keep fun b o q hb => hk b o (fun y => ?_) q, ?_⟩
    · rcases hb with q | q | q | q | q <;> rw [y] at q
      · exact n2 q
      · exact n4 q
      · exact n5 q
      · exact n6 q
      · exact n7 q
    · rcases r with ⟨kz, x, y, kp⟩ | ⟨T, f, oT, kz, hT, m1, m2, m3, m4⟩
      · exact .inl ⟨hk _ _ (Ne.symm n1) kz, x, y, hk _ _ (Ne.symm n3) kp⟩
      · exact .inr ⟨T, f, oT, hk _ _ (Ne.symm n1) kz, hk _ _ m4 hT, m1, m2, m3, m4⟩
  · obtain ⟨a, r⟩ := st
    have i1 : i < Z.us.size := by omega
    have i2 : i < Z.ws.size := by omega
    have ex := Array.getElem?_eq_getElem i1
    have ey := Array.getElem?_eq_getElem i2
    have nc : s.heap.objs.size ≠ Z.c := by obtain ⟨_, q, _⟩ := a.i1; exact Nat.ne_of_gt (Heap.lt_size q)
    have nd : s.heap.objs.size ≠ Z.d := by obtain ⟨_, q, _⟩ := a.i2; exact Nat.ne_of_gt (Heap.lt_size q)
    rcases r with ⟨kz, x, y, kp⟩ | ⟨T, f, oT, kz, hT, m1, m2, m3, m4⟩
    · refine RZ.pyNext_zipT_item D kz a.pr kp a.i1 a.i2 a.t1 a.t2 ex ey fun h' kz' _ c1 c2 hp _ all => ?_
      have at' : Z.At (i + 1) h' := ⟨all _ _ D.TIz D.TITO D.TIi1 D.TIi2 a.pr, c1, c2, a.t1.at fun o q => all _ o D.l1z D.l1TO D.l1i1 D.l1i2 q, a.t2.at fun o q => all _ o D.l2z D.l2TO D.l2i1 D.l2i2 q⟩
      refine hQ s.heap.objs.size _ _ h' s.toks ⟨ex, ey⟩ (.inl ⟨_, hp, rfl, _, rfl⟩) ⟨at', .inr ⟨s.heap.objs.size, false, _, kz', hp, Nat.ne_of_gt (Heap.lt_size kz), nc, nd, Nat.ne_of_gt hds⟩⟩ fun b o hb q => ?_
      simp only [List.mem_cons, List.not_mem_nil, or_false, not_or] at hb
      exact all b o hb.1 hb.2.1 hb.2.2.1 hb.2.2.2 q
    · have ty : s.TypeIs (.ref Z.z) "zip" := ⟨_, kz, rfl⟩
      unfold pyNext
      refine wpAny_bind (wpAny_attempt (wpAny_callSpecial?_slot (name := Str.ofString "__next__") ty F.slot_zip_next (wpAny_call_entry F.slot_zip_next ty F.entry_zip_next (held_item D kz hT a ex ey fun h' kz' at' hp _ all => wpAny_pure ?_) (F.args_zip_next_1 _))))
      refine hQ s.heap.objs.size _ _ h' s.toks ⟨ex, ey⟩ (.inl ⟨_, hp, rfl, _, rfl⟩) ⟨at', .inr ⟨T, true, oT, kz', all _ _ m1 m2 m3 hT, m1, m2, m3, m4⟩⟩ fun b o hb q => ?_
      simp only [List.mem_cons, List.not_mem_nil, or_false, not_or] at hb
      exact all b o hb.1 hb.2.2.1 hb.2.2.2 q
  · obtain ⟨a, r⟩ := st
    have he : Z.us[min Z.us.size Z.ws.size]? = none ∨ Z.ws[min Z.us.size Z.ws.size]? = none := by
      rcases Nat.le_total Z.us.size Z.ws.size with q | q
      · exact .inl (Array.getElem?_eq_none (by omega))
      · exact .inr (Array.getElem?_eq_none (by omega))
    rcases r with ⟨kz, x, y, kp⟩ | ⟨T, f, oT, kz, hT, m1, m2, m3, m4⟩
    · refine RZ.pyNext_zipT_end hh D kz a.pr kp a.i1 a.i2 a.t1 a.t2 he fun h' all => hQ h' s.toks fun b o hb q => ?_
      simp only [List.mem_cons, List.not_mem_nil, or_false, not_or] at hb
      exact all b o hb.1 hb.2.1 hb.2.2.1 hb.2.2.2 q
    · have ty : s.TypeIs (.ref Z.z) "zip" := ⟨_, kz, rfl⟩
      unfold pyNext
      refine wpAny_bind (wpAny_attempt (wpAny_callSpecial?_slot (name := Str.ofString "__next__") ty F.slot_zip_next (wpAny_call_entry F.slot_zip_next ty F.entry_zip_next (held_end hh D kz hT a he fun h' e all ho => ?_) (F.args_zip_next_1 _))))
      obtain ⟨o, ho, hc⟩ := ho
      refine wpAny_bind (wpAny_isInstance (T := "StopIteration") (b := true) ⟨o, ho, hc⟩ isSubtype_stop (wpAny_pure (hQ _ s.toks fun b o hb q => ?_)))
      simp only [List.mem_cons, List.not_mem_nil, or_false, not_or] at hb
      exact all b o hb.1 hb.2.2.1 hb.2.2.2 q
/-- what dict() is given -/
theorem zip_arg (D : Z.Ap) : PairArg prog w "zip" Z.z [Z.z, Z.ti, Z.tp, Z.c, Z.d, Z.s, Z.t] [Z.z, Z.tp, Z.c, Z.d] (min Z.us.size Z.ws.size) (fun i k v => Z.us[i]? = some k ∧ Z.ws[i]? = some v)
    (fun h => Z.At 0 h ∧ IsZip h Z.z Z.ti Z.tp .none ∧ ∃ a b, IsPair h Z.tp a b) := by
  refine ⟨fun s ok => ⟨_, ok.2.1, rfl⟩, by decide, fun h h' ok hk => ?_, fun h ok b hb => ?_, fun b hb => ?_, fun A s Q E hA ok h => getAttrOr_miss_zip ok.2.1 rfl rfl rfl zip_no_keys (by decide +kernel) hA h, fun A s d Q E hA ok hd hdf h => ?_⟩
  · obtain ⟨a, kz, x, y, kp⟩ := ok
    exact ⟨a.keep fun b o q _ => hk b o q, hk _ _ kz, x, y, hk _ _ kp⟩
  · obtain ⟨⟨q1, ⟨_, q2, _⟩, ⟨_, q3, _⟩, ⟨_, q4, _⟩, ⟨_, q5, _⟩⟩, kz, x, y, kp⟩ := ok
    simp only [List.mem_cons, List.not_mem_nil, or_false] at hb
    rcases hb with rfl | rfl | rfl | rfl | rfl | rfl | rfl
    · exact ⟨_, kz⟩
    · exact ⟨_, q1⟩
    · exact ⟨_, kp⟩
    · exact ⟨_, q2⟩
    · exact ⟨_, q3⟩
    · exact ⟨_, q4⟩
    · exact ⟨_, q5⟩
  · simp only [List.mem_cons, List.not_mem_nil, or_false] at hb ⊢
    rcases hb with q | q | q | q <;> simp [q]
  · exact wpAny_pyIter_zip ok.2.1 (h Z.z [Z.z, Z.tp, Z.c, Z.d] (Z.St d) s.heap s.toks (zip_src hA D hdf) ⟨ok.1, .inl ok.2⟩ (fun _ _ q => q) fun b hb => .inl hb)
end
end ND
/-! dict(zip(s, t)): the rule -/
namespace ND
open PySem PySem.Spec PyProof.Rows L2
theorem key_of {k : Key} {u : Value} (h : RelV (kV k) u) : keyIs k u = true := by
  cases k with
  | inl i =>
    obtain ⟨t, rfl⟩ := h
    exact keyIs_int i t
  | inr x =>
    obtain ⟨t, rfl⟩ := h
    exact keyIs_str x t
theorem zip_kv : ∀ {ks : List Key} {ys : List V} {us ws : List Value}, Vals (ks.map kV) us → Vals ys ws → KV (ks.zip ys) (ks.zip ws)
  | [], _, _, _, _, _ => by
    rw [List.zip_nil_left, List.zip_nil_left]
    exact .nil
  | k :: ks, [], us, ws, _, t' => by
    cases t'
    rw [List.zip_nil_right, List.zip_nil_right]
    exact .nil
  | k :: ks, y :: ys, us, ws, r, r' => by
    cases r with
    | cons r t =>
      cases r' with
      | cons r' t' => exact .cons ⟨rfl, r'⟩ (zip_kv t t')
theorem zip_have {ks : List Key} {us ws : List Value} (r : Vals (ks.map kV) us) {P : Program} {w : World} {ys : List V} (r2 : Vals ys ws) : PairsHave (mixKind P w) (min us.toArray.size ws.toArray.size) (fun i k v => us.toArray[i]? = some k ∧ ws.toArray[i]? = some v) (ks.zip ws) := by
  have hl : ks.length = us.length := by rw [← r.length, List.length_map]
  refine ⟨by rw [List.length_zip, hl]; simp, fun i key v h => ?_⟩
  obtain ⟨h1, h2⟩ := h
  have h1 : us[i]? = some key := by simpa using h1
  have h2 : ws[i]? = some v := by simpa using h2
  have hi : i < ks.length := by rw [hl]; exact (List.getElem?_eq_some_iff.mp h1).1
  refine ⟨ks[i], List.getElem?_zip_eq_some.mpr ⟨List.getElem?_eq_getElem hi, h2⟩, ?_⟩
  have key : ∀ {xs : List V} {vs : List Value} {j : Nat} {x : V} {u : Value}, Vals xs vs → xs[j]? = some x → vs[j]? = some u → RelV x u := by
    intro xs vs j x u rr
    induction rr generalizing j with
    | nil => intro e; cases e
    | cons a b ih =>
      cases j with
      | zero =>
        intro e e'
        cases e
        cases e'
        exact a
      | succ j => exact ih
  exact key_of (key r (by rw [List.getElem?_map, List.getElem?_eq_getElem hi]; rfl) h1)
def tDictZip (K : PySem.W.Frag) (ta : TA) : TE := fun σ H Q => ta σ H fun vs H1 => ∃ (a b : Addr) (ks : List Key) (ys : List V), vs = [.ref a, .ref b] ∧ SqT K H1 a (ks.map kV) ∧ SqT K H1 b ys ∧ ks.Nodup ∧ ∀ p, H1 p = none → Q (.ref p) (upd H1 p (.dK (ks.zip ys)))
theorem zip_sub {α : Type} : ∀ {ks : List Key} {ws : List α}, ((ks.zip ws).map (·.1)).Sublist ks
  | [], _ => by simp
  | k :: ks, [] => by simp
  | k :: ks, w :: ws => (zip_sub (ks := ks) (ws := ws)).cons₂ k
theorem nodup_zip {α : Type} {ks : List Key} {ws : List α} (h : ks.Nodup) : ((ks.zip ws).map (·.1)).Nodup := h.sublist zip_sub
theorem pe_dictZip {X : Cx} {e1 e2 : Expr} {ta : TA} {p p2 q pos : Pos} (hg : Gl X "dict") (hm : X.mg "dict" = none) (hg2 : Gl X "zip") (hm2 : X.mg "zip" = none) (ha : PA X [e1, e2] ta) (hc : X.calm = true := by rfl)
    (hs : starEach [e1, e2] X.env = (false, eval e1 X.env) :: starEach [e2] X.env := by rfl) (hpl : (backTo q (starEach [e2] X.env)).any (·.1) = false := by rfl) :
    PE X (.Call (.Name "dict" p) [.Call (.Name "zip" p2) [e1, e2] [] q] [] pos) (tDictZip X.K ta) := by
  refine ⟨fun pins s σ H Q I h => ?_⟩
  refine Call_ (ld_blt I hg hm boot_dict (PyProof.Rows.callWith_type1 (PyProof.Rows.args_cons ?_ rfl) rfl rfl))
  refine Call_ (ld_blt I hg2 hm2 boot_zip (PyProof.Rows.callWith_type1 (thn (ha.run q pins s σ H _ I h) fun us s1 ⟨vs, H1, I1, r1, q1⟩ => ?_) hs hpl))
  obtain ⟨a, b, ks, ys, rfl, h1, h2, nd, q1⟩ := q1
  obtain ⟨u1, u2, rfl, x1, x2⟩ := vals2 r1
  cases x1
  cases x2
  obtain ⟨its, rv, p1, l1⟩ := I1.tuple h1
  obtain ⟨its2, rv2, p2, l2⟩ := I1.tuple h2
  obtain ⟨o1, ho1, _⟩ := id p1
  obtain ⟨o2, ho2, _⟩ := id p2
  refine RZ.call_zipT (show s1.heap.IsTuple a its.toArray from p1) (show s1.heap.IsTuple b its2.toArray from p2) fun g kz hTI hTO i1 i2 size all => PyProof.Rows.args_nil ?_
  have D := PySem.W.ktu_apart s1.heap.objs.size a b (Heap.lt_size ho1) (Heap.lt_size ho2)
  rw [List.length_map] at l1
  have lk : ks.length = its.length := by rw [← rv.length, List.length_map]
  have lz : (ks.zip its2).length ≤ sizeLine := by
    rw [List.length_zip]
    omega
  refine call_dict_pairs (s := { s1 with heap := g }) (knd := mixKind X.prog X.w) (kvs := ks.zip its2) (zip_arg (Z := ⟨s1.heap.objs.size + 4, s1.heap.objs.size + 2, s1.heap.objs.size + 3, s1.heap.objs.size, s1.heap.objs.size + 1, a, b, its.toArray, its2.toArray⟩) D) (I1.ok.hd hc)
    ⟨⟨hTI, i1, i2, PySem.Heap.IsTuple.at p1 fun o e => all _ o e, PySem.Heap.IsTuple.at p2 fun o e => all _ o e⟩, kz, _, _, hTO⟩ (zip_have rv rv2) (by
      simp only [List.size_toArray]
      omega) fun g2 tk hd hk => ?_
  have hd : g2.DictOf (mixKind X.prog X.w) g.objs.size (merged [] (ks.zip its2)) := hd
  rw [merged_nil_of_nodup _ (nodup_zip nd), size] at hd
  show EP X pins σ Q (.ref g.objs.size) _
  rw [size]
  have big : s1.heap.objs.size ≤ s1.heap.objs.size + 5 := by omega
  have hm : (s1.heap.objs.size + 5 == sysModules) = false := beq_eq_false_iff_ne.mpr (Nat.ne_of_gt (Nat.lt_of_lt_of_le I1.big big))
  refine ⟨.ref (s1.heap.objs.size + 5), upd H1 (s1.heap.objs.size + 5) (.dK (ks.zip ys)), I1.laid (t' := tk) (fun c u e => hk c u ?_ (all c u e)) big (show ObjOk X.prog X.w _ _ _ (.dK (ks.zip ys)) from ⟨?_, hm, ks.zip its2, zip_kv rv rv2, hd⟩), rfl, q1 _ (I1.hok.fresh big)⟩
  · have hl := Heap.lt_size e
    simp only [List.mem_cons, List.not_mem_nil, or_false, not_or]
    exact ⟨Nat.ne_of_lt (Nat.lt_of_lt_of_le hl (Nat.le_add_right _ _)), Nat.ne_of_lt (Nat.lt_of_lt_of_le hl (Nat.le_add_right _ _)), Nat.ne_of_lt hl, Nat.ne_of_lt (Nat.lt_of_lt_of_le hl (Nat.le_add_right _ _))⟩
  · have e2 := rv2.length
    rw [List.length_zip] at lz ⊢
    omega
section
variable {K : PySem.W.Frag} {C : Cfg K} {E : XK} {Γ : List Md} {n m : Nat} {G0 H0 G H G1 H1 : Hp} {Q : VK}
def dDictZip (ds : List D) : Out D := match ds with
  | [.tup xs, .tup ys] => (match tkeys xs with
    | some ks => bif decide ks.Nodup then .ok (.dct (ks.zip ys)) else .stuck
    | none => .stuck)
  | _ => .stuck
theorem rep_zip : ∀ {ks : List Key} {vs : List V} {xs : List D}, RepL C G vs xs → (ks.zip vs).map (·.1) = (ks.zip xs).map (·.1) ∧ RepL C G ((ks.zip vs).map (·.2)) ((ks.zip xs).map (·.2))
  | [], _, _, _ => by simp only [List.zip_nil_left, List.map_nil]; exact ⟨trivial, .nil⟩
  | k :: ks, _, _, .nil => by simp only [List.zip_nil_right, List.map_nil]; exact ⟨trivial, .nil⟩
  | k :: ks, _, _, .cons h t => by
    obtain ⟨a, b⟩ := rep_zip (ks := ks) t
    exact ⟨congrArg (k :: ·) a, .cons h b⟩
theorem sn_dictZip {ta : TA} {a : Rho → Out (List D)} (ha : SimA C E Γ 2 ta a) : SimN C E Γ (tDictZip K ta) (eCall dDictZip a) := fun H0 n G H σ ρ Q w e q => by
  refine ha H0 n G H σ ρ _ w e (Out.wp_mono (fun m ds k vs G1 H1 s1 r1 hl => ?_) (fun _ _ _ z => z) (Out.wp_bind q))
  match ds, hl, vs, r1 with
  | [x, y], _, [v, u], .cons h1 (.cons h2 .nil) =>
    cases h1 <;> first | exact k.elim | skip
    cases h2 <;> first | exact k.elim | skip
    rename_i a1 vs1 xs t1 r1 l1 a2 vs2 ys t2 r2 l2 _
    unfold dDictZip at k
    cases hk : tkeys xs with
    | none => simp only [hk] at k; exact k.elim
    | some ks =>
      simp only [hk] at k
      cases hn : decide ks.Nodup with
      | false => simp only [hn, cond_false] at k; exact k.elim
      | true =>
        simp only [hn, cond_true] at k
        have e1 := tkeys_rep r1 hk
        subst e1
        refine ⟨a1, a2, ks, vs2, rfl, Evl.ex_t s1.w.sub t1.1, Evl.ex_t s1.w.sub t2.1, of_decide_eq_true hn, fun p np => ?_⟩
        obtain ⟨z1, z2⟩ := rep_zip (ks := ks) r2
        refine k p _ G1 _ (s1.trans ((Ws.refl s1.w).tmp np)) (s1.dm np) (s1.w.gn np) upd_same ⟨?_, z1, z2⟩
        rw [List.length_zip]
        omega
end
end ND
/-! defs that make lambdas -/
namespace ND
open PySem PySem.Spec PyProof.Rows L2 LamX
/-- a global def whose code object is known -/
structure LFun (K : PySem.W.Frag) (mg : Str → Option Value) (base : Heap) (x : Str) (st : Stmt) : Prop where
  ex : ∃ (oc : Value) (od : Option Addr) (dV kV doc pm : Value) (an : Option Addr) (ct : Value) (osl : Array (Option Value)),
    K.lookup (He.ga K x) = some ⟨oc, od, .func (PySem.W.fnOf x x (defArgs st) (defBody st) (defScope st) dV kV doc pm an (.ref (codeOf K x)) ct), osl⟩ ∧ DflV K dV [] ∧ KwdV K kV []
  cd : PySem.W.codeIn K (.ref (codeOf K x)) x = true
  kp : PySem.W.keepIn K (.ref (He.ga K x)) = true
  gm : mg x = some (.ref (He.ga K x))
  tb : TabB base mg (codeOf K x) (tabOf K x)
  mm : (tabOf K x, x ++ ".<locals>." ++ "<lambda>") ∈ tbsOf K
  nd : ((tbsOf K).map (·.1)).Nodup
theorem tb_uniq {T : List (Addr × Str)} (h : (T.map (·.1)).Nodup) {p : Addr × Str} (hp : p ∈ T) : ∀ q ∈ T, q.1 = p.1 → q.2 = p.2 := fun q hq e => by
  induction T with
  | nil => cases hp
  | cons a T ih =>
    rw [List.map_cons] at h
    obtain ⟨h1, h2⟩ := List.nodup_cons.mp h
    rcases List.mem_cons.mp hp with e1 | hp2 <;> rcases List.mem_cons.mp hq with e2 | hq2
    · rw [e1, e2]
    · exact absurd (show a.1 ∈ T.map (·.1) from List.mem_map.mpr ⟨q, hq2, by rw [e, e1]⟩) h1
    · exact absurd (show a.1 ∈ T.map (·.1) from List.mem_map.mpr ⟨p, hp2, by rw [← e, e2]⟩) h1
    · exact ih h2 hp2 hq2
section
variable {P : Program} {w : World} {K : PySem.W.Frag} {mg : Str → Option Value} {base : Heap}
theorem LFun.fun {x : Str} {st : Stmt} (F : LFun K mg base x st) : ∃ fd, FnP K x x st (He.ga K x) fd ∧ (∃ dV kV doc pm an ct, fd = PySem.W.fnOf x x (defArgs st) (defBody st) (defScope st) dV kV doc pm an (.ref (codeOf K x)) ct) := by
  obtain ⟨oc, od, dV, kV, doc, pm, an, ct, osl, h, d1, d2⟩ := F.ex
  exact ⟨_, ⟨⟨oc, od, dV, kV, doc, pm, an, _, ct, osl, rfl, h, F.cd, d1, d2⟩, F.kp⟩, dV, kV, doc, pm, an, ct, rfl⟩
theorem LFun.sim {x : Str} {st : Stmt} {N ps : List Str} {k : Nat} {ψ : Rho → Out Res} (F : LFun K mg base x st) (S : FnScope N ps (defScope st))
    (hb : ∀ (kV doc pm : Value) (an : Option Addr) (cdv ct : Value) (us : List Value), us.length = ps.length → bindArgs (PySem.W.fnOf x x (defArgs st) (defBody st) (defScope st) .none kV doc pm an cdv ct) ⟨us, []⟩ = pure (ps.zip us))
    {b : Bool} (hbody : ∀ (A : Around) (outer : List Env) (s : Shared) (H : Hp) (E : XK) (C : Cfg K), (b = true → C.lk = []) → Room k (A.deeper (envOfC x (defScope st) s.heap.objs.size (He.ga K x) (.ref (codeOf K x)))) →
      ∃ t, PSs (cxOf (L2.CX P w) P w K mg base N x (defScope st) (He.ga K x) (.ref (codeOf K x)) A outer s H E) (defBody st) t ∧ ∃ Γn Γb Γc, SimS .fr C E (fr0 ps.length N.length) t ψ Γn Γb Γc) (hk : ps.length ≤ N.length := by decide) :
    GOk P w K mg base (k + 1) x ps (spF K b ps.length (fnD N.length ψ)) := by
  obtain ⟨fd, FP, _⟩ := F.fun
  obtain ⟨oc, od, dV, kV, doc, pm, an, ct, osl, h, d1, d2⟩ := F.ex
  refine ⟨He.ga K x, _, F.gm, F.kp, ?_, fn_of h F.cd S (fun vs H Q E h => ?_) fun A outer s H vs Q E hr h => ?_⟩
  · exact (show FnP K x x st (He.ga K x) _ from ⟨⟨oc, od, dV, kV, doc, pm, an, _, ct, osl, rfl, h, F.cd, d1, d2⟩, F.kp⟩).bindsN hb
  · obtain ⟨C, n, G, ds, _, _, r, hl, _⟩ := h
    rw [r.len]
    exact hl
  · obtain ⟨C, n, G, ds, hbk, wl, r, hl, q⟩ := h
    obtain ⟨t, ht, Γn, Γb, Γc, hS⟩ := hbody A outer s H E C hbk hr
    exact ⟨t, ht, body_sim (sp := spF K b ps.length (fnD N.length ψ)) hS hk wl r hl q⟩
/-- the def that catches -/
structure CFun (K : PySem.W.Frag) (mg : Str → Option Value) (x a k e n : Str) (st : Stmt) (CS : Addr) : Prop where
  ex : ∃ f cdg, GetsL K mg x a [a, k, n] (defBody st) (defScope st) f cdg
  me : mg e = some (.ref CS)
theorem GFun.gets {x a : Str} {st : Stmt} {Ng : List Str} (F : GFun K mg x st) (S : FnScope Ng [a] (defScope st)) (hn : Ng[0]? = some a) (hv : Vis (defScope st) a)
    (hb : ∀ (kV doc pm : Value) (an : Option Addr) (cdv ct : Value) (us : List Value), us.length = 1 → bindArgs (PySem.W.fnOf x x (defArgs st) (defBody st) (defScope st) .none kV doc pm an cdv ct) ⟨us, []⟩ = pure ([a].zip us)) : ∃ f cdg, GetsL K mg x a Ng (defBody st) (defScope st) f cdg := by
  obtain ⟨f, fd, F, hm⟩ := F.ex
  have hbn := F.bindsN (ps := [a]) hb
  obtain ⟨oc, od, dV, kV, doc, pm, an, cdv, ct, osl, rfl, lk, hcd, _, _⟩ := F.ex
  exact ⟨f, cdv, ⟨hm, F.kp, ⟨_, dV, kV, doc, pm, ct, oc, an, od, osl, lk, hbn⟩, hcd, S, hn, hv⟩⟩
end
end ND
/-! sorted(d) -/
namespace ND
open PySem PySem.Spec PyProof.Rows L2
section
variable {K : PySem.W.Frag} {C : Cfg K} {E : XK} {Γ : List Md} {n m : Nat} {G0 H0 G H G1 H1 : Hp} {Q : VK}
def sokB (z : Str) : Bool := decide (z.length ≤ 100000) && PyData.strOk z
theorem sokB_ok {z : Str} (h : sokB z = true) : SOk z := by
  unfold sokB at h
  rw [Bool.and_eq_true] at h
  exact ⟨of_decide_eq_true h.1, h.2⟩
/-- the texts ks in order -/
def SortOf (ks : List Str) (d : D) : Prop := ∃ ys : List Str, ys.Perm ks ∧ sortedS ys = true ∧ d = .lst (ys.map D.str)
def dSortedK (ds : List D) : Out D := match ds with
  | [.dct kvs] => (match keysS kvs with
    | some ks => bif (ks.all sokB && decide (ks.length < 64)) then .any 0 (SortOf ks) .ok else .stuck
    | none => .stuck)
  | _ => .stuck
theorem keysS_map : ∀ {kvs : List (Key × D)} {ks : List Str}, keysS kvs = some ks → kvs.map (·.1) = ks.map Sum.inr
  | [], _, h => by cases h; rfl
  | (.inl i, _) :: r, _, h => by cases h
  | (.inr z, _) :: r, _, h => by
    have h' : (keysS r).map (z :: ·) = some _ := h
    obtain ⟨ks, h1, rfl⟩ := Option.map_eq_some_iff.mp h'
    show Sum.inr z :: r.map (·.1) = _
    rw [keysS_map h1]
    rfl
theorem rep_strs : ∀ {ys : List Str}, (∀ z ∈ ys, SOk z) → RepL C G (ys.map V.str) (ys.map D.str)
  | [], _ => .nil
  | y :: ys, h => .cons (.str y (h y List.mem_cons_self)) (rep_strs fun z hz => h z (List.mem_cons_of_mem _ hz))
theorem sc_sortedK : SCN C E 1 (fun xs H Q => ∃ (a : Addr) (kvs : List (Key × V)) (ks : List Str), xs = [.ref a] ∧ Rd H a (.dK kvs) ∧ kvs.map (·.1) = ks.map Sum.inr ∧ ks.length < 64 ∧
    ∀ ys p, ys.Perm ks → sortedS ys = true → H p = none → Q (.ref p) (upd H p (.lst (ys.map V.str)))) dSortedK := fun n G H vs ds Q w r hl q => by
  match ds, hl, vs, r with
  | [d], _, [v], .cons h1 .nil =>
    cases d <;> first | exact q.elim | skip
    rename_i kvs _
    obtain ⟨a, us, rfl, hx, he, t, hz⟩ := h1.dct w.sub
    unfold dSortedK at q
    cases hk : keysS kvs with
    | none => simp only [hk] at q; exact q.elim
    | some ks =>
      simp only [hk] at q
      cases hb : (ks.all sokB && decide (ks.length < 64)) with
      | false => simp only [hb, cond_false] at q; exact q.elim
      | true =>
        simp only [hb, cond_true] at q
        obtain ⟨m, rfl, q⟩ := q
        rw [Bool.and_eq_true, List.all_eq_true] at hb
        have hlt := of_decide_eq_true hb.2
        refine ⟨a, us, ks, rfl, hx, he.trans (keysS_map hk), hlt, fun ys p hp hs np => ?_⟩
        refine q _ ⟨ys, hp, hs, rfl⟩ p _ _ _ ((Ws.refl w).tmp np) np (w.gn np) upd_same ⟨?_, rep_strs fun z hz => sokB_ok (hb.1 z (hp.subset hz))⟩
        rw [List.length_map, hp.length_eq]
        omega
end
end ND
/-! the head's facts: a Hook that reaches closures -/
namespace ND
open PySem PySem.W PySem.Spec PySem.Calls PyProof.Rows L2 He
def refsN (o : Obj) : List Addr := refsD o ++ (match o.data with
  | .func fd => fd.closure.map (·.2)
  | .cell (some v) => refV v
  | _ => [])
def growN (g : Addr → Option Obj) (as : List Addr) : List Addr := (as ++ as.flatMap fun a => match g a with
  | some o => refsN o
  | none => []).eraseDups
def asN (g : Addr → Option Obj) : Nat → List Addr
  | 0 => [mainGlobals, cStatics]
  | n + 1 => growN g (asN g n)
/-! ### a class of errors with its own __init__ -/
abbrev SupW : Type := Option (Str × Arguments × FuncBody × Scope × Addr × List Str × Addr)
def fiOf (K : Frag) (x : Str) : Addr := ma K (ga K x) "__init__"
def supW (K : Frag) (x : Str) : SupW := match K.lookup (fiOf K x) with
  | some ⟨_, _, .func fd, _⟩ => some (fd.name, fd.params, fd.body, fd.scope, fd.globals, fd.closure.map (·.1), fd.builtins)
  | _ => none
structure SupD where
  x : Str
  fld : Str
  st : Stmt
def SupD.val (d : SupD) : SupW := some ("__init__", defArgs d.st, .stmts (defBody d.st), defScope d.st, mainGlobals, ["__class__"], builtinsNs)
def clsB (K : Frag) (C : Addr) : Bool := match K.lookup C with
  | some ⟨c, _, .cls cd, sl⟩ => (match cd.mro, sl.toList with
    | D :: bm, [_, _, _, _, k, _] => decide (c = .type "type") && (decide (D = .ref C) && (decide (k = some (.builtin "ValueError.__new__")) && (cd.hasDict && (!cd.hasDel && HandSPX.refsVE bm))))
    | _, _ => false)
  | _ => false
theorem clsB_ok {K : Frag} {C : Addr} (h : clsB K C = true) : ∃ nm q N bs bm sn sub ab col dd k0 k1 k2 k3 k5, K.lookup C = some (excClassObj nm q C N bs bm true sn sub ab col dd k0 k1 k2 k3 k5 "ValueError.__new__") ∧ HandSPX.refsVE bm = true := by
  unfold clsB at h
  split at h
  · rename_i c dd cd sl ho
    split at h
    · rename_i D bm k0 k1 k2 k3 k k5 hm hs
      obtain ⟨g1, j1⟩ := ba h
      obtain ⟨g2, j2⟩ := ba j1
      obtain ⟨g3, j3⟩ := ba j2
      obtain ⟨h4, j4⟩ := ba j3
      obtain ⟨h5, h6⟩ := ba j4
      have g1' := of_decide_eq_true g1
      have g2' := of_decide_eq_true g2
      have g3' := of_decide_eq_true g3
      rw [g1'] at ho
      rw [g2'] at hm
      rw [g3'] at hs
      obtain ⟨nm, bs, mro, ns, qn, hd, sn, sub, ab, col, del⟩ := cd
      dsimp only at hm h4 h5
      subst hm h4
      have h5' : del = false := by simpa using h5
      subst h5'
      obtain ⟨l⟩ := sl
      dsimp only at hs
      subst hs
      exact ⟨nm, qn, ns, bs, bm, sn, sub, ab, col, dd, k0, k1, k2, k3, k5, ho, h6⟩
    · cases h
  · cases h
def initB (prog : Program) (K : Frag) (C fI : Addr) : Bool := match K.lookup fI with
  | some ⟨_, _, .func fd, _⟩ => (match fd.code, fd.closure, fd.defaults, fd.kwdefaults with
    | .ref cda, [(_, cc)], .none, .none => codeIn K (.ref cda) fd.qualname && ((match K.lookup cda with
      | some ⟨_, _, .fields vs, _⟩ => (match (vs[2]? : Option Value) with
        | some (.str file _) => (prog.main.file : Str) == file
        | _ => false)
      | _ => false) && (match K.lookup cc with
        | some ⟨_, _, .cell (some D), _⟩ => decide (D = .ref C)
        | _ => false))
    | _, _, _, _ => false)
  | _ => false
def oexB (K : Frag) (C : Addr) : Bool := clsB K C && (eqO (findIn K (.ref C) "__setattr__") (some (some (.builtin "object.__setattr__"))) && (decide (subIn K (.ref C) (.type "BaseException") = some true) && (decide (typeIn K (.ref C) = some (.type "type")) && keepIn K (.ref C))))
theorem oexB_ok {K : Frag} {C : Addr} (h : oexB K C = true) : OexC K C := by
  obtain ⟨a, h⟩ := ba h
  obtain ⟨b, h⟩ := ba h
  obtain ⟨c, h⟩ := ba h
  obtain ⟨d, e⟩ := ba h
  exact ⟨clsB_ok a, eqO_ok b, of_decide_eq_true c, of_decide_eq_true d, e⟩
def supChk (prog : Program) (K : Frag) (x fld : Str) : Bool :=
  oexB K (ga K x) && (eqO (findIn K (.ref (ga K x)) fld) (some none) && (eqO (findIn K (.ref (ga K x)) "__init__") (some (some (.ref (fiOf K x)))) && (decide (typeIn K (.ref (fiOf K x)) = some (.type "function")) && (initB prog K (ga K x) (fiOf K x) &&
    (eqO (ks_superIn K (ga K x) (ga K x) "__init__") (some (some (.builtin "ValueError.__init__"))) && (decide (mroIn K (ga K x) (.ref (ga K x)) = some true) && (decide (mroIn K (ga K x) (.type "ValueError") = some true) &&
      (eqO (nsIn K cStatics "thirdparty.any") (some none) && eqO (nsIn K mainGlobals "super") (some none)))))))))
theorem supC_of {prog : Program} {K : Frag} {d : SupD} (h : supChk prog K d.x d.fld = true) (hw : supW K d.x = d.val) (ok : FldOk d.fld) (top : (prog.main.scope.names.lookup ("super" : Str)).isSome = false)
    {msg : Str} {p1 p2 q0 q1 q2 q3 q4 q5 q6 q7 q8 q9 : Pos} (ea : defArgs d.st = supA d.fld p1 p2) (eb : defBody d.st = supB d.fld msg q0 q1 q2 q3 q4 q5 q6 q7 q8 q9) (es : defScope d.st = supS d.fld) (hl : (q2.endLine == q4.line) = true)
    (hb : ∀ (qual : Str) (doc pm ct : Value) (an : Option Addr) (cda cc : Addr) (u v : Value),
      bindArgs (ksFn "__init__" qual (supA d.fld p1 p2) (supB d.fld msg q0 q1 q2 q3 q4 q5 q6 q7 q8 q9) (supS d.fld) .none .none doc pm an (.ref cda) ct cc) ⟨[u, v], []⟩ = pure [((PySem.Str.ofString "self" : Str), u), (d.fld, v)] ∧
      bindArgs (ksFn "__init__" qual (supA d.fld p1 p2) (supB d.fld msg q0 q1 q2 q3 q4 q5 q6 q7 q8 q9) (supS d.fld) .none .none doc pm an (.ref cda) ct cc) ⟨[u], [(d.fld, v)]⟩ = pure [((PySem.Str.ofString "self" : Str), u), (d.fld, v)]) :
    SupC prog K (ga K d.x) (fiOf K d.x) d.fld := by
  obtain ⟨h1, h⟩ := ba h
  obtain ⟨h2, h⟩ := ba h
  obtain ⟨h3, h⟩ := ba h
  obtain ⟨h4, h⟩ := ba h
  obtain ⟨h5, h⟩ := ba h
  obtain ⟨h6, h⟩ := ba h
  obtain ⟨h7, h⟩ := ba h
  obtain ⟨h8, h⟩ := ba h
  obtain ⟨h9, h10⟩ := ba h
  refine ⟨oexB_ok h1, ok, eqO_ok h2, eqO_ok h3, of_decide_eq_true h4, ?_, eqO_ok h6, of_decide_eq_true h7, of_decide_eq_true h8, eqO_ok h9, eqO_ok h10, top⟩
  unfold initB at h5
  unfold supW at hw
  split at h5
  · rename_i oc od fd osl ho
    rw [ho] at hw
    dsimp only at hw
    split at h5
    · rename_i cda y cc hcode hclo hdf hkd
      obtain ⟨c1, h5⟩ := ba h5
      obtain ⟨c2, c3⟩ := ba h5
      split at c2
      · rename_i ccl cdd vs ccs hc
        split at c2
        · rename_i file tf hv
          split at c3
          · rename_i cl cld D csl hcc
            have c3' := of_decide_eq_true c3
            subst c3'
            obtain ⟨n1, n2, n3, n4, n5, n6, n7, n8, n9, n10, n11, n12, n13, n14, n15⟩ := fd
            unfold SupD.val at hw
            simp only [Option.some.injEq, Prod.mk.injEq] at hw
            dsimp only at hcode hclo hdf hkd c1
            obtain ⟨e1, e2, e3, e4, e5, e6, e7⟩ := hw
            subst hcode hclo hdf hkd e1 e5 e7
            have e6' : y = "__class__" := by simpa using e6
            subst e6'
            rw [ea] at e2
            rw [eb] at e3
            rw [es] at e4
            subst e2 e3 e4
            exact ⟨oc, od, n12, osl, n2, msg, n10, n11, n14, cda, cc, ccl, cl, cdd, cld, ccs, csl, vs, file, tf, p1, p2, q0, q1, q2, q3, q4, q5, q6, q7, q8, q9, ho, c1, hc, hv, c2, hcc, hl,
              fun s u v => .of_eq (hb ..).1, fun s u v => .of_eq (hb ..).2⟩
          · cases c3
        · cases c2
      · cases c2
    · cases h5
  · cases h5
/-! ### what isinstance and a field's reading ask of a class of errors -/
def exkB (K : Frag) (C : Addr) : Bool := (clsIn K C).isSome && (eqO (findIn K (.ref C) "__getattribute__") (some (some (.builtin "BaseException.__getattribute__"))) && (eqO (findIn K (.ref C) "__getattr__") (some none) &&
  (decide (subIn K (.ref C) (.type "BaseException") = some true) && (hasDictIn K C && (eqO (findIn K (.ref C) "__class__") (some (some (.builtin "object.__class__"))) && (eqO (specialIn K (.builtin "object.__class__") "__get__") (some (some (.builtin "getset_descriptor.__get__"))) &&
    (decide (takesIn K (.builtin "object.__class__") = some true) && decide (mroIn K C (.type "object") = some true))))))))
theorem exkB_ok {K : Frag} {C : Addr} (h : exkB K C = true) : ExcK K C := by
  obtain ⟨h1, h⟩ := ba h
  obtain ⟨h2, h⟩ := ba h
  obtain ⟨h3, h⟩ := ba h
  obtain ⟨h4, h⟩ := ba h
  obtain ⟨h5, h⟩ := ba h
  obtain ⟨h6, h⟩ := ba h
  obtain ⟨h7, h⟩ := ba h
  obtain ⟨h8, h9⟩ := ba h
  exact ⟨h1, eqO_ok h2, eqO_ok h3, of_decide_eq_true h4, h5, eqO_ok h6, eqO_ok h7, of_decide_eq_true h8, of_decide_eq_true h9⟩
/-! ### the Hook -/
abbrev AlN : Type := AlD × (Bool × List SupW)
def obsN (n : Nat) (fa : List Fa) (fn : List DefD) (sd : List SupD) (ex : Frag → Bool) (g : Addr → Option Obj) : AlN := (obsD fa fn (frG g (asN g n)), ex (frG g (asN g n)), sd.map fun d => supW (frG g (asN g n)) d.x)
def valN (fn : List DefD) (sd : List SupD) : AlN := (He.valD fn, true, sd.map SupD.val)
structure SaysN (fa : List Fa) (fn : List DefD) (sd : List SupD) (ex : Frag → Bool) (K : Frag) : Prop where
  d : SaysD fa fn K
  e : ex K = true
  s : (sd.map fun d => supW K d.x) = sd.map SupD.val
def hookN (n : Nat) (fa : List Fa) (fn : List DefD) (sd : List SupD) (ex : Frag → Bool) : Hook where
  α := AlN
  obs := fun s => obsN n fa fn sd ex s.heap.get?
  val := fun _ => valN fn sd
  says := fun _ h => ∃ K : Frag, K.In h ∧ SaysN fa fn sd ex K
  of := fun _ s e => by
    have e' : obsN n fa fn sd ex s.heap.get? = valN fn sd := e
    unfold obsN valN at e'
    simp only [Prod.mk.injEq] at e'
    exact ⟨_, frG_in, e'.1, e'.2.1, e'.2.2⟩
  keeps := fun _ _ _ ⟨K, hK, c⟩ k => ⟨K, Frag.In.keeps hK k, c⟩
theorem obsN_eq {n : Nat} {fa : List Fa} {fn : List DefD} {sd : List SupD} {ex : Frag → Bool} {g : Addr → Option Obj} {s : Shared} (h : ∀ a, g a = s.heap.get? a) : obsN n fa fn sd ex g = (hookN n fa fn sd ex).obs s := by
  have e : g = s.heap.get? := funext h
  rw [e]
  rfl
theorem SaysN.sup {fa : List Fa} {fn : List DefD} {sd : List SupD} {ex : Frag → Bool} {K : Frag} (c : SaysN fa fn sd ex K) (i : Nat) {d : SupD} (h : sd[i]? = some d) : supW K d.x = d.val := by
  have z : (sd.map fun d => supW K d.x)[i]? = (sd.map SupD.val)[i]? := by rw [c.s]
  rw [List.getElem?_map, List.getElem?_map, h] at z
  exact Option.some.inj z
end ND
namespace ND
open PySem PySem.Spec PyProof.Rows L2
def topS (i : Nat) : Stmt := PySem.Challenge.pw_narrowdraws_k25_slots_from_a_day_on.main.body.getD i (.Pass ⟨0, 0, 0, 0⟩)
abbrev s_is_number : Stmt := topS 20
abbrev N_is_number : List Str := ["thing"]
theorem sc_is_number : FnScope N_is_number ["thing"] (defScope s_is_number) := ⟨rfl, rfl, rfl, by decide +kernel, rfl, by decide +kernel, by decide +kernel⟩
abbrev s_is_within : Stmt := topS 21
abbrev N_is_within : List Str := ["thing", "least", "most"]
theorem sc_is_within : FnScope N_is_within ["thing", "least", "most"] (defScope s_is_within) := ⟨rfl, rfl, rfl, by decide +kernel, rfl, by decide +kernel, by decide +kernel⟩
abbrev s_is_list : Stmt := topS 22
abbrev N_is_list : List Str := ["thing"]
theorem sc_is_list : FnScope N_is_list ["thing"] (defScope s_is_list) := ⟨rfl, rfl, rfl, by decide +kernel, rfl, by decide +kernel, by decide +kernel⟩
abbrev s_is_name : Stmt := topS 23
abbrev N_is_name : List Str := ["thing", "sign"]
theorem sc_is_name : FnScope N_is_name ["thing"] (defScope s_is_name) := ⟨rfl, rfl, rfl, by decide +kernel, rfl, by decide +kernel, by decide +kernel⟩
abbrev s_is_slot : Stmt := topS 24
abbrev N_is_slot : List Str := ["thing"]
theorem sc_is_slot : FnScope N_is_slot ["thing"] (defScope s_is_slot) := ⟨rfl, rfl, rfl, by decide +kernel, rfl, by decide +kernel, by decide +kernel⟩
abbrev s_are_slots : Stmt := topS 25
abbrev N_are_slots : List Str := ["thing", "item"]
theorem sc_are_slots : FnScope N_are_slots ["thing"] (defScope s_are_slots) := ⟨rfl, rfl, rfl, by decide +kernel, rfl, by decide +kernel, by decide +kernel⟩
abbrev s_is_roll : Stmt := topS 26
abbrev N_is_roll : List Str := ["thing"]
theorem sc_is_roll : FnScope N_is_roll ["thing"] (defScope s_is_roll) := ⟨rfl, rfl, rfl, by decide +kernel, rfl, by decide +kernel, by decide +kernel⟩
abbrev s_Pack___init__ : Stmt := inClass (topS 27) 0
abbrev N_Pack___init__ : List Str := ["self", "slots", "amount", "cost", "roll"]
theorem sc_Pack___init__ : FnScope N_Pack___init__ ["self", "slots", "amount", "cost", "roll"] (defScope s_Pack___init__) := ⟨rfl, rfl, rfl, by decide +kernel, rfl, by decide +kernel, by decide +kernel⟩
abbrev s_Pack_last : Stmt := inClass (topS 27) 5
abbrev N_Pack_last : List Str := ["self", "cell", "day"]
theorem sc_Pack_last : FnScope N_Pack_last ["self"] (defScope s_Pack_last) := ⟨rfl, rfl, rfl, by decide +kernel, rfl, by decide +kernel, by decide +kernel⟩
abbrev s_are_prices : Stmt := topS 28
abbrev N_are_prices : List Str := ["thing", "cell"]
theorem sc_are_prices : FnScope N_are_prices ["thing"] (defScope s_are_prices) := ⟨rfl, rfl, rfl, by decide +kernel, rfl, by decide +kernel, by decide +kernel⟩
abbrev s_are_packs : Stmt := topS 29
abbrev N_are_packs : List Str := ["thing", "name"]
theorem sc_are_packs : FnScope N_are_packs ["thing"] (defScope s_are_packs) := ⟨rfl, rfl, rfl, by decide +kernel, rfl, by decide +kernel, by decide +kernel⟩
abbrev s_does_fit : Stmt := topS 30
abbrev N_does_fit : List Str := ["prices", "days", "packs", "name", "pack", "cell", "day"]
theorem sc_does_fit : FnScope N_does_fit ["prices", "days", "packs", "name"] (defScope s_does_fit) := ⟨rfl, rfl, rfl, by decide +kernel, rfl, by decide +kernel, by decide +kernel⟩
abbrev s_Plan___init__ : Stmt := inClass (topS 31) 0
abbrev N_Plan___init__ : List Str := ["self", "prices", "days", "packs", "name", "cell"]
theorem sc_Plan___init__ : FnScope N_Plan___init__ ["self", "prices", "days", "packs"] (defScope s_Plan___init__) := ⟨rfl, rfl, rfl, by decide +kernel, rfl, by decide +kernel, by decide +kernel⟩
abbrev s_need_plan : Stmt := topS 32
abbrev N_need_plan : List Str := ["plan"]
theorem sc_need_plan : FnScope N_need_plan ["plan"] (defScope s_need_plan) := ⟨rfl, rfl, rfl, by decide +kernel, rfl, by decide +kernel, by decide +kernel⟩
abbrev s_need_pack : Stmt := topS 33
abbrev N_need_pack : List Str := ["plan", "name"]
theorem sc_need_pack : FnScope N_need_pack ["plan", "name"] (defScope s_need_pack) := ⟨rfl, rfl, rfl, by decide +kernel, rfl, by decide +kernel, by decide +kernel⟩
abbrev s_slots_of : Stmt := topS 35
abbrev N_slots_of : List Str := ["plan", "name"]
theorem sc_slots_of : FnScope N_slots_of ["plan", "name"] (defScope s_slots_of) := ⟨rfl, rfl, rfl, by decide +kernel, rfl, by decide +kernel, by decide +kernel⟩
abbrev s_later_slots : Stmt := topS 36
abbrev N_later_slots : List Str := ["plan", "name", "day", "slot"]
theorem sc_later_slots : FnScope N_later_slots ["plan", "name", "day"] (defScope s_later_slots) := ⟨rfl, rfl, rfl, by decide +kernel, rfl, by decide +kernel, by decide +kernel⟩
abbrev s_slots_from : Stmt := topS 37
abbrev N_slots_from : List Str := ["plan", "name", "day"]
theorem sc_slots_from : FnScope N_slots_from ["plan", "name", "day"] (defScope s_slots_from) := ⟨rfl, rfl, rfl, by decide +kernel, rfl, by decide +kernel, by decide +kernel⟩
abbrev s_in_common : Stmt := topS 38
abbrev N_in_common : List Str := ["plan", "one", "other", "slot"]
theorem sc_in_common : FnScope N_in_common ["plan", "one", "other"] (defScope s_in_common) := ⟨rfl, rfl, rfl, by decide +kernel, rfl, by decide +kernel, by decide +kernel⟩
abbrev s_shared : Stmt := topS 39
abbrev N_shared : List Str := ["plan", "one", "other"]
theorem sc_shared : FnScope N_shared ["plan", "one", "other"] (defScope s_shared) := ⟨rfl, rfl, rfl, by decide +kernel, rfl, by decide +kernel, by decide +kernel⟩
abbrev s_day_first : Stmt := topS 40
abbrev N_day_first : List Str := ["slot"]
theorem sc_day_first : FnScope N_day_first ["slot"] (defScope s_day_first) := ⟨rfl, rfl, rfl, by decide +kernel, rfl, by decide +kernel, by decide +kernel⟩
abbrev s__law_begun : Stmt := topS 42
abbrev N__law_begun : List Str := ["_law_script", "_law_wide", "_law_grain"]
theorem sc__law_begun : FnScope N__law_begun ["_law_script"] (defScope s__law_begun) := ⟨rfl, rfl, rfl, by decide +kernel, rfl, by decide +kernel, by decide +kernel⟩
abbrev s__law_mixed : Stmt := topS 43
abbrev N__law_mixed : List Str := ["_law_draw", "_law_turn", "_law_found", "_law_prime", "_law_blend", "_law_grain"]
theorem sc__law_mixed : FnScope N__law_mixed ["_law_draw"] (defScope s__law_mixed) := ⟨rfl, rfl, rfl, by decide +kernel, rfl, by decide +kernel, by decide +kernel⟩
abbrev s__law_take : Stmt := topS 44
abbrev N__law_take : List Str := ["_law_draw", "_law_size", "_law_found"]
theorem sc__law_take : FnScope N__law_take ["_law_draw", "_law_size"] (defScope s__law_take) := ⟨rfl, rfl, rfl, by decide +kernel, rfl, by decide +kernel, by decide +kernel⟩
abbrev s__law_pick : Stmt := topS 45
abbrev N__law_pick : List Str := ["_law_draw", "_law_some"]
theorem sc__law_pick : FnScope N__law_pick ["_law_draw", "_law_some"] (defScope s__law_pick) := ⟨rfl, rfl, rfl, by decide +kernel, rfl, by decide +kernel, by decide +kernel⟩
abbrev s__law_any_of : Stmt := topS 46
abbrev N__law_any_of : List Str := ["_law_draw", "_law_words", "_law_size", "_law_item"]
theorem sc__law_any_of : FnScope N__law_any_of ["_law_draw", "_law_words", "_law_size"] (defScope s__law_any_of) := ⟨rfl, rfl, rfl, by decide +kernel, rfl, by decide +kernel, by decide +kernel⟩
abbrev s__law_names : Stmt := topS 47
abbrev N__law_names : List Str := ["_law_draw", "_law_many", "_law_found", "_law_letters", "_law_k", "_law_word", "_law_j", "_law_near", "_law_sign", "_law_item"]
theorem sc__law_names : FnScope N__law_names ["_law_draw", "_law_many"] (defScope s__law_names) := ⟨rfl, rfl, rfl, by decide +kernel, rfl, by decide +kernel, by decide +kernel⟩
abbrev s__law_all_spots : Stmt := topS 48
abbrev N__law_all_spots : List Str := ["_law_kinds", "_law_span", "_law_found", "_law_date", "_law_kind"]
theorem sc__law_all_spots : FnScope N__law_all_spots ["_law_kinds", "_law_span"] (defScope s__law_all_spots) := ⟨rfl, rfl, rfl, by decide +kernel, rfl, by decide +kernel, by decide +kernel⟩
abbrev s__law_spots : Stmt := topS 49
abbrev N__law_spots : List Str := ["_law_draw", "_law_kinds", "_law_span", "_law_every", "_law_first", "_law_last_here", "_law_some", "_law_found", "_law_kind", "_law_date", "_law_spot"]
theorem sc__law_spots : FnScope N__law_spots ["_law_draw", "_law_kinds", "_law_span"] (defScope s__law_spots) := ⟨rfl, rfl, rfl, by decide +kernel, rfl, by decide +kernel, by decide +kernel⟩
abbrev s__law_last : Stmt := topS 50
abbrev N__law_last : List Str := ["_law_ware", "_law_spot"]
theorem sc__law_last : FnScope N__law_last ["_law_ware"] (defScope s__law_last) := ⟨rfl, rfl, rfl, by decide +kernel, rfl, by decide +kernel, by decide +kernel⟩
abbrev s__law_flows : Stmt := topS 51
abbrev N__law_flows : List Str := ["_law_draw", "_law_wares_here", "_law_likely", "_law_label", "_law_later_here", "_law_item"]
theorem sc__law_flows : FnScope N__law_flows ["_law_draw", "_law_wares_here", "_law_likely"] (defScope s__law_flows) := ⟨rfl, rfl, rfl, by decide +kernel, rfl, by decide +kernel, by decide +kernel⟩
abbrev s__law_sheet : Stmt := topS 52
abbrev N__law_sheet : List Str := ["_law_draw", "_law_most", "_law_units", "_law_fees", "_law_flows_here", "_law_kinds", "_law_span", "_law_count", "_law_wares_here", "_law_label", "_law_many", "_law_fee", "_law_same", "_law_rates", "_law_is_same", "_law_kind"]
theorem sc__law_sheet : FnScope N__law_sheet ["_law_draw", "_law_most", "_law_units", "_law_fees", "_law_flows_here"] (defScope s__law_sheet) := ⟨rfl, rfl, rfl, by decide +kernel, rfl, by decide +kernel, by decide +kernel⟩
abbrev s__law_plan : Stmt := topS 53
abbrev N__law_plan : List Str := ["_law_sheet_here", "_law_made", "_law_label", "_law_ware"]
theorem sc__law_plan : FnScope N__law_plan ["_law_sheet_here"] (defScope s__law_plan) := ⟨rfl, rfl, rfl, by decide +kernel, rfl, by decide +kernel, by decide +kernel⟩
abbrev s__law_wares : Stmt := topS 54
abbrev N__law_wares : List Str := ["_law_sheet_here"]
theorem sc__law_wares : FnScope N__law_wares ["_law_sheet_here"] (defScope s__law_wares) := ⟨rfl, rfl, rfl, by decide +kernel, rfl, by decide +kernel, by decide +kernel⟩
abbrev s__law_caught : Stmt := topS 55
abbrev N__law_caught : List Str := ["_law_task", "_law_caught_here", "_law_error"]
theorem sc__law_caught : FnScope N__law_caught ["_law_task"] (defScope s__law_caught) := ⟨rfl, rfl, rfl, by decide +kernel, rfl, by decide +kernel, by decide +kernel⟩
abbrev s__law_later : Stmt := topS 56
abbrev N__law_later : List Str := ["_law_sheet_here", "_law_label", "_law_date", "_law_spot"]
theorem sc__law_later : FnScope N__law_later ["_law_sheet_here", "_law_label", "_law_date"] (defScope s__law_later) := ⟨rfl, rfl, rfl, by decide +kernel, rfl, by decide +kernel, by decide +kernel⟩
abbrev s__law_common : Stmt := topS 57
abbrev N__law_common : List Str := ["_law_sheet_here", "_law_label", "_law_rival", "_law_spot"]
theorem sc__law_common : FnScope N__law_common ["_law_sheet_here", "_law_label", "_law_rival"] (defScope s__law_common) := ⟨rfl, rfl, rfl, by decide +kernel, rfl, by decide +kernel, by decide +kernel⟩
abbrev s__law_by_days : Stmt := topS 58
abbrev N__law_by_days : List Str := ["_law_spots_here", "_law_spot"]
theorem sc__law_by_days : FnScope N__law_by_days ["_law_spots_here"] (defScope s__law_by_days) := ⟨rfl, rfl, rfl, by decide +kernel, rfl, by decide +kernel, by decide +kernel⟩
abbrev s_law : Stmt := topS 59
abbrev N_law : List Str := ["_law_script", "_law_draw", "_law_turn", "_law_sheet_here", "_law_made", "_law_label", "_law_date", "_law_due", "_law_found", "_law_rival", "_law_odd", "_law_error", "_law_second"]
theorem sc_law : FnScope N_law ["_law_script"] (defScope s_law) := ⟨rfl, rfl, rfl, by decide +kernel, rfl, by decide +kernel, by decide +kernel⟩
/-- what the top has written -/
structure Tx (P : Program) (w : World) (K : PySem.W.Frag) (mg : Str → Option Value) (base : Heap) : Prop where
  d_is_number : GFun K mg "is_number" s_is_number
  d_is_within : GFun K mg "is_within" s_is_within
  d_is_list : GFun K mg "is_list" s_is_list
  d_is_name : GFun K mg "is_name" s_is_name
  d_is_slot : GFun K mg "is_slot" s_is_slot
  d_are_slots : GFun K mg "are_slots" s_are_slots
  d_is_roll : GFun K mg "is_roll" s_is_roll
  d_are_prices : GFun K mg "are_prices" s_are_prices
  d_are_packs : GFun K mg "are_packs" s_are_packs
  d_does_fit : GFun K mg "does_fit" s_does_fit
  d_need_plan : GFun K mg "need_plan" s_need_plan
  d_need_pack : GFun K mg "need_pack" s_need_pack
  d_slots_of : GFun K mg "slots_of" s_slots_of
  d_later_slots : GFun K mg "later_slots" s_later_slots
  d_slots_from : GFun K mg "slots_from" s_slots_from
  d_in_common : GFun K mg "in_common" s_in_common
  d_shared : GFun K mg "shared" s_shared
  d_day_first : GFun K mg "day_first" s_day_first
  d__law_begun : GFun K mg "_law_begun" s__law_begun
  d__law_mixed : GFun K mg "_law_mixed" s__law_mixed
  d__law_take : GFun K mg "_law_take" s__law_take
  d__law_pick : GFun K mg "_law_pick" s__law_pick
  d__law_any_of : GFun K mg "_law_any_of" s__law_any_of
  d__law_names : GFun K mg "_law_names" s__law_names
  d__law_all_spots : GFun K mg "_law_all_spots" s__law_all_spots
  d__law_spots : GFun K mg "_law_spots" s__law_spots
  d__law_last : GFun K mg "_law_last" s__law_last
  d__law_flows : GFun K mg "_law_flows" s__law_flows
  d__law_sheet : GFun K mg "_law_sheet" s__law_sheet
  d__law_plan : GFun K mg "_law_plan" s__law_plan
  d__law_wares : GFun K mg "_law_wares" s__law_wares
  d__law_caught : GFun K mg "_law_caught" s__law_caught
  d__law_later : GFun K mg "_law_later" s__law_later
  d__law_common : GFun K mg "_law_common" s__law_common
  d__law_by_days : GFun K mg "_law_by_days" s__law_by_days
  d_law : GFun K mg "law" s_law
  n_abs : mg "abs" = none
  n_all : mg "all" = none
  n_bool : mg "bool" = none
  n_dict : mg "dict" = none
  n_int : mg "int" = none
  n_isinstance : mg "isinstance" = none
  n_len : mg "len" = none
  n_list : mg "list" = none
  n_max : mg "max" = none
  n_min : mg "min" = none
  n_range : mg "range" = none
  n_repr : mg "repr" = none
  n_set : mg "set" = none
  n_sorted : mg "sorted" = none
  n_str : mg "str" = none
  n_sum : mg "sum" = none
  n_tuple : mg "tuple" = none
  c_LETTERS : ∃ t, mg "LETTERS" = some (.str "abcdefghijklmnopqrstuvwxyz" t)
  c_LONGEST_NAME : ∃ t, mg "LONGEST_NAME" = some (.int 6 t)
  c_MOST_CELLS : ∃ t, mg "MOST_CELLS" = some (.int 3 t)
  c_MOST_DAYS : ∃ t, mg "MOST_DAYS" = some (.int 4 t)
  c_MOST_PACKS : ∃ t, mg "MOST_PACKS" = some (.int 4 t)
  c_MOST_SLOTS : ∃ t, mg "MOST_SLOTS" = some (.int 12 t)
  c_MOST_AMOUNT : ∃ t, mg "MOST_AMOUNT" = some (.int 3 t)
  c_MOST_UNITS : ∃ t, mg "MOST_UNITS" = some (.int 6 t)
  c_MOST_PRICE : ∃ t, mg "MOST_PRICE" = some (.int 9 t)
  c_MOST_COST : ∃ t, mg "MOST_COST" = some (.int 99 t)
  g_PackError : mg "PackError" = some (.ref (He.ga K "PackError"))
  g_BadPack : mg "BadPack" = some (.ref (He.ga K "BadPack"))
  g_BadPlan : mg "BadPlan" = some (.ref (He.ga K "BadPlan"))
  g_BadFit : mg "BadFit" = some (.ref (He.ga K "BadFit"))
  g_TooMany : mg "TooMany" = some (.ref (He.ga K "TooMany"))
  g_NoPack : mg "NoPack" = some (.ref (He.ga K "NoPack"))
  g_BadDay : mg "BadDay" = some (.ref (He.ga K "BadDay"))
  g_Pack : mg "Pack" = some (.ref (He.ga K "Pack"))
  g_Plan : mg "Plan" = some (.ref (He.ga K "Plan"))
  i_Pack : IFun K (He.ga K "Pack") "Pack.__init__" s_Pack___init__ [.non, .non]
  cl_Pack : Cls K (He.ga K "Pack")
  oc_Pack : ("Pack" : Str) ∈ ownCls K
  na_Pack_own_slots : NoAttr K (He.ga K "Pack") "own_slots"
  na_Pack_own_amount : NoAttr K (He.ga K "Pack") "own_amount"
  na_Pack_own_cost : NoAttr K (He.ga K "Pack") "own_cost"
  na_Pack_own_roll : NoAttr K (He.ga K "Pack") "own_roll"
  m_Pack_last : PFun K (He.ga K "Pack") "last" "Pack.last" s_Pack_last
  i_Plan : IFun K (He.ga K "Plan") "Plan.__init__" s_Plan___init__ []
  cl_Plan : Cls K (He.ga K "Plan")
  oc_Plan : ("Plan" : Str) ∈ ownCls K
  na_Plan_own_prices : NoAttr K (He.ga K "Plan") "own_prices"
  na_Plan_own_days : NoAttr K (He.ga K "Plan") "own_days"
  na_Plan_own_names : NoAttr K (He.ga K "Plan") "own_names"
  na_Plan_own_rows : NoAttr K (He.ga K "Plan") "own_rows"
  oi_PackError : ("PackError" : Str) ∈ ownCls K ++ ownX K
  ox_PackError : ("PackError" : Str) ∈ ownX K
  e_PackError : PySem.W.excIn K (He.ga K "PackError") He.veBase "ValueError.__new__" = true ∧ PySem.W.keepIn K (.ref (He.ga K "PackError")) = true ∧ PySem.W.subIn K (.ref (He.ga K "PackError")) (.type "BaseException") = some true ∧ PySem.W.typeIn K (.ref (He.ga K "PackError")) = some (.type "type")
  oi_BadPack : ("BadPack" : Str) ∈ ownCls K ++ ownX K
  ox_BadPack : ("BadPack" : Str) ∈ ownX K
  s_BadPack : SupC P K (He.ga K "BadPack") (fiOf K "BadPack") "part"
  oi_BadPlan : ("BadPlan" : Str) ∈ ownCls K ++ ownX K
  ox_BadPlan : ("BadPlan" : Str) ∈ ownX K
  s_BadPlan : SupC P K (He.ga K "BadPlan") (fiOf K "BadPlan") "part"
  oi_BadFit : ("BadFit" : Str) ∈ ownCls K ++ ownX K
  ox_BadFit : ("BadFit" : Str) ∈ ownX K
  s_BadFit : SupC P K (He.ga K "BadFit") (fiOf K "BadFit") "name"
  oi_TooMany : ("TooMany" : Str) ∈ ownCls K ++ ownX K
  ox_TooMany : ("TooMany" : Str) ∈ ownX K
  s_TooMany : SupC P K (He.ga K "TooMany") (fiOf K "TooMany") "most"
  oi_NoPack : ("NoPack" : Str) ∈ ownCls K ++ ownX K
  ox_NoPack : ("NoPack" : Str) ∈ ownX K
  s_NoPack : SupC P K (He.ga K "NoPack") (fiOf K "NoPack") "name"
  oi_BadDay : ("BadDay" : Str) ∈ ownCls K ++ ownX K
  ox_BadDay : ("BadDay" : Str) ∈ ownX K
  s_BadDay : SupC P K (He.ga K "BadDay") (fiOf K "BadDay") "day"
  oi_Pack : ("Pack" : Str) ∈ ownCls K ++ ownX K
  oi_Plan : ("Plan" : Str) ∈ ownCls K ++ ownX K
  ct : ClsT K (ownCls K) (ownX K)
  nx_day : NoX K "day"
  nx_name : NoX K "name"
  l_law : LFun K mg base "law" s_law
end ND
/-! the law itself: the draw is begun -/
namespace ND
open PySem PySem.Spec PyProof.Rows L2 LamX
def budget : Nat := 2 ^ 40 - 30000
/-- what is known when the draw has begun -/
structure Beg (K : PySem.W.Frag) (H : Hp) (a d aw ac : Addr) (ns cs : List Int) : Prop where
  dr : Draw K d aw ac 0 H
  sc : Rd H a (.lst (ns.map V.int))
  ce : H ac = some (.lst (cs.map V.int))
  cl : cs.length ≤ 63
  cb : ∀ z ∈ cs, 0 ≤ z ∧ z < 2147483629
  nad : a ≠ d
  naw : a ≠ aw
  ntd : ∀ p ∈ tbsOf K, p.1 ≠ d ∧ p.1 ≠ aw
  tb : Tabs (tbsOf K) H
section
variable {K : PySem.W.Frag} {H H' : Hp} {a d aw ac : Addr} {ns cs : List Int}
def fixB (H : Hp) (a ac : Addr) : Hp := fun b => if b = a then H a else if b = ac then H ac else none
theorem fixB_same (H : Hp) (a ac : Addr) : Same (fixB H a ac) H := fun b o e => by
  unfold fixB at e
  split at e
  · rename_i h; rw [h]; exact e
  · split at e
    · rename_i h; rw [h]; exact e
    · cases e
theorem fixB_ac (H : Hp) (a ac : Addr) : fixB H a ac ac = H ac := by
  unfold fixB
  by_cases h : ac = a
  · rw [if_pos h, h]
  · rw [if_neg h, if_pos rfl]
structure InvB (K : PySem.W.Frag) (d aw ac : Addr) (cs : List Int) (n : Nat) (H : Hp) : Prop where
  le : n ≤ budget
  dr : Draw K d aw ac (budget - n) H
  ce : H ac = some (.lst (cs.map V.int))
  tb : Tabs (tbsOf K) H
def volB (K : PySem.W.Frag) (d aw : Addr) (b : Addr) : Prop := b = d ∨ b = aw ∨ ∃ p ∈ tbsOf K, p.1 = b
theorem Draw.hd_ (h : Draw K d aw ac n H) : ∃ kvs, H d = some (.dK kvs) := by
  obtain ⟨ws, cs, r, t, hd, _⟩ := h.ex
  exact ⟨_, hd⟩
theorem Draw.hw_ (h : Draw K d aw ac n H) : ∃ vs, H aw = some (.lst vs) := by
  obtain ⟨ws, cs, r, t, hd, hw, _⟩ := h.ex
  exact ⟨_, hw⟩
theorem vol_not_ext {n : Nat} {c : Addr} {φ} (h : InvB K d aw ac cs n H) (e : H c = some (.ext φ)) : ¬ volB K d aw c := by
  rintro (rfl | rfl | ⟨p, hp, rfl⟩)
  · obtain ⟨_, q⟩ := h.dr.hd_
    rw [q] at e; cases e
  · obtain ⟨_, q⟩ := h.dr.hw_
    rw [q] at e; cases e
  · obtain ⟨ps, q, _⟩ := h.tb p hp
    rw [q] at e; cases e
theorem tabs_keep {T : List (Addr × Str)} (h : Tabs T H) (k1 : ∀ p ∈ T, H' p.1 = H p.1) (k2 : ∀ c φ, H c = some (.ext φ) → H' c = some (.ext φ)) : Tabs T H' := fun p hp => by
  obtain ⟨ps, h1, h2, h3⟩ := h p hp
  refine ⟨ps, by rw [k1 p hp]; exact h1, h2, fun pos cv hc => ?_⟩
  obtain ⟨c, e1, e2⟩ := h3 pos cv hc
  exact ⟨c, e1, k2 c _ e2⟩
theorem draw_keep {T : Nat} (h : Draw K d aw ac T H) (h1 : H' d = H d) (h2 : H' aw = H aw) (h3 : H' ac = H ac) : Draw K d aw ac T H' := by
  obtain ⟨⟨ws, cs, r, t, hd, hw, hc, z⟩, ne⟩ := h
  exact ⟨⟨ws, cs, r, t, by rw [h1]; exact hd, by rw [h2]; exact hw, by rw [h3]; exact hc, z⟩, ne⟩
def cfgB (ct : ClsT K (ownCls K) (ownX K)) (B : Beg K H a d aw ac ns cs) : Cfg K where
  d := d
  vol := volB K d aw
  inv := InvB K d aw ac cs
  fix := fixB H a ac
  stab := fun n H1 H2 i v x f => by
    have e : H2 ac = some (.lst (cs.map V.int)) := f ac _ (by rw [fixB_ac]; exact B.ce)
    refine ⟨i.le, draw_keep i.dr (v d (.inl rfl)) (v aw (.inr (.inl rfl))) (by rw [e, i.ce]), e, tabs_keep i.tb (fun p hp => v _ (.inr (.inr ⟨p, hp, rfl⟩))) fun c φ q => x c φ (vol_not_ext i q) q⟩
  trk := fun n H1 b i v z => by
    rcases v with rfl | rfl | ⟨p, hp, rfl⟩
    · obtain ⟨_, q⟩ := i.dr.hd_
      rw [q] at z; cases z
    · obtain ⟨_, q⟩ := i.dr.hw_
      rw [q] at z; cases z
    · obtain ⟨ps, q, _⟩ := i.tb p hp
      rw [q] at z; cases z
  ct := ct
  lk := []
  fixd := fun b kvs z => by
    have z := z
    unfold fixB at z
    split at z
    · rcases B.sc with q | ⟨o, q⟩ <;> rw [q] at z <;> cases z
    · split at z
      · rw [B.ce] at z; cases z
      · cases z
  tbo := fun n H1 i => i.tb
  tbv := fun p hp => .inr (.inr ⟨p, hp, rfl⟩)
  tbx := fun n H1 H2 p hp i x t => by
    obtain ⟨ps, q, _⟩ := i.tb p hp
    have kd : H2 d = H1 d := by
      obtain ⟨_, e⟩ := i.dr.hd_
      rw [e]; exact x.1 d _ (fun z => by rw [z, q] at e; cases e) e
    have kw : H2 aw = H1 aw := by
      obtain ⟨_, e⟩ := i.dr.hw_
      rw [e]; exact x.1 aw _ (fun z => by rw [z, q] at e; cases e) e
    have kc : H2 ac = H1 ac := by
      have e := i.ce
      rw [e]; exact x.1 ac _ (fun z => by rw [z, q] at e; cases e) e
    exact ⟨i.le, draw_keep i.dr kd kw kc, by rw [kc]; exact i.ce, t⟩
  go := fun n m H1 i => by
    have hb : budget + 30000 = 2 ^ 40 := by decide
    have le := i.le
    refine ⟨aw, ac, budget - (n + m), i.dr, by omega, .inl rfl, .inr (.inl rfl), (by rw [fixB_ac, B.ce]; intro z; cases z), fun H2 D k => ?_⟩
    have kt : ∀ p ∈ tbsOf K, H2 p.1 = H1 p.1 := fun p hp => by
      obtain ⟨ps, q, _⟩ := i.tb p hp
      rw [q]
      exact k _ _ (B.ntd p hp).1 (B.ntd p hp).2 q
    have kc : H2 ac = H1 ac := by
      have e := i.ce
      rw [e]
      refine k _ _ (fun z => ?_) (fun z => i.dr.ne z.symm) e
      obtain ⟨_, q⟩ := i.dr.hd_
      rw [z, q] at e; cases e
    refine ⟨by omega, ?_, by rw [kc]; exact i.ce, tabs_keep i.tb kt fun c φ q => ?_⟩
    · have e : budget - (n + m) + m = budget - n := by omega
      rw [← e]; exact D
    · have nv := vol_not_ext i q
      exact k c _ (fun z => nv (.inl z)) (fun z => nv (.inr (.inl z))) q
theorem wl_B (ct : ClsT K (ownCls K) (ownX K)) (B : Beg K H a d aw ac ns cs) : Wl (cfgB ct B) budget (fixB H a ac) H := by
  have hb : budget - budget = 0 := by omega
  refine ⟨fixB_same _ _ _, fun b v => ?_, Same.refl _, fun b o kvs z => ?_, ⟨Nat.le_refl _, by rw [hb]; exact B.dr, B.ce, B.tb⟩⟩
  · have na : b ≠ a := fun z => by
      rcases v with q | q | ⟨p, hp, q⟩
      · exact B.nad (z.symm.trans q)
      · exact B.naw (z.symm.trans q)
      · obtain ⟨ps, e, _⟩ := B.tb p hp
        rw [q, z] at e
        rcases B.sc with r | ⟨o, r⟩ <;> rw [r] at e <;> cases e
    have nc : b ≠ ac := fun z => by
      have e := B.ce
      rw [← z] at e
      rcases v with q | q | ⟨p, hp, q⟩
      · obtain ⟨_, r⟩ := B.dr.hd_
        rw [q, r] at e; cases e
      · exact B.dr.ne (q.symm.trans z)
      · obtain ⟨ps, r, _⟩ := B.tb p hp
        rw [q, e] at r; cases r
    show fixB H a ac b = none
    unfold fixB
    rw [if_neg na, if_neg nc]
  · have z : fixB H a ac b = some (.frz o (.dK kvs)) := z
    unfold fixB at z
    split at z
    · rcases B.sc with q | ⟨o, q⟩ <;> rw [q] at z <;> cases z
    · split at z
      · rw [B.ce] at z; cases z
      · cases z
/-- what a def gets that begins the draw -/
def spBg (K : PySem.W.Frag) : Sp := fun vs H Q _ => ∃ (a : Addr) (ns : List Int), vs = [.ref a] ∧ SqL K H a (ns.map V.int) ∧ ns.length ≤ 63 ∧
  ∀ (d aw ac : Addr) (H' : Hp), Draw K d aw ac 0 H' → Same H H' → H d = none → H aw = none → Q (.ref d) H'
/-- the law's own promise -/
def spLw (K : PySem.W.Frag) : Sp := fun vs H Q _ => ∃ (a : Addr) (ns : List Int), vs = [.ref a] ∧ Rd H a (.lst (ns.map V.int)) ∧ ns.length ≤ 63 ∧ Tabs (tbsOf K) H ∧ ∀ H', Q (.bl true) H'
def rho0 (N : Nat) (ns : List Int) : Rho := .lst (ns.map D.int) :: .drw :: List.replicate (N - 2) .non
def gam0 (N : Nat) : List Md := .fr :: .fr :: List.replicate (N - 2) .un
/-- what is to be shown of a law, on plain data -/
def LawD (N : Nat) (ψ : Rho → Out Res) : Prop := ∀ ns : List Int, ns.length ≤ 63 → (ψ (rho0 N ns)).wp budget (fun _ r => match r with
  | .rt d => d = .bl true
  | _ => False) (fun _ _ _ => False)
theorem rep_ints {K : PySem.W.Frag} {C : Cfg K} {G : Hp} : ∀ {ns : List Int}, RepL C G (ns.map V.int) (ns.map D.int)
  | [] => .nil
  | n :: ns => .cons (.int n) rep_ints
theorem law_run {E : XK} {N : List Str} {t : TS} {ψ : Rho → Out Res} {Γn Γb Γc : List Md} {Q : VK} (ct : ClsT K (ownCls K) (ownX K)) (hN : 2 ≤ N.length) (hS : ∀ C : Cfg K, C.lk = [] → SimS .fr C E (gam0 N.length) t ψ Γn Γb Γc) (hL : LawD N.length ψ)
    (h : spLw K [.ref a] H Q E) : tSeq (tAsg (tCall (spBg K) [] E (tCons (tVar 0) tNil)) (gName 1)) t { nx := fun _ H' => Q .non H', rt := Q } (L2.start N [.ref a]) H := by
  obtain ⟨a', ns, e0, hS0, hl, hT, q⟩ := h
  cases e0
  refine ⟨.ref a, ?_, a, ns, rfl, .inl hS0, hl, fun d aw ac H' Dr s nd nw => ?_⟩
  · unfold L2.start
    rfl
  obtain ⟨ws, cs, r, tt, hd, hw, hc, z1, z2, z3, z4, _⟩ := id Dr.ex
  have hT' := hT.ext s
  have ne : ∀ {b : Addr}, H b = none → a ≠ b := fun {b} hb z => by
    rw [← z] at hb
    rcases hS0 with e | ⟨o, e⟩ <;> rw [e] at hb <;> cases hb
  have B : Beg K H' a d aw ac ns cs := ⟨Dr, Evl.ex_rd s hS0, hc, z3, z4, ne nd, ne nw, fun p hp => by
    obtain ⟨ps, e, _⟩ := hT p hp
    exact ⟨fun z => (by rw [z, nd] at e; cases e), fun z => (by rw [z, nw] at e; cases e)⟩, hT'⟩
  have W := wl_B ct B
  refine hS (cfgB ct B) rfl (fixB H' a ac) H' budget (fixB H' a ac) H' _ (rho0 N.length ns) _ (Ws.refl W) ?_ (Out.wp_mono (fun m r k => ?_) (fun _ _ _ z => z.elim) (hL ns hl))
  · have fa : fixB H' a ac a = H' a := by unfold fixB; rw [if_pos rfl]
    have ra : Rep (cfgB ct B) (fixB H' a ac) (.ref a) (.lst (ns.map D.int)) := by
      refine .lst ?_ rep_ints (by rw [List.length_map]; omega)
      rcases B.sc with e | ⟨o, e⟩
      · exact .inl (by rw [fa]; exact e)
      · exact .inr ⟨o, by rw [fa]; exact e⟩
    obtain ⟨n0, N, rfl⟩ : ∃ n0 N', N = n0 :: N' := by
      cases N with
      | nil => simp at hN
      | cons x y => exact ⟨x, y, rfl⟩
    obtain ⟨n1, N, rfl⟩ : ∃ n1 N', N = n1 :: N' := by
      cases N with
      | nil => simp at hN
      | cons x y => exact ⟨x, y, rfl⟩
    refine ⟨fun i => ?_, fun i j p hij hi hj => ?_, ?_, ?_⟩
    · match i with
      | 0 => exact ⟨_, rfl, ra⟩
      | 1 => exact ⟨_, rfl, .drw⟩
      | i + 2 =>
        have : (gam0 (n0 :: n1 :: N).length).getD (i + 2) .un = .un := by
          show (List.replicate _ Md.un).getD i .un = .un
          rw [List.getD_eq_getElem?_getD, List.getElem?_replicate]
          split <;> rfl
        rw [this]
        exact True.intro
    · have : ((gam0 (n0 :: n1 :: N).length).getD i .un).isOw = false := by
        match i with
        | 0 => rfl
        | 1 => rfl
        | i + 2 =>
          show ((List.replicate _ Md.un).getD i .un).isOw = false
          rw [List.getD_eq_getElem?_getD, List.getElem?_replicate]
          split <;> rfl
      rw [this] at hi
      cases hi
    · unfold gam0 L2.start
      simp
    · unfold rho0 L2.start
      simp
  · cases r with
    | rt dd =>
      have : dd = .bl true := k
      subst this
      intro v G1 H1 s1 _ rv
      cases rv
      exact q H1
    | nx _ => exact k.elim
    | bk _ => exact k.elim
    | ct _ => exact k.elim
end
end ND
/-! the head's facts, with properties and tables -/
namespace ND
open PySem PySem.W PySem.Spec PySem.Calls PyProof.Rows L2 He
/-- where a def stands: a global, a method, a property's getter -/
inductive At where
  | g (x : Str)
  | m (c f : Str)
  | p (c f : Str)
def At.ad (K : Frag) : At → Addr
  | .g x => ga K x
  | .m c f => ma K (ga K c) f
  | .p c f => (match recIn K (ma K (ga K c) f) "property" with
    | some (.ref b :: _) => b
    | _ => 0)
structure DefT where
  loc : At
  name : Str
  qual : Str
  st : Stmt
  dn : Nat
def seenT (K : Frag) (b : Addr) : FnW := match K.lookup b with
  | some ⟨_, _, .func fd, _⟩ => some (fd.name, fd.qualname, fd.params, fd.body, fd.scope, fd.globals, fd.closure, fd.builtins)
  | _ => none
def DefT.val (t : DefT) : FnW := some (t.name, t.qual, defArgs t.st, .stmts (defBody t.st), defScope t.st, mainGlobals, [], builtinsNs)
def DefT.chk (K : Frag) (t : DefT) : Bool := keepIn K (.ref (t.loc.ad K)) && (match K.lookup (t.loc.ad K) with
  | some ⟨_, _, .func fd, _⟩ => codeIn K fd.code t.qual && (dflB K fd.defaults (List.replicate t.dn .non) && kwdB K fd.kwdefaults [])
  | _ => false)
theorem DefT.is {K : Frag} {t : DefT} (e : seenT K (t.loc.ad K) = t.val) (c : t.chk K = true) :
    ∃ (oc : Value) (od : Option Addr) (dV kV doc pm : Value) (an : Option Addr) (cdv ct : Value) (osl : Array (Option Value)), K.lookup (t.loc.ad K) = some ⟨oc, od, .func (fnOf t.name t.qual (defArgs t.st) (defBody t.st) (defScope t.st) dV kV doc pm an cdv ct), osl⟩ ∧
      codeIn K cdv t.qual = true ∧ DflV K dV (List.replicate t.dn .non) ∧ KwdV K kV [] ∧ keepIn K (.ref (t.loc.ad K)) = true := by
  obtain ⟨kp, c⟩ := ba c
  unfold seenT at e
  split at e
  · rename_i oc od fd osl q
    rw [q] at c
    obtain ⟨a1, a2, a3, a4, a5, a6, a7, a8, a9, a10, a11, a12, a13, a14, a15⟩ := fd
    unfold DefT.val at e
    simp only [Option.some.injEq, Prod.mk.injEq] at e
    obtain ⟨e1, e2, e3, e4, e5, e6, e7, e8⟩ := e
    dsimp only at c
    obtain ⟨c1, c⟩ := ba c
    obtain ⟨c2, c3⟩ := ba c
    subst e1 e2 e3 e4 e5 e6 e7 e8
    exact ⟨oc, od, a8, a9, a10, a11, a12, a13, a14, osl, q, c1, dflB_ok c2, kwdB_ok c3, kp⟩
  · cases e
theorem DefT.funD {K : Frag} {t : DefT} (e : seenT K (t.loc.ad K) = t.val) (c : t.chk K = true) : ∃ fd, FunD K t.name t.qual (defArgs t.st) (defBody t.st) (defScope t.st) (List.replicate t.dn .non) [] (t.loc.ad K) fd := by
  obtain ⟨oc, od, dV, kV, doc, pm, an, cdv, ct, osl, q, c1, c2, c3, kp⟩ := DefT.is e c
  exact ⟨_, ⟨oc, od, dV, kV, doc, pm, an, cdv, ct, osl, rfl, q, c1, c2, c3⟩, kp⟩
/-! ### K without the tables -/
theorem memL : ∀ {K : Frag} {a : Addr} {o : Obj}, K.lookup a = some o → (a, o) ∈ K
  | [], _, _, h => by cases h
  | (b, x) :: K, a, o, h => by
    rw [List.lookup_cons] at h
    split at h
    · rename_i e
      cases h
      rw [beq_iff_eq.mp e]
      exact List.mem_cons_self
    · exact List.mem_cons_of_mem _ (memL h)
def cutT (K : Frag) : Frag := K.filter fun p => !((tbsOf K).map (·.1)).contains p.1
theorem lookup_cut {l : List Addr} : ∀ {K : Frag} {a : Addr} {o : Obj}, (K.filter fun p => !l.contains p.1).lookup a = some o → K.lookup a = some o
  | [], _, _, h => by cases h
  | (b, x) :: K, a, o, h => by
    by_cases hb : (!l.contains b) = true
    · rw [List.filter_cons_of_pos (p := fun p : Addr × Obj => !l.contains p.1) (a := (b, x)) hb] at h
      rw [List.lookup_cons] at h ⊢
      split at h
      · exact h
      · exact lookup_cut h
    · rw [List.filter_cons_of_neg (p := fun p : Addr × Obj => !l.contains p.1) (a := (b, x)) hb] at h
      have ha : a ≠ b := fun z => by
        have hm : (a, o) ∈ K.filter fun p => !l.contains p.1 := memL h
        have := (List.mem_filter.mp hm).2
        subst z
        exact hb this
      rw [List.lookup_cons, show (a == b) = false from beq_eq_false_iff_ne.mpr ha]
      exact lookup_cut h
theorem cutT_in {K : Frag} {h : Heap} (x : K.In h) : (cutT K).In h := fun a o e => x a o (lookup_cut e)
/-! ### the checks -/
def noLists (K : Frag) : Bool := K.all fun p => decide (p.2.cls ≠ .type "list")
theorem noLists_rd {K : Frag} (c : noLists K = true) {H : Hp} {a : Addr} {xs : List V} (h : SqL K H a xs) : Rd H a (.lst xs) := by
  rcases h with h | ⟨o, its, n, q, hc, _⟩
  · exact h
  · have := List.all_eq_true.mp c (a, o) (memL q)
    exact absurd hc (of_decide_eq_true this)
def tabObjB : Obj → Bool
  | ⟨.none, none, .fields vs, sl⟩ => decide (vs.size = 0) && decide (sl.size = 0)
  | _ => false
theorem tabObjB_ok {o : Obj} (h : tabObjB o = true) : o = { cls := .none, data := .fields #[] } := by
  unfold tabObjB at h
  split at h
  · rename_i vs sl
    obtain ⟨h1, h2⟩ := ba h
    have e1 : vs = #[] := Array.eq_empty_of_size_eq_zero (of_decide_eq_true h1)
    have e2 : sl = #[] := Array.eq_empty_of_size_eq_zero (of_decide_eq_true h2)
    subst e1 e2
    rfl
  · cases h
def hdB (K : Frag) (c P : Addr) : Bool := match K.lookup c with
  | some ⟨.type t, _, .fields vs, _⟩ => decide (t = "code") && (decide (vs[11]? = some (.ref P)) && (decide (c ≠ P) && (match vs.getD 18 .none, vs.getD 7 .none, vs.getD 9 .none, vs.getD 10 .none with
    | .str _ _, .int _ _, .bool _, .int _ _ => true
    | _, _, _, _ => false)))
  | _ => false
theorem hdB_ok {K : Frag} {h : Heap} (X : K.In h) {c P : Addr} (e : hdB K c P = true) : CodeHd h c P := by
  unfold hdB at e
  split at e
  · rename_i t dd vs sl q
    obtain ⟨h1, e⟩ := ba e
    obtain ⟨h2, e⟩ := ba e
    obtain ⟨h3, e⟩ := ba e
    have h1' := of_decide_eq_true h1
    have h2' := of_decide_eq_true h2
    have h2d : vs.getD 11 .none = .ref P := by
      rw [Array.getD_eq_getD_getElem?, h2']
      rfl
    split at e
    · rename_i f1 f2 f3 f4 f5 f6 f7 g1 g2 g3 g4
      exact ⟨_, vs, f1, f2, f3, f4, f5, f6, f7, X c _ q, by rw [h1'], rfl, h2', h2d, g1, g2, g3, g4, of_decide_eq_true h3⟩
    · cases e
  · cases e
def makersK (K : Frag) : List Str := makers.filter (hasG K)
def tabsB (K0 K : Frag) : Bool := (makersK K).all fun x => hdB K (codeOf K x) (tabOf K x) && ((match K0.lookup (tabOf K x) with
  | some o => tabObjB o
  | none => false) && (K.lookup (tabOf K x)).isNone)
def clTyB (K : Frag) (C : Addr) : Bool := (plainGet K C Str.empty && (hasDictIn K C && (plainOver K C && eqO (findIn K (.ref C) "__setattr__") (some (some (.builtin "object.__setattr__")))))) &&
  (eqO (findIn K (.ref C) "__class__") (some (some (.builtin "object.__class__"))) && (eqO (specialIn K (.builtin "object.__class__") "__get__") (some (some (.builtin "getset_descriptor.__get__"))) &&
    (decide (takesIn K (.builtin "object.__class__") = some true) && decide (mroIn K C (.type "object") = some true))))
theorem clTyB_ok {K : Frag} {C : Addr} (h : clTyB K C = true) : ClTy K C := by
  obtain ⟨c, h⟩ := ba h
  obtain ⟨c1, c⟩ := ba c
  obtain ⟨c2, c⟩ := ba c
  obtain ⟨c3, c4⟩ := ba c
  obtain ⟨h1, h⟩ := ba h
  obtain ⟨h2, h⟩ := ba h
  obtain ⟨h3, h4⟩ := ba h
  exact ⟨⟨c1, c2, c3, eqO_ok c4⟩, eqO_ok h1, eqO_ok h2, of_decide_eq_true h3, of_decide_eq_true h4⟩
def ctB (K : Frag) : Bool := ((ownCls K).all fun c => clTyB K (ga K c)) && (((ownX K).all fun c => exkB K (ga K c)) && (((ownCls K ++ ownX K).all fun c => (tyNs.all fun n => decide (kitOne K (.ref (ga K c)) (.type n) = some false) && decide (kitOne K (.type n) (.ref (ga K c)) = some false)) &&
  ((ownCls K ++ ownX K).all fun c' => decide (kitOne K (.ref (ga K c)) (.ref (ga K c')) = some (isaB c c')))) && ((ownX K).all fun c => decide (exmOne K (.ref (ga K c)) (.ref (ga K "PackError")) = some true))))
theorem ctB_ok {K : Frag} (h : ctB K = true) : ClsT K (ownCls K) (ownX K) := by
  obtain ⟨h1, h⟩ := ba h
  obtain ⟨h2, h⟩ := ba h
  obtain ⟨h3, h4⟩ := ba h
  have k3 := fun c hc => ba (List.all_eq_true.mp h3 c hc)
  refine ⟨fun c hc => clTyB_ok (List.all_eq_true.mp h1 c hc), fun c hc => exkB_ok (List.all_eq_true.mp h2 c hc), fun c hc n hn => ?_, fun c hc n hn => ?_, fun c hc c' hc' => ?_, fun c hc => of_decide_eq_true (List.all_eq_true.mp h4 c hc)⟩
  · exact of_decide_eq_true (ba (List.all_eq_true.mp (k3 c hc).1 n hn)).1
  · exact of_decide_eq_true (ba (List.all_eq_true.mp (k3 c hc).1 n hn)).2
  · exact of_decide_eq_true (List.all_eq_true.mp (k3 c hc).2 c' hc')
def propB (K : Frag) (c f : Str) : Bool := eqO (findIn K (.ref (ga K c)) f) (some (some (.ref (ma K (ga K c) f)))) && (eqO (specialIn K (.ref (ma K (ga K c) f)) "__get__") (some (some (.builtin "property.__get__"))) && (decide (takesIn K (.ref (ma K (ga K c) f)) = some true) &&
  (match recIn K (ma K (ga K c) f) "property" with
    | some (.ref _ :: _) => true
    | _ => false)))
theorem propB_ok {K : Frag} {c f : Str} (h : propB K c f = true) : PropOf K (ga K c) f (ma K (ga K c) f) ((At.p c f).ad K) := by
  obtain ⟨h1, h⟩ := ba h
  obtain ⟨h2, h⟩ := ba h
  obtain ⟨h3, h4⟩ := ba h
  refine ⟨eqO_ok h1, eqO_ok h2, of_decide_eq_true h3, ?_⟩
  split at h4
  · rename_i b rest q
    refine ⟨rest, ?_⟩
    show _ = some (Value.ref (match recIn K (ma K (ga K c) f) "property" with
      | some (.ref b :: _) => b
      | _ => 0) :: rest)
    rw [q]
  · cases h4
def nxB (K : Frag) (f : Str) : Bool := (ownX K).all fun c => eqO (findIn K (.ref (ga K c)) f) (some none)
theorem nxB_ok {K : Frag} {f : Str} (h : nxB K f = true) : NoX K f := fun c hc => eqO_ok (List.all_eq_true.mp h c hc)
/-- what all laws ask, beside their own names -/
def allB (prog : Program) (sups props : List (Str × Str)) (oc ox nx : List Str) (K0 K : Frag) : Bool :=
  (sups.all fun p => supChk prog K p.1 p.2) && ((props.all fun p => propB K p.1 p.2) && ((oc.all fun c => (ownCls K).contains c) && ((ox.all fun c => (ownX K).contains c) && ((nx.all fun f => nxB K f) &&
    (ctB K && (noLists K && (tabsB K0 K && decide ((tbsOf K).map (·.1)).Nodup)))))))
/-! ### the Hook -/
abbrev AlT : Type := Bool × (List FnW × List SupW)
structure Ask where
  fa : List Fa
  fn : List DefT
  sd : List SupD
  ex : Frag → Frag → Bool
def Ask.on (q : Ask) (K0 K : Frag) : AlT := ((q.fa.all fun f => f.ok K) && ((q.fn.all fun d => d.chk K) && q.ex K0 K), (q.fn.map fun d => seenT K (d.loc.ad K), q.sd.map fun d => supW K d.x))
def Ask.val (q : Ask) : AlT := (true, (q.fn.map DefT.val, q.sd.map SupD.val))
def Ask.obs (q : Ask) (n : Nat) (g : Addr → Option Obj) : AlT := q.on (frG g (asN g n)) (cutT (frG g (asN g n)))
structure Told (q : Ask) (K0 K : Frag) : Prop where
  e : q.on K0 K = q.val
def hookT (n : Nat) (q : Ask) : Hook where
  α := AlT
  obs := fun s => q.obs n s.heap.get?
  val := fun _ => q.val
  says := fun _ h => ∃ K0 K : Frag, K0.In h ∧ K.In h ∧ Told q K0 K
  of := fun _ s e => ⟨_, _, frG_in, cutT_in frG_in, ⟨e⟩⟩
  keeps := fun _ _ _ ⟨K0, K, h0, h1, c⟩ k => ⟨K0, K, Frag.In.keeps h0 k, Frag.In.keeps h1 k, c⟩
theorem obsT_eq {n : Nat} {q : Ask} {g : Addr → Option Obj} {s : Shared} (h : ∀ a, g a = s.heap.get? a) : q.obs n g = (hookT n q).obs s := by
  have e : g = s.heap.get? := funext h
  rw [e]
  rfl
section
variable {q : Ask} {K0 K : Frag}
theorem Told.p (c : Told q K0 K) : (q.fa.all fun f => f.ok K) = true ∧ (q.fn.all fun d => d.chk K) = true ∧ q.ex K0 K = true := by
  have z : ((q.fa.all fun f => f.ok K) && ((q.fn.all fun d => d.chk K) && q.ex K0 K)) = true := congrArg Prod.fst c.e
  obtain ⟨h1, h⟩ := ba z
  obtain ⟨h2, h3⟩ := ba h
  exact ⟨h1, h2, h3⟩
theorem Told.fact (c : Told q K0 K) (i : Nat) {f : Fa} (h : q.fa[i]? = some f) : f.ok K = true := List.all_eq_true.mp c.p.1 f (List.mem_of_getElem? h)
theorem Told.seen (c : Told q K0 K) (i : Nat) {d : DefT} (h : q.fn[i]? = some d) : seenT K (d.loc.ad K) = d.val ∧ d.chk K = true := by
  refine ⟨?_, List.all_eq_true.mp c.p.2.1 d (List.mem_of_getElem? h)⟩
  have z : (q.fn.map fun d => seenT K (d.loc.ad K))[i]? = (q.fn.map DefT.val)[i]? := by
    have := congrArg (fun x : AlT => x.2.1) c.e
    exact congrArg (·[i]?) this
  rw [List.getElem?_map, List.getElem?_map, h] at z
  exact Option.some.inj z
theorem Told.sup (c : Told q K0 K) (i : Nat) {d : SupD} (h : q.sd[i]? = some d) : supW K d.x = d.val := by
  have z : (q.sd.map fun d => supW K d.x)[i]? = (q.sd.map SupD.val)[i]? := by
    have := congrArg (fun x : AlT => x.2.2) c.e
    exact congrArg (·[i]?) this
  rw [List.getElem?_map, List.getElem?_map, h] at z
  exact Option.some.inj z
end
end ND
/-! the end of a law, with tables -/
namespace ND
open PySem PySem.W PySem.Spec PySem.Calls PyProof.Rows L2 He
section
variable {q : Ask} {K0 K : Frag} {mg : Str → Option Value} {h base : Heap} {prog : Program}
theorem Told.gfun (c : Told q K0 K) (i : Nat) {x : Str} {st : Stmt} (e : q.fn[i]? = some ⟨.g x, x, x, st, 0⟩) (hm : mg x = some (.ref (ga K x))) : GFun K mg x st := by
  obtain ⟨s, k⟩ := c.seen i e
  obtain ⟨fd, F⟩ := DefT.funD s k
  exact ⟨⟨_, fd, F, hm⟩⟩
theorem Told.ifun (c : Told q K0 K) (i : Nat) {x qn : Str} {st : Stmt} {n : Nat} (e : q.fn[i]? = some ⟨.m x "__init__", "__init__", qn, st, n⟩) (hm : Mk K (ga K x) (ma K (ga K x) "__init__")) : IFun K (ga K x) qn st (List.replicate n .non) := by
  obtain ⟨s, k⟩ := c.seen i e
  obtain ⟨fd, F⟩ := DefT.funD s k
  exact ⟨⟨_, fd, F, hm⟩⟩
theorem Told.mfun (c : Told q K0 K) (i : Nat) {x m qn : Str} {st : Stmt} (e : q.fn[i]? = some ⟨.m x m, m, qn, st, 0⟩) (hm : Meth K (ga K x) m (ma K (ga K x) m)) : MFun K (ga K x) m qn st := by
  obtain ⟨s, k⟩ := c.seen i e
  obtain ⟨fd, F⟩ := DefT.funD s k
  exact ⟨⟨_, fd, F, hm⟩⟩
theorem Told.pfun (c : Told q K0 K) (i : Nat) {x m qn : Str} {st : Stmt} (e : q.fn[i]? = some ⟨.p x m, m, qn, st, 0⟩) (hm : PropOf K (ga K x) m (ma K (ga K x) m) ((At.p x m).ad K)) : PFun K (ga K x) m qn st := by
  obtain ⟨s, k⟩ := c.seen i e
  obtain ⟨fd, F⟩ := DefT.funD s k
  exact ⟨⟨_, _, fd, F, hm⟩⟩
theorem hasG_of {x : Str} (e : nsIn K mainGlobals x = some (some (.ref (ga K x)))) : hasG K x = true := by
  unfold hasG
  rw [e]
theorem mem_tbs {x : Str} (hx : x ∈ makers) (e : nsIn K mainGlobals x = some (some (.ref (ga K x)))) : (tabOf K x, x ++ ".<locals>." ++ "<lambda>") ∈ tbsOf K := List.mem_map.mpr ⟨x, List.mem_filter.mpr ⟨hx, hasG_of e⟩, rfl⟩
def csOf (K : Frag) : List (Addr × Addr) := (makersK K).map fun x => (codeOf K x, tabOf K x)
theorem Told.lfun (c : Told q K0 K) (i : Nat) {x : Str} {st : Stmt} (e : q.fn[i]? = some ⟨.g x, x, x, st, 0⟩) (hm : mg x = some (.ref (ga K x))) (hx : x ∈ makers) (hg : nsIn K mainGlobals x = some (some (.ref (ga K x)))) (nd : ((tbsOf K).map (·.1)).Nodup)
    (tb : ∀ p ∈ csOf K, LamX.TabB base mg p.1 p.2) : LFun K mg base x st := by
  obtain ⟨s, k⟩ := c.seen i e
  obtain ⟨oc, od, dV, kV, doc, pm, an, cdv, ct, osl, lk, c1, c2, c3, kp⟩ := DefT.is s k
  have hc : cdv = .ref (codeOf K x) := by
    have lk' : K.lookup (ga K x) = _ := lk
    unfold codeOf
    rw [lk']
    cases cdv with
    | ref b => rfl
    | _ => cases c1
  subst hc
  exact ⟨⟨oc, od, dV, kV, doc, pm, an, ct, osl, lk, c2, c3⟩, c1, kp, hm, tb _ (List.mem_map.mpr ⟨x, List.mem_filter.mpr ⟨hx, hasG_of hg⟩, rfl⟩), mem_tbs hx hg, nd⟩
/-- what the tables are, at the head's heap -/
structure Heads (K0 K : Frag) (h : Heap) : Prop where
  t : ∀ p ∈ csOf K, h.get? p.2 = some { cls := .none, data := .fields #[] }
  n : ∀ p ∈ csOf K, K.lookup p.2 = none
  c : ∀ p ∈ csOf K, CodeHd h p.1 p.2
theorem heads_of (X0 : K0.In h) (X : K.In h) (c : tabsB K0 K = true) : Heads K0 K h := by
  have key : ∀ p ∈ csOf K, hdB K p.1 p.2 = true ∧ (∃ o, K0.lookup p.2 = some o ∧ tabObjB o = true) ∧ K.lookup p.2 = none := fun p hp => by
    obtain ⟨x, hx, rfl⟩ := List.mem_map.mp hp
    obtain ⟨h1, z⟩ := ba (List.all_eq_true.mp c x hx)
    obtain ⟨h2, h3⟩ := ba z
    refine ⟨h1, ?_, Option.isNone_iff_eq_none.mp h3⟩
    split at h2
    · rename_i o e
      exact ⟨o, e, h2⟩
    · cases h2
  refine ⟨fun p hp => ?_, fun p hp => (key p hp).2.2, fun p hp => hdB_ok X (key p hp).1⟩
  obtain ⟨o, e, ho⟩ := (key p hp).2.1
  rw [X0 _ _ e, tabObjB_ok ho]
end
theorem tabs_nil {K : Frag} {H : Hp} (h : ∀ p ∈ csOf K, H p.2 = some (.tbl #[])) : LamX.Tabs (tbsOf K) H := fun p hp => by
  obtain ⟨x, hx, rfl⟩ := List.mem_map.mp hp
  exact LamX.TabS.nil (h (codeOf K x, tabOf K x) (List.mem_map.mpr ⟨x, hx, rfl⟩))
theorem walk_T {l : OpenLaw} {n k : Nat} {q : Program} {loose : List Str} {XP : (Str → Option Value) → Heap → Prop} {YP : World → Heap → Prop} {d : DefRec} {x : Str}
    (hn : l.most = some n) (hn2 : n ≤ sizeLine) (hdf : d.params.defaults = []) (hr : Room k callerA)
    (F : ∀ (w : World) (mg : Str → Option Value) (fa : Addr) (h : Heap), YP w h → h.Ns mainGlobals mg → mg d.name = some (.ref fa) →
      ∃ (K0 K : Frag) (fd : FuncData) (sp : Sp), K.In h ∧ Heads K0 K h ∧ (∀ (s : Shared) (u : Value), BindsTo s fd ⟨[u], []⟩ [(x, u)]) ∧
        (∀ (H : Hp) (a : Addr) (ns : List Int), ns.length ≤ n → (∀ p ∈ csOf K, H p.2 = some (.tbl #[])) → SqL K H a (ns.map V.int) → sp [.ref a] H (fun v _ => v = .bl true) fun _ _ _ => False) ∧
        ∀ base : Heap, K.In base → base.Ns mainGlobals mg → (∀ p ∈ csOf K, LamX.TabB base mg p.1 p.2) → FnOk l.prog w K mg base (L2.CX l.prog w) k fa fd [x] sp) :
    WalkO q loose XP YP l.row.toRowW d [] (fun f vs => PySem.call f vs) := by
  refine Att.attach_callB hn hdf fun w s0 s1 mg mb fa o pm cd doc a vs ns G Y ho hd hcd hmg hobj hints hlen hbits hg => ?_
  obtain ⟨K0, K, fd, sp, KX, HD, hb, hsp, hF⟩ := F w mg fa _ Y G.T.g hmg
  refine LamX.law_callTs KX G.T.g G.T.b G.T.builtins G.T.nolimit hg HD.t HD.n HD.c G.T.bmain hobj hints (Nat.le_trans hlen hn2) hr hF hb (fun H hH hS => hsp H a ns hlen hH hS) fun H e s' z => ?_
  obtain ⟨_, _, _, _, _, _, _, _, _, _, _, _, z⟩ := z
  exact z.elim
end ND
/-! defs whose results are the caller's own; calls by names; defs that ask for repr -/
namespace ND
open PySem PySem.Spec PyProof.Rows L2
section
variable {K : PySem.W.Frag} {C : Cfg K} {E : XK} {Γ : List Md} {n m : Nat} {G H G1 H1 : Hp} {Q : VK}
def spFN (K : PySem.W.Frag) (b : Bool) (k : Nat) (F : List D → Out D) : Sp := fun vs H Q E => ∃ (C : Cfg K) (n : Nat) (G : Hp) (ds : List D), (b = true → C.lk = []) ∧ Wl C n G H ∧ RepL C G vs ds ∧ ds.length = k ∧ (F ds).wp n (PN C G H Q) (PX C G H E)
theorem PN.of_PQ {d : D} (w : Wl C n G H) (k : PQ C G H Q m d) : PN C G H Q m d := fun p o G' H' s np gp hp r => k (.ref p) (upd G' p o) H' (s.fresh np gp hp w r.nf) ((r.mono (same_add gp)).rep upd_same)
theorem spFN_of {b : Bool} {k : Nat} {F : List D → Out D} {vs : List V} (h : spF K b k F vs H Q E) : spFN K b k F vs H Q E := by
  obtain ⟨C, n, G, ds, h1, w, h2, h3, q⟩ := h
  exact ⟨C, n, G, ds, h1, w, h2, h3, Out.wp_mono (fun _ _ z => PN.of_PQ w z) (fun _ _ _ z => z) q⟩
theorem sn_call {b : Bool} {k : Nat} {ta : TA} {a : Rho → Out (List D)} {F : List D → Out D} (hb : b = true → C.lk = []) (ha : SimA C E Γ k ta a) : SimN C E Γ (tCall (spFN K b k F) [] E ta) (eCall F a) := fun H0 n G H σ ρ Q w e q => by
  refine ha H0 n G H σ ρ _ w e (Out.wp_mono (fun m xs k1 vs G1 H1 s1 r1 hl => ?_) (fun _ _ _ z => z) (Out.wp_bind q))
  refine ⟨C, m, G1, xs, hb, s1.w, ?_, hl, Out.wp_mono (fun _ _ z => PN.back s1 z) (fun _ _ _ z => PX.back s1 z) k1⟩
  rw [List.append_nil]
  exact r1
/-! ### calls by names -/
def pickL {α : Type} (idx : List Nat) (xs : List α) : List α := idx.filterMap fun i => xs[i]?
theorem vals_at {vs : List V} {us : List Value} (h : Vals vs us) : ∀ i : Nat, (vs[i]? = none ∧ us[i]? = none) ∨ ∃ v u, vs[i]? = some v ∧ us[i]? = some u ∧ RelV v u := by
  induction h with
  | nil => exact fun i => .inl ⟨rfl, rfl⟩
  | cons hv _ ih =>
    intro i
    cases i with
    | zero => exact .inr ⟨_, _, rfl, rfl, hv⟩
    | succ i => exact ih i
theorem vals_pick {vs : List V} {us : List Value} (h : Vals vs us) : ∀ idx : List Nat, Vals (pickL idx vs) (pickL idx us)
  | [] => .nil
  | i :: idx => by
    have ih := vals_pick h idx
    unfold pickL at ih ⊢
    rw [List.filterMap_cons, List.filterMap_cons]
    rcases vals_at h i with ⟨e1, e2⟩ | ⟨v, u, e1, e2, r⟩
    · rw [e1, e2]
      exact ih
    · rw [e1, e2]
      exact .cons r ih
theorem RqL.pick {vs : List V} {xs : List D} (h : RepL C G vs xs) : ∀ idx : List Nat, RepL C G (pickL idx vs) (pickL idx xs)
  | [] => .nil
  | i :: idx => by
    have ih := RqL.pick h idx
    unfold pickL at ih ⊢
    rw [List.filterMap_cons, List.filterMap_cons]
    cases e : xs[i]? with
    | none =>
      have : vs[i]? = none := by
        rw [List.getElem?_eq_none_iff] at e ⊢
        rw [h.len]
        exact e
      rw [this]
      exact ih
    | some x =>
      obtain ⟨v, hv, r⟩ := h.at' e
      rw [hv]
      exact .cons r ih
def eCallK (F : List D → Out D) (idx : List Nat) (a z : Rho → Out (List D)) : Rho → Out D := fun ρ => (a ρ).bind fun xs => (z ρ).bind fun ys => F (pickL idx (xs ++ ys))
def gPick {α : Type} (idx : List Nat) (us ws : List α) : List α := pickL idx (us ++ ws)
theorem sm_callK {b : Bool} {k i j : Nat} {idx : List Nat} {ta tz : TA} {a z : Rho → Out (List D)} {F : List D → Out D} (hb : b = true → C.lk = []) (hk : ∀ ds : List D, ds.length = i + j → (pickL idx ds).length = k) (ha : SimA C E Γ i ta a) (hz : SimA C E Γ j tz z) :
    SimE C E Γ (tCallN i j (spF K b k F) (gPick idx) E ta tz) (eCallK F idx a z) := fun H0 n G H σ ρ Q w e q => by
  refine ha H0 n G H σ ρ _ w e (Out.wp_mono (fun m xs k1 vs G1 H1 s1 r1 hl => ?_) (fun _ _ _ z => z) (Out.wp_bind q))
  refine hz H0 m G1 H1 σ ρ _ s1.w (e.step s1) (Out.wp_mono (fun m2 ys k2 us G2 H2 s2 r2 hl2 => ?_) (fun _ _ _ z => PX.back s1 z) (Out.wp_bind k1))
  have r12 : RepL C G2 (vs ++ us) (xs ++ ys) := (RqL.mono s2.g r1).app r2
  refine ⟨by rw [r1.len]; exact hl, by rw [r2.len]; exact hl2, C, m2, G2, pickL idx (xs ++ ys), hb, s2.w, r12.pick idx, hk _ (by rw [List.length_append, hl, hl2]), Out.wp_mono (fun _ _ z => PQ.back (s1.trans s2) z) (fun _ _ _ z => PX.back (s1.trans s2) z) k2⟩
theorem sn_callK {b : Bool} {k i j : Nat} {idx : List Nat} {ta tz : TA} {a z : Rho → Out (List D)} {F : List D → Out D} (hb : b = true → C.lk = []) (hk : ∀ ds : List D, ds.length = i + j → (pickL idx ds).length = k) (ha : SimA C E Γ i ta a) (hz : SimA C E Γ j tz z) :
    SimN C E Γ (tCallN i j (spFN K b k F) (gPick idx) E ta tz) (eCallK F idx a z) := fun H0 n G H σ ρ Q w e q => by
  refine ha H0 n G H σ ρ _ w e (Out.wp_mono (fun m xs k1 vs G1 H1 s1 r1 hl => ?_) (fun _ _ _ z => z) (Out.wp_bind q))
  refine hz H0 m G1 H1 σ ρ _ s1.w (e.step s1) (Out.wp_mono (fun m2 ys k2 us G2 H2 s2 r2 hl2 => ?_) (fun _ _ _ z => PX.back s1 z) (Out.wp_bind k1))
  have r12 : RepL C G2 (vs ++ us) (xs ++ ys) := (RqL.mono s2.g r1).app r2
  refine ⟨by rw [r1.len]; exact hl, by rw [r2.len]; exact hl2, C, m2, G2, pickL idx (xs ++ ys), hb, s2.w, r12.pick idx, hk _ (by rw [List.length_append, hl, hl2]), Out.wp_mono (fun _ _ z => PN.back (s1.trans s2) z) (fun _ _ _ z => PX.back (s1.trans s2) z) k2⟩
end
/-! ### a def and its text -/
structure GOkS (P : Program) (w : World) (K : PySem.W.Frag) (mg : Str → Option Value) (base : Heap) (k : Nat) (x : Str) (st : Stmt) (ps : List Str) (sp : Sp) : Prop where
  ex : ∃ f fd, FnP K x x st f fd ∧ mg x = some (.ref f) ∧ FnOk P w K mg base (L2.CX P w) k f fd ps sp
/-- a def's results are its caller's own -/
def fnN (N : Nat) (ψ : Rho → Out Res) : List D → Out D := fun ds => (ψ (ds ++ List.replicate (N - ds.length) .non)).bind fun r => match r with
  | .rt d => .ok d
  | _ => .stuck
section
variable {P : Program} {w : World} {K : PySem.W.Frag} {mg : Str → Option Value} {base : Heap}
theorem GOkS.imp {k : Nat} {x : Str} {st : Stmt} {ps : List Str} {sp sp' : Sp} (g : GOkS P w K mg base k x st ps sp) (h : ∀ vs H Q E, sp' vs H Q E → sp vs H Q E) : GOkS P w K mg base k x st ps sp' := by
  obtain ⟨f, fd, a, b, d⟩ := g.ex
  exact ⟨f, fd, a, b, d.imp h⟩
theorem GOkS.ok {k : Nat} {x : Str} {st : Stmt} {ps : List Str} {sp : Sp} (g : GOkS P w K mg base k x st ps sp)
    (hb : ∀ (kV doc pm : Value) (an : Option Addr) (cdv ct : Value) (us : List Value), us.length = ps.length → bindArgs (PySem.W.fnOf x x (defArgs st) (defBody st) (defScope st) .none kV doc pm an cdv ct) ⟨us, []⟩ = pure (ps.zip us)) : GOk P w K mg base k x ps sp := by
  obtain ⟨f, fd, F, hm, d⟩ := g.ex
  exact ⟨f, fd, hm, F.kp, F.bindsN hb, d⟩
theorem GFun.simS {x : Str} {st : Stmt} {N ps : List Str} {k : Nat} {ψ : Rho → Out Res} (F : GFun K mg x st) (S : FnScope N ps (defScope st))
    {b : Bool} (hbody : ∀ (f : Addr) (cdv : Value) (A : Around) (outer : List Env) (s : Shared) (H : Hp) (E : XK) (C : Cfg K), (b = true → C.lk = []) → Room k (A.deeper (envOfC x (defScope st) s.heap.objs.size f cdv)) →
      ∃ t, PSs (cxOf (L2.CX P w) P w K mg base N x (defScope st) f cdv A outer s H E) (defBody st) t ∧ ∃ Γn Γb Γc, SimS .fr C E (fr0 ps.length N.length) t ψ Γn Γb Γc) (hk : ps.length ≤ N.length := by decide) :
    GOkS P w K mg base (k + 1) x st ps (spF K b ps.length (fnD N.length ψ)) := by
  obtain ⟨f, fd, F, hm⟩ := F.ex
  refine ⟨f, fd, F, hm, F.ok (k := k) S (fun vs H Q E h => ?_) (fun cdv A outer s H vs Q E hr h => ?_)⟩
  · obtain ⟨C, n, G, ds, _, _, r, hl, _⟩ := h
    rw [r.len]
    exact hl
  · obtain ⟨C, n, G, ds, hbk, wl, r, hl, q⟩ := h
    obtain ⟨t, ht, Γn, Γb, Γc, hS⟩ := hbody f cdv A outer s H E C hbk hr
    exact ⟨t, ht, body_sim (sp := spF K b ps.length (fnD N.length ψ)) hS hk wl r hl q⟩
theorem body_simN {N : List Str} {k : Nat} {ψ : Rho → Out Res} {t : TS} {Γn Γb Γc : List Md} {C : Cfg K} {n : Nat} {G H : Hp} {vs : List V} {ds : List D} {Q : VK} {E : XK} (hS : SimS .nw C E (fr0 k N.length) t ψ Γn Γb Γc) (hk : k ≤ N.length)
    (wl : Wl C n G H) (r : RepL C G vs ds) (hl : ds.length = k) (q : (fnN N.length ψ ds).wp n (PN C G H Q) (PX C G H E)) : t { nx := fun _ H' => Q .non H', rt := Q } (start N vs) H := by
  subst hl
  refine hS G H n G H _ _ _ (Ws.refl wl) (Er.start r hk) (Out.wp_mono (fun m rr kk => ?_) (fun _ _ _ z => z) (Out.wp_bind q))
  cases rr with
  | nx ρ => exact kk.elim
  | rt d =>
    intro v G' H' s' _ rv
    obtain ⟨p, o, rfl, np, gp, hp, ro⟩ := rv
    exact kk p o G' H' s' np gp hp ro
  | bk ρ => exact kk.elim
  | ct ρ => exact kk.elim
theorem GFun.simN {x : Str} {st : Stmt} {N ps : List Str} {k : Nat} {ψ : Rho → Out Res} (F : GFun K mg x st) (S : FnScope N ps (defScope st))
    {b : Bool} (hbody : ∀ (f : Addr) (cdv : Value) (A : Around) (outer : List Env) (s : Shared) (H : Hp) (E : XK) (C : Cfg K), (b = true → C.lk = []) → Room k (A.deeper (envOfC x (defScope st) s.heap.objs.size f cdv)) →
      ∃ t, PSs (cxOf (L2.CX P w) P w K mg base N x (defScope st) f cdv A outer s H E) (defBody st) t ∧ ∃ Γn Γb Γc, SimS .nw C E (fr0 ps.length N.length) t ψ Γn Γb Γc) (hk : ps.length ≤ N.length := by decide) :
    GOkS P w K mg base (k + 1) x st ps (spFN K b ps.length (fnN N.length ψ)) := by
  obtain ⟨f, fd, F, hm⟩ := F.ex
  refine ⟨f, fd, F, hm, F.ok (k := k) S (fun vs H Q E h => ?_) (fun cdv A outer s H vs Q E hr h => ?_)⟩
  · obtain ⟨C, n, G, ds, _, _, r, hl, _⟩ := h
    rw [r.len]
    exact hl
  · obtain ⟨C, n, G, ds, hbk, wl, r, hl, q⟩ := h
    obtain ⟨t, ht, Γn, Γb, Γc, hS⟩ := hbody f cdv A outer s H E C hbk hr
    exact ⟨t, ht, body_simN hS hk wl r hl q⟩
theorem GFun.simG {x : Str} {st : Stmt} {N ps : List Str} {k : Nat} {ψ : Rho → Out Res} (F : GFun K mg x st) (S : FnScope N ps (defScope st))
    (hb : ∀ (kV doc pm : Value) (an : Option Addr) (cdv ct : Value) (us : List Value), us.length = ps.length → bindArgs (PySem.W.fnOf x x (defArgs st) (defBody st) (defScope st) .none kV doc pm an cdv ct) ⟨us, []⟩ = pure (ps.zip us))
    {b : Bool} (hbody : ∀ (f : Addr) (cdv : Value) (A : Around) (outer : List Env) (s : Shared) (H : Hp) (E : XK) (C : Cfg K), A.guards = some [] → (b = true → C.lk = []) → Room k (A.deeper (envOfC x (defScope st) s.heap.objs.size f cdv)) →
      ∃ t, PSs (cxOf (L2.CX P w) P w K mg base N x (defScope st) f cdv A outer s H E) (defBody st) t ∧ ∃ Γn Γb Γc, SimS .fr C E (fr0 ps.length N.length) t ψ Γn Γb Γc) (hk : ps.length ≤ N.length := by decide) :
    GOkG P w K mg base (k + 1) x ps (spF K b ps.length (fnD N.length ψ)) := by
  refine GFun.okG (k := k) F S hb (fun vs H Q E h => ?_) (fun f cdv A outer s H vs Q E hg hr h => ?_)
  · obtain ⟨C, n, G, ds, _, _, r, hl, _⟩ := h
    rw [r.len]
    exact hl
  · obtain ⟨C, n, G, ds, hbk, wl, r, hl, q⟩ := h
    obtain ⟨t, ht, Γn, Γb, Γc, hS⟩ := hbody f cdv A outer s H E C hg hbk hr
    exact ⟨t, ht, body_sim (sp := spF K b ps.length (fnD N.length ψ)) hS hk wl r hl q⟩
/-- what a call by names binds -/
theorem kbn_of {x : Str} {st : Stmt} {f : Addr} {fd : FuncData} {ps ks : List Str} {n : Nat} {idx : List Nat} (F : FnP K x x st f fd)
    (h : ∀ (kV doc pm : Value) (an : Option Addr) (cdv ct : Value) (us ws : List Value), us.length = n → ws.length = ks.length → bindArgs (PySem.W.fnOf x x (defArgs st) (defBody st) (defScope st) .none kV doc pm an cdv ct) ⟨us, ks.zip ws⟩ = pure (ps.zip (gPick idx us ws))) : KBn K fd ps n ks (gPick idx) (gPick idx) := by
  obtain ⟨oc, od, dV, kV, doc, pm, an, cdv, ct, osl, rfl, lk, hcd, hD, hK⟩ := F.ex
  rcases hD with ⟨_, rfl⟩ | ⟨e, _⟩
  · exact ⟨fun s us ws _ l1 l2 => .of_eq (h kV doc pm an cdv ct us ws l1 l2), fun r1 r2 => vals_pick (r1.append r2) idx⟩
  · exact absurd rfl e
end
section
variable {X : Cx} {k n : Nat} {ps ks : List Str} {idx : List Nat} {sp : Sp} {E : XK} {x : Str} {st : Stmt} {p pos : Pos} {e : Expr} {es : List Expr} {kws : List Keyword} {t tk : TA}
theorem pe_gk (Gd : GOkS X.prog X.w X.K X.mg X.base k x st ps sp) (hr : Room k X.A) (hg : Gl X x) (hx : Passes (L2.CX X.prog X.w) X E) (ha : PA X (e :: es) t) (hkw : PK X kws tk)
    (h : ∀ (kV doc pm : Value) (an : Option Addr) (cdv ct : Value) (us ws : List Value), us.length = n → ws.length = ks.length → bindArgs (PySem.W.fnOf x x (defArgs st) (defBody st) (defScope st) .none kV doc pm an cdv ct) ⟨us, ks.zip ws⟩ = pure (ps.zip (gPick idx us ws)))
    (hall : (backToKw pos (keywordEach kws X.env)).all (·.1.isSome) = true := by rfl) (hks : (backToKw pos (keywordEach kws X.env)).filterMap (·.1) = ks := by rfl)
    (hdb : (x == ("__debug__" : Str)) = false := by decide) (he : starEach (e :: es) X.env = (false, eval e X.env) :: starEach es X.env := by rfl)
    (hpl : ((backTo pos (starEach (e :: es) X.env)).any (·.1) || (backToKw pos (keywordEach kws X.env)).any (·.1.isNone)) = false := by rfl) :
    PE X (.Call (.Name x p) (e :: es) kws pos) (tCallN n ks.length sp (gPick idx) E t tk) := by
  obtain ⟨f, fd, FP, hm, F⟩ := Gd.ex
  exact pe_callN F hr hg hm FP.kp (kbn_of FP h) hx ha hkw hall hks hdb he hpl
theorem pe_gk0 (Gd : GOkS X.prog X.w X.K X.mg X.base k x st ps sp) (hr : Room k X.A) (hg : Gl X x) (hx : Passes (L2.CX X.prog X.w) X E) (hkw : PK X kws tk)
    (h : ∀ (kV doc pm : Value) (an : Option Addr) (cdv ct : Value) (us ws : List Value), us.length = 0 → ws.length = ks.length → bindArgs (PySem.W.fnOf x x (defArgs st) (defBody st) (defScope st) .none kV doc pm an cdv ct) ⟨us, ks.zip ws⟩ = pure (ps.zip (gPick idx us ws)))
    (hall : (backToKw pos (keywordEach kws X.env)).all (·.1.isSome) = true := by rfl) (hks : (backToKw pos (keywordEach kws X.env)).filterMap (·.1) = ks := by rfl)
    (hdb : (x == ("__debug__" : Str)) = false := by decide) (hpl : ((backTo pos (starEach [] X.env)).any (·.1) || (backToKw pos (keywordEach kws X.env)).any (·.1.isNone)) = false := by rfl) :
    PE X (.Call (.Name x p) [] kws pos) (tCallN 0 ks.length sp (gPick idx) E tNil tk) := by
  obtain ⟨f, fd, FP, hm, F⟩ := Gd.ex
  refine ⟨fun pins s σ H Q I hq => ?_⟩
  refine wpAny_Call_Name_kw (ld_glob I hg hm ?_ hdb)
  refine PySem.W.callWith_KW0 (h₀ := X.base) I.ok.mod.kin FP.kp hall ?_ hpl
  refine thn (hkw.run pos pins s σ H _ I hq) fun ws s2 h2 => ?_
  obtain ⟨zs, H2, I2, rz, l1, l2, q2⟩ := h2
  refine ⟨I2.kIn, ?_⟩
  rw [hks]
  exact run_fnN (us := []) (vs := []) F hr (kbn_of FP h) hx I2 .nil rz rfl l2 q2
end
end ND
/-! repr of data, compared -/
namespace ND
open PySem PySem.Spec PyProof.Rows L2
def rpB (d : D) : Bool := D.pl 8 d && (d.py.showable && decide (d.py.shown.length ≤ 1000000))
def dRp (d : D) : Out Str := bif rpB d then .ok d.py.shown else .stuck
section
variable {K : PySem.W.Frag} {C : Cfg K} {E : XK} {Γ : List Md} {n m : Nat} {G H G1 H1 : Hp} {Q : VK}
/-- an expression that gives a text -/
def SimR (C : Cfg K) (E : XK) (Γ : List Md) (t : TE) (φ : Rho → Out Str) : Prop := ∀ H0 n G H σ ρ Q, Wl C n G H → Er C H0 Γ G H σ ρ → (φ ρ).wp n (fun m z => ∀ G' H', Ws C G H m G' H' → Q (.str z) H') (PX C G H E) → t σ H Q
def rRp (a : Rho → Out D) : Rho → Out Str := fun ρ => (a ρ).bind dRp
def rC (z : Str) : Rho → Out Str := fun _ => .ok z
theorem sz_repr {ta : TE} {a : Rho → Out D} (ha : SimV C E Γ ta a) : SimR C E Γ (tCB (rRepr K) (tCons ta tNil)) (rRp a) := fun H0 n G H σ ρ Q w e q => by
  refine ha H0 n G H σ ρ _ w e (Out.wp_mono (fun m d k v G1 H1 s1 r1 => ?_) (fun _ _ _ z => z) (Out.wp_bind q))
  unfold dRp at k
  cases hp : rpB d with
  | false => rw [hp] at k; exact k.elim
  | true =>
    rw [hp] at k
    unfold rpB at hp
    rw [Bool.and_eq_true, Bool.and_eq_true] at hp
    obtain ⟨h1, h2, h3⟩ := hp
    obtain ⟨a1, a2, a3⟩ := r1.dp s1.w.sub h1
    have h4 := of_decide_eq_true h3
    exact ⟨v, d.py, rfl, .dat a1 (PyData.hasDict_of_canLay _ a2), h2, by omega, by rw [sizeLine_eq]; omega, k G1 H1 s1⟩
theorem sz_str {b : Str} : SimR C E Γ (tC (.str b)) (rC b) := fun H0 n G H σ ρ Q w e q => q G H (Ws.refl w)
def eZNe (a b : Rho → Out Str) : Rho → Out D := fun ρ => (a ρ).bind fun x => (b ρ).bind fun y => .ok (.bl (!decide (x = y)))
def eZEq (a b : Rho → Out Str) : Rho → Out D := fun ρ => (a ρ).bind fun x => (b ρ).bind fun y => .ok (.bl (decide (x = y)))
theorem dec_str (x y : Str) : decide (V.str x = V.str y) = decide (x = y) := by
  by_cases h : x = y
  · rw [decide_eq_true h, decide_eq_true (congrArg V.str h)]
  · rw [decide_eq_false h, decide_eq_false (fun z => h (by cases z; rfl))]
theorem sm_zne {ta tb : TE} {a b : Rho → Out Str} (ha : SimR C E Γ ta a) (hb : SimR C E Γ tb b) : SimE C E Γ (tOp rNe ta tb) (eZNe a b) := fun H0 n G H σ ρ Q w e q => by
  refine ha H0 n G H σ ρ _ w e (Out.wp_mono (fun m x k G1 H1 s1 => ?_) (fun _ _ _ z => z) (Out.wp_bind q))
  refine hb H0 m G1 H1 σ ρ _ s1.w (e.step s1) (Out.wp_mono (fun m2 y k2 G2 H2 s2 => ?_) (fun _ _ _ z => PX.back s1 z) (Out.wp_bind k))
  refine ⟨rfl, ?_⟩
  rw [dec_str]
  exact k2 _ G2 H2 (s1.trans s2) (.bl _)
theorem sm_zeq {ta tb : TE} {a b : Rho → Out Str} (ha : SimR C E Γ ta a) (hb : SimR C E Γ tb b) : SimE C E Γ (tOp rEq ta tb) (eZEq a b) := fun H0 n G H σ ρ Q w e q => by
  refine ha H0 n G H σ ρ _ w e (Out.wp_mono (fun m x k G1 H1 s1 => ?_) (fun _ _ _ z => z) (Out.wp_bind q))
  refine hb H0 m G1 H1 σ ρ _ s1.w (e.step s1) (Out.wp_mono (fun m2 y k2 G2 H2 s2 => ?_) (fun _ _ _ z => PX.back s1 z) (Out.wp_bind k))
  refine ⟨rfl, ?_⟩
  rw [dec_str]
  exact k2 _ G2 H2 (s1.trans s2) (.bl _)
end
section
variable {X : Cx} {K : PySem.W.Frag}
theorem call_repr' (hg : X.A.guards = some []) {k : Nat} (hr : Room k X.A) : CallR X (.builtin "repr") (rRepr X.K) := call_repr rfl hg (u80 hr)
theorem call_reprK (K : PySem.W.Frag) (hK : X.K = K) (hg : X.A.guards = some []) {k : Nat} (hr : Room k X.A) : CallR X (.builtin "repr") (rRepr K) := call_repr hK hg (u80 hr)
end
/-! ### small data can be shown -/
structure Shw (k b : Nat) (d : D) : Prop where
  pl : D.pl k d = true
  sh : d.py.showable = true
  ls : d.py.leavesShort 40 = true
  bk : d.py.bulk ≤ b
theorem pl_up : ∀ {k : Nat} {d : D}, D.pl k d = true → D.pl (k + 1) d = true
  | _, .non, _ => rfl
  | _, .bl _, _ => rfl
  | _, .int _, _ => rfl
  | _, .str _, _ => rfl
  | k + 1, .lst xs, h => by
    have h' : xs.all (D.pl k) = true := h
    show xs.all (D.pl (k + 1)) = true
    rw [List.all_eq_true] at h' ⊢
    exact fun x hx => pl_up (h' x hx)
  | k + 1, .tup xs, h => by
    have h' : xs.all (D.pl k) = true := h
    show xs.all (D.pl (k + 1)) = true
    rw [List.all_eq_true] at h' ⊢
    exact fun x hx => pl_up (h' x hx)
  | 0, .lst _, h => by simp [D.pl] at h
  | 0, .tup _, h => by simp [D.pl] at h
  | 0, .dct _, h => by simp [D.pl] at h
  | 0, .ins _ _, h => by simp [D.pl] at h
  | 0, .exc _ _, h => by simp [D.pl] at h
  | 0, .drw, h => by simp [D.pl] at h
  | k + 1, .dct _, h => by simp [D.pl] at h
  | k + 1, .ins _ _, h => by simp [D.pl] at h
  | k + 1, .exc _ _, h => by simp [D.pl] at h
  | k + 1, .drw, h => by simp [D.pl] at h
theorem pl_le {k j : Nat} {d : D} (h : D.pl k d = true) (hj : k ≤ j) : D.pl j d = true := by
  induction hj with
  | refl => exact h
  | step _ ih => exact pl_up ih
theorem Shw.mono {k b k' b' : Nat} {d : D} (h : Shw k b d) (hk : k ≤ k') (hb : b ≤ b') : Shw k' b' d := ⟨pl_le h.pl hk, h.sh, h.ls, Nat.le_trans h.bk hb⟩
theorem shw_non {k b : Nat} : Shw k b .non := ⟨by cases k <;> rfl, rfl, rfl, Nat.zero_le _⟩
theorem shw_bl {k b : Nat} {x : Bool} : Shw k b (.bl x) := ⟨by cases k <;> rfl, rfl, rfl, Nat.zero_le _⟩
theorem shw_int {k b : Nat} {i : Int} (h : i.natAbs < 10 ^ 30) : Shw k b (.int i) := by
  refine ⟨by cases k <;> rfl, ?_, ?_, Nat.zero_le _⟩
  · show decide (i.natAbs.log2 < 1920) = true
    refine decide_eq_true ?_
    by_cases h0 : i.natAbs = 0
    · rw [h0]; decide
    · refine Nat.lt_of_lt_of_le ((Nat.log2_lt h0).mpr (Nat.lt_of_lt_of_le h (show 10 ^ 30 ≤ 2 ^ 200 by decide))) (by decide)
  · show decide ((PyData.shown (.int i)).length ≤ 40) = true
    refine decide_eq_true ?_
    have e := int_text_length_le10 (k := 30) (by decide) h
    have e2 : (PyData.shown (.int i)).length = (Str.ofString (toString i)).length := by simp only [PyData.shown]
    have e3 : (Str.ofString (toString i)).length = (toString i).length := PySem.ofString_length _
    omega
theorem shw_str {k b : Nat} {z : Str} (h : SOk z) (hl : z.length ≤ b) : Shw k b (.str z) := by
  refine ⟨by cases k <;> rfl, rfl, ?_, hl⟩
  have h0 : z.cps.all (· < 0x110000) = true := h.2
  show (z.cps.toList.all fun c => decide (c < 16 ^ 8)) = true
  rw [List.all_eq_true]
  intro c hc
  have := (Array.all_eq_true_iff_forall_mem.mp h0) c (Array.mem_toList_iff.mp hc)
  have h1 : c < 0x110000 := by simpa using this
  exact decide_eq_true (by have : (16 : Nat) ^ 8 = 4294967296 := by decide
                           omega)
theorem shwAll {k b : Nat} : ∀ {xs : List D}, (∀ x ∈ xs, Shw k b x) → xs.all (D.pl k) = true ∧ PyData.showableAll (D.py.pyL xs) = true ∧ PyData.leavesShortAll 40 (D.py.pyL xs) = true ∧ PyData.bulkAll (D.py.pyL xs) ≤ xs.length * (b + 1)
  | [], _ => ⟨rfl, rfl, rfl, by simp [D.py.pyL, PyData.bulkAll]⟩
  | x :: xs, h => by
    have h1 := h x List.mem_cons_self
    obtain ⟨a, b', c, d⟩ := shwAll fun y hy => h y (List.mem_cons_of_mem _ hy)
    refine ⟨by rw [List.all_cons, h1.pl, a]; rfl, ?_, ?_, ?_⟩
    · simp only [D.py.pyL, PyData.showableAll, h1.sh, b', Bool.and_self]
    · simp only [D.py.pyL, PyData.leavesShortAll, h1.ls, c, Bool.and_self]
    · have := h1.bk
      simp only [D.py.pyL, PyData.bulkAll, List.length_cons, Nat.succ_mul]
      omega
theorem shw_lst {k b m c : Nat} {xs : List D} (h : ∀ x ∈ xs, Shw k b x) (hl : xs.length ≤ m) (hc : m * (b + 1) ≤ c) : Shw (k + 1) c (.lst xs) := by
  obtain ⟨a1, a2, a3, a4⟩ := shwAll h
  have := Nat.mul_le_mul_right (b + 1) hl
  exact ⟨a1, by simp only [D.py, PyData.showable]; exact a2, by simp only [D.py, PyData.leavesShort]; exact a3, by simp only [D.py, PyData.bulk]; omega⟩
theorem shw_tup {k b m c : Nat} {xs : List D} (h : ∀ x ∈ xs, Shw k b x) (hl : xs.length ≤ m) (hc : m * (b + 1) ≤ c) : Shw (k + 1) c (.tup xs) := by
  obtain ⟨a1, a2, a3, a4⟩ := shwAll h
  have := Nat.mul_le_mul_right (b + 1) hl
  exact ⟨a1, by simp only [D.py, PyData.showable]; exact a2, by simp only [D.py, PyData.leavesShort]; exact a3, by simp only [D.py, PyData.bulk]; omega⟩
theorem rp_of {k b : Nat} {d : D} (h : Shw k b d) (hk : k ≤ 8) (hb : b ≤ 20000) : rpB d = true := by
  have := PyData.shown_le_bulk 40 (by decide) d.py h.ls
  have := h.bk
  unfold rpB
  rw [pl_le h.pl hk, h.sh, decide_eq_true (by omega)]
  rfl
theorem dRp_of {k b : Nat} {d : D} (h : Shw k b d) (hk : k ≤ 8) (hb : b ≤ 20000) : dRp d = .ok d.py.shown := by
  unfold dRp
  rw [rp_of h hk hb]
  rfl
end ND
/-! the end of a law that asks for repr and makes lambdas -/
namespace ND
open PySem PySem.Spec PyProof.Rows L2
def noDictB (K : PySem.W.Frag) (x : Str) : Bool := match K.lookup (He.ga K x) with
  | some o => o.dict.isNone
  | none => false
theorem noDictB_ok {K : PySem.W.Frag} {x : Str} (h : noDictB K x = true) : ∃ o, K.lookup (He.ga K x) = some o ∧ o.dict = none := by
  unfold noDictB at h
  split at h
  · rename_i o e
    exact ⟨o, e, Option.isNone_iff_eq_none.mp h⟩
  · cases h
theorem law_GT {P : Program} {w : World} {K : PySem.W.Frag} {mg mb : Str → Option Value} {k : Nat} {fa a : Addr} {cs : List (Addr × Addr)} {fd : FuncData} {x : Str} {sp : Sp} {s1 : Shared} {vs : List Value} {ns : List Int}
    (KX : K.In s1.heap) (hns : s1.heap.Ns mainGlobals mg) (hb : s1.heap.Ns builtinsNs mb) (hbb : ∀ y : Str, y ≠ "__name__" → mb y = bootBuiltins y) (hlim : s1.heap.NoLimit) (hg : s1.gens = #[])
    (tT : ∀ p ∈ cs, s1.heap.get? p.2 = some { cls := .none, data := .fields #[] }) (tN : ∀ p ∈ cs, K.lookup p.2 = none) (tC : ∀ p ∈ cs, PySem.W.CodeHd s1.heap p.1 p.2)
    (bm : ∃ (m : Addr) (ob : Obj), mg "__builtins__" = some (.ref m) ∧ m ≠ builtinsNs ∧ s1.heap.get? m = some ob ∧ ob.cls = .type "module" ∧ ob.dict = some builtinsNs ∧ ob.data = .plain)
    (ha : s1.heap.get? a = some { cls := .type "list", data := .seq vs.toArray }) (hi : IntsAre vs ns) (hl : ns.length ≤ sizeLine) (hr : Room k callerA)
    (F : ∀ base : Heap, K.In base → base.Ns mainGlobals mg → (∀ p ∈ cs, LamX.TabB base mg p.1 p.2) → FnG P w K mg base k fa fd [x] sp) (hbind : ∀ (s : Shared) (u : Value), BindsTo s fd ⟨[u], []⟩ [(x, u)])
    (hsp : ∀ H : Hp, (∀ p ∈ cs, H p.2 = some (.tbl #[])) → SqL K H a (ns.map V.int) → sp [.ref a] H (fun v _ => v = .bl true) fun _ _ _ => False) :
    codeAny (model P w) callerA (.call (.ref fa) ⟨[.ref a], []⟩) (fun r s' => r = .ok (.ret (.bool true)) ∧ OldK s1.heap s'.heap ∧ s'.os = s1.os ∧ AllBare s'.gens) s1 := by
  have rv := vals_ints hi
  have tabH : ∀ b, b ∈ cs.map (·.2) → s1.heap.get? b = some { cls := .none, data := .fields #[] } := fun b h => by
    obtain ⟨p, hp, rfl⟩ := List.mem_map.mp h
    exact tT p hp
  have naT : a ∉ cs.map (·.2) := fun z => by
    have e := tabH a z
    rw [ha] at e
    cases e
  obtain ⟨Hs, hHs⟩ : ∃ Hs : Hp, Hs = fun b => if b = a ∧ K.lookup a = none then some (.frz { cls := .type "list", data := .seq vs.toArray } (.lst (ns.map V.int))) else if b ∈ cs.map (·.2) then some (.tbl #[]) else none := ⟨_, rfl⟩
  have off : ∀ b, Hs b = none ∨ (b = a ∧ K.lookup a = none ∧ Hs b = some (.frz { cls := .type "list", data := .seq vs.toArray } (.lst (ns.map V.int)))) ∨ (b ∈ cs.map (·.2) ∧ Hs b = some (.tbl #[])) := fun b => by
    rw [hHs]
    by_cases c : b = a ∧ K.lookup a = none
    · exact .inr (.inl ⟨c.1, c.2, if_pos c⟩)
    · by_cases c2 : b ∈ cs.map (·.2)
      · exact .inr (.inr ⟨c2, (if_neg c).trans (if_pos c2)⟩)
      · exact .inl ((if_neg c).trans (if_neg c2))
  have tabs : ∀ p ∈ cs, Hs p.2 = some (.tbl #[]) := fun p hp => by
    have m : p.2 ∈ cs.map (·.2) := List.mem_map.mpr ⟨p, hp, rfl⟩
    rw [hHs]
    exact (if_neg fun (z : p.2 = a ∧ K.lookup a = none) => naT (z.1 ▸ m)).trans (if_pos m)
  have hok : HOk P w Hs s1.heap := fun b u q => by
    rcases off b with z | ⟨e, _, z⟩ | ⟨m, z⟩
    · rw [z] at q; cases q
    · rw [z] at q
      cases q
      subst e
      exact ⟨ha, by rw [List.length_map]; exact hl, vs, _, rv, ha⟩
    · rw [z] at q
      cases q
      exact tabH b m
  have sq : SqL K Hs a (ns.map V.int) := by
    cases hk : K.lookup a with
    | none => exact .inl (.inr ⟨_, by rw [hHs]; exact if_pos ⟨rfl, hk⟩⟩)
    | some o =>
      have e := KX a o hk
      rw [ha] at e
      cases e
      exact .inr ⟨_, vs.toArray, _, hk, rfl, rfl, rfl, by rw [List.size_toArray, hi.length]; exact hl, by simpa using rv⟩
  have inK : K.In (hidT s1.heap Hs) := fun b o e => hidT_get (KX b o e) (by
    rcases off b with z | ⟨eb, z, _⟩ | ⟨m, _⟩
    · exact z
    · rw [eb, z] at e; cases e
    · obtain ⟨p, hp, rfl⟩ := List.mem_map.mp m
      rw [tN p hp] at e; cases e)
  have stay : ∀ {b : Addr} {o : Obj}, s1.heap.get? b = some o → (∀ us n, o.data ≠ .seq us n) → o.data ≠ .fields #[] → (hidT s1.heap Hs).get? b = some o := fun {b o} e h1 h2 => hidT_get e (by
    rcases off b with z | ⟨eb, _, _⟩ | ⟨m, _⟩
    · exact z
    · rw [eb, ha] at e
      cases e
      exact (h1 _ _ rfl).elim
    · rw [tabH b m] at e
      cases e
      exact (h2 rfl).elim)
  have nsB : ∀ {b : Addr} {m : Str → Option Value}, s1.heap.Ns b m → (hidT s1.heap Hs).Ns b m := fun {b m} n => by
    obtain ⟨o, es, ep, e, d, r⟩ := n
    exact ⟨o, es, ep, stay e (fun us n z => by rw [d] at z; cases z) (fun z => by rw [d] at z; cases z), d, r⟩
  have md : Mod K mg (hidT s1.heap Hs) := by
    obtain ⟨mc, h1, h2⟩ := hlim
    exact ⟨inK, nsB hns, ⟨mb, nsB hb, hbb⟩, mc, nsB h1, h2⟩
  have TB : ∀ p ∈ cs, LamX.TabB (hidT s1.heap Hs) mg p.1 p.2 := fun p hp => by
    refine ⟨?_, ?_, ?_⟩
    · obtain ⟨o, us, fl, tf, fg, tg, inF, tx, tt, e1, r1, r2, r3, r4, r5, r6, r7, r8, hne⟩ := tC p hp
      refine ⟨o, us, fl, tf, fg, tg, inF, tx, tt, stay e1 (fun us n z => by rw [r2] at z; cases z) (fun z => ?_), r1, r2, r3, r4, r5, r6, r7, r8, hne⟩
      rw [r2] at z
      cases z
      simp at r3
    · obtain ⟨m, ob, b1, b2, b3, b4, b5, b6⟩ := bm
      refine ⟨m, ob, b1, b2, fun q => ?_, fun q => ?_, stay b3 (fun us n z => by rw [b6] at z; cases z) (fun z => by rw [b6] at z; cases z), b4, b5, b6⟩
      · obtain ⟨o, es, ep, e, d, _⟩ := hns
        rw [q, e] at b3
        cases b3
        rw [d] at b6
        cases b6
      · rw [q, tT p hp] at b3
        cases b3
        cases b6
    · intro z
      obtain ⟨o, es, ep, e, d, _⟩ := hns
      rw [z, tT p hp] at e
      cases e
      cases d
  have e0 : Env0 P w K mg (hidT s1.heap Hs) callerA [] s1 Hs := {
    frames := rfl
    mod := md
    bs := fun b o e => of_hidT e
    bsz := Nat.le_of_eq (hidT_size _ _)
    funs := trivial
    frf := fun b q => nomatch (show b ∈ ([] : List Addr) from q)
    hok := hok
    bare := .of_eq hg }
  refine codeAny_mono ((F _ inK (nsB hns) TB).run callerA [] s1 Hs ⟨[.ref a], []⟩ [.ref a] [.ref a] _ _ rfl hr e0 (hbind s1 (.ref a)) (.cons rfl .nil) (hsp Hs tabs sq)) fun r s' h => ?_
  match r, h with
  | .error e, h =>
    obtain ⟨_, _, _, _, _, _, _, _, _, _, _, _, z⟩ := h
    exact z.elim
  | .ok .next, h => exact h.elim
  | .ok .brk, h => exact h.elim
  | .ok .cont, h => exact h.elim
  | .ok (.ret u), ⟨v, H', os, bare, un, hok', r', q⟩ =>
    have q' : v = .bl true := q
    subst q'
    obtain rfl : u = Value.bool true := r'
    have same : ∀ b o, b ∉ cs.map (·.2) → s1.heap.get? b = some o → s'.heap.get? b = some o := fun b o nb e => by
      rcases off b with z | ⟨eb, _, z⟩ | ⟨m, _⟩
      · exact un.keep b o e z (fun y => nomatch (show b ∈ ([] : List Addr) from y)) (fun y => nomatch y)
      · have z2 := un.frzs b _ _ z
        obtain ⟨e1, _⟩ := hok b _ z
        obtain ⟨e2, _⟩ := hok' b _ z2
        rw [e] at e1
        cases e1
        exact e2
      · exact absurd m nb
    have more : ∀ p ∈ cs, ∃ ys : Array Value, s'.heap.get? p.2 = some { cls := .none, data := .fields ys } := fun p hp => by
      obtain ⟨ys, z⟩ := un.tbls p.2 #[] (tabs p hp)
      exact ⟨_, hok' p.2 _ z⟩
    refine ⟨rfl, ⟨fun b o e => ?_, fun b o e => ?_⟩, os, bare⟩
    · by_cases c : b ∈ cs.map (·.2)
      · obtain ⟨p, hp, rfl⟩ := List.mem_map.mp c
        obtain ⟨ys, hy⟩ := more p hp
        rw [tT p hp] at e
        cases e
        exact .inr (.inl ⟨((tC p hp).tab (tT p hp)).isCodeTable, rfl, #[], ys, rfl, by rw [Array.empty_append]; exact hy⟩)
      · exact .inl (same b o c e)
    · by_cases c : b ∈ cs.map (·.2)
      · obtain ⟨p, hp, rfl⟩ := List.mem_map.mp c
        obtain ⟨ys, hy⟩ := more p hp
        exact ⟨_, hy⟩
      · exact ⟨o, same b o c e⟩
theorem walk_TG {l : PySem.W.OpenLaw} {n k : Nat} {q : Program} {loose : List Str} {XP : (Str → Option Value) → Heap → Prop} {YP : World → Heap → Prop} {d : DefRec} {x : Str}
    (hn : l.most = some n) (hn2 : n ≤ sizeLine) (hdf : d.params.defaults = []) (hr : Room k callerA)
    (F : ∀ (w : World) (mg : Str → Option Value) (fa : Addr) (h : Heap), YP w h → h.Ns mainGlobals mg → mg d.name = some (.ref fa) →
      ∃ (K0 K : PySem.W.Frag) (fd : FuncData) (sp : Sp), K.In h ∧ Heads K0 K h ∧ (∀ (s : Shared) (u : Value), BindsTo s fd ⟨[u], []⟩ [(x, u)]) ∧
        (∀ (H : Hp) (a : Addr) (ns : List Int), ns.length ≤ n → (∀ p ∈ csOf K, H p.2 = some (.tbl #[])) → SqL K H a (ns.map V.int) → sp [.ref a] H (fun v _ => v = .bl true) fun _ _ _ => False) ∧
        ∀ base : Heap, K.In base → base.Ns mainGlobals mg → (∀ p ∈ csOf K, LamX.TabB base mg p.1 p.2) → FnG l.prog w K mg base k fa fd [x] sp) :
    PySem.W.WalkO q loose XP YP l.row.toRowW d [] (fun f vs => PySem.call f vs) := by
  refine Att.attach_callB hn hdf fun w s0 s1 mg mb fa o pm cd doc a vs ns G Y ho hd hcd hmg hobj hints hlen hbits hg => ?_
  obtain ⟨K0, K, fd, sp, KX, HD, hb, hsp, hF⟩ := F w mg fa _ Y G.T.g hmg
  exact law_GT KX G.T.g G.T.b G.T.builtins G.T.nolimit hg HD.t HD.n HD.c G.T.bmain hobj hints (Nat.le_trans hlen hn2) hr hF hb fun H hH hS => hsp H a ns hlen hH hS
end ND
namespace ND
open PySem PySem.Spec PyProof.Rows L2
def fa0 : List He.Fa := [.glo "is_number", .glo "is_within", .glo "is_list", .glo "is_name", .glo "is_slot", .glo "are_slots", .glo "is_roll", .glo "are_prices", .glo "are_packs", .glo "does_fit", .glo "need_plan", .glo "need_pack"]
def fa1 : List He.Fa := [.glo "slots_of", .glo "later_slots", .glo "slots_from", .glo "in_common", .glo "shared", .glo "day_first", .glo "_law_begun", .glo "_law_mixed", .glo "_law_take", .glo "_law_pick", .glo "_law_any_of", .glo "_law_names"]
def fa2 : List He.Fa := [.glo "_law_all_spots", .glo "_law_spots", .glo "_law_last", .glo "_law_flows", .glo "_law_sheet", .glo "_law_plan", .glo "_law_wares", .glo "_law_caught", .glo "_law_later", .glo "_law_common", .glo "_law_by_days", .glo "law"]
def fa3 : List He.Fa := [.glo "PackError", .glo "BadPack", .glo "BadPlan", .glo "BadFit", .glo "TooMany", .glo "NoPack", .glo "BadDay", .glo "Pack", .glo "Plan", .free "abs", .free "all", .free "bool"]
def fa4 : List He.Fa := [.free "dict", .free "int", .free "isinstance", .free "len", .free "list", .free "max", .free "min", .free "range", .free "repr", .free "set", .free "sorted", .free "str"]
def fa5 : List He.Fa := [.free "sum", .free "tuple", .int "LONGEST_NAME" 6, .int "MOST_CELLS" 3, .int "MOST_DAYS" 4, .int "MOST_PACKS" 4, .int "MOST_SLOTS" 12, .int "MOST_AMOUNT" 3, .int "MOST_UNITS" 6, .int "MOST_PRICE" 9, .int "MOST_COST" 99, .str "LETTERS" "abcdefghijklmnopqrstuvwxyz"]
def fa6 : List He.Fa := [.cls "Pack", .mkr "Pack", .noat "Pack" "own_slots", .noat "Pack" "own_amount", .noat "Pack" "own_cost", .noat "Pack" "own_roll", .cls "Plan", .mkr "Plan", .noat "Plan" "own_prices", .noat "Plan" "own_days", .noat "Plan" "own_names", .noat "Plan" "own_rows"]
def fa7 : List He.Fa := [.exc "PackError"]
def fa : List He.Fa := fa0 ++ fa1 ++ fa2 ++ fa3 ++ fa4 ++ fa5 ++ fa6 ++ fa7
def fn0 : List DefT := [⟨.g "is_number", "is_number", "is_number", s_is_number, 0⟩, ⟨.g "is_within", "is_within", "is_within", s_is_within, 0⟩, ⟨.g "is_list", "is_list", "is_list", s_is_list, 0⟩, ⟨.g "is_name", "is_name", "is_name", s_is_name, 0⟩, ⟨.g "is_slot", "is_slot", "is_slot", s_is_slot, 0⟩, ⟨.g "are_slots", "are_slots", "are_slots", s_are_slots, 0⟩, ⟨.g "is_roll", "is_roll", "is_roll", s_is_roll, 0⟩, ⟨.g "are_prices", "are_prices", "are_prices", s_are_prices, 0⟩]
def fn1 : List DefT := [⟨.g "are_packs", "are_packs", "are_packs", s_are_packs, 0⟩, ⟨.g "does_fit", "does_fit", "does_fit", s_does_fit, 0⟩, ⟨.g "need_plan", "need_plan", "need_plan", s_need_plan, 0⟩, ⟨.g "need_pack", "need_pack", "need_pack", s_need_pack, 0⟩, ⟨.g "slots_of", "slots_of", "slots_of", s_slots_of, 0⟩, ⟨.g "later_slots", "later_slots", "later_slots", s_later_slots, 0⟩, ⟨.g "slots_from", "slots_from", "slots_from", s_slots_from, 0⟩, ⟨.g "in_common", "in_common", "in_common", s_in_common, 0⟩]
def fn2 : List DefT := [⟨.g "shared", "shared", "shared", s_shared, 0⟩, ⟨.g "day_first", "day_first", "day_first", s_day_first, 0⟩, ⟨.g "_law_begun", "_law_begun", "_law_begun", s__law_begun, 0⟩, ⟨.g "_law_mixed", "_law_mixed", "_law_mixed", s__law_mixed, 0⟩, ⟨.g "_law_take", "_law_take", "_law_take", s__law_take, 0⟩, ⟨.g "_law_pick", "_law_pick", "_law_pick", s__law_pick, 0⟩, ⟨.g "_law_any_of", "_law_any_of", "_law_any_of", s__law_any_of, 0⟩, ⟨.g "_law_names", "_law_names", "_law_names", s__law_names, 0⟩]
def fn3 : List DefT := [⟨.g "_law_all_spots", "_law_all_spots", "_law_all_spots", s__law_all_spots, 0⟩, ⟨.g "_law_spots", "_law_spots", "_law_spots", s__law_spots, 0⟩, ⟨.g "_law_last", "_law_last", "_law_last", s__law_last, 0⟩, ⟨.g "_law_flows", "_law_flows", "_law_flows", s__law_flows, 0⟩, ⟨.g "_law_sheet", "_law_sheet", "_law_sheet", s__law_sheet, 0⟩, ⟨.g "_law_plan", "_law_plan", "_law_plan", s__law_plan, 0⟩, ⟨.g "_law_wares", "_law_wares", "_law_wares", s__law_wares, 0⟩, ⟨.g "_law_caught", "_law_caught", "_law_caught", s__law_caught, 0⟩]
def fn4 : List DefT := [⟨.g "_law_later", "_law_later", "_law_later", s__law_later, 0⟩, ⟨.g "_law_common", "_law_common", "_law_common", s__law_common, 0⟩, ⟨.g "_law_by_days", "_law_by_days", "_law_by_days", s__law_by_days, 0⟩, ⟨.g "law", "law", "law", s_law, 0⟩, ⟨.m "Pack" "__init__", "__init__", "Pack.__init__", s_Pack___init__, 2⟩, ⟨.p "Pack" "last", "last", "Pack.last", s_Pack_last, 0⟩, ⟨.m "Plan" "__init__", "__init__", "Plan.__init__", s_Plan___init__, 0⟩]
def fn : List DefT := fn0 ++ fn1 ++ fn2 ++ fn3 ++ fn4
def sd_BadPack : SupD := ⟨"BadPack", "part", inClass (topS 3) 0⟩
def sd_BadPlan : SupD := ⟨"BadPlan", "part", inClass (topS 4) 0⟩
def sd_BadFit : SupD := ⟨"BadFit", "name", inClass (topS 5) 0⟩
def sd_TooMany : SupD := ⟨"TooMany", "most", inClass (topS 6) 0⟩
def sd_NoPack : SupD := ⟨"NoPack", "name", inClass (topS 7) 0⟩
def sd_BadDay : SupD := ⟨"BadDay", "day", inClass (topS 8) 0⟩
def sd : List SupD := [sd_BadPack, sd_BadPlan, sd_BadFit, sd_TooMany, sd_NoPack, sd_BadDay]
def supN : List (Str × Str) := [("BadPack", "part"), ("BadPlan", "part"), ("BadFit", "name"), ("TooMany", "most"), ("NoPack", "name"), ("BadDay", "day")]
def propN : List (Str × Str) := [("Pack", "last")]
def ocN : List Str := ["Pack", "Plan"]
def oxN : List Str := ["PackError", "BadPack", "BadPlan", "BadFit", "TooMany", "NoPack", "BadDay"]
def nxN : List Str := ["day", "name"]
def ask : Ask := ⟨fa, fn, sd, fun K0 K => allB PySem.Challenge.pw_narrowdraws_k25_slots_from_a_day_on supN propN ocN oxN nxN K0 K⟩
def names0 : List PySem.Str := ["_wall", "is_number", "is_within", "is_list", "is_name", "is_slot", "are_slots", "is_roll", "are_prices", "are_packs", "does_fit", "need_plan", "need_pack", "slots_of", "later_slots", "slots_from", "in_common", "shared", "day_first", "_law_begun"]
def names1 : List PySem.Str := ["_law_mixed", "_law_take", "_law_pick", "_law_any_of", "_law_names", "_law_all_spots", "_law_spots", "_law_last", "_law_flows", "_law_sheet", "_law_plan", "_law_wares", "_law_caught", "_law_later", "_law_common", "_law_by_days", "PackError", "BadPack", "BadPlan", "BadFit"]
def names2 : List PySem.Str := ["TooMany", "NoPack", "BadDay", "Pack", "Plan", "LETTERS", "LONGEST_NAME", "MOST_CELLS", "MOST_DAYS", "MOST_PACKS", "MOST_SLOTS", "MOST_AMOUNT", "MOST_UNITS", "MOST_PRICE", "MOST_COST"]
def names : List PySem.Str := names0 ++ names1 ++ names2
abbrev R : PySem.W.OpenRow := PySem.W.OpenLaw.row PySem.Challenge.rw_narrowdraws_k25_slots_from_a_day_on
abbrev hk : PySem.W.Hook := hookT 6 ask
def ob (s : PySem.W.SharedT) : AlT := ask.obs 6 (HandSHeadRun.getT s)
theorem ob_eq (s : PySem.W.SharedT) : ob s = hk.obs s.abs := obsT_eq (HandSHeadRun.getT_eq s)
theorem run (w : World) : HandSHeadRun.RunEq R (PySem.W.view R.prog [59]) hk ob 20000 names w := by
  intro os
  kernel_rfl
end ND
namespace ND
open PySem PySem.Spec PyProof.Rows L2
section
variable {P : Program} {w : World} {K : PySem.W.Frag} {mg : Str → Option Value} {base : Heap}
theorem draw_turn (aw ac : Addr) (r t x : Int) : putK (drawD aw ac r t) (kS "turn") (.int x) = drawD aw ac r x := rfl
theorem draw_rest (aw ac : Addr) (r t x : Int) : putK (drawD aw ac r t) (kS "rest") (.int x) = drawD aw ac x t := rfl
theorem drawD_len (aw ac : Addr) (r t : Int) : (drawD aw ac r t).length < sizeLine := by
  show 4 < sizeLine
  decide
def spMixed (K : PySem.W.Frag) : Sp := fun vs H Q _ => ∃ (d aw ac : Addr) (T : Nat), vs = [.ref d] ∧ Draw K d aw ac T H ∧ T ≤ 2 ^ 40 ∧ ∀ (n : Int) (H' : Hp), 0 ≤ n → Draw K d aw ac (T + 1) H' → Keep d d H H' → Q (.int n) H'
theorem prime_at {i : Nat} {x : V} (h : ([.int 2147483647, .int 2147483629, .int 2147483587, .int 2147483579] : List V)[i]? = some x) : ∃ p : Int, x = .int p ∧ 0 < p ∧ p < 4294967296 := by
  have m := List.mem_of_getElem? h
  simp only [List.mem_cons, List.not_mem_nil, or_false] at m
  rcases m with rfl | rfl | rfl | rfl
  · exact ⟨_, rfl, by decide, by decide⟩
  · exact ⟨_, rfl, by decide, by decide⟩
  · exact ⟨_, rfl, by decide, by decide⟩
  · exact ⟨_, rfl, by decide, by decide⟩
theorem okH__law_mixed (T : Tx P w K mg base) : GOk P w K mg base 1 "_law_mixed" ["_law_draw"] (spMixed K) := by
  refine GFun.ok (k := 0) T.d__law_mixed sc__law_mixed (fun _ _ _ _ _ _ us hl => match us, hl with | [_], _ => rfl) (fun vs H Q E h => ?_) (fun f cdv A outer s H vs Q E hr h => ?_)
  · obtain ⟨d, aw, ac, n, rfl, _⟩ := h
    rfl
  · obtain ⟨d, aw, ac, n, rfl, hD, hn, q⟩ := h
    obtain ⟨⟨ws, cs, r, t, hd, hw, hc, hws, lw, lc, hcs, hr0, ht0, htT⟩, hne⟩ := hD
    have ndw : d ≠ aw := ne_of hd hw (by intro z; cases z)
    have ndc : d ≠ ac := ne_of hd hc (by intro z; cases z)
    refine ⟨_, (pss_cons (ps_par (i := 1) (j := 2) (by rfl) sc__law_mixed.nd rfl rfl (by decide) rfl rfl (pa_cons (pe_op op_add (pe_dget (hu_of hr) (pv 0) pe_str (fun _ _ => rfl)) pe_int) (pa_cons pe_int pa_nil)) (by rfl))
      (pss_cons (ps_dput (hu_of hr) (pv 0) pe_str (pv 1) rfl)
      (pss_cons (ps_for (passes_of rfl) rfl (pi_list (pe_lst (pa_cons pe_int (pa_cons pe_int (pa_cons pe_int (pa_cons pe_int pa_nil)))))) (pg_name (i := 3) sc__law_mixed.nd rfl (Or.inl rfl)) (pss_cons (ps_set (i := 4) sc__law_mixed.nd rfl (Or.inl rfl) (pe_op op_add (pe_op op_mul pe_int (pv 1)) (pe_op op_fdivW (pv 3) pe_int)))
      (pss_cons (ps_for (passes_of rfl) rfl (pi_list (pe_dget (hu_of hr) (pv 0) pe_str (fun _ _ => rfl))) (pg_name (i := 5) sc__law_mixed.nd rfl (Or.inl rfl)) (pss_one (ps_set (i := 4) sc__law_mixed.nd rfl (Or.inl rfl) (pe_op op_mod (pe_callTy call_int1 (by rfl) T.n_int (by decide +kernel) (pa_cons (pe_op op_add (pe_op op_add (pe_op op_mul (pv 4) pe_int) (pv 5)) (pv 1)) pa_nil)) (pv 3)))))
      (pss_one (ps_set (i := 2) sc__law_mixed.nd rfl (Or.inl rfl) (pe_op op_add (pe_op op_mul (pv 2) pe_int) (pe_op op_mod (pe_callTy call_int1 (by rfl) T.n_int (by decide +kernel) (pa_cons (pe_op op_pow (pv 4) pe_int) pa_nil)) (pv 3))))))))
      (pss_one (ps_ret (pv 2)))))), ?_⟩
    refine ⟨.ref d, rfl, d, .int t, rfl, DGet.k (k := kS "turn") hd, t, 1, rfl, rfl, _, _, rfl, ?_⟩
    refine ⟨_, rfl, _, rfl, d, _, rfl, DPut.k (k := kS "turn") hd (drawD_len ..), ?_⟩
    rw [draw_turn]
    refine ⟨by decide, fun p np => ⟨p, rfl, ⟨_, SqL.of upd_same⟩, ?_⟩⟩
    have npd : p ≠ d := fun e => by rw [e, upd_same] at np; cases np
    have npc : p ≠ ac := fun e => by rw [e, upd_ne ndc.symm, hc] at np; cases np
    have npw : p ≠ aw := fun e => by rw [e, upd_ne ndw.symm, hw] at np; cases np
    have npH : H p = none := by rw [upd_ne npd] at np; exact np
    generalize hH2 : upd (upd H d (.dK (drawD aw ac r (t + 1)))) p _ = H2
    have ed : H2 d = some (.dK (drawD aw ac r (t + 1))) := by rw [← hH2, upd_ne npd.symm, upd_same]
    have ew : H2 aw = some (.lst (ws.map V.int)) := by rw [← hH2, upd_ne npw.symm, upd_ne ndw.symm]; exact hw
    have ec : H2 ac = some (.lst (cs.map V.int)) := by rw [← hH2, upd_ne npc.symm, upd_ne ndc.symm]; exact hc
    have ep : H2 p = some (.lst [.int 2147483647, .int 2147483629, .int 2147483587, .int 2147483579]) := by rw [← hH2, upd_same]
    refine for_list (xs := [.int 2147483647, .int 2147483629, .int 2147483587, .int 2147483579])
      (fun _ σ H' => ∃ (m : Int) (y3 y4 y5 : Option V), σ = [some (.ref d), some (.int (t + 1)), some (.int m), y3, y4, y5] ∧ 0 ≤ m ∧ H' = H2)
      ⟨0, none, none, none, rfl, by decide, rfl⟩ (fun _ _ _ _ h => by obtain ⟨_, _, _, _, _, _, rfl⟩ := h; exact SqL.of ep) ?_ ?_
    · rintro i x σ H' hx ⟨m, y3, y4, y5, rfl, hm, rfl⟩
      obtain ⟨pr, rfl, p0, p1⟩ := prime_at hx
      -- blend
      refine ⟨_, rfl, 69621, t + 1, rfl, rfl, .inl ⟨by decide, by decide⟩, _, rfl, pr, 23, rfl, rfl, ⟨by decide, by decide⟩, _, _, rfl, rfl, ?_⟩
      -- the inner loop
      refine ⟨_, rfl, d, .ref ac, rfl, DGet.k (k := kS "cells") ed, ac, rfl, ⟨_, SqL.of ec⟩, ?_⟩
      refine for_list (xs := cs.map V.int)
        (fun _ σ H'' => ∃ (b : Int) (y5 : Option V), σ = [some (.ref d), some (.int (t + 1)), some (.int m), some (.int pr), some (.int b), y5] ∧ 0 ≤ b ∧ b < 2 ^ 63 ∧ H'' = H')
        ⟨_, y5, rfl, ?_, ?_, rfl⟩ (fun _ _ _ _ h => by obtain ⟨_, _, _, _, _, rfl⟩ := h; exact SqL.of ec) ?_ ?_
      · have : 0 ≤ pr / 23 := Int.ediv_nonneg (by omega) (by decide)
        omega
      · have : pr / 23 ≤ pr := Int.ediv_le_self _ (by omega)
        have h3 : t ≤ 2 ^ 40 := by omega
        omega
      · rintro j z σ2 H3 hz ⟨b, y, rfl, hb0, hb1, rfl⟩
        have mz := List.mem_of_getElem? hz
        obtain ⟨g, mg', rfl⟩ := List.mem_map.mp mz
        refine ⟨_, rfl, b, 48271, rfl, rfl, .inr ⟨by decide, by decide⟩, _, rfl, _, g, rfl, rfl, _, rfl, _, t + 1, rfl, rfl, .inl ⟨_, rfl, _, rfl, _, pr, rfl, rfl, p0, ?_⟩⟩
        refine ⟨_, _, rfl, Int.emod_nonneg _ (by omega), ?_, rfl⟩
        have := Int.emod_lt_of_pos (b * 48271 + g + (t + 1)) p0
        omega
      · rintro σ2 H3 ⟨b, y, rfl, hb0, hb1, rfl⟩
        refine ⟨_, rfl, m, 2147483647, rfl, rfl, .inr ⟨by decide, by decide⟩, _, rfl, b, 5, rfl, rfl, ⟨by decide, by decide, by omega⟩, .inl ⟨_, rfl, _, rfl, _, pr, rfl, rfl, p0, _, _, rfl, rfl, ?_⟩⟩
        refine ⟨_, _, _, _, rfl, ?_, rfl⟩
        have h1 := Int.emod_nonneg (b ^ (5 : Int).toNat) (show pr ≠ 0 by omega)
        omega
    · rintro σ H' ⟨m, y3, y4, y5, rfl, hm, rfl⟩
      refine ⟨_, rfl, q m H' hm ⟨⟨ws, cs, r, t + 1, ed, ew, ec, hws, lw, lc, hcs, hr0, by omega, by omega⟩, hne⟩ ?_⟩
      intro b o h1 _ e
      rw [← hH2, upd_ne (ne_of_none e npH), upd_ne h1]
      exact e
end

section
variable {P : Program} {w : World} {K : PySem.W.Frag} {mg : Str → Option Value} {base : Heap}
def spTake (K : PySem.W.Frag) : Sp := fun vs H Q _ => ∃ (d aw ac : Addr) (T : Nat) (n : Int), vs = [.ref d, .int n] ∧ Draw K d aw ac T H ∧ T ≤ 2 ^ 40 ∧ 0 < n ∧ n < 1000000 ∧ ∀ (k : Int) (H' : Hp), 0 ≤ k → k < n → Draw K d aw ac (T + 1) H' → Keep d aw H H' → Q (.int k) H'
theorem six0 {z : Int} {zs : List Int} : seqIndex? 0 ((z :: zs).map V.int).length = some 0 := by
  simp [seqIndex?]
theorem Draw.mono {d aw ac : Addr} {T T' : Nat} {H : Hp} (h : Draw K d aw ac T H) (l : T ≤ T') : Draw K d aw ac T' H := by
  obtain ⟨⟨ws, cs, r, t, hd, hw, hc, hws, lw, lc, hcs, hr0, ht0, htT⟩, hne⟩ := h
  exact ⟨⟨ws, cs, r, t, hd, hw, hc, hws, lw, lc, hcs, hr0, ht0, by omega⟩, hne⟩
theorem okH__law_take (T : Tx P w K mg base) : GOk P w K mg base 2 "_law_take" ["_law_draw", "_law_size"] (spTake K) := by
  refine GFun.ok (k := 1) T.d__law_take sc__law_take (fun _ _ _ _ _ _ us hl => match us, hl with | [_, _], _ => rfl) (fun vs H Q E h => ?_) (fun f cdv A outer s H vs Q E hr h => ?_)
  · obtain ⟨d, aw, ac, T, n, rfl, _⟩ := h
    rfl
  · obtain ⟨d, aw, ac, m, n, rfl, hD, hm, hn0, hn1, q⟩ := h
    have hD0 := hD
    obtain ⟨⟨ws, cs, r, t, hd, hw, hc, hws, lw, lc, hcs, hr0, ht0, htT⟩, hne⟩ := hD
    have ndw : d ≠ aw := ne_of hd hw (by intro z; cases z)
    have ndc : d ≠ ac := ne_of hd hc (by intro z; cases z)
    refine ⟨_, (Evl.pss_cut (ps_if (pt_cmpR op_eq (pe_dget (hu_of hr) (pv 0) pe_str (fun _ _ => rfl)) pe_int (nomark _)) (pss_one (ps_dput (hu_of hr) (pv 0) pe_str (pe_ifExp (pt_cmpR (op_nilNe hr.units0) (pe_dget (hu_of hr) (pv 0) pe_str (fun _ _ => rfl)) (pe_lst pa_nil) (nomark _)) (pe_bm PySem.F.plainAttrs_list PySem.F.slot_list_pop PySem.F.type_list_pop mt_popAt (pe_dget (hu_of hr) (pv 0) pe_str (fun _ _ => rfl)) (pa_cons pe_int pa_nil)) (pe_g (okH__law_mixed T) (hr.mono (by decide)) (by rfl) passL (pa_cons (pv 0) pa_nil))) rfl)) pss_nil)
      (pss_cons (ps_set (i := 2) sc__law_take.nd rfl (Or.inl rfl) (pe_op op_mod (pe_callTy call_int1 (by rfl) T.n_int (by decide +kernel) (pa_cons (pe_dget (hu_of hr) (pv 0) pe_str (fun _ _ => rfl)) pa_nil)) (pv 1)))
      (pss_cons (ps_dput (hu_of hr) (pv 0) pe_str (pe_op op_fdivW (pe_dget (hu_of hr) (pv 0) pe_str (fun _ _ => rfl)) (pv 1)) rfl)
      (pss_one (ps_ret (pv 2)))))), ?_⟩
    refine ⟨fun σ H1 => σ = [some (.ref d), some (.int n), none] ∧ Draw K d aw ac (m + 1) H1 ∧ Keep d aw H H1, ?_, ?_⟩
    · refine ⟨_, rfl, d, .int r, rfl, DGet.k (k := kS "rest") hd, rfl, _, rfl, ?_⟩
      refine ite2 (fun _ => ?_) (fun _ => ⟨rfl, hD0.mono (by omega), Keep.refl⟩)
      -- the test: is there a wide number
      refine ⟨_, rfl, d, .ref aw, rfl, DGet.k (k := kS "wide") hd, Nat.zero_le _, fun p np => ?_⟩
      have s1 : Same H (upd H p (.lst [])) := fun b x e => by rw [upd_ne (ne_of_none e np)]; exact e
      refine ⟨aw, p, ws.map V.int, rfl, rfl, SqL.of (s1 _ _ hw), SqL.of upd_same, _, rfl, ?_⟩
      cases ws with
      | nil =>
        refine iteF ?_
        refine ⟨_, rfl, d, aw, ac, m, rfl, ⟨⟨[], cs, r, t, s1 _ _ hd, s1 _ _ hw, s1 _ _ hc, hws, lw, lc, hcs, hr0, ht0, htT⟩, hne⟩, hm, fun k H2 hk hD2 hK => ?_⟩
        obtain ⟨⟨ws2, cs2, r2, t2, hd2, hw2, hc2, hws2, lw2, lc2, hcs2, hr2, ht2, htT2⟩, hne2⟩ := hD2
        refine ⟨_, rfl, d, _, rfl, DPut.k (k := kS "rest") hd2 (drawD_len ..), ?_⟩
        rw [draw_rest]
        refine ⟨rfl, ⟨⟨ws2, cs2, k, t2, upd_same, by rw [upd_ne ndw.symm]; exact hw2, by rw [upd_ne ndc.symm]; exact hc2, hws2, lw2, lc2, hcs2, hk, ht2, htT2⟩, hne⟩, fun b o h1 h2 e => ?_⟩
        rw [upd_ne h1]
        exact hK b o h1 h1 (s1 b o e)
      | cons z zs =>
        refine iteT ?_
        refine ⟨_, rfl, d, .ref aw, rfl, DGet.k (k := kS "wide") (s1 _ _ hd), .inl ⟨rfl, _, SqL.of (s1 _ _ hw)⟩, aw, _, 0, 0, .int z, rfl, rfl, s1 _ _ hw, by decide, by decide, six0, rfl, ?_⟩
        refine ⟨_, rfl, d, _, rfl, DPut.k (k := kS "rest") (by rw [upd_ne ndw]; exact s1 _ _ hd) (drawD_len ..), ?_⟩
        rw [draw_rest]
        refine ⟨rfl, ⟨⟨zs, cs, z, t, upd_same, by rw [upd_ne ndw.symm, upd_same]; rfl, by rw [upd_ne ndc.symm, upd_ne hne.symm]; exact s1 _ _ hc, fun y hy => hws y (List.mem_cons_of_mem _ hy), ?_, lc, hcs, hws z List.mem_cons_self, ht0, by omega⟩, hne⟩, fun b o h1 h2 e => ?_⟩
        · rw [List.length_cons] at lw
          omega
        · rw [upd_ne h1, upd_ne h2]
          exact s1 b o e
    · rintro σ H1 ⟨rfl, hD1, hK⟩
      obtain ⟨⟨ws, cs, r, t, hd, hw, hc, hws, lw, lc, hcs, hr0, ht0, htT⟩, hne⟩ := hD1
      refine ⟨_, rfl, d, .int r, rfl, DGet.k (k := kS "rest") hd, .inl ⟨r, rfl, _, rfl, r, n, rfl, rfl, hn0, ?_⟩⟩
      refine ⟨_, rfl, d, .int r, rfl, DGet.k (k := kS "rest") hd, _, rfl, r, n, rfl, rfl, ⟨hn0, ?_⟩, _, rfl, d, _, rfl, DPut.k (k := kS "rest") hd (drawD_len ..), ?_⟩
      · have : n.natAbs < 2 ^ 9000 := Nat.lt_of_lt_of_le (show n.natAbs < 2 ^ 20 by omega) (Nat.pow_le_pow_right (by decide) (by decide))
        exact (Nat.log2_lt (by omega)).mpr this
      · rw [draw_rest]
        refine ⟨_, rfl, q _ _ (Int.emod_nonneg _ (by omega)) (Int.emod_lt_of_pos _ hn0) ⟨⟨ws, cs, r / n, t, upd_same, by rw [upd_ne ndw.symm]; exact hw, by rw [upd_ne ndc.symm]; exact hc, hws, lw, lc, hcs, Int.ediv_nonneg hr0 (by omega), ht0, htT⟩, hne⟩ fun b o h1 h2 e => ?_⟩
        rw [upd_ne h1]
        exact hK b o h1 h2 e
end

section
variable {P : Program} {w : World} {K : PySem.W.Frag} {mg : Str → Option Value} {base : Heap}
theorem orCallH {X : Cx} {f : Value} {r1 r2 : List V → Hp → VK → Prop} (a : CallR X f r1) (b : CallR X f r2) : CallR X f (fun xs H Q => r1 xs H Q ∨ r2 xs H Q) := by
  intro pins s σ H xs us Q I r h
  rcases h with h | h
  · exact a pins s σ H xs us Q I r h
  · exact b pins s σ H xs us Q I r h
/-- a list, a tuple or a text, and its items -/
def Src (K : PySem.W.Frag) (G : Hp) (v : V) (xs : List V) : Prop := (∃ a, v = .ref a ∧ (SqL K G a xs ∨ SqT K G a xs)) ∨ ∃ z : Str, v = .str z ∧ xs = z.cps.toList.map fun c => V.str ⟨#[c]⟩
theorem Src.l {G : Hp} {a : Addr} {xs : List V} (h : SqL K G a xs) : Src K G (.ref a) xs := .inl ⟨a, rfl, .inl h⟩
theorem Src.t {G : Hp} {a : Addr} {xs : List V} (h : SqT K G a xs) : Src K G (.ref a) xs := .inl ⟨a, rfl, .inr h⟩
theorem Src.h {G : Hp} {a : Addr} {xs : List V} (h : G a = some (.lst xs)) : Src K G (.ref a) xs := .inl ⟨a, rfl, .inl (SqL.of h)⟩
theorem atI_get {α : Type} {xs : List α} {k : Int} (h0 : 0 ≤ k) (h1 : k < xs.length) : ∃ h : k.toNat < xs.length, atI xs k = some xs[k.toNat] := by
  have hk : k.toNat < xs.length := by omega
  refine ⟨hk, ?_⟩
  unfold atI ixN
  rw [if_pos h0, if_pos h1]
  exact List.getElem?_eq_getElem hk
def spPick (K : PySem.W.Frag) : Sp := fun vs H Q _ => ∃ (d aw ac : Addr) (T : Nat) (G : Hp) (v : V) (xs : List V), vs = [.ref d, v] ∧ Wd K d aw ac T G H ∧ T ≤ 2 ^ 40 ∧ Src K G v xs ∧ 0 < xs.length ∧ xs.length < 1000 ∧
  ∀ (u : V) (H' : Hp), u ∈ xs → Wk K d aw ac (T + 1) G H G H' → Q u H'
theorem okH__law_pick (T : Tx P w K mg base) : GOk P w K mg base 3 "_law_pick" ["_law_draw", "_law_some"] (spPick K) := by
  refine GFun.ok (k := 2) T.d__law_pick sc__law_pick (fun _ _ _ _ _ _ us hl => match us, hl with | [_, _], _ => rfl) (fun vs H Q E h => ?_) (fun f cdv A outer s H vs Q E hr h => ?_)
  · obtain ⟨d, aw, ac, T, G, v, xs, rfl, _⟩ := h
    rfl
  · obtain ⟨d, aw, ac, m, G, v, xs, rfl, W, hm, hs, hl0, hl1, q⟩ := h
    refine ⟨_, (pss_one (ps_ret (pe_ix ix_seq (pv 1) (pe_g (okH__law_take T) (hr.mono (by decide)) (by rfl) passL (pa_cons (pv 0) (pa_cons (pe_callB (orCallH call_len_seq call_len_str) (by rfl) T.n_len (by decide +kernel) (pa_cons (pv 1) pa_nil)) pa_nil))) (fun _ _ => rfl)))), ?_⟩
    rcases hs with ⟨a, rfl, ha⟩ | ⟨z, rfl, rfl⟩
    · have ha' : ∀ {H' : Hp}, Same G H' → (SqL K H' a xs ∨ SqT K H' a xs) := fun s => ha.elim (fun h => .inl (s.seq h)) (fun h => .inr (Evl.ex_t s h))
      refine ⟨_, rfl, _, rfl, _, rfl, .inl ⟨a, xs, rfl, ha' W.sub, d, aw, ac, m, xs.length, rfl, W.dr, hm, by omega, by omega, fun k H' hk0 hk1 hD' hK => ?_⟩⟩
      have W2 := (Wk.of W).go hD' hK
      obtain ⟨hk, e⟩ := atI_get (xs := xs) hk0 hk1
      rcases ha' W2.w.sub with h | h
      · exact .inl ⟨a, xs, k, _, rfl, rfl, h, e, q _ _ (List.getElem_mem _) W2⟩
      · exact .inr (.inl ⟨a, xs, k, _, rfl, rfl, h, e, q _ _ (List.getElem_mem _) W2⟩)
    · rw [List.length_map] at hl0 hl1
      have hz : z.length = z.cps.toList.length := by rw [Array.length_toList]; rfl
      have hzl : z.length ≤ sizeLine := by rw [hz]; exact Nat.le_of_lt (small1000 (Nat.le_of_lt hl1))
      refine ⟨_, rfl, _, rfl, _, rfl, .inr ⟨z, rfl, hzl, d, aw, ac, m, z.length, rfl, W.dr, hm, by omega, by omega, fun k H' hk0 hk1 hD' hK => ?_⟩⟩
      have W2 := (Wk.of W).go hD' hK
      rw [hz] at hk1
      obtain ⟨hk, e⟩ := atI_get (xs := z.cps.toList) hk0 hk1
      exact .inr (.inr ⟨z, k, _, rfl, rfl, hzl, e, q _ _ (List.mem_map.mpr ⟨_, List.getElem_mem hk, rfl⟩) W2⟩)
/-- some of a list -/
def spAny (K : PySem.W.Frag) : Sp := fun vs H Q _ => ∃ (d aw ac a : Addr) (T : Nat) (G : Hp) (xs : List V) (n : Int), vs = [.ref d, .ref a, .int n] ∧ Wd K d aw ac T G H ∧ T + 1000 ≤ 2 ^ 40 ∧ SqL K G a xs ∧ xs.length < 1000 ∧ 0 < n ∧ n < 1000000 ∧
  ∀ (p : Addr) (ys : List V) (H' : Hp), ys.Sublist xs → Wk K d aw ac (T + xs.length) G H G H' → Lo d aw H G H' p (.lst ys) → Q (.ref p) H'
theorem take_at {xs : List V} {i : Nat} {x : V} (h : xs[i]? = some x) : xs.take (i + 1) = xs.take i ++ [x] := by
  rw [List.take_add_one, h]
  rfl
theorem okH__law_any_of (T : Tx P w K mg base) : GOk P w K mg base 3 "_law_any_of" ["_law_draw", "_law_words", "_law_size"] (spAny K) := by
  refine GFun.ok (k := 2) T.d__law_any_of sc__law_any_of (fun _ _ _ _ _ _ us hl => match us, hl with | [_, _, _], _ => rfl) (fun vs H Q E h => ?_) (fun f cdv A outer s H vs Q E hr h => ?_)
  · obtain ⟨d, aw, ac, a, T, G, xs, n, rfl, _⟩ := h
    rfl
  · obtain ⟨d, aw, ac, a, m, G, xs, n, rfl, W, hm, ha, hl, hn0, hn1, q⟩ := h
    refine ⟨_, (pss_one (ps_ret (pe_lc (own := [("_law_item", 3)]) (by rfl) sc__law_any_of.nd (pi_list (pv 1)) (blkOk_by (own := [("_law_item", 3)]) (N := N__law_any_of) (sc := defScope s__law_any_of) (by decide +kernel)) (fun _ _ _ _ _ => (pg_name (i := 3) sc__law_any_of.nd rfl (Or.inl rfl))) (fun _ _ _ _ _ => (pts_one (pt_cmpR op_gt (pe_g (okH__law_take T) (hr.mono (by decide)) (by rfl) passL (pa_cons (pv 0) (pa_cons (pv 2) pa_nil))) pe_int (nomark _)))) (fun _ _ _ _ _ => (pv 3))))), ?_⟩
    refine ⟨_, rfl, a, rfl, ⟨_, W.sub.seq ha⟩, fun D nD => ?_⟩
    refine lc_list (xs := xs) (fun i H' => Wk K d aw ac (m + i) G H G H' ∧ ∃ ys : List V, ys.Sublist (xs.take i) ∧ Lo d aw H G H' D (.lst ys)) ⟨(Wk.of W).tmp nD, [], List.nil_sublist _, (Wk.of W).lo nD⟩ (fun _ _ _ h => h.1.w.sub.seq ha) ?_ ?_
    · rintro i x H1 hx ⟨W1, ys, hys, L⟩
      have li := (List.getElem?_eq_some_iff.mp hx).1
      refine ⟨rfl, ?_⟩
      refine ⟨_, rfl, _, rfl, d, aw, ac, m + i, n, rfl, W1.w.dr, by omega, hn0, hn1, fun k H2 hk0 hk1 hD hK => ?_⟩
      have W2 := W1.go hD hK
      have W3 := W1.trans W2
      have L2 := L.wk W2
      refine ⟨_, _, rfl, rfl, _, rfl, ?_⟩
      rw [take_at hx]
      refine ite2 (fun _ => ?_) (fun _ => ⟨W3, ys, hys.trans (List.sublist_append_left _ _), L2⟩)
      refine ⟨_, rfl, ys, L2.h, ?_, W3.mut L2, ys ++ [x], ?_, L2.put⟩
      · have := hys.length_le
        rw [List.length_take] at this
        exact small1000 (by omega)
      · exact hys.append (List.Sublist.refl _)
    · rintro H1 ⟨W1, ys, hys, L⟩
      rw [List.take_length] at hys
      exact q D ys H1 hys W1 L
end
section
variable {K : PySem.W.Frag} {d aw ac : Addr} {T T' : Nat} {G0 H0 G H : Hp}
theorem Wd.up (W : Wd K d aw ac T G H) (h : T ≤ T') : Wd K d aw ac T' G H := ⟨W.dr.mono h, W.sub, W.nd, W.nw, W.cc⟩
theorem Wk.up (W : Wk K d aw ac T G0 H0 G H) (h : T ≤ T') : Wk K d aw ac T' G0 H0 G H := ⟨W.w.up h, W.s⟩
theorem mem_str {u : V} {xs : List Str} (h : u ∈ xs.map V.str) : ∃ z ∈ xs, u = .str z := by
  obtain ⟨z, hz, rfl⟩ := List.mem_map.mp h
  exact ⟨z, hz, rfl⟩
theorem mem_int {u : V} {xs : List Int} (h : u ∈ xs.map V.int) : ∃ z ∈ xs, u = .int z := by
  obtain ⟨z, hz, rfl⟩ := List.mem_map.mp h
  exact ⟨z, hz, rfl⟩
end

section
variable {P : Program} {w : World} {K : PySem.W.Frag} {mg : Str → Option Value} {base : Heap}
def spBegun (K : PySem.W.Frag) : Sp := fun vs H Q _ => ∃ (a : Addr) (ns : List Int), vs = [.ref a] ∧ SqL K H a (ns.map V.int) ∧ ns.length ≤ 63 ∧
  ∀ (d aw ac : Addr) (H' : Hp), Draw K d aw ac 0 H' → Same H H' → H d = none → H aw = none → Q (.ref d) H'
theorem ints_at {ns : List Int} {i : Nat} {x : V} (h : (ns.map V.int)[i]? = some x) : ∃ n, x = .int n := by
  obtain ⟨n, _, rfl⟩ := List.mem_map.mp (List.mem_of_getElem? h)
  exact ⟨n, rfl⟩
theorem same_new {H H' : Hp} {p : Addr} {o : HO} (s : Same H H') (n : H p = none) : Same H (upd H' p o) := fun b x e => by
  rw [upd_ne (ne_of_none e n)]
  exact s b x e
theorem sz63 {n : Nat} (h : n ≤ 100) : n < sizeLine := small1000 (by omega)
theorem okH__law_begun (T : Tx P w K mg base) : GOk P w K mg base 1 "_law_begun" ["_law_script"] (spBegun K) := by
  refine GFun.ok (k := 0) T.d__law_begun sc__law_begun (fun _ _ _ _ _ _ us hl => match us, hl with | [_], _ => rfl) (fun vs H Q E h => ?_) (fun f cdv A outer s H vs Q E hr h => ?_)
  · obtain ⟨a, ns, rfl, _⟩ := h
    rfl
  · obtain ⟨a, ns, rfl, hS, hl, q⟩ := h
    have hlm : (ns.map V.int).length = ns.length := List.length_map ..
    refine ⟨_, (pss_cons (ps_setLc (i := 1) (own := [("_law_grain", 2)]) (by rfl) sc__law_begun.nd rfl rfl (sw_true rfl rfl rfl (by decide +kernel)) (pi_list (pv 0)) (blkOk_by (own := [("_law_grain", 2)]) (N := N__law_begun) (sc := defScope s__law_begun) (by decide +kernel)) (fun _ _ _ _ _ => (pg_name (i := 2) sc__law_begun.nd rfl (Or.inl rfl))) (fun _ _ _ _ _ => (pts_one (pt_cmpR op_ge (pe_callB call_abs (by rfl) T.n_abs (by decide +kernel) (pa_cons (pv 2) pa_nil)) (pe_op op_pow pe_int pe_int) (nomark _)))) (fun _ _ _ _ _ => (pe_op op_sub (pe_callB call_abs (by rfl) T.n_abs (by decide +kernel) (pa_cons (pv 2) pa_nil)) (pe_op op_pow pe_int pe_int))))
      (pss_one (ps_ret (pe_disp (pps_cons pe_str (pv 1) (pps_cons pe_str (pe_lc (own := [("_law_grain", 2)]) (by rfl) sc__law_begun.nd (pi_list (pv 0)) (blkOk_by (own := [("_law_grain", 2)]) (N := N__law_begun) (sc := defScope s__law_begun) (by decide +kernel)) (fun _ _ _ _ _ => (pg_name (i := 2) sc__law_begun.nd rfl (Or.inl rfl))) (fun _ _ _ _ _ => pts_nil) (fun _ _ _ _ _ => (pe_op op_mod (pe_callTy call_int1 (by rfl) T.n_int (by decide +kernel) (pa_cons (pe_callB call_abs (by rfl) T.n_abs (by decide +kernel) (pa_cons (pv 2) pa_nil)) pa_nil)) pe_int))) (pps_cons pe_str pe_int (pps_cons pe_str pe_int pps_nil)))) (by rfl) (by rfl) (fun z => by cases z) (by decide))))), ?_⟩
    refine ⟨_, rfl, a, rfl, ⟨_, hS⟩, fun D nD => ?_⟩
    refine lc_list (xs := ns.map V.int) (fun i H' => Same H H' ∧ ∃ ws : List Int, H' D = some (.lst (ws.map V.int)) ∧ (∀ z ∈ ws, 0 ≤ z) ∧ ws.length ≤ i) ⟨same_new (Same.refl _) nD, [], upd_same, (fun _ h => nomatch h), Nat.le_refl _⟩ (fun _ _ _ h => h.1.seq hS) ?_ ?_
    · rintro i x H1 hx ⟨s1, ws, hD, hws, lws⟩
      obtain ⟨n, rfl⟩ := ints_at hx
      have li : i < 63 := by
        have := (List.getElem?_eq_some_iff.mp hx).1
        omega
      refine ⟨rfl, ?_⟩
      refine ⟨_, rfl, n, rfl, 10, 18, rfl, rfl, ⟨by decide, by decide, by decide⟩, _, _, rfl, rfl, _, rfl, ?_⟩
      refine ite2 (fun hc => ?_) (fun _ => ⟨s1, ws, hD, hws, by omega⟩)
      refine ⟨_, rfl, n, rfl, 10, 18, rfl, rfl, ⟨by decide, by decide, by decide⟩, _, _, rfl, rfl, _, hD, ?_, same_new s1 nD, ws ++ [(if n < 0 then -n else n) - 10 ^ (18 : Int).toNat], ?_, ?_, ?_⟩
      · rw [List.length_map]
        exact sz63 (by omega)
      · rw [upd_same, List.map_append]
        rfl
      · intro z hz
        rcases List.mem_append.mp hz with h | h
        · exact hws z h
        · rw [List.mem_singleton.mp h]
          have := of_decide_eq_true hc
          omega
      · rw [List.length_append]
        show ws.length + 1 ≤ i + 1
        omega
    · rintro H1 ⟨s1, ws, hD, hws, lws⟩
      rw [hlm] at lws
      -- the dict
      intro p np
      refine ⟨_, rfl, _, rfl, a, rfl, ⟨_, (same_new (Same.refl _) np).seq (s1.seq hS)⟩, fun D2 nD2 => ?_⟩
      have ne1 : D2 ≠ p := fun e => by rw [e, upd_same] at nD2; cases nD2
      have nD2' : H1 D2 = none := by rw [upd_ne ne1] at nD2; exact nD2
      have s2 : Same H1 (upd H1 p (.dK [])) := same_new (Same.refl _) np
      refine lc_list (xs := ns.map V.int) (fun i H' => Same (upd H1 p (.dK [])) H' ∧ ∃ cs : List Int, H' D2 = some (.lst (cs.map V.int)) ∧ (∀ z ∈ cs, 0 ≤ z ∧ z < 2147483629) ∧ cs.length ≤ i) ⟨same_new (Same.refl _) nD2, [], upd_same, (fun _ h => nomatch h), Nat.le_refl _⟩ (fun _ _ _ h => h.1.seq (s2.seq (s1.seq hS))) ?_ ?_
      · rintro i x H3 hx ⟨s3, cs, hD3, hcs, lcs⟩
        obtain ⟨n, rfl⟩ := ints_at hx
        have li : i < 63 := by
          have := (List.getElem?_eq_some_iff.mp hx).1
          omega
        refine ⟨rfl, ?_⟩
        refine ⟨_, rfl, n, rfl, .inl ⟨_, rfl, _, 2147483629, rfl, rfl, (show (0 : Int) < 2147483629 by decide), _, hD3, ?_, same_new s3 nD2, cs ++ [(if n < 0 then -n else n) % 2147483629], ?_, ?_, ?_⟩⟩
        · rw [List.length_map]
          exact sz63 (by omega)
        · rw [upd_same, List.map_append]
          rfl
        · intro z hz
          rcases List.mem_append.mp hz with h | h
          · exact hcs z h
          · rw [List.mem_singleton.mp h]
            exact ⟨Int.emod_nonneg _ (by decide), Int.emod_lt_of_pos _ (by decide)⟩
        · rw [List.length_append]
          show cs.length + 1 ≤ i + 1
          omega
      · rintro H3 ⟨s3, cs, hD3, hcs, lcs⟩
        rw [hlm] at lcs
        have ep : H3 p = some (.dK []) := s3 _ _ upd_same
        have eD : H3 D = some (.lst (ws.map V.int)) := s3 _ _ (s2 _ _ hD)
        refine ⟨ep, [(kS "wide", .ref D), (kS "cells", .ref D2), (kS "rest", .int 0), (kS "turn", .int 0)], rfl, (by show 4 ≤ 15; decide), ?_⟩
        have neDp : D ≠ p := ne_of_none hD np
        have neD2p : D2 ≠ p := ne1
        have nHp : H p = none := s1.free np
        refine q p D D2 _ ⟨⟨ws, cs, 0, 0, upd_same, by rw [upd_ne neDp]; exact eD, by rw [upd_ne neD2p]; exact hD3, hws, by omega, by omega, hcs, by decide, by decide, by decide⟩, ?_⟩ (same_new (s1.trans (s2.trans s3)) nHp) nHp nD
        exact ne_of_none hD nD2'
end

section
variable {P : Program} {w : World} {K : PySem.W.Frag} {mg : Str → Option Value} {base : Heap}
def spNames (K : PySem.W.Frag) : Sp := fun vs H Q _ => ∃ (d aw ac : Addr) (T : Nat) (G : Hp) (n : Nat), vs = [.ref d, .int n] ∧ Wd K d aw ac T G H ∧ T + 1000 ≤ 2 ^ 40 ∧ n ≤ 20 ∧
  ∀ (p : Addr) (zs : List Str) (G' H' : Hp), zs.length = n → zs.Nodup → (∀ z ∈ zs, NameOk z) → Wk K d aw ac (T + 10 * n) G H G' H' → Lo d aw H G' H' p (.lst (zs.map V.str)) → Q (.ref p) H'
theorem sum_sgn : ∀ cs : List Nat, ((cs.map sgn).map (·.length)).sum = cs.length
  | [] => rfl
  | c :: cs => by
    show 1 + ((cs.map sgn).map (·.length)).sum = cs.length + 1
    rw [sum_sgn cs]
    omega
theorem okH__law_names (T : Tx P w K mg base) : GOk P w K mg base 4 "_law_names" ["_law_draw", "_law_many"] (spNames K) := by
  refine GFun.ok (k := 3) T.d__law_names sc__law_names (fun _ _ _ _ _ _ us hl => match us, hl with | [_, _], _ => rfl) (fun vs H Q E h => ?_) (fun f cdv A outer s H vs Q E hr h => ?_)
  · obtain ⟨d, aw, ac, T, G, n, rfl, _⟩ := h
    rfl
  · obtain ⟨d, aw, ac, m, G, n, rfl, W, hm, hn, q⟩ := h
    refine ⟨_, (pss_cons (ps_asg (pe_tupF (pa_cons (pe_lst pa_nil) (pa_cons pe_str pa_nil))) (pg_tup rfl (pgs_cons (pg_name (i := 2) sc__law_names.nd rfl (Or.inr rfl)) (pgs_cons (pg_name (i := 3) sc__law_names.nd rfl (Or.inr rfl)) pgs_nil))))
      (pss_cons (ps_for (passes_of rfl) rfl (pi_range1 (by rfl) T.n_range (pa_cons (pv 1) pa_nil)) (pg_name (i := 4) sc__law_names.nd rfl (Or.inl rfl)) (pss_cons (ps_set (i := 5) sc__law_names.nd rfl (Or.inr rfl) (pe_g (okH__law_pick T) (hr.mono (by decide)) (by rfl) passL (pa_cons (pv 0) (pa_cons (pe_lst (pa_cons pe_str (pa_cons pe_str (pa_cons pe_str (pa_cons pe_str (pa_cons pe_str (pa_cons pe_str (pa_cons pe_str (pa_cons pe_str (pa_cons pe_str (pa_cons pe_str pa_nil))))))))))) pa_nil))))
      (Evl.pss_cut (ps_if (pt_cmpR op_eq (pe_g (okH__law_take T) (hr.mono (by decide)) (by rfl) passL (pa_cons (pv 0) (pa_cons pe_int pa_nil))) pe_int (nomark _)) (pss_one (ps_set (i := 5) sc__law_names.nd rfl (Or.inr rfl) (pe_join pe_str (pe_lc (own := [("_law_j", 6)]) (by rfl) sc__law_names.nd (pi_range1 (by rfl) T.n_range (pa_cons (pe_g (okH__law_pick T) (hr.mono (by decide)) (by rfl) passL (pa_cons (pv 0) (pa_cons (pe_lst (pa_cons pe_int (pa_cons pe_int (pa_cons pe_int pa_nil)))) pa_nil))) pa_nil)) (blkOk_by (own := [("_law_j", 6)]) (N := N__law_names) (sc := defScope s__law_names) (by decide +kernel)) (fun _ _ _ _ _ => (pg_name (i := 6) sc__law_names.nd rfl (Or.inl rfl))) (fun _ _ _ _ _ => pts_nil) (fun _ _ _ _ _ => (pe_g (okH__law_pick T) (hr.mono (by decide)) (by rfl) passL (pa_cons (pv 0) (pa_cons (pv 3) pa_nil)))))))) pss_nil)
      (pss_cons (ps_set (i := 7) sc__law_names.nd rfl (Or.inl rfl) (pe_op op_cat (pe_lst (pa_cons (pv 5) pa_nil)) (pe_lc (own := [("_law_sign", 8)]) (by rfl) sc__law_names.nd (pi_str (pv 3)) (blkOk_by (own := [("_law_sign", 8)]) (N := N__law_names) (sc := defScope s__law_names) (by decide +kernel)) (fun _ _ _ _ _ => (pg_name (i := 8) sc__law_names.nd rfl (Or.inl rfl))) (fun _ _ _ _ _ => pts_nil) (fun _ _ _ _ _ => (pe_op op_add_str (pe_slice sl_str (pv 5) po_none (po_some pe_int)) (pv 8))))))
      (pss_one (ps_expr (pe_bm PySem.F.plainAttrs_list PySem.F.slot_list_append PySem.F.type_list_append mt_append (pv 2) (pa_cons (pe_ix ix_list (pe_lc (own := [("_law_item", 9)]) (by rfl) sc__law_names.nd (pi_list (pv 7)) (blkOk_by (own := [("_law_item", 9)]) (N := N__law_names) (sc := defScope s__law_names) (by decide +kernel)) (fun _ _ _ _ _ => (pg_name (i := 9) sc__law_names.nd rfl (Or.inl rfl))) (fun _ _ _ _ _ => (pts_one (pt_cmpR (op_notIn_seqK K rfl) (pv 9) (pv 2) (by rfl)))) (fun _ _ _ _ _ => (pv 9))) pe_int (fun _ _ => rfl)) pa_nil))))))))
      (pss_one (ps_ret (pv 2))))), ?_⟩
    have W0 := Wk.of W
    refine ⟨Nat.zero_le _, fun p0 n0 => ⟨show 2 ≤ sizeLine by decide, fun p1 ob n1 hob => ?_⟩⟩
    refine ⟨p1, _, rfl, .inl (.inr ⟨ob, upd_same⟩), rfl, _, _, rfl, _, _, rfl, rfl, ?_⟩
    refine ⟨_, rfl, n, rfl, by omega, by omega, ?_⟩
    have e0 : (n : Int).toNat = n := Int.toNat_natCast n
    rw [e0]
    refine for_it walk_range (fun i σ H1 => ∃ (G1 : Hp) (zs : List Str) (a b c e g h : Option V), σ = [some (.ref d), some (.int n), some (.ref p0), some (.str letters), a, b, c, e, g, h] ∧ Wk K d aw ac (m + 10 * i) G H G1 H1 ∧ Lo d aw H G1 H1 p0 (.lst (zs.map V.str)) ∧ zs.length = i ∧ zs.Nodup ∧ ∀ z ∈ zs, NameOk z)
      ⟨G, [], none, none, none, none, none, none, rfl, (W0.tmp n0).tmp n1, (W0.lo n0).othN n1, rfl, List.nodup_nil, fun _ h => nomatch h⟩ (fun _ _ _ _ _ => trivial) ?_ ?_
    · rintro i x σ H1 H1' hi ⟨G1, zs, oa, ob, oc, oe, og, oh, rfl, W1, L1, hlen, hnd, hok⟩ ⟨rfl, rfl⟩
      refine ⟨_, rfl, (show 10 ≤ sizeLine by decide), fun pA nA => ?_⟩
      refine ⟨d, aw, ac, m + 10 * i, _, .ref pA, tenW.map V.str, rfl, (W1.new nA).w, by omega, Src.h upd_same, by decide, by decide, fun u H3 hu W3 => ?_⟩
      obtain ⟨z, hz, rfl⟩ := mem_str hu
      have W4 := (W1.new nA).trans W3
      have L4 := (L1.newN nA).wk W3
      refine ⟨fun σ' H' => ∃ (y : Str) (G' : Hp) (a b c e : Option V), σ' = [some (.ref d), some (.int n), some (.ref p0), some (.str letters), a, some (.str y), b, c, e, oh] ∧ NameOk y ∧ Wk K d aw ac (m + 10 * i + 9) G H G' H' ∧ Lo d aw H G' H' p0 (.lst (zs.map V.str)), ?_, ?_⟩
      · refine ⟨_, rfl, d, aw, ac, m + 10 * i + 1, 3, rfl, W4.w.dr, by omega, by decide, by decide, fun k H5 hk0 hk1 hD hK => ?_⟩
        have W5 := W4.go hD hK
        have W6 := W4.trans W5
        have L6 := L4.wk W5
        refine ⟨rfl, _, rfl, ?_⟩
        refine ite2 (fun _ => ?_) (fun _ => ⟨z, _, _, _, _, _, rfl, tenW_ok z hz, W6.up (by omega), L6⟩)
        refine ⟨⟨_, rfl⟩, _, rfl, (show 3 ≤ sizeLine by decide), fun pB nB => ?_⟩
        refine ⟨d, aw, ac, m + 10 * i + 1 + 1, _, .ref pB, ([1, 2, 6] : List Int).map V.int, rfl, (W6.new nB).w, by omega, Src.h upd_same, by decide, by decide, fun u H7 hu W7 => ?_⟩
        obtain ⟨j, hj, rfl⟩ := mem_int hu
        have W8 := (W6.new nB).trans W7
        have L8 := (L6.newN nB).wk W7
        have hj2 : 1 ≤ j ∧ j ≤ 6 := by
          simp only [List.mem_cons, List.not_mem_nil, or_false] at hj
          omega
        refine ⟨j, rfl, by omega, by omega, fun D nD => ?_⟩
        refine lc_it walk_range (fun t H' => ∃ cs : List Nat, cs.length = t ∧ (∀ c ∈ cs, c ∈ letters.cps.toList) ∧ Wk K d aw ac (m + 10 * i + 1 + 1 + 1 + t) G H (upd G1 pA (.lst (tenW.map V.str)) |> fun G2 => upd G2 pB (.lst (([1, 2, 6] : List Int).map V.int))) H' ∧ Lo d aw H (upd G1 pA (.lst (tenW.map V.str)) |> fun G2 => upd G2 pB (.lst (([1, 2, 6] : List Int).map V.int))) H' p0 (.lst (zs.map V.str)) ∧ Lo d aw H (upd G1 pA (.lst (tenW.map V.str)) |> fun G2 => upd G2 pB (.lst (([1, 2, 6] : List Int).map V.int))) H' D (.lst (cs.map fun c => V.str (sgn c))) ∧ p0 ≠ D)
          ⟨[], rfl, (fun _ h => nomatch h), W8.tmp nD, L8.othN nD, W8.lo nD, ne_of_none L8.h nD⟩ (fun _ _ _ _ => trivial) ?_ ?_
        · rintro t x H8 H8' ht ⟨cs, hcl, hcs, W9, L9, M9, hne⟩ ⟨rfl, rfl⟩
          refine ⟨rfl, ?_⟩
          refine ⟨_, rfl, _, rfl, d, aw, ac, _, _, .str letters, _, rfl, W9.w, by omega, .inr ⟨letters, rfl, rfl⟩, by decide, by decide, fun u H9 hu W10 => ?_⟩
          obtain ⟨c, hc, rfl⟩ := List.mem_map.mp hu
          have M10 := M9.wk W10
          refine ⟨_, M10.h, ?_, cs ++ [c], ?_, ?_, (W9.trans W10).mut M10, (L9.wk W10).oth hne, ?_, hne⟩
          · rw [List.length_map]; exact small1000 (by omega)
          · rw [List.length_append, hcl]; rfl
          · intro e he
            rcases List.mem_append.mp he with h1 | h1
            · exact hcs e h1
            · rw [List.mem_singleton.mp h1]; exact hc
          · rw [List.map_append]; exact M10.put
        · rintro H8 ⟨cs, hcl, hcs, W9, L9, M9, hne⟩
          have eM : cs.map (fun c => V.str (sgn c)) = (cs.map sgn).map V.str := by rw [List.map_map]; rfl
          refine ⟨_, D, cs.map sgn, rfl, rfl, .inl (SqL.of (by rw [← eM]; exact M9.h)), ?_, ?_⟩
          · have h1 := sum_sgn cs
            have h2 : ("" : Str).length = 0 := by decide
            rw [h1, h2]
            omega
          · refine ⟨_, _, _, _, _, _, rfl, ?_, W9.up (by omega), L9⟩
            rw [join_signs]
            exact name_of (by omega) (by omega) hcs
      · rintro σ' H2 ⟨y, G2, a2, b2, c2, e2, rfl, hy, W2, L2⟩
        refine ⟨_, rfl, (show 1 ≤ sizeLine by decide), fun pC nC => ?_⟩
        have W3 := W2.tmp (o := .lst [.str y]) nC
        have L3 := L2.othN (x := .lst [.str y]) nC
        have C3 := W2.lo (o := .lst [.str y]) nC
        refine ⟨_, rfl, _, rfl, fun D nD => ?_⟩
        refine lc_it walk_str (fun t H' => Wk K d aw ac (m + 10 * i + 9) G H G2 H' ∧ Lo d aw H G2 H' p0 (.lst (zs.map V.str)) ∧ Lo d aw H G2 H' pC (.lst [.str y]) ∧ Lo d aw H G2 H' D (.lst (((letters.cps.toList.take t).map (near1 y)).map V.str)) ∧ p0 ≠ D ∧ pC ≠ D)
          ⟨W3.tmp nD, L3.othN nD, C3.othN nD, W3.lo nD, ne_of_none L3.h nD, ne_of_none C3.h nD⟩ (fun _ _ _ _ => trivial) ?_ ?_
        · rintro t x H8 H8' ht ⟨W9, L9, C9, M9, h1, h2⟩ ⟨rfl, c, hc, rfl⟩
          refine ⟨rfl, ?_⟩
          refine ⟨_, rfl, _, rfl, y, rfl, ?_, _, rfl, _, _, rfl, rfl, ?_, _, M9.h, ?_, W9.mut M9, L9.oth h1, C9.oth h2, ?_, h1, h2⟩
          · exact Nat.le_of_lt (small1000 (by have := hy.2.1; omega))
          · have := cutS_length y none (some 5)
            have h3 := hy.2.1
            show _ + 1 ≤ sizeLine
            exact Nat.le_of_lt (small1000 (by omega))
          · rw [List.length_map, List.length_map, List.length_take, letters_len]; exact small1000 (by omega)
          · have ht2 : letters.cps.toList[t]? = some c := by rw [Array.getElem?_toList]; exact hc
            rw [List.take_add_one, ht2, List.map_append, List.map_append]
            exact M9.put
        · rintro H8 ⟨W9, L9, C9, M9, h1, h2⟩
          have eN : letters.cps.size = 26 := by decide +kernel
          rw [eN] at M9
          have eT : letters.cps.toList.take 26 = letters.cps.toList := List.take_of_length_le (by rw [letters_len]; exact Nat.le_refl _)
          rw [eT] at M9
          refine ⟨pC, D, _, _, rfl, rfl, C9.h, M9.h, ?_, fun pE nE => ?_⟩
          · rw [List.length_map, List.length_map, letters_len]; show 27 ≤ sizeLine; decide
          have W10 := W9.new (o := .lst ((nears y).map V.str)) nE
          have L10 := L9.newN (x := .lst ((nears y).map V.str)) nE
          have hE : upd G2 pE (.lst ((nears y).map V.str)) pE = some (.lst ((nears y).map V.str)) := upd_same
          refine ⟨_, rfl, .inl ⟨rfl, _, SqL.of L10.h⟩, ?_⟩
          refine ⟨_, rfl, pE, rfl, ⟨_, SqL.of (W10.w.sub _ _ hE)⟩, fun D3 nD3 => ?_⟩
          refine lc_it (walk_list (xs := (nears y).map V.str)) (fun t H' => Wk K d aw ac (m + 10 * i + 9) G H (upd G2 pE (.lst ((nears y).map V.str))) H' ∧ Lo d aw H (upd G2 pE (.lst ((nears y).map V.str))) H' p0 (.lst (zs.map V.str)) ∧ Lo d aw H (upd G2 pE (.lst ((nears y).map V.str))) H' D3 (.lst ((((nears y).take t).filter fun v => !decide (v ∈ zs)).map V.str)) ∧ p0 ≠ D3)
            ⟨W10.tmp nD3, L10.othN nD3, W10.lo nD3, ne_of_none L10.h nD3⟩ (fun _ _ _ h => SqL.of (h.1.w.sub _ _ hE)) ?_ ?_
          · rintro t x H11 H11' ht ⟨W11, L11, M11, h3⟩ ⟨rfl, hx⟩
            rw [List.getElem?_map] at hx
            obtain ⟨v, hv, rfl⟩ := Option.map_eq_some_iff.mp hx
            refine ⟨rfl, ?_⟩
            refine ⟨_, rfl, _, rfl, p0, zs.map V.str, rfl, .inl (SqL.of L11.h), rfl, flat_strs _, _, rfl, ?_⟩
            rw [List.take_add_one, hv, List.filter_append]
            have eI : inV (.str v) (zs.map V.str) = decide (v ∈ zs) := inV_strs
            refine ite2 (fun hb => ?_) (fun hb => ?_)
            · have hb' : decide (v ∈ zs) = false := by
                have : (!inV (.str v) (zs.map V.str)) = true := hb
                rw [eI] at this
                simpa using this
              refine ⟨_, rfl, _, M11.h, ?_, W11.mut M11, L11.oth h3, ?_, h3⟩
              · rw [List.length_map]
                refine Nat.lt_of_le_of_lt (List.length_filter_le _ _) ?_
                rw [List.length_take]
                exact small1000 (by
                  have : (nears y).length = 27 := by unfold nears; rw [List.length_cons, List.length_map, letters_len]
                  omega)
              · have : ([v].filter fun v => !decide (v ∈ zs)) = [v] := by simp [List.filter, hb']
                show Lo d aw H _ _ D3 (.lst (((((nears y).take t).filter fun v => !decide (v ∈ zs)) ++ ([v].filter fun v => !decide (v ∈ zs))).map V.str))
                rw [this, List.map_append]
                exact M11.put
            · have hb' : decide (v ∈ zs) = true := by
                have : ¬ (!inV (.str v) (zs.map V.str)) = true := hb
                rw [eI] at this
                simpa using this
              have : ([v].filter fun v => !decide (v ∈ zs)) = [] := by simp [List.filter, hb']
              refine ⟨W11, L11, ?_, h3⟩
              show Lo d aw H _ _ D3 (.lst (((((nears y).take t).filter fun v => !decide (v ∈ zs)) ++ ([v].filter fun v => !decide (v ∈ zs))).map V.str))
              rw [this, List.append_nil]
              exact M11
          · rintro H11 ⟨W11, L11, M11, h3⟩
            rw [List.length_map, List.take_length] at M11
            obtain ⟨v, hv1, hv2⟩ := nears_new (z := y) (fs := zs) (by omega)
            have hv3 : v ∈ (nears y).filter fun v => !decide (v ∈ zs) := List.mem_filter.mpr ⟨hv1, by simp [hv2]⟩
            cases eF : (nears y).filter (fun v => !decide (v ∈ zs)) with
            | nil => rw [eF] at hv3; cases hv3
            | cons v0 vr =>
              rw [eF] at M11
              have hm0 : v0 ∈ (nears y).filter fun v => !decide (v ∈ zs) := by rw [eF]; exact List.mem_cons_self
              have hv0 := List.mem_filter.mp hm0
              have hv0' : v0 ∉ zs := by simpa using hv0.2
              refine ⟨D3, _, 0, .str v0, rfl, rfl, SqL.of M11.h, ?_, p0, _, _, rfl, rfl, L11.h, ?_, _, zs ++ [v0], _, _, _, _, _, _, rfl, (W11.mut L11).up (by omega), ?_, ?_, ?_, ?_⟩
              · obtain ⟨hk, e⟩ := atI_get (xs := (v0 :: vr).map V.str) (k := 0) (by decide) (by simp)
                exact e
              · rw [List.length_map, hlen]; exact small1000 (by omega)
              · rw [List.map_append]; exact L11.put
              · rw [List.length_append, hlen]; rfl
              · refine List.nodup_append.mpr ⟨hnd, by simp, fun a ha b hb e => ?_⟩
                rw [List.mem_singleton.mp hb] at e
                exact hv0' (e ▸ ha)
              · intro z' hz'
                rcases List.mem_append.mp hz' with h5 | h5
                · exact hok z' h5
                · rw [List.mem_singleton.mp h5]; exact nears_ok hy hv0.1
    · rintro σ H1 ⟨G1, zs, oa, ob, oc, oe, og, oh, rfl, W1, L1, hlen, hnd, hok⟩
      exact ⟨_, rfl, q p0 zs G1 H1 hlen hnd hok W1 L1⟩
end

section
variable {P : Program} {w : World} {K : PySem.W.Frag} {mg : Str → Option Value} {base : Heap}
def spAllSpots (K : PySem.W.Frag) : Sp := fun vs H Q _ => ∃ (d aw ac a : Addr) (T : Nat) (G : Hp) (kinds : List Str) (n : Nat), vs = [.ref a, .int n] ∧ Wd K d aw ac T G H ∧ SqL K G a (kinds.map V.str) ∧ n ≤ 4 ∧ kinds.length ≤ 10 ∧
  ∀ (p : Addr) (us : List V) (G' H' : Hp), Wk K d aw ac T G H G' H' → Lo d aw H G' H' p (.lst us) → All2 (SpV K G') us (allSpots kinds n) → Q (.ref p) H'
theorem spots0_succ (kinds : List Str) (n : Nat) : spots0 kinds (n + 1) = spots0 kinds n ++ kinds.map fun k => (k, ((n : Nat) : Int)) := by
  unfold spots0
  rw [List.range_succ, List.flatMap_append]
  simp
theorem spots0_len (kinds : List Str) : ∀ n : Nat, (spots0 kinds n).length = n * kinds.length
  | 0 => by simp [spots0]
  | n + 1 => by rw [spots0_succ, List.length_append, spots0_len kinds n, List.length_map, Nat.succ_mul]
theorem okH__law_all_spots (T : Tx P w K mg base) : GOk P w K mg base 1 "_law_all_spots" ["_law_kinds", "_law_span"] (spAllSpots K) := by
  refine GFun.ok (k := 0) T.d__law_all_spots sc__law_all_spots (fun _ _ _ _ _ _ us hl => match us, hl with | [_, _], _ => rfl) (fun vs H Q E h => ?_) (fun f cdv A outer s H vs Q E hr h => ?_)
  · obtain ⟨d, aw, ac, a, T, G, kinds, n, rfl, _⟩ := h
    rfl
  · obtain ⟨d, aw, ac, a, m, G, kinds, n, rfl, W, ha, hn, hk, q⟩ := h
    have W0 := Wk.of W
    refine ⟨_, (pss_cons (ps_set (i := 2) sc__law_all_spots.nd rfl (Or.inl rfl) (pe_lst pa_nil))
      (pss_cons (ps_for (passes_of rfl) rfl (pi_range1 (by rfl) T.n_range (pa_cons (pv 1) pa_nil)) (pg_name (i := 3) sc__law_all_spots.nd rfl (Or.inr rfl)) (pss_one (ps_set (i := 2) sc__law_all_spots.nd rfl (Or.inl rfl) (pe_op op_cat (pv 2) (pe_lc (own := [("_law_kind", 4)]) (by rfl) sc__law_all_spots.nd (pi_list (pv 0)) (blkOk_by (own := [("_law_kind", 4)]) (N := N__law_all_spots) (sc := defScope s__law_all_spots) (by decide +kernel)) (fun _ _ _ _ _ => (pg_name (i := 4) sc__law_all_spots.nd rfl (Or.inl rfl))) (fun _ _ _ _ _ => pts_nil) (fun _ _ _ _ _ => (pe_tupF (pa_cons (pv 4) (pa_cons (pv 3) pa_nil)))))))))
      (pss_one (ps_ret (pe_callB (cr_sortSp (u80 hr)) (by rfl) T.n_sorted (by decide +kernel) (pa_cons (pv 2) pa_nil)))))), ?_⟩
    refine ⟨Nat.zero_le _, fun p0 n0 => ?_⟩
    refine ⟨_, rfl, n, rfl, by omega, by omega, ?_⟩
    have e0 : (n : Int).toNat = n := Int.toNat_natCast n
    rw [e0]
    refine for_it walk_range (fun i σ H1 => ∃ (G1 : Hp) (p : Addr) (us : List V) (x y : Option V), σ = [some (.ref a), some (.int n), some (.ref p), x, y] ∧ Wk K d aw ac m G H G1 H1 ∧ Lo d aw H G1 H1 p (.lst us) ∧ All2 (SpV K G1) us (spots0 kinds i))
      ⟨G, p0, [], none, none, rfl, W0.tmp n0, W0.lo n0, .nil⟩ (fun _ _ _ _ _ => trivial) ?_ ?_
    · rintro i x σ H1 H1' hi ⟨G1, p, us, x1, y1, rfl, W1, L1, hus⟩ ⟨rfl, rfl⟩
      have hul := hus.len
      rw [spots0_len] at hul
      have hil : i * kinds.length ≤ 40 := Nat.le_trans (Nat.mul_le_mul (show i ≤ 4 by omega) hk) (by decide)
      refine ⟨_, rfl, _, rfl, a, rfl, ⟨_, W1.w.sub.seq (W1.s.g.seq ha)⟩, fun D nD => ?_⟩
      refine lc_it (walk_list (xs := kinds.map V.str)) (fun t H' => ∃ (G2 : Hp) (vs : List V), Wk K d aw ac m G H G2 H' ∧ Same G1 G2 ∧ Lo d aw H G2 H' p (.lst us) ∧ Lo d aw H G2 H' D (.lst vs) ∧ p ≠ D ∧ All2 (SpV K G2) vs ((kinds.take t).map fun k => (k, ((i : Nat) : Int))))
        ⟨G1, [], W1.tmp nD, Same.refl _, L1.othN nD, W1.lo nD, ne_of_none L1.h nD, .nil⟩ (fun _ _ _ h => by
          obtain ⟨G2, vs, W2, s2, _⟩ := h
          exact W2.w.sub.seq (s2.seq (W1.s.g.seq ha))) ?_ ?_
      · rintro t x H2 H2' ht ⟨G2, vs, W2, s2, L2, M2, hne, hvs⟩ ⟨rfl, hx⟩
        rw [List.getElem?_map] at hx
        obtain ⟨k, hk', rfl⟩ := Option.map_eq_some_iff.mp hx
        refine ⟨rfl, ?_⟩
        refine ⟨_, rfl, _, rfl, (show 2 ≤ sizeLine by decide), fun pt ob nt hob => ?_⟩
        have L3 := L2.newN (x := .frz ob (.tup [.str k, .int (0 + (i : Nat))])) nt
        have M3 := M2.newN (x := .frz ob (.tup [.str k, .int (0 + (i : Nat))])) nt
        have W3 := W2.new (o := .frz ob (.tup [.str k, .int (0 + (i : Nat))])) nt
        have s3 : Same G2 (upd G2 pt (.frz ob (.tup [.str k, .int (0 + (i : Nat))]))) := same_add (W2.w.gn nt)
        refine ⟨_, M3.h, ?_, _, vs ++ [.ref pt], W3.mut M3, s2.trans s3, L3.oth hne, M3.put, hne, ?_⟩
        · have := hvs.len
          rw [List.length_map, List.length_take] at this
          exact small1000 (by omega)
        · rw [List.take_add_one, hk', List.map_append]
          refine (hvs.imp fun _ _ h => h.mono s3).snoc ⟨pt, rfl, ?_⟩
          refine GT.new (o := ob) ?_ hob
          rw [upd_same, Int.zero_add]
      · rintro H2 ⟨G2, vs, W2, s2, L2, M2, hne, hvs⟩
        rw [List.length_map, List.take_length] at hvs
        have hvl := hvs.len
        rw [List.length_map] at hvl
        refine ⟨p, D, us, vs, rfl, rfl, L2.h, M2.h, Nat.le_of_lt (small1000 (by omega)), fun pE nE => ?_⟩
        refine ⟨G2, pE, us ++ vs, _, _, rfl, W2.tmp nE, W2.lo nE, ?_⟩
        rw [spots0_succ]
        exact (hus.imp fun _ _ h => h.mono s2).app hvs
    · rintro σ H1 ⟨G1, p, us, x1, y1, rfl, W1, L1, hus⟩
      exact ⟨_, rfl, p, us, spots0 kinds n, SpV K G1, rfl, SqL.of L1.h, hus, fun _ _ h => h.mono W1.w.sub, fun pS vs nS hvs _ => q pS vs G1 _ (W1.tmp nS) (W1.lo nS) hvs⟩
end

section
variable {P : Program} {w : World} {K : PySem.W.Frag} {mg : Str → Option Value} {base : Heap}
def spSpots (K : PySem.W.Frag) : Sp := fun vs H Q _ => ∃ (d aw ac a : Addr) (T : Nat) (G : Hp) (kinds : List Str) (n : Nat), vs = [.ref d, .ref a, .int n] ∧ Wd K d aw ac T G H ∧ T + 10000 ≤ 2 ^ 40 ∧ SqL K G a (kinds.map V.str) ∧ 0 < n ∧ n ≤ 4 ∧ 0 < kinds.length ∧ kinds.length ≤ 10 ∧
  ∀ (p : Addr) (us : List V) (ss : List Spot) (G' H' : Hp), Wk K d aw ac (T + 100) G H G' H' → Lo d aw H G' H' p (.lst us) → All2 (SpV K G') us ss → ss.Sublist (allSpots kinds n) → ss ≠ [] → Q (.ref p) H'
theorem spSort_len (ss : List Spot) : (spSort ss).length = ss.length := List.length_mergeSort _
theorem allSpots_len (kinds : List Str) (n : Nat) : (allSpots kinds n).length = n * kinds.length := by
  unfold allSpots
  rw [spSort_len, spots0_len]
theorem lc_half {d aw ac pe : Addr} {T : Nat} {G0 H0 G H : Hp} {xs : List V} {o1 o2 o4 o5 o6 o7 o8 o9 : Option V} (W : Wk K d aw ac T G0 H0 G H) (hT : T + 1000 ≤ 2 ^ 40) (hx : SqL K G pe xs) (hl : xs.length < 1000) {Q : VK}
    (q : ∀ (D : Addr) (ys : List V) (H' : Hp), ys.Sublist xs → Wk K d aw ac (T + xs.length) G0 H0 G H' → Lo d aw H0 G H' D (.lst ys) → Q (.ref D) H') :
    tLc (iList K (tVar 3)) (gName 10) (tTest (tOp rEq (tCall (spTake K) [] E0 (tCons (tVar 0) (tCons (tC (.int 2)) tNil))) (tC (.int 0)))) (tVar 10) [10] [some (.ref d), o1, o2, some (.ref pe), o4, o5, o6, o7, o8, o9, none] H Q := by
  refine ⟨_, rfl, pe, rfl, ⟨_, W.w.sub.seq hx⟩, fun D nD => ?_⟩
  refine lc_it (walk_list (xs := xs)) (fun i H' => Wk K d aw ac (T + i) G0 H0 G H' ∧ ∃ ys : List V, ys.Sublist (xs.take i) ∧ Lo d aw H0 G H' D (.lst ys)) ⟨W.tmp nD, [], List.nil_sublist _, W.lo nD⟩ (fun _ _ _ h => h.1.w.sub.seq hx) ?_ ?_
  · rintro i x H1 H1' hi ⟨W1, ys, hys, L⟩ ⟨rfl, hx⟩
    refine ⟨rfl, ?_⟩
    refine ⟨_, rfl, d, aw, ac, T + i, 2, rfl, W1.w.dr, by omega, by decide, by decide, fun k H2 hk0 hk1 hD hK => ?_⟩
    have W2 := W1.go hD hK
    have W3 := W1.trans W2
    have L2 := L.wk W2
    refine ⟨rfl, _, rfl, ?_⟩
    rw [take_at hx]
    refine ite2 (fun _ => ?_) (fun _ => ⟨W3, ys, hys.trans (List.sublist_append_left _ _), L2⟩)
    refine ⟨_, rfl, ys, L2.h, ?_, W3.mut L2, ys ++ [x], ?_, L2.put⟩
    · have := hys.length_le
      rw [List.length_take] at this
      exact small1000 (by omega)
    · exact hys.append (List.Sublist.refl _)
  · rintro H1 ⟨W1, ys, hys, L⟩
    rw [List.take_length] at hys
    exact q D ys H1 hys W1 L
theorem okH__law_spots (T : Tx P w K mg base) : GOk P w K mg base 4 "_law_spots" ["_law_draw", "_law_kinds", "_law_span"] (spSpots K) := by
  refine GFun.ok (k := 3) T.d__law_spots sc__law_spots (fun _ _ _ _ _ _ us hl => match us, hl with | [_, _, _], _ => rfl) (fun vs H Q E h => ?_) (fun f cdv A outer s H vs Q E hr h => ?_)
  · obtain ⟨d, aw, ac, a, T, G, kinds, n, rfl, _⟩ := h
    rfl
  · obtain ⟨d, aw, ac, a, m, G, kinds, n, rfl, W, hm, ha, hn0, hn, hk0, hk, q⟩ := h
    refine ⟨_, (pss_cons (ps_set (i := 3) sc__law_spots.nd rfl (Or.inl rfl) (pe_g (okH__law_all_spots T) (hr.mono (by decide)) (by rfl) passL (pa_cons (pv 1) (pa_cons (pv 2) pa_nil))))
      (pss_cons (ps_set (i := 4) sc__law_spots.nd rfl (Or.inl rfl) (pe_g (okH__law_take T) (hr.mono (by decide)) (by rfl) passL (pa_cons (pv 0) (pa_cons (pv 2) pa_nil))))
      (pss_cons (ps_set (i := 5) sc__law_spots.nd rfl (Or.inl rfl) (pe_op op_add (pv 4) (pe_g (okH__law_take T) (hr.mono (by decide)) (by rfl) passL (pa_cons (pv 0) (pa_cons (pe_op op_sub (pv 2) (pv 4)) pa_nil)))))
      (pss_cons (ps_set (i := 6) sc__law_spots.nd rfl (Or.inl rfl) (pe_g (okH__law_any_of T) (hr.mono (by decide)) (by rfl) passL (pa_cons (pv 0) (pa_cons (pv 1) (pa_cons pe_int pa_nil)))))
      (pss_cons (ps_set (i := 7) sc__law_spots.nd rfl (Or.inl rfl) (pe_lst pa_nil))
      (pss_cons (ps_for (passes_of rfl) rfl (pi_list (pv 3)) (pg_tup rfl (pgs_cons (pg_name (i := 8) sc__law_spots.nd rfl (Or.inl rfl)) (pgs_cons (pg_name (i := 9) sc__law_spots.nd rfl (Or.inl rfl)) pgs_nil))) (pss_one (ps_if (PW.pt (pw_and (pt_cmpR op_in_seq (pv 8) (pv 6) (by rfl)) (pw_and1 (pt_chain op_le op_le (pv 4) (pv 9) (pv 5))))) (pss_one (ps_expr (pe_bm PySem.F.plainAttrs_list PySem.F.slot_list_append PySem.F.type_list_append mt_append (pv 7) (pa_cons (pe_tupF (pa_cons (pv 8) (pa_cons (pv 9) pa_nil))) pa_nil)))) pss_nil)))
      (Evl.pss_cut (ps_if (PW.pt (pw_or (pt_cmpR (op_nilEq hr.units0) (pv 7) (pe_lst pa_nil) (nomark _)) (pw_or1 (pt_cmpR op_eq (pe_g (okH__law_take T) (hr.mono (by decide)) (by rfl) passL (pa_cons (pv 0) (pa_cons pe_int pa_nil))) pe_int (nomark _))))) (pss_one (ps_setLc (i := 7) (own := [("_law_spot", 10)]) (by rfl) sc__law_spots.nd rfl rfl (sw_true rfl rfl rfl (by decide +kernel)) (pi_list (pv 3)) (blkOk_by (own := [("_law_spot", 10)]) (N := N__law_spots) (sc := defScope s__law_spots) (by decide +kernel)) (fun _ _ _ _ _ => (pg_name (i := 10) sc__law_spots.nd rfl (Or.inl rfl))) (fun _ _ _ _ _ => (pts_one (pt_cmpR op_eq (pe_g (okH__law_take T) (hr.mono (by decide)) (by rfl) passL (pa_cons (pv 0) (pa_cons pe_int pa_nil))) pe_int (nomark _)))) (fun _ _ _ _ _ => (pv 10)))) pss_nil)
      (pss_one (ps_ret (pe_ifExp (pt_cmpR (op_nilNe hr.units0) (pv 7) (pe_lst pa_nil) (nomark _)) (pv 7) (pe_lst (pa_cons (pe_g (okH__law_pick T) (hr.mono (by decide)) (by rfl) passL (pa_cons (pv 0) (pa_cons (pv 3) pa_nil))) pa_nil)))))))))))), ?_⟩
    have hnk : n * kinds.length ≤ 40 := Nat.le_trans (Nat.mul_le_mul hn hk) (by decide)
    have hnk0 : 0 < n * kinds.length := Nat.mul_pos hn0 hk0
    refine ⟨_, rfl, _, rfl, d, aw, ac, a, m, G, kinds, n, rfl, W, ha, hn, hk, fun pe ue G1 H1 W1 L1 A1 => ?_⟩
    have hul := A1.len
    rw [allSpots_len] at hul
    have W2 := W1.seal L1
    have s2 : Same G1 (upd G1 pe (.lst ue)) := same_add L1.g
    have A2 : All2 (SpV K (upd G1 pe (.lst ue))) ue (allSpots kinds n) := A1.imp fun _ _ h => h.mono s2
    have hpe : upd G1 pe (.lst ue) pe = some (.lst ue) := upd_same
    revert W2 A2 hpe
    have ha2 : SqL K (upd G1 pe (.lst ue)) a (kinds.map V.str) := s2.seq (W1.s.g.seq ha)
    revert ha2
    generalize upd G1 pe (.lst ue) = G2
    intro ha2 W2 A2 hpe
    refine ⟨_, rfl, _, rfl, d, aw, ac, m, n, rfl, W2.w.dr, by omega, by omega, by omega, fun k1 H2 hk10 hk11 hD1 hK1 => ?_⟩
    have W3 := W2.trans (W2.go hD1 hK1)
    refine ⟨_, rfl, _, rfl, _, rfl, _, rfl, _, _, rfl, rfl, d, aw, ac, m + 1, _, rfl, W3.w.dr, by omega, by omega, by omega, fun k2 H3 hk20 hk21 hD2 hK2 => ?_⟩
    have W4 := W3.trans (W3.go hD2 hK2)
    refine ⟨_, _, rfl, rfl, ?_⟩
    refine ⟨_, rfl, _, rfl, d, aw, ac, a, _, G2, kinds.map V.str, 3, rfl, W4.w, by omega, ha2, by rw [List.length_map]; omega, by decide, by decide, fun po os H5 hos W5 L5 => ?_⟩
    have W6 := W4.trans W5
    obtain ⟨ks, hks, rfl⟩ := List.sublist_map_iff.mp hos
    refine ⟨Nat.zero_le _, fun p0 n0 => ?_⟩
    have hT : ∀ {G0 H0 G9 H9 : Hp}, Wk K d aw ac (m + 1 + 1 + (kinds.map V.str).length) G0 H0 G9 H9 → Wk K d aw ac (m + 12) G0 H0 G9 H9 := fun h => h.up (by rw [List.length_map]; omega)
    refine ⟨_, rfl, pe, rfl, ⟨_, SqL.of (((W6.tmp n0).w.sub) _ _ hpe)⟩, ?_⟩
    refine for_it (walk_list (xs := ue)) (fun i σ H1 => ∃ (G3 : Hp) (us : List V) (ss : List Spot) (x y : Option V), σ = [some (.ref d), some (.ref a), some (.int n), some (.ref pe), some (.int k1), some (.int (k1 + k2)), some (.ref po), some (.ref p0), x, y, none] ∧ Same G2 G3 ∧ Wk K d aw ac (m + 12) G H G3 H1 ∧ Lo d aw H G3 H1 p0 (.lst us) ∧ Lo d aw H G3 H1 po (.lst (ks.map V.str)) ∧ po ≠ p0 ∧ All2 (SpV K G3) us ss ∧ ss.Sublist ((allSpots kinds n).take i))
      ⟨G2, [], [], none, none, rfl, Same.refl _, hT (W6.tmp n0), W6.lo n0, (L5.back W4.s).othN n0, ne_of_none L5.h n0, .nil, List.nil_sublist _⟩ (fun i σ H1 _ h => by
        obtain ⟨G3, us, ss, x, y, _, s3, W7, _⟩ := h
        exact SqL.of (W7.w.sub _ _ (s3 _ _ hpe))) ?_ ?_
    · rintro i x σ H1 H1' hi ⟨G3, us, ss, x1, y1, rfl, s3, W7, L7, O7, hne, A7, hss⟩ ⟨rfl, hx⟩
      obtain ⟨sp, hsp, r, rfl, hr2⟩ := A2.at hx
      have hr3 := Evl.ex_t (s3.trans W7.w.sub) hr2.1
      refine ⟨r, _, rfl, hr3, rfl, _, _, rfl, _, _, rfl, rfl, ?_⟩
      have htk : (allSpots kinds n).take (i + 1) = (allSpots kinds n).take i ++ [sp] := by rw [List.take_add_one, hsp]; rfl
      have stay : ∀ (x y : Option V), ∃ (G3' : Hp) (us : List V) (ss : List Spot) (x' y' : Option V), [some (V.ref d), some (.ref a), some (.int n), some (.ref pe), some (.int k1), some (.int (k1 + k2)), some (.ref po), some (.ref p0), x, y, none] = [some (V.ref d), some (.ref a), some (.int n), some (.ref pe), some (.int k1), some (.int (k1 + k2)), some (.ref po), some (.ref p0), x', y', none] ∧ Same G2 G3' ∧ Wk K d aw ac (m + 12) G H G3' H1' ∧ Lo d aw H G3' H1' p0 (.lst us) ∧ Lo d aw H G3' H1' po (.lst (ks.map V.str)) ∧ po ≠ p0 ∧ All2 (SpV K G3') us ss ∧ ss.Sublist ((allSpots kinds n).take (i + 1)) := fun x y =>
        ⟨G3, us, ss, x, y, rfl, s3, W7, L7, O7, hne, A7, by rw [htk]; exact hss.trans (List.sublist_append_left _ _)⟩
      refine ⟨_, rfl, _, rfl, po, _, rfl, .inl (SqL.of O7.h), rfl, flat_strs _, _, rfl, ?_⟩
      refine ite2 (fun _ => ?_) (fun _ => stay _ _)
      refine ⟨_, rfl, _, rfl, _, _, rfl, rfl, ?_⟩
      refine ⟨_, rfl, ?_⟩
      refine ite2 (fun _ => ?_) (fun hcc => ?_)
      · refine ⟨_, rfl, _, _, rfl, rfl, _, rfl, ?_⟩
        refine ite2 (fun _ => ?_) (fun _ => stay _ _)
        refine ⟨_, rfl, .inl ⟨rfl, _, SqL.of L7.h⟩, _, rfl, _, rfl, (show 2 ≤ sizeLine by decide), fun pt ob nt hob => ?_⟩
        have L8 := L7.newN (x := .frz ob (.tup [.str sp.1, .int sp.2])) nt
        have O8 := O7.newN (x := .frz ob (.tup [.str sp.1, .int sp.2])) nt
        have W8 := W7.new (o := .frz ob (.tup [.str sp.1, .int sp.2])) nt
        have s8 : Same G3 (upd G3 pt (.frz ob (.tup [.str sp.1, .int sp.2]))) := same_add (W7.w.gn nt)
        refine ⟨p0, us, _, rfl, rfl, L8.h, ?_, _, us ++ [.ref pt], ss ++ [sp], _, _, rfl, s3.trans s8, W8.mut L8, L8.put, O8.oth hne, hne, ?_, ?_⟩
        · have h1 := A7.len
          have h2 := hss.length_le
          rw [List.length_take] at h2
          rw [allSpots_len] at h2
          exact small1000 (by omega)
        · exact (A7.imp fun _ _ h => h.mono s8).snoc ⟨pt, rfl, GT.new upd_same hob⟩
        · rw [htk]; exact hss.append (List.Sublist.refl _)
      · refine ⟨_, rfl, ?_⟩
        exact iteF (stay _ _)
    · rintro σ H1 ⟨G3, us, ss, x1, y1, rfl, s3, W7, L7, O7, hne, A7, hss⟩
      rw [List.take_of_length_le (by rw [allSpots_len, hul]; exact Nat.le_refl _)] at hss
      have hul2 : us.length ≤ 40 := by
        have h1 := A7.len
        have h2 := hss.length_le
        rw [allSpots_len] at h2
        omega
      refine ⟨fun σ' H' => ∃ (G4 : Hp) (p : Addr) (us : List V) (ss : List Spot) (x y z : Option V), σ' = [some (.ref d), some (.ref a), some (.int n), some (.ref pe), some (.int k1), some (.int (k1 + k2)), some (.ref po), some (.ref p), x, y, z] ∧ Same G2 G4 ∧ Wk K d aw ac (m + 60) G H G4 H' ∧ Lo d aw H G4 H' p (.lst us) ∧ All2 (SpV K G4) us ss ∧ ss.Sublist (allSpots kinds n), ?_, ?_⟩
      · refine ⟨_, rfl, Nat.zero_le _, fun pn nn => ?_⟩
        have W8 := W7.tmp (o := .lst []) nn
        have L8 := L7.othN (x := .lst []) nn
        refine ⟨p0, pn, us, rfl, rfl, SqL.of L8.h, SqL.of upd_same, _, rfl, ?_⟩
        have back : ∀ {x y z : Option V} {D : Addr} {ys : List V} {T9 : Nat} {H' : Hp}, T9 ≤ m + 60 → ys.Sublist ue → Wk K d aw ac T9 G H G3 H' → Lo d aw H G3 H' D (.lst ys) → ∃ (G4 : Hp) (p : Addr) (us : List V) (ss : List Spot) (x' y' z' : Option V), [some (V.ref d), some (.ref a), some (.int n), some (.ref pe), some (.int k1), some (.int (k1 + k2)), some (.ref po), some (.ref D), x, y, z] = [some (V.ref d), some (.ref a), some (.int n), some (.ref pe), some (.int k1), some (.int (k1 + k2)), some (.ref po), some (.ref p), x', y', z'] ∧ Same G2 G4 ∧ Wk K d aw ac (m + 60) G H G4 H' ∧ Lo d aw H G4 H' p (.lst us) ∧ All2 (SpV K G4) us ss ∧ ss.Sublist (allSpots kinds n) := fun {x y z D ys T9 H'} hT9 hys W L => by
          obtain ⟨ts, hts, hA⟩ := A2.sub hys
          exact ⟨G3, D, ys, ts, _, _, _, rfl, s3, W.up hT9, L, hA.imp fun _ _ h => h.mono s3, hts⟩
        have hge := s3.seq (K := K) (SqL.of hpe)
        cases us with
        | nil =>
          refine iteT (iteT ?_)
          exact lc_half W8 (by omega) hge (by omega) fun D ys H' hys W9 L9 => back (by omega) hys W9 L9
        | cons u ur =>
          refine iteF ?_
          refine ⟨_, rfl, d, aw, ac, m + 12, 3, rfl, W8.w.dr, by omega, by decide, by decide, fun k H2 hk0 hk1 hD hK => ?_⟩
          have W9 := W8.go hD hK
          have W10 := W8.trans W9
          refine ⟨rfl, _, rfl, ?_⟩
          refine ite2 (fun _ => ?_) (fun _ => ⟨G3, p0, _, ss, _, _, _, rfl, s3, W10.up (by omega), L8.wk W9, A7, hss⟩)
          exact lc_half W10 (by omega) hge (by omega) fun D ys H' hys W9 L9 => back (by omega) hys W9 L9
      · rintro σ' H2 ⟨G4, p, us, ss, x, y, z, rfl, s4, W8, L8, A8, hss8⟩
        have hul8 := A8.len
        refine ⟨_, rfl, Nat.zero_le _, fun pn nn => ?_⟩
        have W9 := W8.tmp (o := .lst []) nn
        have L9 := L8.othN (x := .lst []) nn
        refine ⟨p, pn, us, rfl, rfl, SqL.of L9.h, SqL.of upd_same, _, rfl, ?_⟩
        cases us with
        | cons u ur =>
          refine iteT ?_
          refine ⟨_, rfl, q p _ ss G4 _ (W9.up (by omega)) L9 A8 hss8 ?_⟩
          rintro rfl
          cases hul8
        | nil =>
          refine iteF ?_
          refine ⟨_, rfl, _, rfl, d, aw, ac, _, G4, .ref pe, ue, rfl, W9.w, by omega, Src.h (s4 _ _ hpe), by omega, by omega, fun u H3 hu W10 => ?_⟩
          refine ⟨(show 1 ≤ sizeLine by decide), fun pl nl => ?_⟩
          obtain ⟨sp, hsp, hr2⟩ := A2.mem hu
          have W11 := W9.trans W10
          refine q pl [u] [sp] G4 _ ((W11.tmp nl).up (by omega)) (W11.lo nl) (.cons (hr2.mono s4) .nil) ?_ (by simp)
          exact List.singleton_sublist.mpr hsp
end

section
variable {P : Program} {w : World} {K : PySem.W.Frag} {mg : Str → Option Value} {base : Heap}
def spLast (K : PySem.W.Frag) : Sp := fun vs H Q _ => ∃ (d aw ac : Addr) (T : Nat) (G0 H0 G : Hp) (e : WH), vs = [.ref e.a] ∧ Wk K d aw ac T G0 H0 G H ∧ H e.a = some (.dK (wareD e)) ∧ SpotsAt K G e.sl e.w.slots ∧ e.w.slots ≠ [] ∧ e.w.slots.length < 1000 ∧
  ∀ H', Wk K d aw ac T G H G H' → Q (.int (lastS e.w.slots)) H'
theorem okH__law_last (T : Tx P w K mg base) : GOk P w K mg base 1 "_law_last" ["_law_ware"] (spLast K) := by
  refine GFun.ok (k := 0) T.d__law_last sc__law_last (fun _ _ _ _ _ _ us hl => match us, hl with | [_], _ => rfl) (fun vs H Q E h => ?_) (fun f cdv A outer s H vs Q E hr h => ?_)
  · obtain ⟨d, aw, ac, T, G0, H0, G, e, rfl, _⟩ := h
    rfl
  · obtain ⟨d, aw, ac, m, G0, H0, G, e, rfl, W, hd, hs, hne, hl, q⟩ := h
    refine ⟨_, (pss_one (ps_ret (pe_callB (cr_max rfl) (by rfl) T.n_max (by decide +kernel) (pa_cons (pe_lc (own := [("_law_spot", 1)]) (by rfl) sc__law_last.nd (pi_list (pe_dget (hu_of hr) (pv 0) pe_str (fun _ _ => rfl))) (blkOk_by (own := [("_law_spot", 1)]) (N := N__law_last) (sc := defScope s__law_last) (by decide +kernel)) (fun _ _ _ _ _ => (pg_name (i := 1) sc__law_last.nd rfl (Or.inl rfl))) (fun _ _ _ _ _ => pts_nil) (fun _ _ _ _ _ => (pe_ix (ix_tupK K rfl) (pv 1) pe_int (fun _ _ => rfl)))) pa_nil)))), ?_⟩
    have W0 := Wk.of W.w
    obtain ⟨vs, hvr, A0⟩ := hs
    have hvs : SqL K G e.sl vs := .inl hvr
    have hvl := A0.len
    refine ⟨_, rfl, e.a, .ref e.sl, rfl, DGet.k (k := kS "slots") hd, e.sl, rfl, ⟨_, W.w.sub.seq hvs⟩, fun D nD => ?_⟩
    refine lc_it (walk_list (xs := vs)) (fun t H' => Wk K d aw ac m G H G H' ∧ Lo d aw H G H' D (.lst (((e.w.slots.map (·.2)).take t).map V.int)))
      ⟨W0.tmp nD, W0.lo nD⟩ (fun _ _ _ h => h.1.w.sub.seq hvs) ?_ ?_
    · rintro t x H1 H1' ht ⟨W1, L1⟩ ⟨rfl, hx⟩
      obtain ⟨sp, hsp, r, rfl, hr2⟩ := A0.at hx
      refine ⟨rfl, ?_⟩
      refine ⟨_, rfl, r, _, 1, _, rfl, rfl, Evl.ex_t W1.w.sub hr2.1, rfl, _, L1.h, ?_, W1.mut L1, ?_⟩
      · rw [List.length_map, List.length_take]
        exact small1000 (by omega)
      · have h2 : (e.w.slots.map (·.2))[t]? = some sp.2 := by rw [List.getElem?_map, hsp]; rfl
        rw [List.take_add_one, h2, List.map_append]
        exact L1.put
    · rintro H1 ⟨W1, L1⟩
      have h3 : (e.w.slots.map (·.2)).take vs.length = e.w.slots.map (·.2) := List.take_of_length_le (by rw [List.length_map, hvl]; exact Nat.le_refl _)
      rw [h3] at L1
      refine ⟨D, e.w.slots.map (·.2), rfl, SqL.of L1.h, ?_, fun mx h1 h2 => ?_⟩
      · rw [List.length_map]
        exact List.length_pos_iff.mpr hne
      · rw [lastS_uniq h1 h2]
        exact q H1 W1
end

section
variable {P : Program} {w : World} {K : PySem.W.Frag} {mg : Str → Option Value} {base : Heap}
theorem ware_roll (e : WH) (v : V) (r : Option Spot) : putK (wareD e) (kS "roll") v = wareD { e with rv := v, w := { e.w with roll := r } } := rfl
theorem valV_lab : ∀ {ws : List WH} {e : WH}, (ws.map (·.lab)).Nodup → e ∈ ws → valV (labD ws) (kS e.lab) = some (.ref e.a)
  | [], _, _, h => nomatch h
  | x :: ws, e, hn, h => by
    have hn2 := List.nodup_cons.mp hn
    rcases List.mem_cons.mp h with rfl | h1
    · exact valV_pos (p := (kS e.lab, V.ref e.a)) rfl
    · have : ¬ kS x.lab = kS e.lab := fun z => hn2.1 (by
        have : x.lab = e.lab := Sum.inr.inj z
        exact List.mem_map.mpr ⟨e, h1, this.symm⟩)
      exact (valV_neg (p := (kS x.lab, V.ref x.a)) this).trans (valV_lab hn2.2 h1)
theorem nodup_inj {α β : Type} {f : α → β} : ∀ {ws : List α} {x y : α}, (ws.map f).Nodup → x ∈ ws → y ∈ ws → f x = f y → x = y
  | [], _, _, _, h, _, _ => nomatch h
  | z :: ws, x, y, hn, hx, hy, h => by
    have hn2 := List.nodup_cons.mp hn
    rcases List.mem_cons.mp hx with rfl | hx1
    · rcases List.mem_cons.mp hy with rfl | hy1
      · rfl
      · exact absurd (List.mem_map.mpr ⟨y, hy1, h.symm⟩) hn2.1
    · rcases List.mem_cons.mp hy with rfl | hy1
      · exact absurd (List.mem_map.mpr ⟨x, hx1, h⟩) hn2.1
      · exact nodup_inj hn2.2 hx1 hy1 h
theorem nodup_lab {ws : List WH} {x y : WH} (hn : (ws.map (·.lab)).Nodup) (hx : x ∈ ws) (hy : y ∈ ws) (h : x.lab = y.lab) : x = y := nodup_inj (f := (·.lab)) hn hx hy h
theorem nodup_addr {ws : List WH} {x y : WH} (hn : (ws.map (·.a)).Nodup) (hx : x ∈ ws) (hy : y ∈ ws) (h : x.a = y.a) : x = y := nodup_inj (f := (·.a)) hn hx hy h
theorem dget_lab {H : Hp} {pw : Addr} {ws : List WH} {e : WH} (h : H pw = some (.dK (labD ws))) (hn : (ws.map (·.lab)).Nodup) (he : e ∈ ws) : DGet H pw (.str e.lab) (some (.ref e.a)) := by
  rw [← valV_lab hn he]
  exact DGet.k (k := kS e.lab) h
theorem labD_strip : ∀ {ws vs : List WH}, ws.map strip = vs.map strip → labD ws = labD vs
  | [], [], _ => rfl
  | [], _ :: _, h => nomatch h
  | _ :: _, [], h => nomatch h
  | x :: xs, y :: ys, h => by
    have h1 := List.cons.inj h
    have e1 : x.lab = y.lab := congrArg (fun z => z.1) h1.1
    have e2 : x.a = y.a := congrArg (fun z => z.2.1) h1.1
    show (kS x.lab, V.ref x.a) :: labD xs = (kS y.lab, V.ref y.a) :: labD ys
    rw [e1, e2, labD_strip h1.2]
theorem labs_strip : ∀ {ws vs : List WH}, ws.map strip = vs.map strip → ws.map (·.lab) = vs.map (·.lab)
  | [], [], _ => rfl
  | [], _ :: _, h => nomatch h
  | _ :: _, [], h => nomatch h
  | x :: xs, y :: ys, h => by
    have h1 := List.cons.inj h
    have e1 : x.lab = y.lab := congrArg (fun z => z.1) h1.1
    rw [List.map_cons, List.map_cons, e1, labs_strip h1.2]
theorem mem_strip {ws vs : List WH} (h : ws.map strip = vs.map strip) {e : WH} (he : e ∈ ws) : ∃ x ∈ vs, strip x = strip e := by
  have : strip e ∈ vs.map strip := by rw [← h]; exact List.mem_map.mpr ⟨e, he, rfl⟩
  obtain ⟨x, hx, hs⟩ := List.mem_map.mp this
  exact ⟨x, hx, hs⟩
/-- the ware with this label rolls -/
def rollAt (l : Str) (v : V) (r : Option Spot) (ws : List WH) : List WH := ws.map fun e => if e.lab = l then { e with rv := v, w := { e.w with roll := r } } else e
theorem rollAt_strip (l : Str) (v : V) (r : Option Spot) (ws : List WH) : (rollAt l v r ws).map strip = ws.map strip := by
  unfold rollAt
  rw [List.map_map]
  apply List.map_congr_left
  intro e _
  show strip (if e.lab = l then { e with rv := v, w := { e.w with roll := r } } else e) = strip e
  split <;> rfl
theorem rollAt_addr (l : Str) (v : V) (r : Option Spot) (ws : List WH) : (rollAt l v r ws).map (·.a) = ws.map (·.a) := by
  unfold rollAt
  rw [List.map_map]
  apply List.map_congr_left
  intro e _
  show (if e.lab = l then { e with rv := v, w := { e.w with roll := r } } else e).a = e.a
  split <;> rfl
theorem FlowOk.strip {ws vs : List WH} {e : WH} (h : FlowOk ws e) (hs : ws.map strip = vs.map strip) : FlowOk vs e := fun r hr => by
  obtain ⟨h1, h2, x, hx, hl, hlt⟩ := h r hr
  obtain ⟨y, hy, hyx⟩ := mem_strip hs hx
  have e1 : y.lab = x.lab := congrArg (fun z => z.1) hyx
  have e2 : y.w.slots = x.w.slots := congrArg (fun z => z.2.2.2.1) hyx
  exact ⟨h1, h2, y, hy, e1.trans hl, by rw [e2]; exact hlt⟩
def spFlows (K : PySem.W.Frag) : Sp := fun vs H Q _ => ∃ (d aw ac pw : Addr) (T : Nat) (G0 H0 G : Hp) (ws : List WH) (n : Int), vs = [.ref d, .ref pw, .int n] ∧ Wk K d aw ac T G0 H0 G H ∧ T + 10000 ≤ 2 ^ 40 ∧ 0 < n ∧ n < 1000000 ∧ Lo d aw H0 G H pw (.dK (labD ws)) ∧ WsAt K d aw H0 G H ws ∧
  (∀ e ∈ ws, e.a ≠ pw) ∧ ws.length ≤ 10 ∧ (ws.map (·.lab)).Nodup ∧ (∀ e ∈ ws, e.w.slots ≠ [] ∧ e.w.slots.length < 1000 ∧ e.w.roll = none) ∧
  ∀ (ws' : List WH) (G' H' : Hp), Wk K d aw ac (T + 30) G0 H0 G' H' → Same G G' → Lo d aw H0 G' H' pw (.dK (labD ws')) → WsAt K d aw H0 G' H' ws' → ws'.map strip = ws.map strip → (∀ e ∈ ws', FlowOk ws' e) → Q .non H'
theorem okH__law_flows (T : Tx P w K mg base) : GOk P w K mg base 4 "_law_flows" ["_law_draw", "_law_wares_here", "_law_likely"] (spFlows K) := by
  refine GFun.ok (k := 3) T.d__law_flows sc__law_flows (fun _ _ _ _ _ _ us hl => match us, hl with | [_, _, _], _ => rfl) (fun vs H Q E h => ?_) (fun f cdv A outer s H vs Q E hr h => ?_)
  · obtain ⟨d, aw, ac, pw, T, G0, H0, G, ws, n, rfl, _⟩ := h
    rfl
  · obtain ⟨d, aw, ac, pw, m, G0, H0, G, ws, n, rfl, W, hm, hn0, hn1', L, A, hpw, hlen, hnd, hsl, q⟩ := h
    refine ⟨_, (pss_one (ps_for (passes_of rfl) rfl (pi_list (pe_callB (call_sortedD rfl) (by rfl) T.n_sorted (by decide +kernel) (pa_cons (pv 1) pa_nil))) (pg_name (i := 3) sc__law_flows.nd rfl (Or.inr rfl)) (pss_cons (ps_setLc (i := 4) (own := [("_law_item", 5)]) (by rfl) sc__law_flows.nd rfl rfl (sw_true rfl rfl rfl (by decide +kernel)) (pi_list (pe_callB (call_sortedD rfl) (by rfl) T.n_sorted (by decide +kernel) (pa_cons (pv 1) pa_nil))) (blkOk_by (own := [("_law_item", 5)]) (N := N__law_flows) (sc := defScope s__law_flows) (by decide +kernel)) (fun _ _ _ _ _ => (pg_name (i := 5) sc__law_flows.nd rfl (Or.inl rfl))) (fun _ _ _ _ _ => (pts_one (pt_cmpR op_gt (pe_g (okH__law_last T) (hr.mono (by decide)) (by rfl) passL (pa_cons (pe_dget (hu_of hr) (pv 1) (pv 5) (fun _ _ => rfl)) pa_nil)) (pe_g (okH__law_last T) (hr.mono (by decide)) (by rfl) passL (pa_cons (pe_dget (hu_of hr) (pv 1) (pv 3) (fun _ _ => rfl)) pa_nil)) (nomark _)))) (fun _ _ _ _ _ => (pv 5)))
      (pss_one (ps_if (PW.pt (pw_and (pt_cmpR (op_nilNe hr.units0) (pv 4) (pe_lst pa_nil) (nomark _)) (pw_and1 (pt_cmpR op_eq (pe_g (okH__law_take T) (hr.mono (by decide)) (by rfl) passL (pa_cons (pv 0) (pa_cons (pv 2) pa_nil))) pe_int (nomark _))))) (pss_one (ps_dput (hu_of hr) (pe_dget (hu_of hr) (pv 1) (pv 3) (fun _ _ => rfl)) pe_str (pe_tupF (pa_cons (pe_g (okH__law_pick T) (hr.mono (by decide)) (by rfl) passL (pa_cons (pv 0) (pa_cons (pv 4) pa_nil))) (pa_cons (pe_op op_add pe_int (pe_g (okH__law_take T) (hr.mono (by decide)) (by rfl) passL (pa_cons (pv 0) (pa_cons pe_int pa_nil)))) pa_nil))) rfl)) pss_nil))))), ?_⟩
    have hks : (labD ws).map (·.1) = (ws.map (·.lab)).map Sum.inr := by
      unfold labD
      rw [List.map_map, List.map_map]
      rfl
    refine ⟨_, rfl, pw, labD ws, ws.map (·.lab), rfl, Rd.of L.h, hks, by rw [List.length_map]; omega, fun ys pS hys hsrt nS => ?_⟩
    have hyl : ys.length ≤ 10 := by rw [hys.length_eq, List.length_map]; exact hlen
    have W1 := W.new (o := .lst (ys.map V.str)) nS
    have hg : Same G (upd G pS (.lst (ys.map V.str))) := same_add (W.w.gn nS)
    have hpS : upd G pS (.lst (ys.map V.str)) pS = some (.lst (ys.map V.str)) := upd_same
    have L1 := L.newN (x := .lst (ys.map V.str)) nS
    have A1 := A.newN (o := .lst (ys.map V.str)) nS (W.w.gn nS)
    refine ⟨pS, rfl, ⟨_, SqL.of (W1.w.sub _ _ hpS)⟩, ?_⟩
    refine for_it (walk_list (xs := ys.map V.str)) (fun i σ H1 => ∃ (G1 : Hp) (ws1 : List WH) (x y z : Option V), σ = [some (.ref d), some (.ref pw), some (.int n), x, y, z] ∧ Wk K d aw ac (m + 3 * i) G0 H0 G1 H1 ∧ Same (upd G pS (.lst (ys.map V.str))) G1 ∧ Lo d aw H0 G1 H1 pw (.dK (labD ws1)) ∧ WsAt K d aw H0 G1 H1 ws1 ∧ ws1.map strip = ws.map strip ∧ ∀ e ∈ ws1, FlowOk ws1 e)
      ⟨_, ws, none, none, none, rfl, W1, Same.refl _, L1, A1, rfl, fun e he r hr => by rw [(hsl e he).2.2] at hr; cases hr⟩ (fun i σ H1 _ h => by
        obtain ⟨G1, ws1, x, y, z, _, W2, s2, _⟩ := h
        exact SqL.of (W2.w.sub _ _ (s2 _ _ hpS))) ?_ ?_
    · rintro i x σ H1 H1' hi ⟨G1, ws1, x1, y1, z1, rfl, W2, s2, L2, A2, hst, hfl⟩ ⟨rfl, hx⟩
      rw [List.length_map] at hi
      rw [List.getElem?_map] at hx
      obtain ⟨l, hl, rfl⟩ := Option.map_eq_some_iff.mp hx
      have hll : l ∈ ws1.map (·.lab) := by
        rw [labs_strip hst]
        exact hys.subset (List.mem_of_getElem? hl)
      obtain ⟨e, he, rfl⟩ := List.mem_map.mp hll
      have hnd1 : (ws1.map (·.lab)).Nodup := by rw [labs_strip hst]; exact hnd
      have hsl1 : ∀ x ∈ ws1, x.w.slots ≠ [] ∧ x.w.slots.length < 1000 := fun x hx => by
        obtain ⟨y, hy, hyx⟩ := mem_strip hst hx
        have e2 : y.w.slots = x.w.slots := congrArg (fun z => z.2.2.2.1) hyx
        have := hsl y hy
        rw [e2] at this
        exact ⟨this.1, this.2.1⟩
      have hks1 : (labD ws1).map (·.1) = (ws1.map (·.lab)).map Sum.inr := by
        unfold labD
        rw [List.map_map, List.map_map]
        rfl
      have hlen1 : ws1.length ≤ 10 := by
        have := congrArg List.length hst
        rw [List.length_map, List.length_map] at this
        omega
      have hpw1 : ∀ x ∈ ws1, x.a ≠ pw := fun x hx => by
        obtain ⟨y, hy, hyx⟩ := mem_strip hst hx
        have e2 : y.a = x.a := congrArg (fun z => z.2.1) hyx
        rw [← e2]
        exact hpw y hy
      -- later
      refine ⟨_, rfl, pw, labD ws1, ws1.map (·.lab), rfl, Rd.of L2.h, hks1, by rw [List.length_map]; omega, fun zs pZ hzs hsrtz nZ => ?_⟩
      have hzl : zs.length ≤ 10 := by rw [hzs.length_eq, List.length_map]; exact hlen1
      have W3 := W2.new (o := .lst (zs.map V.str)) nZ
      have hpZ : upd G1 pZ (.lst (zs.map V.str)) pZ = some (.lst (zs.map V.str)) := upd_same
      have L3 := L2.newN (x := .lst (zs.map V.str)) nZ
      have A3 := A2.newN (o := .lst (zs.map V.str)) nZ (W2.w.gn nZ)
      have s3 := s2.trans (same_add (o := .lst (zs.map V.str)) (W2.w.gn nZ))
      refine ⟨pZ, rfl, ⟨_, SqL.of (W3.w.sub _ _ hpZ)⟩, fun D nD => ?_⟩
      revert hpZ
      revert W3 L3 A3 s3
      generalize upd G1 pZ (.lst (zs.map V.str)) = G3
      generalize upd H1' pZ (.lst (zs.map V.str)) = H3 at nD ⊢
      intro W3 L3 A3 s3 hpZ
      refine lc_it (walk_list (xs := zs.map V.str)) (fun t H' => ∃ os : List Str, Wk K d aw ac (m + 3 * i) G0 H0 G3 H' ∧ Lo d aw H0 G3 H' pw (.dK (labD ws1)) ∧ WsAt K d aw H0 G3 H' ws1 ∧ Lo d aw H0 G3 H' D (.lst (os.map V.str)) ∧ os.length ≤ t ∧ (∀ z ∈ os, ∃ x ∈ ws1, x.lab = z ∧ lastS e.w.slots < lastS x.w.slots) ∧ pw ≠ D ∧ ∀ x ∈ ws1, x.a ≠ D)
        ⟨[], W3.tmp nD, L3.othN nD, A3.othN nD, W3.lo nD, Nat.le_refl _, (fun _ h => nomatch h), ne_of_none L3.h nD, fun x hx => ne_of_none (A3.lo x hx).h nD⟩ (fun i H _ h => by
          obtain ⟨os, W4, _⟩ := h
          exact SqL.of (W4.w.sub _ _ hpZ)) ?_ ?_
      · rintro t x H4 H4' ht ⟨os, W4, L4, A4, D4, hol, hos, hn1, hn2⟩ ⟨rfl, hx⟩
        rw [List.length_map] at ht
        rw [List.getElem?_map] at hx
        obtain ⟨l, hl2, rfl⟩ := Option.map_eq_some_iff.mp hx
        obtain ⟨x, hx1, rfl⟩ := List.mem_map.mp (hzs.subset (List.mem_of_getElem? hl2))
        refine ⟨rfl, ?_⟩
        refine ⟨_, rfl, _, rfl, pw, .ref x.a, rfl, dget_lab L4.h hnd1 hx1, d, aw, ac, _, G0, H0, G3, x, rfl, W4, (A4.lo x hx1).h, (A4.ok x hx1).sl, (hsl1 x hx1).1, (hsl1 x hx1).2, fun H5 W5 => ?_⟩
        have L5 := L4.wk W5
        have A5 := A4.step W5.s
        have D5 := D4.wk W5
        have W5' := W4.trans W5
        refine ⟨_, rfl, _, rfl, pw, .ref e.a, rfl, dget_lab L5.h hnd1 he, d, aw, ac, _, G0, H0, G3, e, rfl, W5', (A5.lo e he).h, (A5.ok e he).sl, (hsl1 e he).1, (hsl1 e he).2, fun H6 W6 => ?_⟩
        have L6 := L5.wk W6
        have A6 := A5.step W6.s
        have D6 := D5.wk W6
        have W6' := W5'.trans W6
        refine ⟨_, _, rfl, rfl, _, rfl, ?_⟩
        refine ite2 (fun hb => ?_) (fun _ => ⟨os, W6', L6, A6, D6, by omega, hos, hn1, hn2⟩)
        refine ⟨_, rfl, _, D6.h, ?_, os ++ [x.lab], W6'.mut D6, L6.oth hn1, A6.oth hn2, ?_, ?_, ?_, hn1, hn2⟩
        · rw [List.length_map]; exact small1000 (by omega)
        · rw [List.map_append]; exact D6.put
        · rw [List.length_append]; show os.length + 1 ≤ t + 1; omega
        · intro z hz
          rcases List.mem_append.mp hz with h1 | h1
          · exact hos z h1
          · rw [List.mem_singleton.mp h1]
            exact ⟨x, hx1, rfl, of_decide_eq_true hb⟩
      · rintro H4 ⟨os, W4, L4, A4, D4, hol, hos, hn1, hn2⟩
        rw [List.length_map] at hol
        have stay : ∀ (G9 H9 : Hp) (T9 : Nat) (x y z : Option V), T9 ≤ m + 3 * (i + 1) → Wk K d aw ac T9 G0 H0 G9 H9 → Same G3 G9 → Lo d aw H0 G9 H9 pw (.dK (labD ws1)) → WsAt K d aw H0 G9 H9 ws1 → ∃ (G1 : Hp) (ws1 : List WH) (x' y' z' : Option V), [some (V.ref d), some (.ref pw), some (.int n), x, y, z] = [some (V.ref d), some (.ref pw), some (.int n), x', y', z'] ∧ Wk K d aw ac (m + 3 * (i + 1)) G0 H0 G1 H9 ∧ Same (upd G pS (.lst (ys.map V.str))) G1 ∧ Lo d aw H0 G1 H9 pw (.dK (labD ws1)) ∧ WsAt K d aw H0 G1 H9 ws1 ∧ ws1.map strip = ws.map strip ∧ ∀ e ∈ ws1, FlowOk ws1 e :=
          fun G9 H9 T9 x y z hT9 W9 s9 L9 A9 => ⟨G9, ws1, x, y, z, rfl, W9.up hT9, s3.trans s9, L9, A9, hst, hfl⟩
        refine ⟨_, rfl, Nat.zero_le _, fun pn nn => ?_⟩
        have W5 := W4.tmp (o := .lst []) nn
        have L5 := L4.othN (x := .lst []) nn
        have A5 := A4.othN (o := .lst []) nn
        have D5 := D4.othN (x := .lst []) nn
        refine ⟨D, pn, os.map V.str, rfl, rfl, SqL.of D5.h, SqL.of upd_same, _, rfl, ?_⟩
        cases os with
        | nil => exact iteF (iteF (stay _ _ _ _ _ _ (by omega) W5 (Same.refl _) L5 A5))
        | cons o1 or =>
          refine iteT ?_
          refine ⟨_, rfl, _, rfl, d, aw, ac, _, n, rfl, W5.w.dr, by omega, hn0, hn1', fun k H6 hk0 hk1 hD hK => ?_⟩
          have W6 := W5.go hD hK
          have W6' := W5.trans W6
          have L6 := L5.wk W6
          have A6 := A5.step W6.s
          have D6 := D5.wk W6
          refine ⟨rfl, _, rfl, ?_⟩
          refine ite2 (fun _ => ?_) (fun _ => stay _ _ _ _ _ _ (by omega) W6' (Same.refl _) L6 A6)
          -- the roll
          have W7 := W6'.seal D6
          have L7 := L6.sealO (x := .lst ((o1 :: or).map V.str)) hn1
          have A7 := A6.sealO D6 hn2
          have s7 : Same G3 (upd G3 D (.lst ((o1 :: or).map V.str))) := same_add D6.g
          have hD7 : upd G3 D (.lst ((o1 :: or).map V.str)) D = some (.lst ((o1 :: or).map V.str)) := upd_same
          revert W7 L7 A7 s7 hD7
          generalize upd G3 D (.lst ((o1 :: or).map V.str)) = G7
          intro W7 L7 A7 s7 hD7
          refine ⟨_, rfl, _, rfl, d, aw, ac, _, G7, .ref D, (o1 :: or).map V.str, rfl, W7.w, by omega, Src.h hD7, by simp, by rw [List.length_map]; omega, fun u H8 hu W8 => ?_⟩
          obtain ⟨z, hz, rfl⟩ := mem_str hu
          obtain ⟨x, hx1, rfl, hlt⟩ := hos z hz
          have L8 := L7.wk W8
          have A8 := A7.step W8.s
          have W8' := W7.trans W8
          refine ⟨_, rfl, d, aw, ac, _, 3, rfl, W8'.w.dr, by omega, by decide, by decide, fun k2 H9 hk20 hk21 hD2 hK2 => ?_⟩
          have W9 := W8'.go hD2 hK2
          have L9 := L8.wk W9
          have A9 := A8.step W9.s
          have W9' := W8'.trans W9
          refine ⟨_, _, rfl, rfl, (show 2 ≤ sizeLine by decide), fun pt ob nt hob => ?_⟩
          have W10 := W9'.new (o := .frz ob (.tup [.str x.lab, .int (1 + k2)])) nt
          have L10 := L9.newN (x := .frz ob (.tup [.str x.lab, .int (1 + k2)])) nt
          have A10 := A9.newN (o := .frz ob (.tup [.str x.lab, .int (1 + k2)])) nt (W9'.w.gn nt)
          have s10 : Same G7 (upd G7 pt (.frz ob (.tup [.str x.lab, .int (1 + k2)]))) := same_add (W9'.w.gn nt)
          have hpt : upd G7 pt (.frz ob (.tup [.str x.lab, .int (1 + k2)])) pt = some (.frz ob (.tup [.str x.lab, .int (1 + k2)])) := upd_same
          revert W10 L10 A10 s10 hpt
          generalize upd G7 pt (.frz ob (.tup [.str x.lab, .int (1 + k2)])) = G10
          intro W10 L10 A10 s10 hpt
          refine ⟨_, rfl, _, rfl, pw, .ref e.a, rfl, dget_lab L10.h hnd1 he, e.a, _, rfl, DPut.k (k := kS "roll") (A10.lo e he).h (show 4 < sizeLine by decide), ?_⟩
          rw [ware_roll e (.ref pt) (some (x.lab, 1 + k2))]
          refine ⟨G10, rollAt e.lab (.ref pt) (some (x.lab, 1 + k2)) ws1, _, _, _, rfl, ?_, ?_, ?_, ?_, ?_, ?_⟩
          · exact (W10.mut (A10.lo e he)).up (by omega)
          · exact s3.trans (s7.trans s10)
          · rw [labD_strip (rollAt_strip _ _ _ _)]
            exact L10.oth (Ne.symm (hpw1 e he))
          · have uniq : ∀ x ∈ ws1, x.lab = e.lab → x = e := fun y hy h => nodup_lab hnd1 hy he h
            refine ⟨by rw [rollAt_addr]; exact A10.nd, fun y hy => ?_, fun y hy => ?_⟩
            · obtain ⟨y0, hy0, rfl⟩ := List.mem_map.mp hy
              by_cases hl0 : y0.lab = e.lab
              · have := uniq y0 hy0 hl0
                subst this
                simp only [if_pos]
                exact (A10.lo y0 he).put
              · simp only [if_neg hl0]
                refine (A10.lo y0 hy0).oth fun h => hl0 ?_
                rw [nodup_addr A10.nd hy0 he h]
            · obtain ⟨y0, hy0, rfl⟩ := List.mem_map.mp hy
              by_cases hl0 : y0.lab = e.lab
              · simp only [if_pos hl0]
                exact ⟨(A10.ok y0 hy0).sl, pt, rfl, GT.new hpt hob⟩
              · simp only [if_neg hl0]
                exact A10.ok y0 hy0
          · rw [rollAt_strip]; exact hst
          · intro y hy
            obtain ⟨y0, hy0, rfl⟩ := List.mem_map.mp hy
            by_cases hl0 : y0.lab = e.lab
            · have := nodup_lab hnd1 hy0 he hl0
              subst this
              simp only [if_pos]
              intro r hr
              cases hr
              obtain ⟨x', hx', hxx⟩ := mem_strip (rollAt_strip y0.lab (.ref pt) (some (x.lab, 1 + k2)) ws1).symm hx1
              have e1 : x'.lab = x.lab := congrArg (fun z => z.1) hxx
              have e2 : x'.w.slots = x.w.slots := congrArg (fun z => z.2.2.2.1) hxx
              refine ⟨?_, ?_, x', hx', e1, by rw [e2]; exact hlt⟩
              · show 1 ≤ 1 + k2; omega
              · show 1 + k2 ≤ 3; omega
            · simp only [if_neg hl0]
              exact (hfl y0 hy0).strip (rollAt_strip _ _ _ _).symm
    · rintro σ H1 ⟨G1, ws1, x1, y1, z1, rfl, W2, s2, L2, A2, hst, hfl⟩
      rw [List.length_map] at W2
      exact q ws1 G1 H1 (W2.up (by omega)) (hg.trans s2) L2 A2 hst hfl
end

section
variable {P : Program} {w : World} {K : PySem.W.Frag} {mg : Str → Option Value} {base : Heap}
theorem valV_none : ∀ {ws : List WH} {l : Str}, l ∉ ws.map (·.lab) → valV (labD ws) (kS l) = none
  | [], _, _ => rfl
  | x :: ws, l, h => by
    have h1 : ¬ kS x.lab = kS l := fun z => h (by
      have : x.lab = l := Sum.inr.inj z
      exact this ▸ List.mem_cons_self)
    exact (valV_neg (p := (kS x.lab, V.ref x.a)) h1).trans (valV_none fun z => h (List.mem_cons_of_mem _ z))
theorem valV_noneR : ∀ {rs : List (Str × Int)} {l : Str}, l ∉ rs.map (·.1) → valV (rateD rs) (kS l) = none
  | [], _, _ => rfl
  | x :: ws, l, h => by
    have h1 : ¬ kS x.1 = kS l := fun z => h (by
      have : x.1 = l := Sum.inr.inj z
      exact this ▸ List.mem_cons_self)
    exact (valV_neg (p := (kS x.1, V.int x.2)) h1).trans (valV_noneR fun z => h (List.mem_cons_of_mem _ z))
theorem nd_take {α : Type} {ys : List α} {i : Nat} {l : α} (hn : ys.Nodup) (h : ys[i]? = some l) : l ∉ ys.take i := by
  intro hm
  have e : ys.take (i + 1) = ys.take i ++ [l] := by rw [List.take_add_one, h]; rfl
  have h1 : (ys.take (i + 1)).Nodup := hn.sublist (List.take_sublist _ _)
  rw [e] at h1
  exact (List.nodup_append.mp h1).2.2 l hm l (by simp) rfl
theorem rI_add {x y z : Int} {H : Hp} {Q : VK} (e : x + y = z) (q : Q (.int z) H) : rI0 (fun i j => V.int (i + j)) (.int x) (.int y) H Q := ⟨x, y, rfl, rfl, by
  subst e
  exact q⟩
theorem fee_read {d aw ac : Addr} {T : Nat} {G0 H0 G H : Hp} {fees : Int} {σ : L2.St} (h0 : σ[0]? = some (some (.ref d))) (h3 : σ[3]? = some (some (.int fees))) (W : Wk K d aw ac T G0 H0 G H) (hT : T + 1000 ≤ 2 ^ 40) (hf0 : 0 < fees) (hf1 : fees < 1000000) {Q : VK}
    (q : ∀ (fee : Option Int) (G' H' : Hp), (∀ c, fee = some c → 0 ≤ c ∧ c ≤ 99) → Wk K d aw ac (T + 2) G H G' H' → Q (optI fee) H') :
    tIf (tTest (tOp rEq (tCall (spTake K) [] E0 (tCons (tVar 0) (tCons (tVar 3) tNil))) (tC (.int 0)))) (tCall (spPick K) [] E0 (tCons (tVar 0) (tCons (tLst (tCons (tC (.int 0)) (tCons (tC (.int 1)) (tCons (tC (.int 2)) (tCons (tC (.int 5)) (tCons (tC (.int 9)) (tCons (tC (.int 99)) tNil))))))) tNil))) (tC .non) σ H Q := by
  refine ⟨_, h0, _, h3, d, aw, ac, T, fees, rfl, W.w.dr, by omega, hf0, hf1, fun k H1 hk0 hk1 hD hK => ?_⟩
  have W1 := W.go hD hK
  refine ⟨rfl, _, rfl, ?_⟩
  refine ite2 (fun _ => ?_) (fun _ => q none G H1 (fun _ h => nomatch h) (W1.up (by omega)))
  refine ⟨_, h0, (show 6 ≤ sizeLine by decide), fun pC nC => ?_⟩
  refine ⟨d, aw, ac, _, _, .ref pC, ([0, 1, 2, 5, 9, 99] : List Int).map V.int, rfl, (W1.new nC).w, by omega, Src.h upd_same, by decide, by decide, fun u H3 hu W3 => ?_⟩
  obtain ⟨c, hc, rfl⟩ := mem_int hu
  refine q (some c) _ H3 (fun c' h => ?_) ((W1.new nC).trans W3)
  cases h
  simp only [List.mem_cons, List.not_mem_nil, or_false] at hc
  omega
theorem rate_read {d aw ac : Addr} {T : Nat} {G0 H0 G H : Hp} {same : Int} {b : Bool} {σ : L2.St} (h0 : σ[0]? = some (some (.ref d))) (h1 : σ[12]? = some (some (.int same))) (h2 : σ[14]? = some (some (.bl b))) (W : Wk K d aw ac T G0 H0 G H) (hT : T + 1000 ≤ 2 ^ 40) (hs0 : 0 ≤ same) (hs1 : same ≤ 9) {Q : VK}
    (q : ∀ (r : Int) (H' : Hp), 0 ≤ r → r ≤ 9 → Wk K d aw ac (T + 1) G H G H' → Q (.int r) H') :
    tIf (tTest (tVar 14)) (tVar 12) (tCall (spTake K) [] E0 (tCons (tVar 0) (tCons (tC (.int 10)) tNil))) σ H Q := by
  refine ⟨_, h2, _, rfl, ?_⟩
  refine ite2 (fun _ => ⟨_, h1, q same H hs0 hs1 ((Wk.of W.w).up (by omega))⟩) (fun _ => ?_)
  exact ⟨_, h0, d, aw, ac, T, 10, rfl, W.w.dr, by omega, by decide, by decide, fun k H1 hk0 hk1 hD hK => q k H1 hk0 (by omega) (W.go hD hK)⟩
def spSheet (K : PySem.W.Frag) : Sp := fun vs H Q _ => ∃ (d aw ac : Addr) (T : Nat) (G : Hp) (most : Nat) (units fees fl : Int), vs = [.ref d, .int most, .int units, .int fees, .int fl] ∧ Wd K d aw ac T G H ∧ T + 20000 ≤ 2 ^ 40 ∧ most ≤ 10 ∧ 0 ≤ units ∧ 0 < fees ∧ fees < 1000000 ∧ 0 < fl ∧ fl < 1000000 ∧
  ∀ (a ap apk : Addr) (ws : List WH) (s : Sheet) (G' H' : Hp), Wk K d aw ac (T + 2000) G H G' H' → SheetLo K d aw H G' H' a ap apk ws s → SheetOk most units s → Q (.ref a) H'
theorem okH__law_sheet (T : Tx P w K mg base) : GOk P w K mg base 5 "_law_sheet" ["_law_draw", "_law_most", "_law_units", "_law_fees", "_law_flows_here"] (spSheet K) := by
  refine GFun.ok (k := 4) T.d__law_sheet sc__law_sheet (fun _ _ _ _ _ _ us hl => match us, hl with | [_, _, _, _, _], _ => rfl) (fun vs H Q E h => ?_) (fun f cdv A outer s H vs Q E hr h => ?_)
  · obtain ⟨d, aw, ac, T, G, most, units, fees, fl, rfl, _⟩ := h
    rfl
  · obtain ⟨d, aw, ac, m, G, most, units, fees, fl, rfl, W, hm, hmost, hu0, hf0, hf1, hl0, hl1, q⟩ := h
    refine ⟨_, (pss_cons (ps_par (i := 5) (j := 6) (by rfl) sc__law_sheet.nd rfl rfl (by decide) rfl rfl (pa_cons (pe_callB cr_sortedS (by rfl) T.n_sorted (by decide +kernel) (pa_cons (pe_g (okH__law_names T) (hr.mono (by decide)) (by rfl) passL (pa_cons (pv 0) (pa_cons (pe_op op_add pe_int (pe_g (okH__law_take T) (hr.mono (by decide)) (by rfl) passL (pa_cons (pv 0) (pa_cons pe_int pa_nil)))) pa_nil))) pa_nil)) (pa_cons (pe_op op_add pe_int (pe_g (okH__law_take T) (hr.mono (by decide)) (by rfl) passL (pa_cons (pv 0) (pa_cons pe_int pa_nil)))) pa_nil)) (by rfl))
      (pss_cons (ps_par (i := 7) (j := 8) (by rfl) sc__law_sheet.nd rfl rfl (by decide) rfl rfl (pa_cons (pe_g (okH__law_pick T) (hr.mono (by decide)) (by rfl) passL (pa_cons (pv 0) (pa_cons (pe_lst (pa_cons (pv 1) (pa_cons (pv 1) (pa_cons (pe_g (okH__law_take T) (hr.mono (by decide)) (by rfl) passL (pa_cons (pv 0) (pa_cons (pe_op op_add (pv 1) pe_int) pa_nil))) pa_nil)))) pa_nil))) (pa_cons pe_dnewK pa_nil)) (by rfl))
      (pss_cons (ps_for (passes_of rfl) rfl (pi_list (pe_callB cr_sortedS (by rfl) T.n_sorted (by decide +kernel) (pa_cons (pe_g (okH__law_names T) (hr.mono (by decide)) (by rfl) passL (pa_cons (pv 0) (pa_cons (pv 7) pa_nil))) pa_nil))) (pg_name (i := 9) sc__law_sheet.nd rfl (Or.inl rfl)) (pss_cons (ps_set (i := 10) sc__law_sheet.nd rfl (Or.inl rfl) (pe_callB (call_min2 rfl) (by rfl) T.n_min (by decide +kernel) (pa_cons (pe_g (okH__law_pick T) (hr.mono (by decide)) (by rfl) passL (pa_cons (pv 0) (pa_cons (pe_lst (pa_cons pe_int (pa_cons pe_int (pa_cons pe_int (pa_cons pe_int (pa_cons pe_int pa_nil)))))) pa_nil))) (pa_cons (pv 2) pa_nil))))
      (pss_cons (ps_set (i := 2) sc__law_sheet.nd rfl (Or.inl rfl) (pe_op op_sub (pv 2) (pv 10)))
      (pss_cons (ps_set (i := 11) sc__law_sheet.nd rfl (Or.inl rfl) (pe_ifExp (pt_cmpR op_eq (pe_g (okH__law_take T) (hr.mono (by decide)) (by rfl) passL (pa_cons (pv 0) (pa_cons (pv 3) pa_nil))) pe_int (nomark _)) (pe_g (okH__law_pick T) (hr.mono (by decide)) (by rfl) passL (pa_cons (pv 0) (pa_cons (pe_lst (pa_cons pe_int (pa_cons pe_int (pa_cons pe_int (pa_cons pe_int (pa_cons pe_int (pa_cons pe_int pa_nil))))))) pa_nil))) pe_non))
      (pss_one (ps_dput (hu_of hr) (pv 8) (pv 9) (pe_disp (pps_cons pe_str (pe_g (okH__law_spots T) (hr.mono (by decide)) (by rfl) passL (pa_cons (pv 0) (pa_cons (pv 5) (pa_cons (pv 6) pa_nil)))) (pps_cons pe_str (pv 10) (pps_cons pe_str (pv 11) (pps_cons pe_str pe_non pps_nil)))) (by rfl) (by rfl) (fun z => by cases z) (by decide)) rfl))))))
      (pss_cons (ps_expr (pe_g (okH__law_flows T) (hr.mono (by decide)) (by rfl) passL (pa_cons (pv 0) (pa_cons (pv 8) (pa_cons (pv 4) pa_nil)))))
      (pss_cons (ps_par (i := 12) (j := 13) (by rfl) sc__law_sheet.nd rfl rfl (by decide) rfl rfl (pa_cons (pe_op op_add pe_int (pe_g (okH__law_take T) (hr.mono (by decide)) (by rfl) passL (pa_cons (pv 0) (pa_cons pe_int pa_nil)))) (pa_cons pe_dnewK pa_nil)) (by rfl))
      (pss_cons (ps_set (i := 14) sc__law_sheet.nd rfl (Or.inl rfl) (pe_cmpR op_eq (pe_g (okH__law_take T) (hr.mono (by decide)) (by rfl) passL (pa_cons (pv 0) (pa_cons pe_int pa_nil))) pe_int (nomark _)))
      (pss_cons (ps_for (passes_of rfl) rfl (pi_list (pv 5)) (pg_name (i := 15) sc__law_sheet.nd rfl (Or.inl rfl)) (pss_one (ps_dput (hu_of hr) (pv 13) (pv 15) (pe_ifExp (pt_val (pv 14)) (pv 12) (pe_g (okH__law_take T) (hr.mono (by decide)) (by rfl) passL (pa_cons (pv 0) (pa_cons pe_int pa_nil)))) rfl)))
      (pss_one (ps_ret (pe_disp (pps_cons pe_str (pv 13) (pps_cons pe_str (pv 6) (pps_cons pe_str (pv 8) pps_nil))) (by rfl) (by rfl) (fun z => by cases z) (by decide))))))))))), ?_⟩
    have W0 := Wk.of W
    refine ⟨_, rfl, _, rfl, d, aw, ac, m, 3, rfl, W.dr, by omega, by decide, by decide, fun k1 H1 hk10 hk11 hD1 hK1 => ?_⟩
    have W1 := W0.trans (W0.go hD1 hK1)
    obtain ⟨n1, hn1⟩ : ∃ n1 : Nat, 1 + k1 = n1 := ⟨(1 + k1).toNat, by omega⟩
    refine rI_add hn1 ⟨d, aw, ac, _, G, n1, rfl, W1.w, by omega, by omega, fun p1 zs G2 H2 hzl hznd hzok W2 L2 => ?_⟩
    refine ⟨p1, zs, rfl, SqL.of L2.h, by omega, fun kinds pk hkp hks nk => ?_⟩
    have W3 := ((W1.trans W2).new (o := .lst (kinds.map V.str)) nk).up (T' := m + 32) (by omega)
    have hpk : upd G2 pk (.lst (kinds.map V.str)) pk = some (.lst (kinds.map V.str)) := upd_same
    have hkl : kinds.length = n1 := by rw [hkp.length_eq, hzl]
    have hknd : kinds.Nodup := hkp.nodup_iff.mpr hznd
    have hkok : ∀ z ∈ kinds, NameOk z := fun z hz => hzok z (hkp.subset hz)
    revert W3 hpk
    generalize upd G2 pk (.lst (kinds.map V.str)) = G3
    generalize upd H2 pk (.lst (kinds.map V.str)) = H3
    intro W3 hpk
    refine ⟨_, rfl, d, aw, ac, _, 4, rfl, W3.w.dr, by omega, by decide, by decide, fun k2 H4 hk20 hk21 hD2 hK2 => ?_⟩
    have W4 := W3.trans (W3.go hD2 hK2)
    obtain ⟨n2, hn2⟩ : ∃ n2 : Nat, 1 + k2 = n2 := ⟨(1 + k2).toNat, by omega⟩
    refine rI_add hn2 ⟨_, _, rfl, ?_⟩
    -- how many
    refine ⟨_, rfl, _, rfl, _, rfl, _, rfl, _, rfl, _, _, rfl, rfl, d, aw, ac, _, _, rfl, W4.w.dr, by omega, by omega, by omega, fun k3 H5 hk30 hk31 hD3 hK3 => ?_⟩
    have W5 := W4.trans (W4.go hD3 hK3)
    refine ⟨(show 3 ≤ sizeLine by decide), fun pA nA => ?_⟩
    refine ⟨d, aw, ac, _, _, .ref pA, ([(most : Int), (most : Int), k3] : List Int).map V.int, rfl, (W5.new nA).w, by omega, Src.h upd_same, by simp, by simp, fun u H6 hu W6 => ?_⟩
    obtain ⟨c, hc, rfl⟩ := mem_int hu
    have hc2 : 0 ≤ c ∧ c ≤ most := by
      simp only [List.mem_cons, List.not_mem_nil, or_false] at hc
      omega
    obtain ⟨G6, s6, W6'⟩ : ∃ G6, Same G3 G6 ∧ Wk K d aw ac (m + 35) G H G6 H6 := ⟨_, same_add (W5.w.gn nA), ((W5.new nA).trans W6).up (by omega)⟩
    have hpk6 := s6 _ _ hpk
    intro pw nw
    refine ⟨_, _, rfl, ?_⟩
    have W7 := W6'.tmp (o := .dK []) nw
    have L7 := W6'.lo (o := .dK []) nw
    obtain ⟨n3, hn3⟩ : ∃ n3 : Nat, c = n3 := ⟨c.toNat, by omega⟩
    subst hn3
    refine ⟨_, rfl, _, rfl, d, aw, ac, _, G6, n3, rfl, W7.w, by omega, by omega, fun p8 ls G8 H8 hll hlnd hlok W8 L8 => ?_⟩
    refine ⟨p8, ls, rfl, SqL.of L8.h, by omega, fun labs pl hlp hls nl => ?_⟩
    obtain ⟨G9, H9, eH9, s9, W9, L9, hpl⟩ : ∃ G9 H9, H9 = upd H8 pl (.lst (labs.map V.str)) ∧ Same G6 G9 ∧ Wk K d aw ac (m + 140) G H G9 H9 ∧ Lo d aw H G9 H9 pw (.dK []) ∧ G9 pl = some (.lst (labs.map V.str)) :=
      ⟨_, _, rfl, W8.s.g.trans (same_add (W8.w.gn nl)), ((W7.trans W8).new nl).up (by omega), (L7.wk W8).newN nl, upd_same⟩
    rw [← eH9]
    have hlabl : labs.length = n3 := by rw [hlp.length_eq, hll]
    have hlabn : labs.Nodup := hlp.nodup_iff.mpr hlnd
    have hlabk : ∀ z ∈ labs, NameOk z := fun z hz => hlok z (hlp.subset hz)
    have hpk9 := s9 _ _ hpk6
    refine ⟨pl, rfl, ⟨_, SqL.of (W9.w.sub _ _ hpl)⟩, ?_⟩
    refine for_it (walk_list (xs := labs.map V.str)) (fun i σ H1 => ∃ (G1 : Hp) (ws : List WH) (un : Int) (x y z : Option V), σ = [some (.ref d), some (.int most), some (.int un), some (.int fees), some (.int fl), some (.ref pk), some (.int n2), some (.int n3), some (.ref pw), x, y, z, none, none, none, none] ∧ Wk K d aw ac (m + 140 + 104 * i) G H G1 H1 ∧ Same G9 G1 ∧ Lo d aw H G1 H1 pw (.dK (labD ws)) ∧ WsAt K d aw H G1 H1 ws ∧ (∀ e ∈ ws, e.a ≠ pw) ∧ ws.map (·.lab) = labs.take i ∧ (∀ e ∈ ws, WareOk kinds n2 e.w ∧ e.w.roll = none) ∧ 0 ≤ un ∧ un = units - (ws.map (·.w.amount)).sum)
      ⟨G9, [], units, none, none, none, rfl, W9, Same.refl _, L9, ⟨List.nodup_nil, (fun _ h => nomatch h), (fun _ h => nomatch h)⟩, (fun _ h => nomatch h), rfl, (fun _ h => nomatch h), hu0, by simp⟩ (fun i σ H1 _ h => by
        obtain ⟨G1, ws, un, x, y, z, _, W2, s2, _⟩ := h
        exact SqL.of (W2.w.sub _ _ (s2 _ _ hpl))) ?_ ?_
    · rintro i x σ H1 H1' hi ⟨G1, ws, un, x1, y1, z1, rfl, V1, s1, L1, A1, hne1, hlab1, hok1, hun0, hun⟩ ⟨rfl, hx⟩
      rw [List.length_map] at hi
      rw [List.getElem?_map] at hx
      obtain ⟨l, hl, rfl⟩ := Option.map_eq_some_iff.mp hx
      refine ⟨_, rfl, (show 5 ≤ sizeLine by decide), fun pB nB => ?_⟩
      refine ⟨d, aw, ac, _, _, .ref pB, ([1, 1, 2, 3, 0] : List Int).map V.int, rfl, (V1.new nB).w, by omega, Src.h upd_same, by decide, by decide, fun u H2 hu V2 => ?_⟩
      obtain ⟨k, hk, rfl⟩ := mem_int hu
      have hk4 : 0 ≤ k ∧ k ≤ 3 := by
        simp only [List.mem_cons, List.not_mem_nil, or_false] at hk
        omega
      obtain ⟨G2, s2, V2, L2, A2⟩ : ∃ G2, Same G1 G2 ∧ Wk K d aw ac (m + 140 + 104 * i + 1) G H G2 H2 ∧ Lo d aw H G2 H2 pw (.dK (labD ws)) ∧ WsAt K d aw H G2 H2 ws := ⟨_, same_add (V1.w.gn nB), (V1.new nB).trans V2, (L1.newN nB).wk V2, (A1.newN nB (V1.w.gn nB)).step V2.s⟩
      refine ⟨_, rfl, k, un, rfl, ?_⟩
      obtain ⟨am, eam, ham0, ham1, ham2⟩ : ∃ am : Int, (if un < k then un else k) = am ∧ 0 ≤ am ∧ am ≤ 3 ∧ am ≤ un := by
        refine ⟨_, rfl, ?_⟩
        split <;> omega
      rw [eam]
      refine ⟨_, rfl, _, rfl, _, _, rfl, rfl, ?_⟩
      refine fee_read rfl rfl V2 (by omega) hf0 hf1 fun fee G3 H3 hfee V3 => ?_
      obtain ⟨s3, V3, L3, A3⟩ : Same G2 G3 ∧ Wk K d aw ac (m + 140 + 104 * i + 3) G H G3 H3 ∧ Lo d aw H G3 H3 pw (.dK (labD ws)) ∧ WsAt K d aw H G3 H3 ws := ⟨V3.s.g, V2.trans V3, L2.wk V3, A2.step V3.s⟩
      intro pd nd
      have hpk3 : G3 pk = some (.lst (kinds.map V.str)) := s3 _ _ (s2 _ _ (s1 _ _ hpk9))
      have V4 := V3.tmp (o := .dK []) nd
      have D4 := V3.lo (o := .dK []) nd
      have L4 := L3.othN (x := .dK []) nd
      have A4 := A3.othN (o := .dK []) nd
      refine ⟨_, rfl, _, rfl, _, rfl, d, aw, ac, pk, _, G3, kinds, n2, rfl, V4.w, by omega, SqL.of hpk3, by omega, by omega, by omega, by omega, fun ps us ss G5 H5 V5 L5 A5 hss hsn => ?_⟩
      have hne2 : pw ≠ pd := ne_of_none L3.h nd
      have hne3 : ∀ e ∈ ws, e.a ≠ pd := fun e he => ne_of_none (A3.lo e he).h nd
      have D5 := D4.wk V5
      have K5 := L4.wk V5
      have B5 := A4.step V5.s
      have S5 := L5.back V4.s
      have V6 := V4.trans V5
      have V7 := V6.seal S5
      have hps5 : ps ≠ pd := fun e => by
        have := S5.h
        rw [e, D5.h] at this
        cases this
      have hps6 : pw ≠ ps := fun e => by
        have := S5.h
        rw [← e, K5.h] at this
        cases this
      have hps7 : ∀ e ∈ ws, e.a ≠ ps := fun e he h => by
        have := S5.h
        rw [← h, (B5.lo e he).h] at this
        cases this
      have D7 := D5.sealO (x := .lst us) (Ne.symm hps5)
      have K7 := K5.sealO (x := .lst us) hps6
      have B7 := B5.sealO S5 hps7
      have s7 : Same G5 (upd G5 ps (.lst us)) := same_add S5.g
      have hps8 : upd G5 ps (.lst us) ps = some (.lst us) := upd_same
      have A7 := A5.imp fun _ _ h => h.mono s7
      revert V7 D7 K7 B7 s7 A7 hps8
      generalize upd G5 ps (.lst us) = G7
      intro V7 D7 K7 B7 s7 hps8 A7
      refine ⟨_, rfl, _, rfl, D7.h, wareD ⟨l, pd, ps, .non, ⟨ss, am, fee, none⟩⟩, rfl, (by show 4 ≤ 15; decide), ?_⟩
      rw [show mergeK [] (wareD ⟨l, pd, ps, .non, ⟨ss, am, fee, none⟩⟩) = wareD ⟨l, pd, ps, .non, ⟨ss, am, fee, none⟩⟩ from rfl]
      have V8 := V7.mut (o' := .dK (wareD ⟨l, pd, ps, .non, ⟨ss, am, fee, none⟩⟩)) D7
      have D8 := D7.put (o' := .dK (wareD ⟨l, pd, ps, .non, ⟨ss, am, fee, none⟩⟩))
      have K8 := K7.oth (x := .dK (wareD ⟨l, pd, ps, .non, ⟨ss, am, fee, none⟩⟩)) hne2
      have B8 := B7.oth (o := .dK (wareD ⟨l, pd, ps, .non, ⟨ss, am, fee, none⟩⟩)) hne3
      have hlnew : l ∉ ws.map (·.lab) := by rw [hlab1]; exact nd_take hlabn hl
      refine ⟨_, rfl, _, rfl, pw, _, rfl, DPut.k (k := kS l) K8.h ?_, ?_⟩
      · show (labD ws).length < sizeLine
        unfold labD
        rw [List.length_map]
        have := congrArg List.length hlab1
        rw [List.length_map, List.length_take] at this
        exact small1000 (by omega)
      · rw [putK_new _ (valV_none hlnew)]
        have V9 := V8.mut (o' := .dK (labD (ws ++ [⟨l, pd, ps, .non, ⟨ss, am, fee, none⟩⟩]))) K8
        have K9 := K8.put (o' := .dK (labD (ws ++ [⟨l, pd, ps, .non, ⟨ss, am, fee, none⟩⟩])))
        have D9 := D8.oth (x := .dK (labD (ws ++ [⟨l, pd, ps, .non, ⟨ss, am, fee, none⟩⟩]))) (Ne.symm hne2)
        have B9 := B8.oth (o := .dK (labD (ws ++ [⟨l, pd, ps, .non, ⟨ss, am, fee, none⟩⟩]))) hne1
        have elb : labD ws ++ [(kS l, V.ref pd)] = labD (ws ++ [⟨l, pd, ps, .non, ⟨ss, am, fee, none⟩⟩]) := by
          unfold labD
          rw [List.map_append]
          rfl
        rw [elb]
        refine ⟨G7, ws ++ [⟨l, pd, ps, .non, ⟨ss, am, fee, none⟩⟩], un - am, _, _, _, rfl, V9.up (by omega), s1.trans (s2.trans (s3.trans (V5.s.g.trans s7))), K9, ⟨?_, ?_, ?_⟩, ?_, ?_, ?_, by omega, ?_⟩
        · rw [List.map_append]
          refine List.nodup_append.mpr ⟨B9.nd, by simp, fun x hx y hy e => ?_⟩
          obtain ⟨e0, he0, rfl⟩ := List.mem_map.mp hx
          have hy' : y = pd := by simpa using hy
          exact hne3 e0 he0 (e.trans hy')
        · intro e he
          rcases List.mem_append.mp he with h | h
          · exact B9.lo e h
          · rw [List.mem_singleton.mp h]; exact D9
        · intro e he
          rcases List.mem_append.mp he with h | h
          · exact B9.ok e h
          · rw [List.mem_singleton.mp h]; exact ⟨⟨us, Rd.of hps8, A7⟩, rfl⟩
        · intro e he
          rcases List.mem_append.mp he with h | h
          · exact hne1 e h
          · rw [List.mem_singleton.mp h]; exact Ne.symm hne2
        · rw [List.map_append, hlab1, List.take_add_one, hl]; rfl
        · intro e he
          rcases List.mem_append.mp he with h | h
          · exact hok1 e h
          · rw [List.mem_singleton.mp h]; exact ⟨⟨hss, hsn, ham0, ham1, hfee⟩, rfl⟩
        · rw [List.map_append, List.sum_append]
          show un - am = units - ((ws.map (·.w.amount)).sum + (am + 0))
          omega
    · rintro σ H1 ⟨G1, ws, un, x1, y1, z1, rfl, V1, s1, L1, A1, hne1, hlab1, hok1, hun0, hun⟩
      rw [List.length_map] at V1 hlab1
      rw [List.take_length] at hlab1
      have hwl : ws.length = n3 := by
        have := congrArg List.length hlab1
        rw [List.length_map] at this
        omega
      refine ⟨_, rfl, _, rfl, _, rfl, d, aw, ac, pw, _, G, H, G1, ws, fl, rfl, V1, by omega, hl0, hl1, L1, A1, hne1, by omega, by rw [hlab1]; exact hlabn, fun e he => ⟨(hok1 e he).1.ne, ?_, (hok1 e he).2⟩, fun ws2 G2 H2 V2 s2 L2 A2 hst hfl => ?_⟩
      · have := (hok1 e he).1.sub.length_le
        rw [allSpots_len] at this
        have : n2 * kinds.length ≤ 40 := Nat.le_trans (Nat.mul_le_mul (show n2 ≤ 4 by omega) (show kinds.length ≤ 10 by omega)) (by decide)
        omega
      refine ⟨_, rfl, d, aw, ac, _, 9, rfl, V2.w.dr, by omega, by decide, by decide, fun kr H3 hkr0 hkr1 hDr hKr => ?_⟩
      obtain ⟨V3, L3, A3⟩ : Wk K d aw ac (m + 140 + 104 * n3 + 31) G H G2 H3 ∧ Lo d aw H G2 H3 pw (.dK (labD ws2)) ∧ WsAt K d aw H G2 H3 ws2 := ⟨(V2.trans (V2.go hDr hKr)).up (by omega), L2.wk (V2.go hDr hKr), A2.step (V2.go hDr hKr).s⟩
      refine rI_add (z := 1 + kr) rfl fun pr nr => ⟨_, _, rfl, ?_⟩
      have V4 := V3.tmp (o := .dK []) nr
      have R4 := V3.lo (o := .dK []) nr
      have L4 := L3.othN (x := .dK []) nr
      have A4 := A3.othN (o := .dK []) nr
      have hne4 : pw ≠ pr := ne_of_none L3.h nr
      have hne5 : ∀ e ∈ ws2, e.a ≠ pr := fun e he => ne_of_none (A3.lo e he).h nr
      refine ⟨_, rfl, d, aw, ac, _, 2, rfl, V4.w.dr, by omega, by decide, by decide, fun ki H5 hki0 hki1 hDi hKi => ⟨rfl, ?_⟩⟩
      obtain ⟨V5, L5, A5, R5⟩ : Wk K d aw ac (m + 140 + 104 * n3 + 32) G H G2 H5 ∧ Lo d aw H G2 H5 pw (.dK (labD ws2)) ∧ WsAt K d aw H G2 H5 ws2 ∧ Lo d aw H G2 H5 pr (.dK []) := ⟨(V4.trans (V4.go hDi hKi)).up (by omega), L4.wk (V4.go hDi hKi), A4.step (V4.go hDi hKi).s, R4.wk (V4.go hDi hKi)⟩
      have hpk2 : G2 pk = some (.lst (kinds.map V.str)) := s2 _ _ (s1 _ _ hpk9)
      refine ⟨_, rfl, pk, rfl, ⟨_, SqL.of (V5.w.sub _ _ hpk2)⟩, ?_⟩
      refine for_it (walk_list (xs := kinds.map V.str)) (fun i σ H1 => ∃ (rs : List (Str × Int)) (b : Bool) (x : Option V), σ = [some (.ref d), some (.int most), some (.int un), some (.int fees), some (.int fl), some (.ref pk), some (.int n2), some (.int n3), some (.ref pw), x1, y1, z1, some (.int (1 + kr)), some (.ref pr), some (.bl b), x] ∧ Wk K d aw ac (m + 140 + 104 * n3 + 32 + i) G H G2 H1 ∧ Lo d aw H G2 H1 pw (.dK (labD ws2)) ∧ WsAt K d aw H G2 H1 ws2 ∧ Lo d aw H G2 H1 pr (.dK (rateD rs)) ∧ rs.map (·.1) = kinds.take i ∧ ∀ r ∈ rs, 0 ≤ r.2 ∧ r.2 ≤ 9)
        ⟨[], _, none, rfl, V5, L5, A5, R5, rfl, fun _ h => nomatch h⟩ (fun i σ H1 _ h => by
          obtain ⟨rs, b, x, _, V6, _⟩ := h
          exact SqL.of (V6.w.sub _ _ hpk2)) ?_ ?_
      · rintro i x σ H6 H6' hi ⟨rs, b, x6, rfl, V6, L6, A6, R6, hrs, hrb⟩ ⟨rfl, hx⟩
        rw [List.length_map] at hi
        rw [List.getElem?_map] at hx
        obtain ⟨l, hl, rfl⟩ := Option.map_eq_some_iff.mp hx
        refine rate_read rfl rfl rfl V6 (by omega) (by omega) (by omega) fun r H7 hr0 hr1 V7 => ?_
        have L7 := L6.wk V7
        have A7 := A6.step V7.s
        have R7 := R6.wk V7
        have V7' := V6.trans V7
        have hlnew : l ∉ rs.map (·.1) := by rw [hrs]; exact nd_take hknd hl
        refine ⟨_, rfl, _, rfl, pr, _, rfl, DPut.k (k := kS l) R7.h ?_, ?_⟩
        · show (rateD rs).length < sizeLine
          unfold rateD
          rw [List.length_map]
          have := congrArg List.length hrs
          rw [List.length_map, List.length_take] at this
          exact small1000 (by omega)
        · rw [putK_new _ (valV_noneR hlnew)]
          have erd : rateD rs ++ [(kS l, V.int r)] = rateD (rs ++ [(l, r)]) := by
            unfold rateD
            rw [List.map_append]
            rfl
          rw [erd]
          refine ⟨rs ++ [(l, r)], b, _, rfl, V7'.mut R7, L7.oth hne4, A7.oth hne5, R7.put, ?_, ?_⟩
          · rw [List.map_append, hrs, List.take_add_one, hl]; rfl
          · intro r' hr'
            rcases List.mem_append.mp hr' with h | h
            · exact hrb r' h
            · rw [List.mem_singleton.mp h]; exact ⟨hr0, hr1⟩
      · rintro σ H6 ⟨rs, b, x6, rfl, V6, L6, A6, R6, hrs, hrb⟩
        rw [List.length_map] at V6 hrs
        rw [List.take_length] at hrs
        intro pz nz
        have V7 := V6.tmp (o := .dK []) nz
        have Z7 := V6.lo (o := .dK []) nz
        have L7 := L6.othN (x := .dK []) nz
        have A7 := A6.othN (o := .dK []) nz
        have R7 := R6.othN (x := .dK []) nz
        have hz1 : pw ≠ pz := ne_of_none L6.h nz
        have hz2 : pr ≠ pz := ne_of_none R6.h nz
        have hz3 : ∀ e ∈ ws2, e.a ≠ pz := fun e he => ne_of_none (A6.lo e he).h nz
        have hwl2 : ws2.length = n3 := by
          have := congrArg List.length hst
          rw [List.length_map, List.length_map] at this
          omega
        have hlab2 : ws2.map (·.lab) = labs := (labs_strip hst).trans hlab1
        have hrl : rs.length = kinds.length := by
          have := congrArg List.length hrs
          rw [List.length_map] at this
          exact this
        refine ⟨_, rfl, _, rfl, _, rfl, Z7.h, sheetD pr pw n2, rfl, (by show 3 ≤ 15; decide), ?_⟩
        rw [show mergeK [] (sheetD pr pw n2) = sheetD pr pw n2 from rfl]
        refine q pz pr pw ws2 ⟨rs, n2, warOf ws2⟩ G2 _ ((V7.mut Z7).up (by omega)) ⟨Z7.put, R7.oth hz2, L7.oth hz1, A7.oth hz3, rfl, Ne.symm hz2, Ne.symm hz1, Ne.symm hne4, fun e he => ⟨hz3 e he, hne5 e he, ?_⟩⟩ ?_
        · obtain ⟨y, hy, hyx⟩ := mem_strip hst he
          have e2 : y.a = e.a := congrArg (fun z => z.2.1) hyx
          rw [← e2]
          exact hne1 y hy
        · have ew : (warOf ws2).map (·.1) = labs := by
            unfold warOf
            rw [List.map_map]
            exact hlab2
          have mem : ∀ v ∈ warOf ws2, ∃ e ∈ ws2, v = (e.lab, e.w) := fun v hv => by
            obtain ⟨e, he, rfl⟩ := List.mem_map.mp hv
            exact ⟨e, he, rfl⟩
          refine ⟨by show 0 < rs.length; omega, by show rs.length ≤ 3; omega, fun r hr => ⟨hkok _ ?_, hrb r hr⟩, by show (rs.map (·.1)).Nodup; rw [hrs]; exact hknd, by show sortedS (rs.map (·.1)) = true; rw [hrs]; exact hks, by show 0 < n2; omega, by show n2 ≤ 4; omega, ?_, by show ((warOf ws2).map (·.1)).Nodup; rw [ew]; exact hlabn, by show sortedS ((warOf ws2).map (·.1)) = true; rw [ew]; exact hls, fun v hv => ?_, fun v hv => ?_, ?_, fun v hv r hr => ?_⟩
          · rw [← hrs]
            exact List.mem_map.mpr ⟨r, hr, rfl⟩
          · show (warOf ws2).length ≤ most
            unfold warOf
            rw [List.length_map]
            omega
          · refine hlabk _ ?_
            rw [← ew]
            exact List.mem_map.mpr ⟨v, hv, rfl⟩
          · obtain ⟨e, he, rfl⟩ := mem v hv
            obtain ⟨y, hy, hyx⟩ := mem_strip hst he
            have o := (hok1 y hy).1
            have e1 : y.w.slots = e.w.slots := congrArg (fun z => z.2.2.2.1) hyx
            have e2 : y.w.amount = e.w.amount := congrArg (fun z => z.2.2.2.2.1) hyx
            have e3 : y.w.cost = e.w.cost := congrArg (fun z => z.2.2.2.2.2) hyx
            show WareOk (rs.map (·.1)) n2 e.w
            rw [hrs]
            exact ⟨e1 ▸ o.sub, e1 ▸ o.ne, e2 ▸ o.am0, e2 ▸ o.am3, e3 ▸ o.cost⟩
          · show ((warOf ws2).map (·.2.amount)).sum ≤ units
            have e4 : (warOf ws2).map (·.2.amount) = ws.map (·.w.amount) := by
              have h1 : (warOf ws2).map (·.2.amount) = (ws2.map strip).map (fun z => z.2.2.2.2.1) := by
                unfold warOf
                rw [List.map_map, List.map_map]
                rfl
              have h2 : ws.map (·.w.amount) = (ws.map strip).map (fun z => z.2.2.2.2.1) := by
                rw [List.map_map]
                rfl
              rw [h1, h2, hst]
            rw [e4]
            omega
          · obtain ⟨e, he, rfl⟩ := mem v hv
            obtain ⟨h1, h2, x, hx, hxl, hxs⟩ := hfl e he r hr
            exact ⟨h1, h2, (x.lab, x.w), List.mem_map.mpr ⟨x, hx, rfl⟩, hxl, hxs⟩
end

end ND
namespace ND
open PySem PySem.Spec PyProof.Rows L2
section
variable {P : Program} {w : World} {K : PySem.W.Frag} {mg : Str → Option Value} {base : Heap}
def F__law_take : List D → Out D := takeD
theorem ok__law_take (T : Tx P w K mg base) : GOk P w K mg base 2 "_law_take" ["_law_draw", "_law_size"] (spF K false 2 F__law_take) := (okH__law_take T).imp fun _ _ _ _ h => take_sp h
def F__law_sheet : List D → Out D := sheetF
theorem ok__law_sheet (T : Tx P w K mg base) : GOk P w K mg base 5 "_law_sheet" ["_law_draw", "_law_most", "_law_units", "_law_fees", "_law_flows_here"] (spF K false 5 F__law_sheet) := (okH__law_sheet T).imp fun _ _ _ _ h => sheet_sp h
theorem gets (T : Tx P w K mg base) : ∃ g cdg, GetsL K mg "_law_caught" "_law_task" N__law_caught (defBody s__law_caught) (defScope s__law_caught) g cdg :=
  T.d__law_caught.gets sc__law_caught rfl (Or.inl rfl) (fun _ _ _ _ _ _ us hl => match us, hl with | [_], _ => rfl)
end
end ND
/-! enumerate(t) of a tuple -/
namespace ND
open PySem PySem.Spec PyProof.Rows L2
open PySem.AutoSeq1 (wpAny_loadPart')
theorem meets_enumT (l : Addr) (items : Array Value) (n : Nat) (dct : Option Addr) (sl : Array (Option Value)) :
    Meets (Builtin.«enumerate.__new__» ⟨[.type "enumerate", .ref l], []⟩) (fun _ R s => s.heap.get? l = some { cls := .type "tuple", dict := dct, data := .seq items n, slots := sl } ∧
      R (.ok (.ret (.ref (s.heap.push { cls := .type "tuple_iterator", data := .fields #[.ref l, .int 0 0] }).objs.size)))
        { s with heap := (s.heap.push { cls := .type "tuple_iterator", data := .fields #[.ref l, .int 0 0] }).push { cls := .type "enumerate", data := .fields #[.none, .bool false, .ref s.heap.objs.size, rawInt 0, .none, .none] } }) := by
  refine .of_wp fun prog w A R s h => ?_
  obtain ⟨hp, g, d, tk, os⟩ := s
  obtain ⟨hl, h⟩ := h
  have hsub := sub_enumerate
  have hL : Heap.IsTuple (Shared.heap ⟨hp, g, d, tk, os⟩) l items := ⟨_, hl, rfl, n, rfl⟩
  wp_walk using wpAny_loadPart' hl
  refine wpAny_stack_any fun st => wpAny_pure ?_
  split
  · rename_i c _ _ _ _ _
    cases (c == Value.type "enumerate") <;> (wp_walk using wpAny_loadPart' hl, wpAny_pyIter_tuple hL; exact ⟨_, rfl, h⟩)
  · wp_walk using wpAny_loadPart' hl, wpAny_pyIter_tuple hL
    exact ⟨_, rfl, h⟩
section
variable {prog : Program} {w : World} {A : Around} {E : Value → Shared → Prop} {s : Shared}
theorem call_enumT {l : Addr} {items : Array Value} {Q : Value → Shared → Prop} (hL : s.heap.IsTuple l items)
    (h : ∀ h', IsEnum h' (s.heap.objs.size + 1) s.heap.objs.size 0 .none → h'.IsTupleIter s.heap.objs.size l 0 → (∀ b o, s.heap.get? b = some o → h'.get? b = some o) → Q (.ref (s.heap.objs.size + 1)) { s with heap := h' }) :
    wpAny (model prog w) A (call (.type "enumerate") [.ref l]) Q E s := by
  obtain ⟨⟨c, dct, dt, sl⟩, hl, hc, n, hd⟩ := hL
  obtain rfl : c = .type "tuple" := hc
  obtain rfl : dt = .seq items n := hd
  refine callType_new F.called_enumerate (by decide) (F.typeCall_enumerate_1 _) (F.newCall_enumerate_1 _) (fun obj => F.args_object_init_2 obj _) F.entry_enumerate_new (meets_enumT l items n dct sl) ⟨hl, ?_⟩
  have z1 : (s.heap.push { cls := .type "tuple_iterator", data := .fields #[.ref l, .int 0 0] }).objs.size = s.heap.objs.size + 1 := Heap.size_push ..
  show _ ∧ _
  rw [z1]
  have en : IsEnum ((s.heap.push { cls := .type "tuple_iterator", data := .fields #[.ref l, .int 0 0] }).push { cls := .type "enumerate", data := .fields #[.none, .bool false, .ref s.heap.objs.size, rawInt 0, .none, .none] }) (s.heap.objs.size + 1) s.heap.objs.size 0 .none := by
    have z2 := Heap.get?_push_size (s.heap.push { cls := .type "tuple_iterator", data := .fields #[.ref l, .int 0 0] }) (o := { cls := .type "enumerate", data := .fields #[.none, .bool false, .ref s.heap.objs.size, rawInt 0, .none, .none] }) rfl
    rw [z1] at z2
    exact z2
  exact ⟨⟨_, en, rfl⟩, h _ en ⟨_, Heap.get?_push_of_some _ (Heap.get?_push_size _ rfl), rfl, rfl⟩ fun b o x => Heap.get?_push_of_some _ (Heap.get?_push_of_some _ x)⟩
end
/-- the tuple at a, each item in a new pair with its place -/
def IteT (K : PySem.W.Frag) (a : Addr) : It :=
  ⟨fun i H => ∃ (xs : List V) (x : V), SqT K H a xs ∧ xs[i]? = some x, fun i H v H' => ∃ T x, v = .ref T ∧ H T = none ∧ H' = upd H T (.tup [.int (i : Nat), x]) ∧ ∀ xs, SqT K H a xs → xs[i]? = some x, fun i H => ∃ xs : List V, SqT K H a xs ∧ xs.length = i⟩
theorem walk_enumT {K : PySem.W.Frag} {a : Addr} {xs : List V} : Walk (IteT K a) xs.length (fun H => SqT K H a xs) (YPair (fun i => some (.int (i : Nat))) (fun i => xs[i]?)) := by
  refine ⟨fun i _ hi q => ⟨xs, xs[i], q, List.getElem?_eq_getElem hi⟩, fun _ q => ⟨xs, q, rfl⟩, fun i H v H' _ q y => ?_⟩
  obtain ⟨T, x, h1, h2, h3, h4⟩ := y
  exact ⟨T, _, x, h1, h2, h3, rfl, h4 xs q⟩
theorem turn_enumT {P : Program} {w : World} {K : PySem.W.Frag} {elts : List Expr} {kk : Nat} {tpos : Pos} (a e it : Addr) (hai : a ≠ it) (hae : a ≠ e) :
    Turn P w K (.Tuple elts kk tpos) (IteT K a) [e, it] e (fun i h => (∃ old, IsEnum h e it ((i : Nat) : Int) old) ∧ h.IsTupleIter it a i ∧ e ≠ it) where
  mem := by simp
  obj := fun i h st b hb => by
    obtain ⟨⟨old, he⟩, ⟨o, ho, hc, hd⟩, _⟩ := st
    rcases (show b = e ∨ b = it by simpa using hb) with rfl | rfl
    · exact ⟨_, he, fun v q => nomatch q⟩
    · exact ⟨o, ho, fun v q => by rw [hd] at q; cases q⟩
  keep := fun i h h' st k => by
    obtain ⟨⟨old, he⟩, hi, hne⟩ := st
    exact ⟨⟨old, k e (by simp) _ he⟩, hi.at fun o q => k it (by simp) o q, hne⟩
  item := by
    intro X hP hw hK hc i pins s σ H E I hf st hg
    subst hP hw hK
    obtain ⟨⟨old, he⟩, hit, hne⟩ := st
    obtain ⟨xs, x, hq, hx⟩ := hg
    obtain ⟨its, rv, p, hz⟩ := I.tuple hq
    obtain ⟨u, hu, ru⟩ := rv.get hx
    have hel : e < s.heap.objs.size := Heap.lt_size he
    have hil : it < s.heap.objs.size := by
      obtain ⟨_, q, _⟩ := hit
      exact Heap.lt_size q
    have il : i < its.toArray.size := by
      rw [List.size_toArray]
      exact (List.getElem?_eq_some_iff.mp hu).1
    have DT : Draws X.prog X.w X.A.in1 it [it, a] its.toArray.size (fun i v => its.toArray[i]? = some v) (fun i h => h.IsTupleIter it a i ∧ h.IsTuple a its.toArray) := Draws.tuple (show X.A.in1.handled = none from I.ok.hd hc) it a hai its.toArray
    refine wpAny_pyNext_enum_itemD DT he ⟨hit, p⟩ il hne (by simp [hne, Ne.symm hae]) fun y h' tk hy ho st' hT hsz hk => ?_
    have ey : y = u := by
      have e1 : its[i]? = some y := by simpa using hy
      rw [hu] at e1
      exact (Option.some.inj e1).symm
    subst ey
    refine ⟨_, rfl, wpAny_letOwnedTupleGo_enum (s := { s with heap := h', toks := tk + 1 }) ho fun h'' he' sb => ?_⟩
    have hT2 : h''.get? s.heap.objs.size = some { cls := .type "tuple", data := .seq #[.int i tk, y] } := (sb.2 _ (Nat.ne_of_gt hel)).trans hT
    have new : ObjOk X.prog X.w (upd H s.heap.objs.size (.tup [.int (i : Nat), x])) h'' s.heap.objs.size (.tup [.int (i : Nat), x]) := ⟨by show 2 ≤ sizeLine; decide, [.int i tk, y], .cons ⟨_, rfl⟩ (.cons ru .nil), ⟨_, hT2, rfl, _, rfl⟩⟩
    have I1 : Inv X pins σ (upd H s.heap.objs.size (.tup [.int (i : Nat), x])) { s with heap := h'', toks := tk + 1 } :=
      I.turnedNew (ch := [e, it]) (fun b ob hb q => (sb.2 b (fun z => hb (by simp [z]))).trans (hk b ob (fun z => hb (by simp [z])) (fun z => hb (by simp [z])) q)) hf (Nat.le_refl _) new
    refine ⟨.ref s.heap.objs.size, _, I1, rfl, ⟨_, x, rfl, I.hok.fresh (Nat.le_refl _), rfl, fun ys hy => by rw [I.tuple_inj hy hq]; exact hx⟩, ⟨⟨y, ?_⟩, st'.1.at fun o q => (sb.2 it (Ne.symm hne)).trans q, hne⟩, fun b hb => ?_⟩
    · have e1 : ((i + 1 : Nat) : Int) = (i : Int) + 1 := by omega
      rw [e1]
      exact he'
    · have hb' : b < s.heap.objs.size := by
        rcases (show b = e ∨ b = it by simpa using hb) with rfl | rfl
        · exact hel
        · exact hil
      rw [upd_ne (Nat.ne_of_lt hb')]
      exact (hf b hb).1
  done := by
    intro X hP hw hK hc i pins s σ H E I hf st hg
    subst hP hw hK
    obtain ⟨⟨old, he⟩, hit, hne⟩ := st
    obtain ⟨xs, hq, hx⟩ := hg
    obtain ⟨its, rv, p, hz⟩ := I.tuple hq
    obtain ⟨f0, f1, f2, f3, f4, f5⟩ := hf it (by simp)
    have hl := rv.length
    have DT : Draws X.prog X.w X.A.in1 it [it, a] its.toArray.size (fun i v => its.toArray[i]? = some v) (fun i h => h.IsTupleIter it a i ∧ h.IsTuple a its.toArray) := Draws.tuple (show X.A.in1.handled = none from I.ok.hd hc) it a hai its.toArray
    have hi : i = its.toArray.size := by rw [List.size_toArray]; omega
    refine wpAny_pyNext_enum_endD DT he ⟨hi ▸ hit, p⟩ fun h' eb => ?_
    exact ⟨rfl, I.turned (t' := s.toks) (fun b o hb q => eb b o hb q) f0 f1 f3 f4 f5⟩
  self := fun A i s Q E st h => by
    obtain ⟨⟨_, he⟩, _⟩ := st
    exact wpAny_pyIter_enum he h
def iEnumT (K : PySem.W.Frag) (ta : TA) : TI := fun σ H R => ta σ H fun vs H1 => ∃ a xs, vs = [.ref a] ∧ SqT K H1 a xs ∧ R (IteT K a) H1
theorem pi_enumT {X : Cx} {e : Expr} {ta : TA} {p pos tpos : Pos} {elts : List Expr} {kk : Nat} (hg : Gl X "enumerate") (hm : X.mg "enumerate" = none) (ha : PA X [e] ta) (hs : starEach [e] X.env = [(false, eval e X.env)] := by rfl) :
    PI X (.Tuple elts kk tpos) (.Call (.Name "enumerate" p) [e] [] pos) (iEnumT X.K ta) := by
  constructor
  intro pins s σ H R I h
  refine Call_ (ld_blt I hg hm boot_enumerate (PyProof.Rows.callWith_type1 (thn (ha.run pos pins s σ H _ I h) fun us s1 h1 => ?_) hs rfl))
  obtain ⟨vs, H1, I1, r1, a, xs, rfl, hq, q⟩ := h1
  obtain ⟨u, rfl, ru⟩ := vals1 r1
  cases ru
  obtain ⟨its, rv, p', hz⟩ := I1.tuple hq
  have al : a < s1.heap.objs.size := by
    obtain ⟨o, ho, _⟩ := p'
    exact Heap.lt_size ho
  refine call_enumT p' fun h' he hit hk => wpAny_pyIter_enum he ?_
  have I2 : Inv X pins σ H1 { s1 with heap := h' } := I1.kept (t' := s1.toks) hk
  refine ⟨s1.heap.objs.size + 1, [s1.heap.objs.size + 1, s1.heap.objs.size], _, _, H1, rfl, I2, turn_enumT a (s1.heap.objs.size + 1) s1.heap.objs.size (Nat.ne_of_lt al) (Nat.ne_of_lt (Nat.lt_succ_of_lt al)), ⟨⟨.none, he⟩, hit, Nat.succ_ne_self _⟩, fun b hb => ?_, q⟩
  have hle : s1.heap.objs.size ≤ b := by
    rcases (show b = s1.heap.objs.size + 1 ∨ b = s1.heap.objs.size by simpa using hb) with rfl | rfl <;> omega
  exact I1.fpOk hle (I1.hok.fresh hle)
theorem pi_enumTK {X : Cx} (K : PySem.W.Frag) (hK : X.K = K) {e : Expr} {ta : TA} {p pos tpos : Pos} {elts : List Expr} {kk : Nat} (hg : Gl X "enumerate") (hm : X.mg "enumerate" = none) (ha : PA X [e] ta) (hs : starEach [e] X.env = [(false, eval e X.env)] := by rfl) :
    PI X (.Tuple elts kk tpos) (.Call (.Name "enumerate" p) [e] [] pos) (iEnumT K ta) := hK ▸ pi_enumT hg hm ha hs
end ND
/-! dict(zip(s, t)) of a list or a tuple, and a list or a tuple -/
namespace ND
open PySem PySem.Spec PyProof.Rows L2
section
variable {prog : Program} {w : World} {A : Around} {E : Value → Shared → Prop} {g : Shared} {z ti tp c d : Addr} {f1 f2 : List Addr} {n1 n2 k : Nat} {P1 P2 : Nat → Value → Prop} {S1 S2 : Nat → Heap → Prop}
theorem heldG_item {T : Addr} {f : Bool} {oT : Obj} {Q : Value → Shared → Prop} (S : ZipSep2 z ti tp c d f1 f2) (D1 : Draws prog w A c f1 n1 P1 S1) (D2 : Draws prog w A d f2 n2 P2 S2) (kz : IsZipHeld g.heap z ti tp T f) (hT : g.heap.get? T = some oT)
    (pr : IsTupOf2 g.heap ti (.ref c) (.ref d)) (s1 : S1 k g.heap) (s2 : S2 k g.heap) (l1 : k < n1) (l2 : k < n2)
    (hQ : ∀ x y h' tk, P1 k x → P2 k y → IsZipHeld h' z ti tp T true → IsTupOf2 h' ti (.ref c) (.ref d) → S1 (k + 1) h' → S2 (k + 1) h' → IsTupOf2 h' g.heap.objs.size x y → (∀ b o, b ≠ z → b ≠ c → b ≠ d → g.heap.get? b = some o → h'.get? b = some o) → Q (.ref g.heap.objs.size) { g with heap := h', toks := tk }) :
    wpAny (model prog w) A (Builtin.«zip.__next__» ⟨[.ref z], []⟩) (fun fin s' => ∃ v, fin = .done (.ret v) ∧ Q v s') E g := by
  show wpAny _ _ (field (.ref z) 2 >>= _) _ _ _
  refine wpAny_bind (wpAny_field kz rfl (x := .bool false) rfl ?_)
  show wpAny _ _ (field (.ref z) 3 >>= _) _ _ _
  refine wpAny_bind (wpAny_field kz rfl (x := .ref ti) rfl (wpAny_bind (wpAny_seqItems pr rfl ?_)))
  show wpAny _ _ (Builtin.SmallTypes.ownedTupleIsFree (.ref z) >>= _) _ _ _
  refine wpAny_bind (wpAny_tupleHeld_zip kz hT fun g1 kz1 b1 => ?_)
  simp only [Bool.false_eq_true, if_false]
  rw [← Array.forIn_toList]
  simp only [List.forIn_cons, List.forIn_nil]
  refine wpAny_bind (wpAny_bind (wpAny_bind (wpAny_holding ?_)))
  show wpAny _ _ (Builtin.SmallTypes.nextOf (.ref c) >>= _) _ _ _
  refine wpAny_bind (D1.item k { g with heap := g1 } _ _ l1 (D1.over s1 b1 S.zf1) fun x g2 t2 px u1 b2 => wpAny_pure (wpAny_pure (wpAny_bind (wpAny_bind (wpAny_holding ?_)))))
  show wpAny _ _ (Builtin.SmallTypes.nextOf (.ref d) >>= _) _ _ _
  refine wpAny_bind (D2.item k { g with heap := g2, toks := t2 } _ _ l2 (D2.over (D2.over s2 b1 S.zf2) b2 S.sep1_2) fun y g3 t3 py u2 b3 => wpAny_pure (wpAny_pure (wpAny_pure ?_)))
  show wpAny _ _ (newTuple [x, y] >>= _) _ _ _
  refine wpAny_bind (wpAny_newTuple (wpAny_pure ⟨_, rfl, ?_⟩))
  have size : g3.objs.size = g.heap.objs.size := b3.1.trans (b2.1.trans b1.1)
  have all : ∀ b o, b ≠ z → b ≠ c → b ≠ d → g.heap.get? b = some o → g3.get? b = some o := fun b o h1 h2 h3 q => b3.extBut _ _ h3 (b2.extBut _ _ h2 (b1.extBut _ _ h1 q))
  have z3 : IsZipHeld g3 z ti tp T true := b3.extBut _ _ S.zi2 (b2.extBut _ _ S.zi1 kz1)
  have v1 : S1 (k + 1) g3 := D1.over u1 b3 S.sep2_1
  have up : ∀ {h : Heap} {S' : Nat → Heap → Prop} {it : Addr} {f' : List Addr} {m : Nat} {P' : Nat → Value → Prop} (D : Draws prog w A it f' m P' S') (o : Obj), S' (k + 1) h → S' (k + 1) (h.push o) := fun D o st => D.frame _ _ _ st fun b hb o' e => Heap.get?_push_of_some _ e
  have new : IsTupOf2 (g3.push { cls := .type "tuple", data := .seq #[x, y] }) g3.objs.size x y := Heap.get?_push_size _ rfl
  show Q (.ref g3.objs.size) _
  rw [size] at new ⊢
  exact hQ x y _ t3 px py (Heap.get?_push_of_some _ z3) (Heap.get?_push_of_some _ (all _ _ S.TIz S.TIi1 S.TIi2 pr)) (up D1 _ v1) (up D2 _ u2) new fun b o h1 h2 h3 q => Heap.get?_push_of_some _ (all b o h1 h2 h3 q)
theorem heldG_end {T : Addr} {f : Bool} {oT : Obj} {Q : Fin → Shared → Prop} (S : ZipSep2 z ti tp c d f1 f2) (D1 : Draws prog w A c f1 n1 P1 S1) (D2 : Draws prog w A d f2 n2 P2 S2) (kz : IsZipHeld g.heap z ti tp T f) (hT : g.heap.get? T = some oT)
    (pr : IsTupOf2 g.heap ti (.ref c) (.ref d)) (s1 : S1 k g.heap) (s2 : S2 k g.heap) (l1 : k ≤ n1) (l2 : k ≤ n2) (he : k = n1 ∨ k = n2)
    (hE : ∀ h' tk e, (∀ b o, b ≠ z → b ≠ c → b ≠ d → g.heap.get? b = some o → h'.get? b = some o) → (∃ o, h'.get? e = some o ∧ o.cls = .type "StopIteration") → E (.ref e) { g with heap := h', toks := tk }) :
    wpAny (model prog w) A (Builtin.«zip.__next__» ⟨[.ref z], []⟩) Q E g := by
  show wpAny _ _ (field (.ref z) 2 >>= _) _ _ _
  refine wpAny_bind (wpAny_field kz rfl (x := .bool false) rfl ?_)
  show wpAny _ _ (field (.ref z) 3 >>= _) _ _ _
  refine wpAny_bind (wpAny_field kz rfl (x := .ref ti) rfl (wpAny_bind (wpAny_seqItems pr rfl ?_)))
  show wpAny _ _ (Builtin.SmallTypes.ownedTupleIsFree (.ref z) >>= _) _ _ _
  refine wpAny_bind (wpAny_tupleHeld_zip kz hT fun g1 kz1 b1 => ?_)
  simp only [Bool.false_eq_true, if_false]
  rw [← Array.forIn_toList]
  simp only [List.forIn_cons, List.forIn_nil]
  refine wpAny_bind (wpAny_bind (wpAny_bind (wpAny_holding ?_)))
  show wpAny _ _ (Builtin.SmallTypes.nextOf (.ref c) >>= _) _ _ _
  by_cases hk : k = n1
  · subst hk
    exact wpAny_bind (D1.done { g with heap := g1 } _ _ (D1.over s1 b1 S.zf1) fun g2 e b2 ho => hE g2 _ e (fun b o h1 h2 _ q => b2 _ _ h2 (b1.extBut _ _ h1 q)) ho)
  · have hk2 : k = n2 := he.resolve_left hk
    subst hk2
    refine wpAny_bind (D1.item k { g with heap := g1 } _ _ (by omega) (D1.over s1 b1 S.zf1) fun x g2 t2 px u1 b2 => wpAny_pure (wpAny_pure (wpAny_bind (wpAny_bind (wpAny_holding ?_)))))
    show wpAny _ _ (Builtin.SmallTypes.nextOf (.ref d) >>= _) _ _ _
    exact wpAny_bind (D2.done { g with heap := g2, toks := t2 } _ _ (D2.over (D2.over s2 b1 S.zf2) b2 S.sep1_2) fun g3 e b3 ho => hE g3 _ e (fun b o h1 h2 h3 q => b3 _ _ h3 (b2.extBut _ _ h2 (b1.extBut _ _ h1 q))) ho)
def StG (z ti tp c d : Addr) (S1 S2 : Nat → Heap → Prop) (dd : Addr) (k : Nat) (h : Heap) : Prop := IsTupOf2 h ti (.ref c) (.ref d) ∧ S1 k h ∧ S2 k h ∧ ((IsZip h z ti tp .none ∧ ∃ a b, IsTupOf2 h tp a b) ∨ ∃ T f oT, IsZipHeld h z ti tp T f ∧ h.get? T = some oT ∧ T ≠ z ∧ T ≠ c ∧ T ≠ d ∧ T ≠ dd)
theorem zipG_src {dd : Addr} (S : ZipSep2 z ti tp c d f1 f2) (D1 : Draws prog w A.in1 c f1 n1 P1 S1) (D2 : Draws prog w A.in1 d f2 n2 P2 S2) (m1 : dd ≠ z) (m2 : dd ≠ ti) (m3 : dd ≠ tp) (m4 : dd ∉ f1) (m5 : dd ∉ f2) :
    PairSrc prog w A z dd [z, tp, c, d] (min n1 n2) (fun i k v => P1 i k ∧ P2 i v) (StG z ti tp c d S1 S2 dd) := by
  refine ⟨fun hm => ?_, fun i h h' st hk => ?_, fun i s Q E hi st hds hQ => ?_, fun s Q E st hQ => ?_⟩
  · simp only [List.mem_cons, List.not_mem_nil, or_false] at hm
    rcases hm with q | q | q | q
    · exact m1 q
    · exact m3 q
    · exact m4 (q ▸ S.mem1)
    · exact m5 (q ▸ S.mem2)
  · obtain ⟨pr, a1, a2, r⟩ := st
    refine ⟨hk _ _ (Ne.symm m2) pr, D1.frame _ _ _ a1 fun b hb o e => hk b o (fun y => m4 (y ▸ hb)) e, D2.frame _ _ _ a2 fun b hb o e => hk b o (fun y => m5 (y ▸ hb)) e, ?_⟩
    rcases r with ⟨kz, x, y, kp⟩ | ⟨T, f, oT, kz, hT, q1, q2, q3, q4⟩
    · exact .inl ⟨hk _ _ (Ne.symm m1) kz, x, y, hk _ _ (Ne.symm m3) kp⟩
    · exact .inr ⟨T, f, oT, hk _ _ (Ne.symm m1) kz, hk _ _ q4 hT, q1, q2, q3, q4⟩
  · obtain ⟨pr, a1, a2, r⟩ := st
    have i1 : i < n1 := by omega
    have i2 : i < n2 := by omega
    have nc : s.heap.objs.size ≠ c := by obtain ⟨_, q⟩ := D1.live _ _ a1; exact Nat.ne_of_gt (Heap.lt_size q)
    have nd : s.heap.objs.size ≠ d := by obtain ⟨_, q⟩ := D2.live _ _ a2; exact Nat.ne_of_gt (Heap.lt_size q)
    rcases r with ⟨kz, x, y, kp⟩ | ⟨T, f, oT, kz, hT, q1, q2, q3, q4⟩
    · refine wpAny_pyNext_zipD2_item S D1 D2 kz pr kp a1 a2 i1 i2 fun x1 x2 h' tk p1 p2 kz' _ u1 u2 hp _ all => ?_
      refine hQ s.heap.objs.size _ _ h' tk ⟨p1, p2⟩ (.inl ⟨_, hp, rfl, _, rfl⟩) ⟨all _ _ S.TIz S.TITO S.TIi1 S.TIi2 pr, u1, u2, .inr ⟨s.heap.objs.size, false, _, kz', hp, Nat.ne_of_gt (Heap.lt_size kz), nc, nd, Nat.ne_of_gt hds⟩⟩ fun b o hb q => ?_
      simp only [List.mem_cons, List.not_mem_nil, or_false, not_or] at hb
      exact all b o hb.1 hb.2.1 hb.2.2.1 hb.2.2.2 q
    · have ty : s.TypeIs (.ref z) "zip" := ⟨_, kz, rfl⟩
      unfold pyNext
      refine wpAny_bind (wpAny_attempt (wpAny_callSpecial?_slot (name := Str.ofString "__next__") ty F.slot_zip_next (wpAny_call_entry F.slot_zip_next ty F.entry_zip_next (heldG_item S D1 D2 kz hT pr a1 a2 i1 i2 fun x y h' tk p1 p2 kz' pr' u1 u2 hp all => wpAny_pure ?_) (F.args_zip_next_1 _))))
      refine hQ s.heap.objs.size _ _ h' tk ⟨p1, p2⟩ (.inl ⟨_, hp, rfl, _, rfl⟩) ⟨pr', u1, u2, .inr ⟨T, true, oT, kz', all _ _ q1 q2 q3 hT, q1, q2, q3, q4⟩⟩ fun b o hb q => ?_
      simp only [List.mem_cons, List.not_mem_nil, or_false, not_or] at hb
      exact all b o hb.1 hb.2.2.1 hb.2.2.2 q
  · obtain ⟨pr, a1, a2, r⟩ := st
    have l1 : min n1 n2 ≤ n1 := Nat.min_le_left _ _
    have l2 : min n1 n2 ≤ n2 := Nat.min_le_right _ _
    have he : min n1 n2 = n1 ∨ min n1 n2 = n2 := by omega
    rcases r with ⟨kz, x, y, kp⟩ | ⟨T, f, oT, kz, hT, q1, q2, q3, q4⟩
    · refine wpAny_pyNext_zipD2_end S D1 D2 kz pr kp a1 a2 l1 l2 he fun h' tk all => hQ h' tk fun b o hb q => ?_
      simp only [List.mem_cons, List.not_mem_nil, or_false, not_or] at hb
      exact all b o hb.1 hb.2.1 hb.2.2.1 hb.2.2.2 q
    · have ty : s.TypeIs (.ref z) "zip" := ⟨_, kz, rfl⟩
      unfold pyNext
      refine wpAny_bind (wpAny_attempt (wpAny_callSpecial?_slot (name := Str.ofString "__next__") ty F.slot_zip_next (wpAny_call_entry F.slot_zip_next ty F.entry_zip_next (heldG_end S D1 D2 kz hT pr a1 a2 l1 l2 he fun h' tk e all ho => ?_) (F.args_zip_next_1 _))))
      obtain ⟨o, ho, hc⟩ := ho
      refine wpAny_bind (wpAny_isInstance (T := "StopIteration") (b := true) ⟨o, ho, hc⟩ isSubtype_stop (wpAny_pure (hQ _ tk fun b o hb q => ?_)))
      simp only [List.mem_cons, List.not_mem_nil, or_false, not_or] at hb
      exact all b o hb.1 hb.2.2.1 hb.2.2.2 q
theorem zipG_arg (S : ZipSep2 z ti tp c d f1 f2) (D1 : ∀ A : Around, A.handled = none → Draws prog w A c f1 n1 P1 S1) (D2 : ∀ A : Around, A.handled = none → Draws prog w A d f2 n2 P2 S2) (v1 : ∀ i h, S1 i h → ∀ b ∈ f1, ∃ o, h.get? b = some o) (v2 : ∀ i h, S2 i h → ∀ b ∈ f2, ∃ o, h.get? b = some o) :
    PairArg prog w "zip" z (z :: ti :: tp :: (f1 ++ f2)) [z, tp, c, d] (min n1 n2) (fun i k v => P1 i k ∧ P2 i v) (fun h => IsTupOf2 h ti (.ref c) (.ref d) ∧ S1 0 h ∧ S2 0 h ∧ IsZip h z ti tp .none ∧ ∃ a b, IsTupOf2 h tp a b) := by
  have E1 := D1 {} rfl
  have E2 := D2 {} rfl
  refine ⟨fun s ok => ⟨_, ok.2.2.2.1, rfl⟩, by decide, fun h h' ok hk => ?_, fun h ok b hb => ?_, fun b hb => ?_, fun A s Q E hA ok h => getAttrOr_miss_zip ok.2.2.2.1 rfl rfl rfl zip_no_keys (by decide +kernel) hA h, fun A s dd Q E hA ok hd hdf h => ?_⟩
  · obtain ⟨pr, a1, a2, kz, x, y, kp⟩ := ok
    exact ⟨hk _ _ pr, E1.frame _ _ _ a1 fun b _ o e => hk b o e, E2.frame _ _ _ a2 fun b _ o e => hk b o e, hk _ _ kz, x, y, hk _ _ kp⟩
  · obtain ⟨pr, a1, a2, kz, x, y, kp⟩ := ok
    simp only [List.mem_cons, List.mem_append] at hb
    rcases hb with rfl | rfl | rfl | hb | hb
    · exact ⟨_, kz⟩
    · exact ⟨_, pr⟩
    · exact ⟨_, kp⟩
    · exact v1 _ _ a1 b hb
    · exact v2 _ _ a2 b hb
  · simp only [List.mem_cons, List.not_mem_nil, or_false] at hb
    simp only [List.mem_cons, List.mem_append]
    rcases hb with q | q | q | q
    · exact .inl q
    · exact .inr (.inr (.inl q))
    · exact .inr (.inr (.inr (.inl (q ▸ S.mem1))))
    · exact .inr (.inr (.inr (.inr (q ▸ S.mem2))))
  · simp only [List.mem_cons, List.mem_append, not_or] at hdf
    obtain ⟨pr, a1, a2, kz, kp⟩ := ok
    exact wpAny_pyIter_zip kz (h z [z, tp, c, d] (StG z ti tp c d S1 S2 dd) s.heap s.toks (zipG_src S (D1 A.in1 hA) (D2 A.in1 hA) hdf.1 hdf.2.1 hdf.2.2.1 hdf.2.2.2.1 hdf.2.2.2.2) ⟨pr, a1, a2, .inl ⟨kz, kp⟩⟩ (fun _ _ q => q) fun b hb => .inl hb)
end
end ND
/-! dict(zip(s, t)): the rule, for lists and tuples -/
namespace ND
open PySem PySem.Spec PyProof.Rows L2
/-- a sequence whose iterator is known -/
def SeqB (P : Program) (w : World) (a : Addr) (its : Array Value) (h0 : Heap) : Prop := ∃ (o : Obj) (B : Heap → Prop), Begins (.ref a) o B ∧ B h0 ∧ ∀ it : Addr, a ≠ it → ∃ S : Nat → Heap → Prop, (∀ A : Around, A.handled = none → Draws P w A it [it, a] its.size (fun i v => its[i]? = some v) S) ∧ (∀ h : Heap, h.get? it = some o → B h → S 0 h) ∧ (∀ i h, S i h → ∀ b ∈ [it, a], ∃ o, h.get? b = some o)
theorem seqB_list {P : Program} {w : World} {a : Addr} {its : Array Value} {h0 : Heap} (h : h0.IsList a its) : SeqB P w a its h0 := by
  refine ⟨_, _, begins_list a its, h, fun it hne => ⟨_, fun A hh => Draws.list hh it a hne its, fun h' e q => ⟨⟨_, e, rfl, rfl⟩, q⟩, fun i h' st b hb => ?_⟩⟩
  obtain ⟨⟨o, ho, _⟩, ⟨o2, ho2, _⟩⟩ := st
  rcases (show b = it ∨ b = a by simpa using hb) with rfl | rfl
  · exact ⟨o, ho⟩
  · exact ⟨o2, ho2⟩
theorem seqB_tup {P : Program} {w : World} {a : Addr} {its : Array Value} {h0 : Heap} (h : h0.IsTuple a its) : SeqB P w a its h0 := by
  refine ⟨_, _, begins_tuple a its, h, fun it hne => ⟨_, fun A hh => Draws.tuple hh it a hne its, fun h' e q => ⟨⟨_, e, rfl, rfl⟩, q⟩, fun i h' st b hb => ?_⟩⟩
  obtain ⟨⟨o, ho, _⟩, ⟨o2, ho2, _⟩⟩ := st
  rcases (show b = it ∨ b = a by simpa using hb) with rfl | rfl
  · exact ⟨o, ho⟩
  · exact ⟨o2, ho2⟩
def SqA (K : PySem.W.Frag) (H : Hp) (a : Addr) (xs : List V) : Prop := SqL K H a xs ∨ SqT K H a xs
theorem seqB_of {X : Cx} {pins : List (Addr × Obj)} {σ : L2.St} {H : Hp} {s : Shared} {a : Addr} {xs : List V} (I : Inv X pins σ H s) (h : SqA X.K H a xs) : ∃ its : List Value, Vals xs its ∧ SeqB X.prog X.w a its.toArray s.heap ∧ xs.length ≤ sizeLine ∧ a < s.heap.objs.size := by
  rcases h with h | h
  · obtain ⟨its, rv, p, l⟩ := I.list h
    exact ⟨its, rv, seqB_list p.isList, l, p.lt⟩
  · obtain ⟨its, rv, p, l⟩ := I.tuple h
    obtain ⟨o, ho, _⟩ := id p
    exact ⟨its, rv, seqB_tup p, l, Heap.lt_size ho⟩
def tDictZipA (K : PySem.W.Frag) (ta : TA) : TE := fun σ H Q => ta σ H fun vs H1 => ∃ (a b : Addr) (ks : List Key) (ys : List V), vs = [.ref a, .ref b] ∧ SqA K H1 a (ks.map kV) ∧ SqA K H1 b ys ∧ ks.Nodup ∧ ∀ p, H1 p = none → Q (.ref p) (upd H1 p (.dK (ks.zip ys)))
theorem pe_dictZipA {X : Cx} {e1 e2 : Expr} {ta : TA} {p p2 q pos : Pos} (hg : Gl X "dict") (hm : X.mg "dict" = none) (hg2 : Gl X "zip") (hm2 : X.mg "zip" = none) (ha : PA X [e1, e2] ta) (hc : X.calm = true := by rfl)
    (hs : starEach [e1, e2] X.env = (false, eval e1 X.env) :: starEach [e2] X.env := by rfl) (hpl : (backTo q (starEach [e2] X.env)).any (·.1) = false := by rfl) :
    PE X (.Call (.Name "dict" p) [.Call (.Name "zip" p2) [e1, e2] [] q] [] pos) (tDictZipA X.K ta) := by
  refine ⟨fun pins s σ H Q I h => ?_⟩
  refine Call_ (ld_blt I hg hm boot_dict (PyProof.Rows.callWith_type1 (PyProof.Rows.args_cons ?_ rfl) rfl rfl))
  refine Call_ (ld_blt I hg2 hm2 boot_zip (PyProof.Rows.callWith_type1 (thn (ha.run q pins s σ H _ I h) fun us s1 ⟨vs, H1, I1, r1, q1⟩ => ?_) hs hpl))
  obtain ⟨a, b, ks, ys, rfl, h1, h2, nd, q1⟩ := q1
  obtain ⟨u1, u2, rfl, x1, x2⟩ := vals2 r1
  cases x1
  cases x2
  obtain ⟨its, rv, ⟨o1, B1, bg1, bh1, k1⟩, l1, lt1⟩ := seqB_of I1 h1
  obtain ⟨its2, rv2, ⟨o2, B2, bg2, bh2, k2⟩, l2, lt2⟩ := seqB_of I1 h2
  refine zip_begins2 bg1 bg2 bh1 bh2 fun g kz hTI hTO i1 i2 size all => PyProof.Rows.args_nil ?_
  obtain ⟨S1, d1, b1, v1⟩ := k1 s1.heap.objs.size (Nat.ne_of_lt lt1)
  obtain ⟨S2, d2, b2, v2⟩ := k2 (s1.heap.objs.size + 1) (Nat.ne_of_lt (Nat.lt_succ_of_lt lt2))
  have sep := zip_sep2 (N := s1.heap.objs.size) (fp1 := [a]) (fp2 := [b]) (fun c hc => by rw [List.mem_singleton.mp hc]; exact lt1) (fun c hc => by rw [List.mem_singleton.mp hc]; exact lt2)
  rw [List.length_map] at l1
  have lk : ks.length = its.length := by rw [← rv.length, List.length_map]
  have lz : (ks.zip its2).length ≤ sizeLine := by
    rw [List.length_zip]
    omega
  refine call_dict_pairs (s := { s1 with heap := g }) (knd := mixKind X.prog X.w) (kvs := ks.zip its2) (zipG_arg sep d1 d2 v1 v2) (I1.ok.hd hc)
    ⟨hTI, b1 g i1 (bg1.keeps _ _ bh1 all), b2 g i2 (bg2.keeps _ _ bh2 all), kz, _, _, hTO⟩ (zip_have rv rv2) (by
      simp only [List.size_toArray]
      omega) fun g2 tk hd hk => ?_
  have hd : g2.DictOf (mixKind X.prog X.w) g.objs.size (merged [] (ks.zip its2)) := hd
  rw [merged_nil_of_nodup _ (nodup_zip nd), size] at hd
  show EP X pins σ Q (.ref g.objs.size) _
  rw [size]
  have big : s1.heap.objs.size ≤ s1.heap.objs.size + 5 := by omega
  have hm : (s1.heap.objs.size + 5 == sysModules) = false := beq_eq_false_iff_ne.mpr (Nat.ne_of_gt (Nat.lt_of_lt_of_le I1.big big))
  refine ⟨.ref (s1.heap.objs.size + 5), upd H1 (s1.heap.objs.size + 5) (.dK (ks.zip ys)), I1.laid (t' := tk) (fun c u e => hk c u ?_ (all c u e)) big (show ObjOk X.prog X.w _ _ _ (.dK (ks.zip ys)) from ⟨?_, hm, ks.zip its2, zip_kv rv rv2, hd⟩), rfl, q1 _ (I1.hok.fresh big)⟩
  · have hl := Heap.lt_size e
    simp only [List.mem_cons, List.not_mem_nil, or_false, not_or]
    exact ⟨Nat.ne_of_lt (Nat.lt_of_lt_of_le hl (Nat.le_add_right _ _)), Nat.ne_of_lt (Nat.lt_of_lt_of_le hl (Nat.le_add_right _ _)), Nat.ne_of_lt hl, Nat.ne_of_lt (Nat.lt_of_lt_of_le hl (Nat.le_add_right _ _))⟩
  · have e2 := rv2.length
    rw [List.length_zip] at lz ⊢
    omega
section
variable {K : PySem.W.Frag} {C : Cfg K} {E : XK} {Γ : List Md} {n m : Nat} {G0 H0 G H G1 H1 : Hp} {Q : VK} {v : V}
def dDictZipA (ds : List D) : Out D := match ds with
  | [x, y] => (match seqD x, seqD y with
    | some xs, some ys => (match tkeys xs with
      | some ks => bif decide ks.Nodup then .ok (.dct (ks.zip ys)) else .stuck
      | none => .stuck)
    | _, _ => .stuck)
  | _ => .stuck
theorem rep_seq {x : D} {xs : List D} (s : Same G H) (h : Rep C G v x) (hx : seqD x = some xs) : ∃ a vs, v = .ref a ∧ SqA K H a vs ∧ RepL C G vs xs ∧ xs.length ≤ 100000 := by
  cases h <;> first | cases hx | skip
  · rename_i h t l
    exact ⟨_, _, rfl, .inl (.inl (rd_mono s h)), t, l⟩
  · rename_i h t l
    exact ⟨_, _, rfl, .inr (Evl.ex_t s h.1), t, l⟩
theorem sn_dictZipA {ta : TA} {a : Rho → Out (List D)} (ha : SimA C E Γ 2 ta a) : SimN C E Γ (tDictZipA K ta) (eCall dDictZipA a) := fun H0 n G H σ ρ Q w e q => by
  refine ha H0 n G H σ ρ _ w e (Out.wp_mono (fun m ds k vs G1 H1 s1 r1 hl => ?_) (fun _ _ _ z => z) (Out.wp_bind q))
  match ds, hl, vs, r1 with
  | [x, y], _, [v1, v2], .cons h1 (.cons h2 .nil) =>
    have k : (match seqD x, seqD y with
      | some xs, some ys => (match tkeys xs with
        | some ks => bif decide ks.Nodup then Out.ok (D.dct (ks.zip ys)) else .stuck
        | none => .stuck)
      | _, _ => .stuck).wp m (PN C G H Q) (PX C G H E) := k
    cases hx : seqD x with
    | none => rw [hx] at k; exact k.elim
    | some xs =>
    cases hy : seqD y with
    | none => rw [hx, hy] at k; exact k.elim
    | some ys =>
    rw [hx, hy] at k
    simp only at k
    cases hk : tkeys xs with
    | none => rw [hk] at k; exact k.elim
    | some ks =>
    rw [hk] at k
    simp only at k
    cases hn : decide ks.Nodup with
    | false => rw [hn] at k; exact k.elim
    | true =>
    rw [hn] at k
    obtain ⟨a1, vs1, rfl, t1, r1, l1⟩ := rep_seq s1.w.sub h1 hx
    obtain ⟨a2, vs2, rfl, t2, r2, l2⟩ := rep_seq s1.w.sub h2 hy
    have := tkeys_rep r1 hk
    subst this
    refine ⟨a1, a2, ks, vs2, rfl, t1, t2, of_decide_eq_true hn, fun p np => ?_⟩
    obtain ⟨z1, z2⟩ := rep_zip (ks := ks) r2
    exact k p _ _ _ (s1.tmp np) (s1.dm np) (s1.w.gn np) upd_same ⟨by rw [List.length_zip]; omega, z1, z2⟩
end
end ND
/-! walks by enumerate and zip over tuples; t.index; t[::-1]; texts in order -/
namespace ND
open PySem PySem.Spec PyProof.Rows L2 RZ
theorem walk_zipT {K : PySem.W.Frag} {a b : Addr} {xs ys : List V} {n : Nat} (hn : n = min xs.length ys.length) : Walk (ItzT K a b) n (fun H => SqT K H a xs ∧ SqT K H b ys) (YPair (fun i => xs[i]?) (fun i => ys[i]?)) := by
  subst hn
  refine ⟨fun i _ hi q => ?_, fun _ q => ⟨xs, ys, q.1, q.2, by omega⟩, fun i H v H' _ q y => ?_⟩
  · have h1 : i < xs.length := by omega
    have h2 : i < ys.length := by omega
    exact ⟨xs, ys, xs[i], ys[i], q.1, q.2, List.getElem?_eq_getElem h1, List.getElem?_eq_getElem h2⟩
  · obtain ⟨T, x, z, h1, h2, h3, h4, h5⟩ := y
    exact ⟨T, x, z, h1, h2, h3, h4 xs q.1, h5 ys q.2⟩
section
variable {K : PySem.W.Frag} {C : Cfg K} {E : XK} {Γ : List Md} {n m : Nat} {G0 H0 G H G1 H1 : Hp} {Q : VK} {v : V}
theorem si_enumT {t : TA} {a : Rho → Out (List D)} (ha : SimA C E Γ 1 t a) : SimI true C E Γ (iEnumT K t) (iEn itemsT a) := fun H0 n G H σ ρ R w e q => by
  refine ha H0 n G H σ ρ _ w e (Out.wp_mono (fun m ds k vs G1 H1 s1 r1 hl => ?_) (fun _ _ _ z => z) (Out.wp_bind q))
  match ds, hl, vs, r1 with
  | [d], _, [v], .cons h1 .nil =>
    cases h1 <;> first | exact k.elim | skip
    rename_i b vs xs h t l _
    refine ⟨b, vs, rfl, Evl.ex_t s1.w.sub h.1, k _ G1 H1 s1 (WalkD.of (walk_enumT (xs := vs)) (by rw [enum_len, t.len]) (by rw [enum_len]; exact l) (fun H' s => Evl.ex_t s h.1) ?_)⟩
    intro i d n' G2 H2 x H3 hd s w2 hy
    refine pair_step hd w2 hy (fun v a e1 e2 => ?_) (fun v a e1 e2 => ?_)
    · cases e1
      rw [rangeD_at e2, Int.zero_add]
      exact .int _
    · obtain ⟨y, hy1, hy2⟩ := t.at e1
      rw [e2] at hy1
      cases hy1
      exact hy2.mono s
theorem si_zipT {t : TA} {a : Rho → Out (List D)} (ha : SimA C E Γ 2 t a) : SimI true C E Γ (iZipA K t) (iZp itemsT itemsT a) := fun H0 n G H σ ρ R w e q => by
  refine ha H0 n G H σ ρ _ w e (Out.wp_mono (fun m ds k vs G1 H1 s1 r1 hl => ?_) (fun _ _ _ z => z) (Out.wp_bind q))
  match ds, hl, vs, r1 with
  | [d, d2], _, [v, v2], .cons h1 (.cons h2 .nil) =>
    cases h1 <;> first | exact k.elim | skip
    cases h2 <;> first | exact k.elim | skip
    rename_i b vs xs h t l b' vs' xs' h' t' l' _
    refine ⟨b, b', vs, vs', rfl, .inr ⟨Evl.ex_t s1.w.sub h.1, Evl.ex_t s1.w.sub h'.1, k _ G1 H1 s1 (WalkD.of (walk_zipT (xs := vs) (ys := vs') rfl) (by rw [pairsD_len, t.len, t'.len]) (by rw [pairsD_len]; omega) (fun H' s => ⟨Evl.ex_t s h.1, Evl.ex_t s h'.1⟩) ?_)⟩⟩
    intro i d n' G2 H2 x H3 hd s w2 hy
    refine pair_step hd w2 hy (fun v a e1 e2 => ?_) (fun v a e1 e2 => ?_)
    · obtain ⟨y, hy1, hy2⟩ := t.at e1
      rw [e2] at hy1
      cases hy1
      exact hy2.mono s
    · obtain ⟨y, hy1, hy2⟩ := t'.at e1
      rw [e2] at hy1
      cases hy1
      exact hy2.mono s
/-! ### names.index(x) -/
def idxS (z : Str) : List Str → Option Nat
  | [] => none
  | y :: ys => if y = z then some 0 else (idxS z ys).map (· + 1)
theorem idxS_ok {z : Str} : ∀ {ys : List Str} {j : Nat}, idxS z ys = some j → ys[j]? = some z ∧ ∀ m, m < j → ys[m]? ≠ some z
  | [], _, h => by cases h
  | y :: ys, j, h => by
    unfold idxS at h
    by_cases hy : y = z
    · rw [if_pos hy] at h
      cases h
      exact ⟨by rw [hy]; rfl, fun m hm => absurd hm (Nat.not_lt_zero _)⟩
    · rw [if_neg hy] at h
      obtain ⟨i, hi, rfl⟩ := Option.map_eq_some_iff.mp h
      obtain ⟨h1, h2⟩ := idxS_ok hi
      refine ⟨h1, fun m hm => ?_⟩
      cases m with
      | zero => exact fun z => hy (Option.some.inj z)
      | succ m => exact h2 m (by omega)
def eIdx (a b : Rho → Out D) : Rho → Out D := fun ρ => (a ρ).bind fun x => match x with
  | .tup xs => (match strsD xs with
    | some ys => (b ρ).bind fun y => (match y with
      | .str z => (match idxS z ys with
        | some j => .ok (.int (j : Nat))
        | none => .stuck)
      | _ => .stuck)
    | none => .stuck)
  | _ => .stuck
theorem strs_rep : ∀ {vs : List V} {xs : List D} {ys : List Str}, RepL C G vs xs → strsD xs = some ys → vs = ys.map V.str
  | _, _, _, .nil, h => by cases h; rfl
  | _, _, ys, .cons (v := v) (x := x) (vs := vs) (xs := xs) h t, hk => by
    cases h <;> first | cases hk | skip
    rename_i z hz
    have hk' : (strsD xs).map (z :: ·) = some ys := hk
    obtain ⟨ks, h3, rfl⟩ := Option.map_eq_some_iff.mp hk'
    rw [strs_rep t h3]
    rfl
theorem sm_idx {ta tb : TE} {a b : Rho → Out D} (ha : SimE C E Γ ta a) (hb : SimV C E Γ tb b) : SimE C E Γ (tIdxF K ta (tCons tb tNil)) (eIdx a b) := fun H0 n G H σ ρ Q w e q => by
  refine ha H0 n G H σ ρ _ w e (Out.wp_mono (fun m x k v G1 H1 s1 r1 => ?_) (fun _ _ _ z => z) (Out.wp_bind q))
  cases r1 <;> first | exact k.elim | skip
  rename_i a vs xs hs t l
  cases hx : strsD xs with
  | none => simp only [hx] at k; exact k.elim
  | some ys =>
  simp only [hx] at k
  have ev := strs_rep t hx
  subst ev
  refine ⟨a, ys, rfl, hs.mono s1.w.sub, ?_⟩
  refine hb H0 m G1 H1 σ ρ _ s1.w (e.step s1) (Out.wp_mono (fun m2 y k2 u G2 H2 s2 r2 => ?_) (fun _ _ _ z => PX.back s1 z) (Out.wp_bind k))
  cases y <;> first | exact k2.elim | skip
  rename_i z
  obtain ⟨rfl, hz⟩ := r2.str
  cases hj : idxS z ys with
  | none => simp only [hj] at k2; exact k2.elim
  | some j =>
  simp only [hj] at k2
  obtain ⟨h1, h2⟩ := idxS_ok hj
  exact ⟨z, j, rfl, Evl.ex_t s2.w.sub (hs.mono s2.g).1, h1, h2, k2 _ G2 H2 (s1.trans s2) (.int _)⟩
/-! ### t[::-1] -/
def dRev (x : D) : Out D := match x with
  | .tup xs => .ok (.tup xs.reverse)
  | _ => .stuck
theorem sm_revF {ta : TE} {a : Rho → Out D} (ha : SimE C E Γ ta a) : SimE C E Γ (tRevF K ta) (eUn dRev a) := fun H0 n G H σ ρ Q w e q => by
  refine ha H0 n G H σ ρ _ w e (Out.wp_mono (fun m x k v G1 H1 s1 r1 => ?_) (fun _ _ _ z => z) (Out.wp_bind q))
  cases r1 <;> first | exact k.elim | skip
  rename_i a vs xs hs t l
  exact ⟨a, vs, rfl, Evl.ex_t s1.w.sub hs.1, fun p o np ho => k _ _ _ (s1.new np) (.tup (GT.new upd_same ho) (t.rev.mono (same_add (s1.w.gn np))) (by rw [List.length_reverse]; exact l))⟩
/-! ### texts in order -/
def dGtS (x y : D) : Out D := match x, y with
  | .str a, .str b => .ok (.bl (ltS b a))
  | _, _ => .stuck
theorem sr_gtS : SR C E (fun x y H Q => ∃ i j, x = .str i ∧ y = .str j ∧ Q (.bl (decide (j.cps.toList < i.cps.toList))) H) dGtS := fun n G H x y dx dy Q w rx ry q => by
  unfold dGtS at q
  cases dx <;> first | exact q.elim | skip
  cases dy <;> first | exact q.elim | skip
  exact ⟨_, _, rx.str.1, ry.str.1, q _ G H (Ws.refl w) (.bl _)⟩
end
end ND
/-! sorted(t) of a tuple -/
namespace ND
open PySem PySem.Spec PyProof.Rows L2
section
variable {prog : Program} {w : World} {A : Around} {E : Value → Shared → Prop} {s : Shared}
theorem collectT {l : Addr} {vs : List Value} {Q : List Value → Shared → Prop} (hl : s.heap.IsTuple l vs.toArray) (hsz : vs.length ≤ sizeLine)
    (h : Q vs { s with heap := (s.heap.push (seqObj "list" #[] 0)).update s.heap.objs.size (Obj.mapSeq (· ++ vs.toArray)) }) : wpAny (model prog w) A (collect (.ref l)) Q E s := by
  obtain ⟨o, ho, hc, n, hd⟩ := id hl
  unfold collect
  refine wpAny_bind (wpAny_runValue (codeAny_builtin entry_proto_collect' ?_))
  show wpAny _ _ (do again (.builtin "list.__iadd__" ⟨[← newList [], .ref l], []⟩)) _ _ s
  refine wpAny_bind (wpAny_newList (wpAny_pure ⟨Code.quiet_builtin _ (by decide +kernel), codeAny_builtin entry_list_iadd' ?_⟩))
  show wpAny _ _ (Builtin.List.listExtendWith (.ref s.heap.objs.size) (.ref l) (.ref s.heap.objs.size)) _ _ { s with heap := s.heap.push (seqObj "list" #[] 0) }
  unfold Builtin.List.listExtendWith
  have up : (s.heap.push (seqObj "list" #[] 0)).get? l = some o := Heap.get?_push_of_some _ ho
  refine wpAny_bind (wpAny_typeOf (T := "tuple") ⟨o, up, hc⟩ ?_)
  have ht : (Value.type "tuple" == Value.type "tuple") = true := by rfl
  rw [if_pos (by rw [ht]; simp)]
  refine wpAny_bind (listItems_at up hd ?_)
  refine wpAny_bind (listItems_at (xs := #[]) (n := 0) (Heap.get?_push_size _ rfl) rfl ?_)
  rw [if_neg (by simp)]
  refine wpAny_bind (listUpdate_at (xs := #[]) (n := 0) (Heap.get?_push_size _ rfl) rfl ?_ (Nat.zero_le _) (by show (#[] ++ vs.toArray).size ≤ sizeLine + 1; simp only [Array.size_append, List.size_toArray, List.length_nil]; omega))
  refine wpAny_pure ?_
  show wpAny (model prog w) A (do
      let o ← load s.heap.objs.size
      match o.data with
      | .seq xs _ => pure xs.toList
      | _ => unsupported "internal:collect") Q E { s with heap := (s.heap.push (seqObj "list" #[] 0)).update s.heap.objs.size (Obj.mapSeq (· ++ vs.toArray)) }
  refine wpAny_bind (wpAny_load (get?_update_seq (Heap.get?_push_size _ rfl) _) ?_)
  have e : ((#[] : Array Value) ++ vs.toArray).toList = vs := by simp
  show wpAny _ _ (pure ((#[] : Array Value) ++ vs.toArray).toList) Q E _
  rw [e]
  exact wpAny_pure h
open PySem.W in
theorem sortedT_vals {κ : PyProof.Rows.KeyKind} {l : Addr} {vs : List Value} {Q : Value → Shared → Prop} (hl : s.heap.IsTuple l vs.toArray) (S : SortsAt prog w A.in1.in1 { s with heap := sortingHeap (copyHeap s.heap vs) (s.heap.objs.size + 1) vs } κ vs) (hL : vs.length ≤ sizeLine)
    (h : Q (.ref (s.heap.objs.size + 1)) { s with heap := sortedAll s.heap vs (sortVals κ false vs vs).toArray }) : wpAny (model prog w) A (call (.builtin "sorted") [.ref l]) Q E s := by
  refine call_function_entry_kw kind_sorted plain_sorted entry_sorted (args_sorted1 _) ?_
  unfold Builtin.«sorted»
  refine wpAny_bind (m := checkCount "sorted" 1 1 _) (wpAny_pure ?_)
  refine wpAny_bind (collectT hl hL ?_)
  refine wpAny_bind (wpAny_newList ?_ hL)
  have hsz : ((s.heap.push (seqObj "list" #[] 0)).update s.heap.objs.size (Obj.mapSeq (· ++ vs.toArray))).objs.size = s.heap.objs.size + 1 := by
    rw [Heap.size_update, size_push']
  show wpAny _ _ _ _ _ { s with heap := copyHeap s.heap vs }
  rw [hsz]
  refine wpAny_bind (wpAny_holding (wpAny_call_entry_kw slot_list_sort ⟨_, copyHeap_at s.heap vs, rfl⟩ entry_list_sort ?body (args_list_sort _)))
  case body =>
    show wpAny (model prog w) A.in1.in1 (Builtin.«list.sort» ⟨[.ref (s.heap.objs.size + 1)], []⟩) _ _ _
    refine wpAny_mono (list_sort_vals (P := fun f s' => f = .done (.ret .none) ∧ Q (.ref (s.heap.objs.size + 1)) s') (s := { s with heap := copyHeap s.heap vs }) (copyHeap_at s.heap vs) S hL ⟨rfl, h⟩) (fun f s' hf => ?_) fun _ _ e => e
    obtain ⟨rfl, hq⟩ := hf
    exact ⟨_, rfl, wpAny_pure ⟨_, rfl, hq⟩⟩
open PySem.W in
theorem sortedT_data {β : Type} {vs : List Value} {bs : List β} {enc : β → PyData} {R : Value → β → Prop} {l : Addr} {Q : Value → Shared → Prop} (hl : s.heap.IsTuple l vs.toArray) (e : EachIs R vs bs) (er : EachIs (fun v b => ∃ as, Reads s.heap v (enc b) as) vs bs) (hal : AllAlike (bs.map enc)) (hk : Sortable (bs.map enc)) (hL : bs.length ≤ sizeLine)
    (hu : ∀ b, b ∈ bs → A.units + 2 + (enc b).depth < cLine) (h : ∀ out, out.length = bs.length → EachIs R out (bs.mergeSort (dataLe false enc)) → Q (.ref (s.heap.objs.size + 1)) { s with heap := sortedAll s.heap vs (List.toArray out) }) :
    wpAny (model prog w) A (call (.builtin "sorted") [.ref l]) Q E s := by
  have er2 : EachIs (fun v b => ∃ as, Reads (sortingHeap (copyHeap s.heap vs) (s.heap.objs.size + 1) vs) v (enc b) as) vs bs := er.mono fun _ _ z => z.elim fun as r => ⟨as, PyProof.Rows.Reads.keeps (fun _ _ => sorting_copy_old) r⟩
  have er3 := each_map (R := fun v d => ∃ as, Reads (sortingHeap (copyHeap s.heap vs) (s.heap.objs.size + 1) vs) v d as) enc er2
  exact sortedT_vals hl (SortsAt.data (s := { s with heap := sortingHeap (copyHeap s.heap vs) (s.heap.objs.size + 1) vs }) er3 hal hk (bound_map hu)) (by rw [e.length]; exact hL) (h _ ((sortVals_length false rfl).trans e.length) (sortVals_data false e er2 hal))
end
section
variable {X : Cx}
def rSortT (K : PySem.W.Frag) : List V → Hp → VK → Prop := fun vs H Q => ∃ (a : Addr) (bs : List (V × PyData)), vs = [.ref a] ∧ SqT K H a (bs.map (·.1)) ∧ (∀ b ∈ bs, Dp K H b.1 b.2) ∧ PySem.W.AllAlike (bs.map (·.2)) ∧ PySem.W.Sortable (bs.map (·.2)) ∧
  (∀ b ∈ bs, b.2.depth ≤ 50) ∧ ∀ p, H p = none → Q (.ref p) (upd H p (.lst ((srt bs).map (·.1))))
theorem cr_sortT (hu : X.A.units + 80 < cLine) : CallR X (.builtin "sorted") (rSortT X.K) := by
  intro pins s σ H vs us Q I r h
  obtain ⟨a, bs, rfl, hs, hd, hal, hk, hdp, q⟩ := h
  obtain ⟨its, rv, hl, hz⟩ := I.tuple hs
  rw [Vals.ref1 r]
  have hz' : bs.length ≤ sizeLine := by rw [List.length_map] at hz; exact hz
  refine sortedT_data (enc := fun b : V × PyData => b.2) (R := fun (u : Value) (b : V × PyData) => RelV b.1 u) hl (each_vals rv) (each_reads I rv hd) hal hk hz' (fun b hb => ?_) (fun out hlen hout => ?_)
  · have := hdp b hb
    show X.A.units + 2 + b.2.depth < cLine
    omega
  · obtain ⟨ep, he'⟩ := PyProof.Rows.sortedAll_at s.heap its out.toArray
    have hv := vals_each hout
    have hln : ((srt bs).map (·.1)).length ≤ sizeLine := by
      rw [List.length_map]
      unfold srt
      rw [List.length_mergeSort]
      exact hz'
    exact ⟨.ref _, upd H (s.heap.objs.size + 1) (.lst ((srt bs).map (·.1))), I.laid (t' := s.toks) (fun _ _ => PyProof.Rows.sortedAll_old) (Nat.le_succ _) ⟨hln, out, ep, hv, by simpa using he'⟩, rfl, q _ (I.hok.fresh (Nat.le_succ _))⟩
theorem cr_sortTK (K : PySem.W.Frag) (hK : X.K = K) (hu : X.A.units + 80 < cLine) : CallR X (.builtin "sorted") (rSortT K) := hK ▸ cr_sortT hu
end
section
variable {K : PySem.W.Frag} {C : Cfg K} {E : XK} {Γ : List Md} {n m : Nat} {G0 H0 G H G1 H1 : Hp} {Q : VK} {v : V}
def dSortedT (ds : List D) : Out D := match ds with
  | [.tup xs] => bif canSort xs then .ok (.lst (sortD xs)) else .stuck
  | _ => .stuck
theorem sc_sortedT : SCN C E 1 (rSortT K) dSortedT := fun n G H vs ds Q w r hl q => by
  match ds, hl, vs, r with
  | [d], _, [v], .cons hd .nil =>
    cases d <;> first | exact q.elim | skip
    rename_i xs _
    obtain ⟨a, vs, rfl, hx, t, hz⟩ := hd.tup w.sub
    have q : (bif canSort xs then Out.ok (D.lst (sortD xs)) else .stuck).wp n (PN C G H Q) (PX C G H E) := q
    cases hc : canSort xs with
    | false => rw [hc] at q; exact q.elim
    | true =>
      rw [hc] at q
      unfold canSort at hc
      rw [Bool.and_eq_true, Bool.and_eq_true, Bool.or_eq_true, List.all_eq_true, List.all_eq_true] at hc
      obtain ⟨c1, c2, c3⟩ := hc
      obtain ⟨z1, z2⟩ := zip_of (P := Rep C G) t.len
      have hm : ∀ p ∈ vs.zip xs, p.2 ∈ xs := fun p hp => by
        rw [← z2]
        exact List.mem_map.mpr ⟨p, hp, rfl⟩
      refine ⟨a, (vs.zip xs).map fun p => (p.1, p.2.py), rfl, ?_, ?_, ?_, ?_, ?_, fun p np => ?_⟩
      · rw [List.map_map]
        show SqT K H a ((vs.zip xs).map (·.1))
        rw [z1]
        exact hx
      · intro b hb
        obtain ⟨c, hc, rfl⟩ := List.mem_map.mp hb
        exact dpMono w.sub (dp_of 8 _ _ (t.zip c hc) (c1 _ (hm c hc))).1
      · rw [List.map_map]
        intro d hd d' hd'
        obtain ⟨c, hc, rfl⟩ := List.mem_map.mp hd
        obtain ⟨c', hc', rfl⟩ := List.mem_map.mp hd'
        have := c2 _ (hm c hc)
        rw [List.all_eq_true] at this
        exact this _ (hm c' hc')
      · rw [List.map_map]
        rcases c3 with c3 | c3
        · rw [List.all_eq_true] at c3
          refine .inl fun d hd => ?_
          obtain ⟨c, hc, rfl⟩ := List.mem_map.mp hd
          have h1 := c3 _ (hm c hc)
          show ∃ x r, c.2.py = .tuple (x :: r)
          cases h2 : c.2 <;> rw [h2] at h1 <;> first | exact absurd h1 Bool.false_ne_true | skip
          rename_i ys
          cases ys with
          | nil => exact absurd h1 Bool.false_ne_true
          | cons y ys => exact ⟨y.py, _, rfl⟩
        · rw [List.all_eq_true] at c3
          refine .inr fun d hd => ?_
          obtain ⟨c, hc, rfl⟩ := List.mem_map.mp hd
          have h1 := c3 _ (hm c hc)
          show c.2.py ≠ .none ∧ ∀ xs, c.2.py ≠ .tuple xs
          cases h2 : c.2 <;> rw [h2] at h1 <;> first | exact absurd h1 Bool.false_ne_true | exact ⟨(fun z => nomatch z), fun _ z => nomatch z⟩
      · intro b hb
        obtain ⟨c, hc, rfl⟩ := List.mem_map.mp hb
        exact Nat.le_trans (dp_of 8 _ _ (t.zip c hc) (c1 _ (hm c hc))).2.2 (by decide)
      · have e1 : srt ((vs.zip xs).map fun p => (p.1, p.2.py)) = ((vs.zip xs).mergeSort fun b c => dLeB b.2 c.2).map fun p => (p.1, p.2.py) := by
          unfold srt
          exact (List.map_mergeSort (f := fun p : V × D => (p.1, p.2.py)) (r := fun b c => dLeB b.2 c.2) (s := PySem.W.dataLe false fun x : V × PyData => x.2) (fun b _ c _ => rfl)).symm
        have e2 : ((vs.zip xs).mergeSort fun b c => dLeB b.2 c.2).map (·.2) = sortD xs := by
          unfold sortD
          refine (List.map_mergeSort (f := fun p : V × D => p.2) (r := fun b c => dLeB b.2 c.2) (s := dLeB) (fun b _ c _ => rfl)).trans ?_
          rw [z2]
        rw [e1, List.map_map]
        have hr : RepL C G (((vs.zip xs).mergeSort fun b c => dLeB b.2 c.2).map (·.1)) (sortD xs) := by
          rw [← e2]
          exact repL_of fun b hb => t.zip b (List.mem_mergeSort.mp hb)
        refine q p _ _ _ ((Ws.refl w).tmp np) np (w.gn np) upd_same ⟨?_, hr⟩
        unfold sortD
        rw [List.length_mergeSort]
        exact hz
end
end ND
/-! the law's own def, where it makes lambdas and asks for repr -/
namespace ND
open PySem PySem.Spec PyProof.Rows L2
section
variable {P : Program} {w : World} {K : PySem.W.Frag} {mg : Str → Option Value} {base : Heap}
theorem LFun.okG {x : Str} {st : Stmt} {N ps : List Str} {k : Nat} {sp : Sp} {fd : FuncData} (L : LFun K mg base x st) (F : FnP K x x st (He.ga K x) fd) (S : FnScope N ps (defScope st)) (len : ∀ vs H Q E, sp vs H Q E → vs.length = ps.length)
    (hbody : ∀ (A : Around) (outer : List Env) (s : Shared) (H : Hp) (vs : List V) (Q : VK) (E : XK), A.guards = some [] → Room k (A.deeper (envOfC x (defScope st) s.heap.objs.size (He.ga K x) (.ref (codeOf K x)))) → sp vs H Q E →
      ∃ t, PSs (cxOf (L2.CX P w) P w K mg base N x (defScope st) (He.ga K x) (.ref (codeOf K x)) A outer s H E) (defBody st) t ∧ t { nx := fun _ H' => Q .non H', rt := Q } (start N vs) H) : FnG P w K mg base (k + 1) (He.ga K x) fd ps sp := by
  obtain ⟨oc, od, dV, kV, doc, pm, an, cdv, ct, osl, rfl, lk, hcd, _, _⟩ := F.ex
  obtain ⟨oc2, od2, dV2, kV2, doc2, pm2, an2, ct2, osl2, lk2, _, _⟩ := L.ex
  have ecd : cdv = .ref (codeOf K x) := by
    rw [lk] at lk2
    have z := congrArg (fun o : Option Obj => o.map fun o => o.data) lk2
    have z1 := Option.some.inj z
    have z2 : PySem.W.fnOf x x (defArgs st) (defBody st) (defScope st) dV kV doc pm an cdv ct = PySem.W.fnOf x x (defArgs st) (defBody st) (defScope st) dV2 kV2 doc2 pm2 an2 (.ref (codeOf K x)) ct2 := by
      cases z1
      rfl
    exact congrArg FuncData.code z2
  subst ecd
  constructor
  · exact len
  intro A outer s H args us vs Q E hgd hr e0 hb r hsp
  have KX : K.In s.heap := e0.mod.kin.keeps fun b o e => (e0.bs b o e).1
  have lim : s.heap.NoLimit := e0.mod.nolimit.keeps fun b o e => (e0.bs b o e).1
  obtain ⟨t, ht, hq⟩ := hbody A outer s H vs Q E hgd (hr.deeper _) hsp
  refine codeAny_call_function hr.depth (KX _ _ lk) rfl S.co S.gen rfl (PySem.W.codeRec_of KX hcd) (hb _ _ _ _ (wpAny_newFunctionEnv_cells S.kind (fun y hy => ?_) fun env he s1 xx => ?_))
  · obtain ⟨n, v⟩ := y
    rcases S.par n (List.of_mem_zip hy).1 with q | q
    · exact .inl q
    · exact .inr ⟨q, PySem.W.cellsFrom_some _ _ _ (.inl q)⟩
  · subst he
    refine ⟨lim.keeps xx.toInCall.keep, codeAny_func ?_⟩
    have I : Inv (cxOf (L2.CX P w) P w K mg base N x (defScope st) (He.ga K x) (.ref (codeOf K x)) A outer s H E) [] (start N vs) H s1 := inv_start S hr.hd e0 (len _ _ _ _ hsp) r xx
    refine wpAny_mono (ht.run [] s1 (start N vs) H _ I hq) (fun fl s' hs => ?_) fun e s' hs => hs
    match fl, hs with
    | .ret u, ⟨v, σ', H', J, rv, q⟩ => exact ⟨v, H', J.os, J.bare, J.base, J.hok, rv, q⟩
    | .next, ⟨σ', H', J, q⟩ => exact ⟨.non, H', J.os, J.bare, J.base, J.hok, rfl, q⟩
    | .brk, ⟨_, _, _, q⟩ => exact q.elim
    | .cont, ⟨_, _, _, q⟩ => exact q.elim
end
/-! ### a, b, c = e1, e2, e3 -/
section
variable {rm : RM} {K : PySem.W.Frag} {C : Cfg K} {E : XK} {Γ Γb Γc : List Md}
end
end ND
/-! a, b, c = e1, e2, e3 -/
namespace ND
open PySem PySem.Spec PyProof.Rows L2
section
variable {X : Cx}
def tPar3 (i j k : Nat) (ta : TA) : TS := fun D σ H => ta σ H fun vs H1 => ∃ v w u, vs = [v, w, u] ∧ D.nx (((σ.set i (some v)).set j (some w)).set k (some u)) H1
theorem ps_par3 {i j k : Nat} {x y z : Str} {a b c : Expr} {ta : TA} {px py pz pt pos : Pos} {kt k2 pt2} (hc : X.calm = true) (hN : X.N.Nodup) (hi : X.N[i]? = some x) (hj : X.N[j]? = some y) (hk : X.N[k]? = some z) (hij : i ≠ j) (hik : i ≠ k) (hjk : j ≠ k)
    (hx : X.env.scope.names.lookup x = some .local) (hy : X.env.scope.names.lookup y = some .local) (hz : X.env.scope.names.lookup z = some .local) (ha : PA X [a, b, c] ta)
    (hw : swappedStores [.Tuple [.Name x px, .Name y py, .Name z pz] kt pt] (.Tuple [a, b, c] k2 pt2) X.env = pure (some [x, y, z]))
    (hs : swapsWithSole [.Tuple [.Name x px, .Name y py, .Name z pz] kt pt] (.Tuple [a, b, c] k2 pt2) pos.line X.env = pure false := by rfl) :
    PS X (.Assign [.Tuple [.Name x px, .Name y py, .Name z pz] kt pt] (.Tuple [a, b, c] k2 pt2) pos) (tPar3 i j k ta) := by
  constructor
  intro pins s σ H D I h
  rw [exec_Assign_arm]
  refine wpAny_bind (wpAny_standAt ?_)
  rw [hs]
  refine wpAny_bind (wpAny_pure ?_)
  rw [if_neg (by decide)]
  refine wpAny_bind (Tuple_ (thn (ha.run _ pins s σ H _ I h) fun us s1 hh => ?_))
  obtain ⟨vs, H1, I1, r1, v, w, u, rfl, q1⟩ := hh
  cases r1 with
  | cons rv r1 =>
  cases r1 with
  | cons rw' r1 =>
  cases r1 with
  | cons ru r1 =>
  cases r1
  rename_i u1 u2 u3
  refine wpAny_newObj_type ?_ (by show 3 ≤ sizeLine; decide)
  have I2 : Inv X pins σ H1 { s1 with heap := s1.heap.push { cls := .type "tuple", data := .seq [u1, u2, u3].toArray } } := I1.kept (t' := s1.toks) fun b o e => Heap.get?_push_of_some _ e
  rw [hw]
  refine wpAny_bind (wpAny_pure ?_)
  show wpAny (model X.prog X.w) X.A (do rule "assign.swapped-stores"; let items ← unpackItems (.ref s1.heap.objs.size) 3 none; assignInOrder [fun v => bindName X.env z v, fun v => bindName X.env y v, fun v => bindName X.env x v] items.reverse; pure Flow.next) _ _ _
  refine wpAny_bind (wpAny_rule (wpAny_bind (unpackItems_tuple (items := #[u1, u2, u3]) (I.ok.hd hc) (IsTup.new s1.heap _) fun h' hx' => ?_)))
  have I3 := I2.kept (h' := h') (t' := s1.toks) fun b o e => hx' b o (Nat.ne_of_lt (Heap.lt_size e)) e
  show wpAny _ _ (assignInOrder [fun v => bindName X.env z v, fun v => bindName X.env y v, fun v => bindName X.env x v] [u3, u2, u1] >>= fun _ => pure Flow.next) _ _ _
  refine wpAny_bind (assignInOrder_cons (wpAny_bindName (store_ok I3 hN hk (.inl hz) ru (fun s2 I4 => ?_) (.inr hz))))
  refine assignInOrder_cons (wpAny_bindName (store_ok I4 hN hj (.inl hy) rw' (fun s3 I5 => ?_) (.inr hy)))
  refine assignInOrder_cons (wpAny_bindName (store_ok I5 hN hi (.inl hx) rv (fun s4 I6 => assignInOrder_nil (wpAny_pure ?_)) (.inr hx)))
  have es : ((σ.set k (some u)).set j (some w)).set i (some v) = ((σ.set i (some v)).set j (some w)).set k (some u) := by
    rw [List.set_comm _ _ (Ne.symm hjk), List.set_comm _ _ (Ne.symm hik), List.set_comm (i := j) (j := i) _ _ (Ne.symm hij)]
  rw [es] at I6
  exact ⟨_, H1, I6, q1⟩
end
section
variable {rm : RM} {K : PySem.W.Frag} {C : Cfg K} {E : XK} {Γ Γb Γc : List Md} {i j k : Nat}
def sPar3 (i j k : Nat) (a b c : Rho → Out D) : Rho → Out Res := fun ρ => (a ρ).bind fun x => (b ρ).bind fun y => (c ρ).bind fun z => .ok (.nx (((ρ.set i x).set j y).set k z))
theorem ss_par3NNN {ta tb tc : TE} {a b c : Rho → Out D} (ha : SimN C E Γ ta a) (hb : SimN C E Γ tb b) (hc : SimN C E Γ tc c) : SimS rm C E Γ (tPar3 i j k (tCons ta (tCons tb (tCons tc tNil)))) (sPar3 i j k a b c) (((Γ.set i (.ow none)).set j (.ow none)).set k (.ow none)) Γb Γc := fun G0 H0 n G H σ ρ D s e q => by
  refine ha H0 n G H σ ρ _ s.w e (Out.wp_mono (fun m x k1 p1 o1 G1 H1 s1 n1 g1 h1 r1 => ?_) (fun _ _ _ z => PX.stm s z) (Out.wp_bind q))
  refine hb H0 m G1 H1 σ ρ _ s1.w (e.step s1) (Out.wp_mono (fun m2 y k2 p2 o2 G2 H2 s2 n2 g2 h2 r2 => ?_) (fun _ _ _ z => PX.stm (s.trans s1) z) (Out.wp_bind k1))
  refine hc H0 m2 G2 H2 σ ρ _ s2.w ((e.step s1).step s2) (Out.wp_mono (fun m3 z k3 p3 o3 G3 H3 s3 n3 g3 h3 r3 => ?_) (fun _ _ _ z => PX.stm ((s.trans s1).trans s2) z) (Out.wp_bind k2))
  have e1 := (e.step s1).setOw (i := i) ⟨h1, g1, s.w.nvol n1, s.dm n1⟩ r1 fun j' q' a1 a2 => owns_ne e n1 j' q' a1 a2
  have e2 := (e1.step s2).setOw (i := j) ⟨h2, g2, s1.w.nvol n2, (s.trans s1).dm n2⟩ r2 fun j' q' a1 a2 => owns_ne e1 n2 j' q' a1 a2
  have e3 := (e2.step s3).setOw (i := k) ⟨h3, g3, s2.w.nvol n3, ((s.trans s1).trans s2).dm n3⟩ r3 fun j' q' a1 a2 => owns_ne e2 n3 j' q' a1 a2
  exact ⟨_, _, _, rfl, k3 _ G3 H3 (((s.trans s1).trans s2).trans s3) ((s1.g.trans s2.g).trans s3.g) e3⟩
theorem ss_par3ENN {ta tb tc : TE} {a b c : Rho → Out D} (ha : SimE C E Γ ta a) (hb : SimN C E Γ tb b) (hc : SimN C E Γ tc c) : SimS rm C E Γ (tPar3 i j k (tCons ta (tCons tb (tCons tc tNil)))) (sPar3 i j k a b c) (((Γ.set i .fr).set j (.ow none)).set k (.ow none)) Γb Γc := fun G0 H0 n G H σ ρ D s e q => by
  refine ha H0 n G H σ ρ _ s.w e (Out.wp_mono (fun m x k1 v1 G1 H1 s1 r1 => ?_) (fun _ _ _ z => PX.stm s z) (Out.wp_bind q))
  refine hb H0 m G1 H1 σ ρ _ s1.w (e.step s1) (Out.wp_mono (fun m2 y k2 p2 o2 G2 H2 s2 n2 g2 h2 r2 => ?_) (fun _ _ _ z => PX.stm (s.trans s1) z) (Out.wp_bind k1))
  refine hc H0 m2 G2 H2 σ ρ _ s2.w ((e.step s1).step s2) (Out.wp_mono (fun m3 z k3 p3 o3 G3 H3 s3 n3 g3 h3 r3 => ?_) (fun _ _ _ z => PX.stm ((s.trans s1).trans s2) z) (Out.wp_bind k2))
  have e1 := (e.step s1).set (i := i) r1
  have e2 := (e1.step s2).setOw (i := j) ⟨h2, g2, s1.w.nvol n2, (s.trans s1).dm n2⟩ r2 fun j' q' a1 a2 => owns_ne e1 n2 j' q' a1 a2
  have e3 := (e2.step s3).setOw (i := k) ⟨h3, g3, s2.w.nvol n3, ((s.trans s1).trans s2).dm n3⟩ r3 fun j' q' a1 a2 => owns_ne e2 n3 j' q' a1 a2
  exact ⟨_, _, _, rfl, k3 _ G3 H3 (((s.trans s1).trans s2).trans s3) ((s1.g.trans s2.g).trans s3.g) e3⟩
end
end ND
/-! sorted(xs, key=f) where f gives a pair the other way round -/
namespace ND
open PySem PySem.Spec PyProof.Rows L2
section
variable {P : Program} {w : World} {K : PySem.W.Frag}
/-- def f(p): return (p[1], p[0]) -/
structure SwapDef (K : PySem.W.Frag) (x : Str) (st : Stmt) (f : Addr) (p : Str) : Prop where
  ex : ∃ fd, FnP K x x st f fd
  sc : FnScope [p] [p] (defScope st)
  body : ∃ q1 q2 q3 q4 q5 q6 q7 q8 k1 k2 x1, defBody st = [.Return (some (.Tuple [.Subscript (.Name p q1) (.Constant (.int 1) k1 q2) q3, .Subscript (.Name p q4) (.Constant (.int 0) k2 q5) q6] x1 q7)) q8]
  loc : (defScope st).names.lookup p = some .local
  deb : (p == ("__debug__" : Str)) = false
  binds : ∀ (kV doc pm : Value) (an : Option Addr) (cdv ct : Value) (us : List Value), us.length = [p].length → bindArgs (PySem.W.fnOf x x (defArgs st) (defBody st) (defScope st) .none kV doc pm an cdv ct) ⟨us, []⟩ = pure ([p].zip us)
theorem sub_swap {A : Around} {env : Env} {m : Str → Option Value} {s1 : Shared} {p : Str} {t : Addr} {a b : Value} {E : Value → Shared → Prop} {Q : Value → Shared → Prop} {q1 q2 q3 : Pos} {k1 : Nat} {i : Int} {j : Nat} {v : Value}
    (hk : env.scope.kind = .function) (hl : env.kindOf p = some .local) (hd : (p == ("__debug__" : Str)) = false) (hn : s1.heap.Ns env.locals m) (hm : m p = some (.ref t)) (ht : IsTup s1.heap t #[a, b]) (hlo : -(2 ^ 63) ≤ i) (hhi : i < 2 ^ 63) (hj : seqIndex? i 2 = some j) (hv : (#[a, b] : Array Value)[j]? = some v)
    (h : ∀ tk, Q v { s1 with toks := tk }) : wpAny (model P w) A (eval (.Subscript (.Name p q1) (.Constant (.int i) k1 q2) q3) env) Q E s1 := by
  refine Subscript_ (wpAny_Name (wpAny_loadName_local hk hl hn hm ?_) hd)
  refine wpAny_Constant_int ?_
  exact subscriptTail_builtinR (x := v) ht.typeIs slot_tuple_getitem.lookup (getItem_tuple (j := j) (Q := fun r s' => r = v ∧ Q r s') ht hlo hhi hj hv ⟨rfl, h _⟩)
theorem swap_turn {x p : Str} {st : Stmt} {f t : Addr} {z : Str} {i : Int} {tz ti : Tok} (F : SwapDef K x st f p) {A : Around} (hr : A.depth < recursionLimit) {s : Shared} (KX : K.In s.heap) (lim : s.heap.NoLimit) (ht : IsTup s.heap t #[.str z tz, .int i ti]) :
    wpAny (model P w) A (call (.ref f) [.ref t]) (PySem.W.KeyPure (.tuple [.int i, .str z]) s) (fun _ _ => False) s := by
  obtain ⟨fd, FP⟩ := F.ex
  have hb := FP.bindsN F.binds
  obtain ⟨oc, od, dV, kV, doc, pm, an, cdv, ct, osl, rfl, lk, hcd, _, _⟩ := FP.ex
  obtain ⟨q1, q2, q3, q4, q5, q6, q7, q8, k1, k2, x1, hbody⟩ := F.body
  refine wpAny_call (codeAny_call_function hr (KX _ _ lk) rfl F.sc.co F.sc.gen rfl (PySem.W.codeRec_of KX hcd) (hb s [.ref t] KX rfl _ _ _ _ (wpAny_newFunctionEnv_cells F.sc.kind (fun y hy => ?_) fun env he s1 xx => ?_)))
  · obtain ⟨n, v⟩ := y
    have hn : n = p := by
      have := (List.of_mem_zip hy).1
      simpa using this
    subst hn
    exact .inl F.loc
  · have hk : env.kindOf p = some .local := by
      rw [he]
      exact F.loc
    have hm : bindL env.kindOf ([p].zip ([.ref t] ++ [])) (fun _ => none) p = some (.ref t) := by
      show bindL env.kindOf [(p, .ref t)] (fun _ => none) p = _
      unfold bindL
      rw [if_pos hk]
      unfold bindL
      exact if_pos rfl
    have hkd : env.scope.kind = .function := by
      rw [he]
      exact F.sc.kind
    refine ⟨lim.keeps xx.toInCall.keep, codeAny_func ?_⟩
    rw [hbody]
    refine wpAny_execs_cons (wpAny_Return_some (wpAny_Tuple_spliced ?_))
    obtain ⟨h', tk, rfl, kp⟩ := xx.toInCall.done
    have ht1 : IsTup h' t #[.str z tz, .int i ti] := ht.keeps kp
    show wpAny _ _ (spliced ((false, eval (.Subscript (.Name p q1) (.Constant (.int 1) k1 q2) q3) env) :: backTo q7 (starEach [.Subscript (.Name p q4) (.Constant (.int 0) k2 q5) q6] env))) _ _ _
    refine Calls.spliced_cons (sub_swap hkd hk F.deb xx.toInCall.ns hm ht1 (by decide) (by decide) (j := 1) rfl rfl fun tk1 => ?_)
    refine Calls.spliced_cons (sub_swap (s1 := { s with heap := h', toks := tk1 }) hkd hk F.deb xx.toInCall.ns hm ht1 (by decide) (by decide) (j := 0) rfl rfl fun tk2 => ?_)
    refine Calls.spliced_nil ⟨by show (2 : Nat) ≤ sizeLine; decide, ?_⟩
    refine ⟨_, tk2, rfl, fun b o e => Heap.get?_push_of_some _ (kp b o e), ?_⟩
    exact .tuple (n := 0) (Heap.get?_push_size _ rfl) rfl rfl (.cons (as := []) (bs := []) (.int i ti) (.cons (as := []) (bs := []) (.str z tz) .nil))
end
def swK (b : V × (Str × Int)) : PyData := .tuple [.int b.2.2, .str b.2.1]
def srtW (bs : List (V × (Str × Int))) : List (V × (Str × Int)) := bs.mergeSort (PySem.W.dataLe false swK)
def rSortW (K : PySem.W.Frag) (f : Addr) : List V → List V → Hp → VK → Prop := fun vs zs H Q => ∃ (a : Addr) (bs : List (V × (Str × Int))), vs = [.ref a] ∧ zs = [.ref f] ∧ SqL K H a (bs.map (·.1)) ∧ (∀ b ∈ bs, ∃ q, b.1 = .ref q ∧ SqT K H q [.str b.2.1, .int b.2.2]) ∧
  ∀ p, H p = none → Q (.ref p) (upd H p (.lst ((srtW bs).map (·.1))))
theorem swK_alike (bs : List (V × (Str × Int))) : PySem.W.AllAlike (bs.map swK) := by
  intro d hd d' hd'
  obtain ⟨b, _, rfl⟩ := List.mem_map.mp hd
  obtain ⟨b', _, rfl⟩ := List.mem_map.mp hd'
  rfl
theorem swK_sort (bs : List (V × (Str × Int))) : PySem.W.Sortable (bs.map swK) := by
  refine .inl fun d hd => ?_
  obtain ⟨b, _, rfl⟩ := List.mem_map.mp hd
  exact ⟨_, _, rfl⟩
theorem each_valsW {α : Type} : ∀ {bs : List (V × α)} {its : List Value}, Vals (bs.map (·.1)) its → PySem.W.EachIs (fun (u : Value) (b : V × α) => RelV b.1 u) its bs
  | [], _, h => by cases h; exact .nil
  | b :: bs, _, h => by
    cases h with
    | cons h1 h2 => exact .cons h1 (each_valsW h2)
theorem vals_eachW {α : Type} : ∀ {bs : List (V × α)} {its : List Value}, PySem.W.EachIs (fun (u : Value) (b : V × α) => RelV b.1 u) its bs → Vals (bs.map (·.1)) its
  | _, _, .nil => .nil
  | _, _, .cons h1 h2 => .cons h1 (vals_eachW h2)
theorem swK_depth (b : V × (Str × Int)) : (swK b).depth ≤ 2 := by
  simp [swK, PyData.depth, PyData.depthAll]
theorem cr_sortW {X : Cx} {x p : Str} {st : Stmt} {f : Addr} {k : Nat} (F : SwapDef X.K x st f p) (hr : Room k X.A) : CallRK X (.builtin "sorted") [Str.ofString "key"] (rSortW X.K f) := by
  intro pins s σ H vs zs us ws Q I r rz h
  obtain ⟨a, bs, rfl, rfl, hs, hd, q⟩ := h
  obtain rfl := Vals.ref1 r
  obtain ⟨w1, rfl, e1⟩ := vals1 rz
  obtain rfl : w1 = Value.ref f := e1
  obtain ⟨its, rv, hl, hz⟩ := I.list hs
  have hz' : bs.length ≤ sizeLine := by rw [List.length_map] at hz; exact hz
  have hu := u80 hr
  refine PySem.W.sorted_key_data (R := fun (u : Value) (b : V × (Str × Int)) => RelV b.1 u) swK hl.isList (each_valsW rv) (swK_alike bs) (swK_sort bs) hz' (fun b hb => ?_) (ksk_s1 _ _) (fun _ => ksk_l1 _ _) (fun y => ksk_t1 f y) (fun v b hv hb h tk kp => ?_) (fun out c h' tk kp nf he hlen hout => ?_)
  · have := swK_depth b
    omega
  · obtain ⟨t, e1, hT⟩ := hd b hb
    rw [e1] at hv
    obtain rfl : v = Value.ref t := hv
    obtain ⟨ts, rt, pl, _⟩ := I.tuple hT
    obtain ⟨u1, ts1, rfl, r1, rt1⟩ : ∃ u1 ts1, ts = u1 :: ts1 ∧ RelV (.str b.2.1) u1 ∧ Vals [.int b.2.2] ts1 := by
      cases rt with
      | cons h1 h2 => exact ⟨_, _, rfl, h1, h2⟩
    obtain ⟨u2, rfl, r2⟩ := vals1 rt1
    obtain ⟨tz, rfl⟩ := r1
    obtain ⟨ti, rfl⟩ := r2
    exact swap_turn (s := { s with heap := h, toks := tk }) F (A := X.A.in1.in1) (by have := hr.dp; show X.A.depth < _; omega) (I.kIn.keeps kp) (I.nolimit.keeps kp) (IsTup.keeps pl kp)
  · have hv := vals_eachW hout
    have hln : ((srtW bs).map (·.1)).length ≤ sizeLine := by
      rw [List.length_map]
      unfold srtW
      rw [List.length_mergeSort]
      exact hz'
    exact ⟨.ref _, upd H (s.heap.objs.size + 1) (.lst ((srtW bs).map (·.1))), I.laid (t' := tk) kp (Nat.le_succ _) ⟨hln, out, c, hv, he⟩, rfl, q _ (I.hok.fresh (Nat.le_succ _))⟩
end ND
namespace ND
open PySem PySem.Spec PyProof.Rows L2
def swP (b : Str × Int) : PyData := .tuple [.int b.2, .str b.1]
def encW (b : Str × Int) : D := .tup [.str b.1, .int b.2]
def pairW : List D → Option (List (Str × Int))
  | [] => some []
  | .tup [.str z, .int i] :: r => (pairW r).map ((z, i) :: ·)
  | _ => none
def srtP (ps : List (Str × Int)) : List (Str × Int) := ps.mergeSort (PySem.W.dataLe false swP)
def dSortW : D → Out D
  | .lst xs => (match pairW xs with
    | some ps => .ok (.lst ((srtP ps).map encW))
    | none => .stuck)
  | _ => .stuck
theorem pairW_eq : ∀ {xs : List D} {ps : List (Str × Int)}, pairW xs = some ps → xs = ps.map encW
  | [], _, h => by cases h; rfl
  | x :: xs, ps, h => by
    unfold pairW at h
    split at h
    · rename_i e
      cases e
    · rename_i z i r e
      cases e
      obtain ⟨qs, h1, rfl⟩ := Option.map_eq_some_iff.mp h
      rw [pairW_eq h1]
      rfl
    · cases h
theorem pairW_enc : ∀ ps : List (Str × Int), pairW (ps.map encW) = some ps
  | [] => rfl
  | p :: ps => by
    show (pairW (ps.map encW)).map ((p.1, p.2) :: ·) = _
    rw [pairW_enc ps]
    rfl
theorem zip_of' {α β : Type} : ∀ {vs : List α} {xs : List β}, vs.length = xs.length → (vs.zip xs).map (·.1) = vs ∧ (vs.zip xs).map (·.2) = xs
  | [], [], _ => ⟨rfl, rfl⟩
  | v :: vs, x :: xs, h => by
    obtain ⟨a, b⟩ := zip_of' (vs := vs) (xs := xs) (Nat.succ.inj h)
    exact ⟨by rw [List.zip_cons_cons, List.map_cons, a], by rw [List.zip_cons_cons, List.map_cons, b]⟩
section
variable {K : PySem.W.Frag} {C : Cfg K} {E : XK} {Γ : List Md} {n m : Nat} {G H : Hp} {Q : VK} {v : V}
theorem rep_pair {z : Str} {i : Int} (h : Rep C G v (.tup [.str z, .int i])) : ∃ q, v = .ref q ∧ SqT K G q [.str z, .int i] := by
  cases h
  rename_i a vs hs t l
  cases t with
  | cons h1 t1 =>
    cases t1 with
    | cons h2 t2 =>
      cases t2
      obtain ⟨rfl, _⟩ := RepV.str (H := G) (.inl h1)
      have e2 := RepV.int (H := G) (.inl h2)
      subst e2
      exact ⟨a, rfl, hs.1⟩
theorem sn_sortW {f : Addr} {ta : TE} {a : Rho → Out D} (ha : SimV C E Γ ta a) : SimN C E Γ (tCKw (rSortW K f) (tCons ta tNil) (tCons (tC (.ref f)) tNil)) (eUn dSortW a) := fun H0 n G H σ ρ Q w e q => by
  refine ha H0 n G H σ ρ _ w e (Out.wp_mono (fun m d k v G1 H1 s1 r1 => ?_) (fun _ _ _ z => z) (Out.wp_bind q))
  cases d <;> first | exact k.elim | skip
  rename_i xs
  cases hp : pairW xs with
  | none =>
    have k' : (match pairW xs with | some ps => Out.ok (D.lst ((srtP ps).map encW)) | none => .stuck).wp m _ _ := k
    rw [hp] at k'
    exact k'.elim
  | some ps =>
    have k' : (match pairW xs with | some ps => Out.ok (D.lst ((srtP ps).map encW)) | none => .stuck).wp m _ _ := k
    rw [hp] at k'
    obtain ⟨b, us, rfl, hx, t, hz⟩ := r1.lst s1.w.sub
    have ex := pairW_eq hp
    subst ex
    have hlen : us.length = ps.length := by
      have := t.len
      rw [List.length_map] at this
      exact this
    obtain ⟨z1, z2⟩ := zip_of' hlen
    have hzr : ∀ c ∈ us.zip ps, Rep C G1 c.1 (encW c.2) := fun c hc => by
      have hm : (c.1, encW c.2) ∈ us.zip (ps.map encW) := by
        rw [List.zip_map_right]
        exact List.mem_map.mpr ⟨c, hc, rfl⟩
      exact t.zip _ hm
    refine ⟨b, us.zip ps, rfl, rfl, ?_, fun c hc => ?_, fun p np => ?_⟩
    · rw [z1]
      exact .inl hx
    · obtain ⟨q', e1, e2⟩ := rep_pair (hzr c hc)
      exact ⟨q', e1, Evl.ex_t s1.w.sub e2⟩
    · have e2 : (srtW (us.zip ps)).map (·.2) = srtP ps := by
        unfold srtW srtP
        refine (List.map_mergeSort (f := fun p : V × (Str × Int) => p.2) (r := PySem.W.dataLe false swK) (s := PySem.W.dataLe false swP) (fun b _ c _ => rfl)).trans ?_
        rw [z2]
      have hr : RepL C G1 ((srtW (us.zip ps)).map (·.1)) ((srtP ps).map encW) := by
        rw [← e2, List.map_map]
        have : (srtW (us.zip ps)).map (·.1) = ((srtW (us.zip ps)).map fun c => (c.1, encW c.2)).map (·.1) := by
          rw [List.map_map]; rfl
        rw [this]
        have h2 : (srtW (us.zip ps)).map (encW ∘ fun x => x.2) = ((srtW (us.zip ps)).map fun c => (c.1, encW c.2)).map (·.2) := by
          rw [List.map_map]; rfl
        rw [h2]
        refine repL_of fun c hc => ?_
        obtain ⟨d, hd, rfl⟩ := List.mem_map.mp hc
        exact hzr d (List.mem_mergeSort.mp hd)
      refine (PN.back s1 k') p _ _ _ ((Ws.refl s1.w).tmp np) np (s1.w.gn np) upd_same ⟨?_, hr⟩
      rw [List.length_map]
      unfold srtP
      rw [List.length_mergeSort]
      rw [List.length_map] at hz
      exact hz
end
end ND
namespace ND
open PySem PySem.Spec PyProof.Rows L2
section
variable {X : Cx}
theorem pe_revFK (K : PySem.W.Frag) (hK : X.K = K) {e : Expr} {te : TE} {k : Nat} {p1 p2 p3 pos : Pos} (he : PE X e te) : PE X (.Subscript e (.Slice none none (some (.UnaryOp .USub (.Constant (.int 1) k p1) p2)) p3) pos) (tRevF K te) := by
  subst hK
  exact pe_revF he
theorem pe_idxFK (K : PySem.W.Frag) (hK : X.K = K) {o e : Expr} {to : TE} {ta : TA} {apos cpos : Pos} (ho : PE X o to) (ha : PA X [e] ta)
    (hbase : attributeBase o "index" X.env (eval o X.env) = eval o X.env := by rfl)
    (hfew : ((backTo cpos (starEach [e] X.env)).all (fun x => !x.1) && (backToKw cpos (keywordEach [] X.env)).all (fun x => x.1.isSome) && decide ([e].length + ([] : List Keyword).length + (if ([] : List Keyword).isEmpty then 0 else 1) < 30)) = true := by rfl)
    (hline : (apos.endLine == cpos.line) = true := by rfl) (hs : starEach [e] X.env = (false, eval e X.env) :: starEach [] X.env := by rfl) (hplain : (backTo cpos (starEach [] X.env)).any (·.1) = false := by rfl) :
    PE X (.Call (.Attribute o "index" apos) [e] [] cpos) (tIdxF K to ta) := by
  subst hK
  exact pe_idxF ho ha hbase hfew hline hs hplain
end
section
variable {K : PySem.W.Frag} {C : Cfg K} {E : XK} {Γ : List Md}
theorem sm_pow {i j n : Int} (h : CPow i j) (e : i ^ j.toNat = n) : SimE C E Γ (tOp (rI CPow fun i j => .int (i ^ j.toNat)) (tC (.int i)) (tC (.int j))) (eC (.int n)) := fun H0 n G H σ ρ Q w _ q => by
  refine ⟨i, j, rfl, rfl, h, ?_⟩
  show Q (V.int (i ^ j.toNat)) H
  rw [e]
  exact q _ G H (Ws.refl w) (.int _)
end
end ND
namespace ND
open PySem PySem.Spec PyProof.Rows L2
section
variable {P : Program} {w : World} {K : PySem.W.Frag} {mg : Str → Option Value} {base : Heap}
def S_is_list : Rho → Out Res := (sRet (eUn (fun d => boD (dIsSeqB d)) (eVar 0)))
def F_is_list : List D → Out D := fnD 1 S_is_list
theorem ok_is_list (T : Tx P w K mg base) : GOk P w K mg base 1 "is_list" ["thing"] (spF K false 1 F_is_list) :=
  GFun.sim (k := 0) (ψ := S_is_list) T.d_is_list sc_is_list (fun _ _ _ _ _ _ us hl => match us, hl with | [_], _ => rfl) (fun f cdv A outer s H E C hl hr => ⟨_, (pss_one (ps_ret (pe_callB call_isiT (by rfl) T.n_isinstance (by decide +kernel) (pa_cons (pv 0) (pa_cons (pe_tup (pa_cons (pe_bltn (v := .ty "list") (by rfl) T.n_list (by decide +kernel) rfl) (pa_cons (pe_bltn (v := .ty "tuple") (by rfl) T.n_tuple (by decide +kernel) rfl) pa_nil))) pa_nil))))), [], [], [],
    (ss_ret (sm_isSeq ((sm_var rfl)).v))⟩)
def S_is_name : Rho → Out Res := (sSeq (sIf (cOr (cNot (cB (eUn (fun d => boD (dIsTyB "str" d)) (eVar 0)))) (cNot (cB (eChain dLe dLe (eC (.int 1)) (eCall dLen (aCons (eVar 0) aNil)) (eC (.int 6)))))) (sRet (eC (.bl false))) sNext)
      (sRet (eCall dAll (aCons (eLc (iOf itemsS (eVar 0)) (gN 1) cYes (eOp (dInS false) (eVar 1) (eC (.str "abcdefghijklmnopqrstuvwxyz")))) aNil))))
def F_is_name : List D → Out D := fnD 2 S_is_name
theorem ok_is_name (T : Tx P w K mg base) : GOk P w K mg base 1 "is_name" ["thing"] (spF K false 1 F_is_name) :=
  GFun.sim (k := 0) (ψ := S_is_name) T.d_is_name sc_is_name (fun _ _ _ _ _ _ us hl => match us, hl with | [_], _ => rfl) (fun f cdv A outer s H E C hl hr => ⟨_, (pss_cons (ps_if (PW.pt (pw_or (pt_not (pt_val (pe_callB call_isA (by rfl) T.n_isinstance (by decide +kernel) (pa_cons (pv 0) (pa_cons (pe_bltn (v := .ty "str") (by rfl) T.n_str (by decide +kernel) rfl) pa_nil))))) (pw_or1 (pt_not (pt_chain op_le op_le pe_int (pe_callB call_lenA (by rfl) T.n_len (by decide +kernel) (pa_cons (pv 0) pa_nil)) (pe_cst (by rfl) T.c_LONGEST_NAME)))))) (pss_one (ps_ret pe_bl)) pss_nil)
      (pss_one (ps_ret (pe_callB (cr_all rfl) (by rfl) T.n_all (by decide +kernel) (pa_cons (pe_lc (own := [("sign", 1)]) (by rfl) sc_is_name.nd (pi_str (pv 0)) (blkOk_by (own := [("sign", 1)]) (N := N_is_name) (sc := defScope s_is_name) (by decide +kernel)) (fun _ _ _ _ _ => (pg_name (i := 1) sc_is_name.nd rfl (Or.inl rfl))) (fun _ _ _ _ _ => pts_nil) (fun _ _ _ _ _ => (pe_cmpR op_in_sign (pv 1) (pe_csts (by rfl) T.c_LETTERS) (by rfl)))) pa_nil))))), [], [], [],
    (ss_seq (ss_if (st_or (st_not (st_B ((sm_isTy ((sm_var rfl)).v)).v)) (st_not (st_test ((sm_chain sr_le sr_le (sm_int).v ((sm_cb sc_len (sb_cons ((sm_var rfl)).v sb_nil))).v (sm_int).v)).v))) (ss_ret sm_bl) ss_next)
      (ss_ret (sm_cb sc_all (sb_cons ((sn_lc (si_str (sm_var rfl)) (by decide) sg_name st_yes (sm_op sr_inS ((sm_var rfl)).v (sm_str).v))).v sb_nil))))⟩)
def S_is_number : Rho → Out Res := (sRet (eAnd (eUn (fun d => boD (dIsTyB "int" d)) (eVar 0)) (eNot (eUn (fun d => boD (dIsTyB "bool" d)) (eVar 0)))))
def F_is_number : List D → Out D := fnD 1 S_is_number
theorem ok_is_number (T : Tx P w K mg base) : GOk P w K mg base 1 "is_number" ["thing"] (spF K false 1 F_is_number) :=
  GFun.sim (k := 0) (ψ := S_is_number) T.d_is_number sc_is_number (fun _ _ _ _ _ _ us hl => match us, hl with | [_], _ => rfl) (fun f cdv A outer s H E C hl hr => ⟨_, (pss_one (ps_ret (pe_and (pe_callB call_isA (by rfl) T.n_isinstance (by decide +kernel) (pa_cons (pv 0) (pa_cons (pe_bltn (v := .ty "int") (by rfl) T.n_int (by decide +kernel) rfl) pa_nil))) (pe_one (pe_not (pe_callB call_isA (by rfl) T.n_isinstance (by decide +kernel) (pa_cons (pv 0) (pa_cons (pe_bltn (v := .ty "bool") (by rfl) T.n_bool (by decide +kernel) rfl) pa_nil)))))))), [], [], [],
    (ss_ret (sm_and ((sm_isTy ((sm_var rfl)).v)).v (sm_not ((sm_isTy ((sm_var rfl)).v)).v)))⟩)
def S_is_within : Rho → Out Res := (sRet (eAnd (eCall F_is_number (aCons (eVar 0) aNil)) (eChain dLe dLe (eVar 1) (eVar 0) (eVar 2))))
def F_is_within : List D → Out D := fnD 3 S_is_within
theorem ok_is_within (T : Tx P w K mg base) : GOk P w K mg base 2 "is_within" ["thing", "least", "most"] (spF K false 3 F_is_within) :=
  GFun.sim (k := 1) (ψ := S_is_within) T.d_is_within sc_is_within (fun _ _ _ _ _ _ us hl => match us, hl with | [_, _, _], _ => rfl) (fun f cdv A outer s H E C hl hr => ⟨_, (pss_one (ps_ret (pe_and (pe_g (ok_is_number T) (hr.mono (by decide)) (by rfl) (passes_call (takes_of rfl rfl rfl rfl) (fun _ _ _ _ h => h)) (pa_cons (pv 0) pa_nil)) (pe_one (pe_chain op_le op_le (pv 1) (pv 0) (pv 2)))))), [], [], [],
    (ss_ret (sm_and ((sm_call (fun h => Bool.noConfusion h) (sa_cons (sm_var rfl) sa_nil))).v (sm_chain sr_le sr_le ((sm_var rfl)).v ((sm_var rfl)).v ((sm_var rfl)).v)))⟩)
def S_is_slot : Rho → Out Res := (sRet (eAnd (eUn (fun d => boD (dIsTyB "tuple" d)) (eVar 0)) (eAnd (eOp dEq (eCall dLen (aCons (eVar 0) aNil)) (eC (.int 2))) (eAnd (eCall F_is_name (aCons (eOp dIx (eVar 0) (eC (.int 0))) aNil)) (eCall F_is_within (aCons (eOp dIx (eVar 0) (eC (.int 1))) (aCons (eC (.int 0)) (aCons (eOp dSub (eC (.int 4)) (eC (.int 1))) aNil))))))))
def F_is_slot : List D → Out D := fnD 1 S_is_slot
theorem ok_is_slot (T : Tx P w K mg base) : GOk P w K mg base 3 "is_slot" ["thing"] (spF K false 1 F_is_slot) :=
  GFun.sim (k := 2) (ψ := S_is_slot) T.d_is_slot sc_is_slot (fun _ _ _ _ _ _ us hl => match us, hl with | [_], _ => rfl) (fun f cdv A outer s H E C hl hr => ⟨_, (pss_one (ps_ret (pe_and (pe_callB call_isA (by rfl) T.n_isinstance (by decide +kernel) (pa_cons (pv 0) (pa_cons (pe_bltn (v := .ty "tuple") (by rfl) T.n_tuple (by decide +kernel) rfl) pa_nil))) (pe_and (pe_cmpR (op_eqD hr.units) (pe_callB call_lenA (by rfl) T.n_len (by decide +kernel) (pa_cons (pv 0) pa_nil)) pe_int (nomark _)) (pe_and (pe_g (ok_is_name T) (hr.mono (by decide)) (by rfl) (passes_call (takes_of rfl rfl rfl rfl) (fun _ _ _ _ h => h)) (pa_cons (pe_ix ix_seq (pv 0) pe_int (fun _ _ => rfl)) pa_nil)) (pe_one (pe_g (ok_is_within T) (hr.mono (by decide)) (by rfl) (passes_call (takes_of rfl rfl rfl rfl) (fun _ _ _ _ h => h)) (pa_cons (pe_ix ix_seq (pv 0) pe_int (fun _ _ => rfl)) (pa_cons pe_int (pa_cons (pe_op op_sub (pe_cst (by rfl) T.c_MOST_DAYS) pe_int) pa_nil)))))))))), [], [], [],
    (ss_ret (sm_and ((sm_isTy ((sm_var rfl)).v)).v (sm_and ((sm_op sr_eqD ((sm_cb sc_len (sb_cons ((sm_var rfl)).v sb_nil))).v (sm_int).v)).v (sm_and ((sm_call (fun h => Bool.noConfusion h) (sa_cons (sm_op sr_ix ((sm_var rfl)).v (sm_int).v) sa_nil))).v (sm_call (fun h => Bool.noConfusion h) (sa_cons (sm_op sr_ix ((sm_var rfl)).v (sm_int).v) (sa_cons sm_int (sa_cons (sm_op sr_sub (sm_int).v (sm_int).v) sa_nil))))))))⟩)
def S_are_slots : Rho → Out Res := (sSeq (sIf (cOr (cNot (cB (eCall F_is_list (aCons (eVar 0) aNil)))) (cOr (cNot (cB (eChain dLe dLe (eC (.int 1)) (eCall dLen (aCons (eVar 0) aNil)) (eC (.int 12))))) (cNot (cB (eCall dAll (aCons (eLc (iOf itemsQ (eVar 0)) (gN 1) cYes (eCall F_is_slot (aCons (eVar 1) aNil))) aNil)))))) (sRet (eC (.bl false))) sNext)
      (sRet (eOp dEq (eUn dSetLen (eVar 0)) (eCall dLen (aCons (eVar 0) aNil)))))
def F_are_slots : List D → Out D := fnD 2 S_are_slots
theorem ok_are_slots (T : Tx P w K mg base) : GOk P w K mg base 4 "are_slots" ["thing"] (spF K false 1 F_are_slots) :=
  GFun.sim (k := 3) (ψ := S_are_slots) T.d_are_slots sc_are_slots (fun _ _ _ _ _ _ us hl => match us, hl with | [_], _ => rfl) (fun f cdv A outer s H E C hl hr => ⟨_, (pss_cons (ps_if (PW.pt (pw_or (pt_not (pt_val (pe_g (ok_is_list T) (hr.mono (by decide)) (by rfl) (passes_call (takes_of rfl rfl rfl rfl) (fun _ _ _ _ h => h)) (pa_cons (pv 0) pa_nil)))) (pw_or (pt_not (pt_chain op_le op_le pe_int (pe_callB call_lenA (by rfl) T.n_len (by decide +kernel) (pa_cons (pv 0) pa_nil)) (pe_cst (by rfl) T.c_MOST_SLOTS))) (pw_or1 (pt_not (pt_val (pe_callB (cr_all rfl) (by rfl) T.n_all (by decide +kernel) (pa_cons (pe_lc (own := [("item", 1)]) (by rfl) sc_are_slots.nd (pi_sq (pv 0)) (blkOk_by (own := [("item", 1)]) (N := N_are_slots) (sc := defScope s_are_slots) (by decide +kernel)) (fun _ _ _ _ _ => (pg_name (i := 1) sc_are_slots.nd rfl (Or.inl rfl))) (fun _ _ _ _ _ => pts_nil) (fun _ _ _ _ _ => (pe_g (ok_is_slot T) (hr.mono (by decide)) (by rfl) passL (pa_cons (pv 1) pa_nil)))) pa_nil)))))))) (pss_one (ps_ret pe_bl)) pss_nil)
      (pss_one (ps_ret (pe_cmpR (op_eqD hr.units) (pe_callB call_lenN' (by rfl) T.n_len (by decide +kernel) (pa_cons (pe_callTy (cr_setK rfl hr.units) (by rfl) T.n_set (by decide +kernel) (pa_cons (pv 0) pa_nil)) pa_nil)) (pe_callB call_lenA (by rfl) T.n_len (by decide +kernel) (pa_cons (pv 0) pa_nil)) (nomark _))))), [], [], [],
    (ss_seq (ss_if (st_or (st_not (st_B ((sm_call (fun h => Bool.noConfusion h) (sa_cons (sm_var rfl) sa_nil))).v)) (st_or (st_not (st_test ((sm_chain sr_le sr_le (sm_int).v ((sm_cb sc_len (sb_cons ((sm_var rfl)).v sb_nil))).v (sm_int).v)).v)) (st_not (st_B ((sm_cb sc_all (sb_cons ((sn_lc (si_sq (sm_var rfl)) (by decide) sg_name st_yes (sm_call (fun h => Bool.noConfusion h) (sa_cons (sm_var rfl) sa_nil)))).v sb_nil))).v)))) (ss_ret sm_bl) ss_next)
      (ss_ret (sm_op sr_eqD ((sm_setLen ((sm_var rfl)).v)).v ((sm_cb sc_len (sb_cons ((sm_var rfl)).v sb_nil))).v)))⟩)
def S_is_roll : Rho → Out Res := (sSeq (sIf (cB (eOp dIsN (eVar 0) (eC .non))) (sRet (eC (.bl true))) sNext)
      (sRet (eAnd (eUn (fun d => boD (dIsTyB "tuple" d)) (eVar 0)) (eAnd (eOp dEq (eCall dLen (aCons (eVar 0) aNil)) (eC (.int 2))) (eAnd (eCall F_is_name (aCons (eOp dIx (eVar 0) (eC (.int 0))) aNil)) (eCall F_is_within (aCons (eOp dIx (eVar 0) (eC (.int 1))) (aCons (eC (.int 1)) (aCons (eC (.int 3)) aNil)))))))))
def F_is_roll : List D → Out D := fnD 1 S_is_roll
theorem ok_is_roll (T : Tx P w K mg base) : GOk P w K mg base 3 "is_roll" ["thing"] (spF K false 1 F_is_roll) :=
  GFun.sim (k := 2) (ψ := S_is_roll) T.d_is_roll sc_is_roll (fun _ _ _ _ _ _ us hl => match us, hl with | [_], _ => rfl) (fun f cdv A outer s H E C hl hr => ⟨_, (pss_cons (ps_if (pt_cmpR op_isN (pv 0) pe_non (nomark _)) (pss_one (ps_ret pe_bl)) pss_nil)
      (pss_one (ps_ret (pe_and (pe_callB call_isA (by rfl) T.n_isinstance (by decide +kernel) (pa_cons (pv 0) (pa_cons (pe_bltn (v := .ty "tuple") (by rfl) T.n_tuple (by decide +kernel) rfl) pa_nil))) (pe_and (pe_cmpR (op_eqD hr.units) (pe_callB call_lenA (by rfl) T.n_len (by decide +kernel) (pa_cons (pv 0) pa_nil)) pe_int (nomark _)) (pe_and (pe_g (ok_is_name T) (hr.mono (by decide)) (by rfl) (passes_call (takes_of rfl rfl rfl rfl) (fun _ _ _ _ h => h)) (pa_cons (pe_ix ix_seq (pv 0) pe_int (fun _ _ => rfl)) pa_nil)) (pe_one (pe_g (ok_is_within T) (hr.mono (by decide)) (by rfl) (passes_call (takes_of rfl rfl rfl rfl) (fun _ _ _ _ h => h)) (pa_cons (pe_ix ix_seq (pv 0) pe_int (fun _ _ => rfl)) (pa_cons pe_int (pa_cons (pe_cst (by rfl) T.c_MOST_AMOUNT) pa_nil))))))))))), [], [], [],
    (ss_seq (ss_if (st_test ((sm_op sr_isN ((sm_var rfl)).v (sm_non).v)).v) (ss_ret sm_bl) ss_next)
      (ss_ret (sm_and ((sm_isTy ((sm_var rfl)).v)).v (sm_and ((sm_op sr_eqD ((sm_cb sc_len (sb_cons ((sm_var rfl)).v sb_nil))).v (sm_int).v)).v (sm_and ((sm_call (fun h => Bool.noConfusion h) (sa_cons (sm_op sr_ix ((sm_var rfl)).v (sm_int).v) sa_nil))).v (sm_call (fun h => Bool.noConfusion h) (sa_cons (sm_op sr_ix ((sm_var rfl)).v (sm_int).v) (sa_cons sm_int (sa_cons sm_int sa_nil)))))))))⟩)
def S_Pack___init__ : Rho → Out Res := (sSeq (sIf (cNot (cB (eCall F_are_slots (aCons (eVar 1) aNil)))) (sRaise "BadPack" "part" (aCons (eC (.str "slots")) aNil)) sNext)
      (sSeq (sIf (cNot (cB (eCall F_is_within (aCons (eVar 2) (aCons (eC (.int 0)) (aCons (eC (.int 3)) aNil)))))) (sRaise "BadPack" "part" (aCons (eC (.str "amount")) aNil)) sNext)
      (sSeq (sIf (cAnd (cB (eOp dNotN (eVar 3) (eC .non))) (cNot (cB (eCall F_is_within (aCons (eVar 3) (aCons (eC (.int 0)) (aCons (eC (.int 99)) aNil))))))) (sRaise "BadPack" "part" (aCons (eC (.str "cost")) aNil)) sNext)
      (sSeq (sIf (cNot (cB (eCall F_is_roll (aCons (eVar 4) aNil)))) (sRaise "BadPack" "part" (aCons (eC (.str "roll")) aNil)) sNext)
      (sSeq (sFldS "Pack" "own_slots" 0 (eCall dTuple (aCons (eCall dSorted (aCons (eVar 1) aNil)) aNil)))
      (sSeq (sFldS "Pack" "own_amount" 0 (eVar 2))
      (sSeq (sFldS "Pack" "own_cost" 0 (eVar 3))
      (sFldS "Pack" "own_roll" 0 (eVar 4)))))))))
def F_Pack___init__ : List D → Out D := fnI "Pack" 5 S_Pack___init__
theorem fn_Pack___init__ (T : Tx P w K mg base) {f : Addr} {fd : FuncData} {dvs : List V} (F : FnD K "__init__" "Pack.__init__" s_Pack___init__ dvs f fd) : FnOk P w K mg base (L2.CX P w) 5 f fd ["self", "slots", "amount", "cost", "roll"] (spI K false "Pack" 4 F_Pack___init__) :=
  FunD.simI (k := 4) (j := 4) (ψ := S_Pack___init__) F sc_Pack___init__ rfl (fun cdv A outer s H E C x hl hr => ⟨_, (pss_cons (ps_if (pt_not (pt_val (pe_g (ok_are_slots T) (hr.mono (by decide)) (by rfl) (passes_call (takes_of rfl rfl rfl rfl) (fun _ _ _ _ h => h)) (pa_cons (pv 1) pa_nil)))) (pss_one (ps_raise rfl (takes_of rfl rfl rfl rfl) (pmk_sup T.s_BadPack T.g_BadPack hr (by rfl) (pa_cons pe_str pa_nil)))) pss_nil)
      (pss_cons (ps_if (pt_not (pt_val (pe_g (ok_is_within T) (hr.mono (by decide)) (by rfl) (passes_call (takes_of rfl rfl rfl rfl) (fun _ _ _ _ h => h)) (pa_cons (pv 2) (pa_cons pe_int (pa_cons (pe_cst (by rfl) T.c_MOST_AMOUNT) pa_nil)))))) (pss_one (ps_raise rfl (takes_of rfl rfl rfl rfl) (pmk_sup T.s_BadPack T.g_BadPack hr (by rfl) (pa_cons pe_str pa_nil)))) pss_nil)
      (pss_cons (ps_if (PW.pt (pw_and (pt_cmpR op_notN (pv 3) pe_non (nomark _)) (pw_and1 (pt_not (pt_val (pe_g (ok_is_within T) (hr.mono (by decide)) (by rfl) (passes_call (takes_of rfl rfl rfl rfl) (fun _ _ _ _ h => h)) (pa_cons (pv 3) (pa_cons pe_int (pa_cons (pe_cst (by rfl) T.c_MOST_COST) pa_nil))))))))) (pss_one (ps_raise rfl (takes_of rfl rfl rfl rfl) (pmk_sup T.s_BadPack T.g_BadPack hr (by rfl) (pa_cons pe_str pa_nil)))) pss_nil)
      (pss_cons (ps_if (pt_not (pt_val (pe_g (ok_is_roll T) (hr.mono (by decide)) (by rfl) (passes_call (takes_of rfl rfl rfl rfl) (fun _ _ _ _ h => h)) (pa_cons (pv 4) pa_nil)))) (pss_one (ps_raise rfl (takes_of rfl rfl rfl rfl) (pmk_sup T.s_BadPack T.g_BadPack hr (by rfl) (pa_cons pe_str pa_nil)))) pss_nil)
      (pss_cons (ps_fld (pv 0) (pe_callTy call_tupF (by rfl) T.n_tuple (by decide +kernel) (pa_cons (pe_callB (cr_sortD (u80 hr)) (by rfl) T.n_sorted (by decide +kernel) (pa_cons (pv 1) pa_nil)) pa_nil)) rfl)
      (pss_cons (ps_fld (pv 0) (pv 2) rfl)
      (pss_cons (ps_fld (pv 0) (pv 3) rfl)
      (pss_one (ps_fld (pv 0) (pv 4) rfl))))))))), [.fr, .fr, .fr, .fr], [], [],
    (ss_seq (ss_if (st_not (st_B ((sm_call (fun h => Bool.noConfusion h) (sa_cons (sm_var rfl) sa_nil))).v)) (ss_raise T.ox_BadPack (sa_cons sm_str sa_nil)) ss_next)
      (ss_seq (ss_if (st_not (st_B ((sm_call (fun h => Bool.noConfusion h) (sa_cons (sm_var rfl) (sa_cons sm_int (sa_cons sm_int sa_nil))))).v)) (ss_raise T.ox_BadPack (sa_cons sm_str sa_nil)) ss_next)
      (ss_seq (ss_if (st_and (st_test ((sm_op sr_notN ((sm_var rfl)).v (sm_non).v)).v) (st_not (st_B ((sm_call (fun h => Bool.noConfusion h) (sa_cons (sm_var rfl) (sa_cons sm_int (sa_cons sm_int sa_nil))))).v))) (ss_raise T.ox_BadPack (sa_cons sm_str sa_nil)) ss_next)
      (ss_seq (ss_if (st_not (st_B ((sm_call (fun h => Bool.noConfusion h) (sa_cons (sm_var rfl) sa_nil))).v)) (ss_raise T.ox_BadPack (sa_cons sm_str sa_nil)) ss_next)
      (ss_seq (ss_fld T.cl_Pack T.na_Pack_own_slots rfl (sm_cb sc_tuple (sb_cons ((sn_cb sc_sorted (sb_cons ((sm_var rfl)).v sb_nil))).v sb_nil)))
      (ss_seq (ss_fld T.cl_Pack T.na_Pack_own_amount rfl (sm_var rfl))
      (ss_seq (ss_fld T.cl_Pack T.na_Pack_own_cost rfl (sm_var rfl))
      (ss_fld T.cl_Pack T.na_Pack_own_roll rfl (sm_var rfl)))))))))⟩)
theorem ok_Pack___init___2 (T : Tx P w K mg base) : IOk P w K mg base 5 (He.ga K "Pack") ["self", "slots", "amount", "cost", "roll"] [.non, .non] (spI K false "Pack" 4 F_Pack___init__) := by
  obtain ⟨f, fd, F, M⟩ := T.i_Pack.ex
  obtain ⟨ds, hv, hb⟩ := F.binds1 (ps := ["self", "slots", "amount", "cost", "roll"]) 3 0 (by simp) rfl (fun _ _ _ _ _ _ _ us its h1 h2 => match us, its, h1, h2 with | [_, _, _], [_, _], _, _ => ⟨_, rfl, rfl⟩)
  exact ⟨f, fd, ds, M, hb, hv, fn_Pack___init__ T F⟩
theorem ok_Pack___init___3 (T : Tx P w K mg base) : IOk P w K mg base 5 (He.ga K "Pack") ["self", "slots", "amount", "cost", "roll"] [.non] (spI K false "Pack" 4 F_Pack___init__) := by
  obtain ⟨f, fd, F, M⟩ := T.i_Pack.ex
  obtain ⟨ds, hv, hb⟩ := F.binds1 (ps := ["self", "slots", "amount", "cost", "roll"]) 4 1 (by simp) rfl (fun _ _ _ _ _ _ _ us its h1 h2 => match us, its, h1, h2 with | [_, _, _, _], [_, _], _, _ => ⟨_, rfl, rfl⟩)
  exact ⟨f, fd, ds, M, hb, hv, fn_Pack___init__ T F⟩
theorem ok_Pack___init___4 (T : Tx P w K mg base) : IOk P w K mg base 5 (He.ga K "Pack") ["self", "slots", "amount", "cost", "roll"] [] (spI K false "Pack" 4 F_Pack___init__) := by
  obtain ⟨f, fd, F, M⟩ := T.i_Pack.ex
  obtain ⟨ds, hv, hb⟩ := F.binds1 (ps := ["self", "slots", "amount", "cost", "roll"]) 5 2 (by simp) rfl (fun _ _ _ _ _ _ _ us its h1 h2 => match us, its, h1, h2 with | [_, _, _, _, _], [_, _], _, _ => ⟨_, rfl, rfl⟩)
  exact ⟨f, fd, ds, M, hb, hv, fn_Pack___init__ T F⟩
def S_are_prices : Rho → Out Res := (sSeq (sIf (cOr (cNot (cB (eUn (fun d => boD (dIsTyB "dict" d)) (eVar 0)))) (cNot (cB (eChain dLe dLe (eC (.int 1)) (eCall dLen (aCons (eVar 0) aNil)) (eC (.int 3)))))) (sRet (eC (.bl false))) sNext)
      (sRet (eLock 0 (eCall dAll (aCons (eLc (iOf itemsK (eVar 0)) (gN 1) cYes (eAnd (eCall F_is_name (aCons (eVar 1) aNil)) (eCall F_is_within (aCons (eOp dGet (eVar 0) (eVar 1)) (aCons (eC (.int 0)) (aCons (eC (.int 9)) aNil)))))) aNil)))))
def F_are_prices : List D → Out D := fnD 2 S_are_prices
theorem ok_are_prices (T : Tx P w K mg base) : GOk P w K mg base 3 "are_prices" ["thing"] (spF K true 1 F_are_prices) :=
  GFun.sim (k := 2) (ψ := S_are_prices) T.d_are_prices sc_are_prices (fun _ _ _ _ _ _ us hl => match us, hl with | [_], _ => rfl) (fun f cdv A outer s H E C hl hr => ⟨_, (pss_cons (ps_if (PW.pt (pw_or (pt_not (pt_val (pe_callB call_isA (by rfl) T.n_isinstance (by decide +kernel) (pa_cons (pv 0) (pa_cons (pe_bltn (v := .ty "dict") (by rfl) T.n_dict (by decide +kernel) rfl) pa_nil))))) (pw_or1 (pt_not (pt_chain op_le op_le pe_int (pe_callB call_lenA (by rfl) T.n_len (by decide +kernel) (pa_cons (pv 0) pa_nil)) (pe_cst (by rfl) T.c_MOST_CELLS)))))) (pss_one (ps_ret pe_bl)) pss_nil)
      (pss_one (ps_ret (pe_lock (pe_callB (cr_all rfl) (by rfl) T.n_all (by decide +kernel) (pa_cons (pe_lc (own := [("cell", 1)]) (by rfl) sc_are_prices.nd (pi_keys (pv 0)) (blkOk_by (own := [("cell", 1)]) (N := N_are_prices) (sc := defScope s_are_prices) (by decide +kernel)) (fun _ _ _ _ _ => (pg_name (i := 1) sc_are_prices.nd rfl (Or.inl rfl))) (fun _ _ _ _ _ => pts_nil) (fun _ _ _ _ _ => (pe_and (pe_g (ok_is_name T) (hr.mono (by decide)) (by rfl) passL (pa_cons (pv 1) pa_nil)) (pe_one (pe_g (ok_is_within T) (hr.mono (by decide)) (by rfl) passL (pa_cons (pe_dget (hu_of hr) (pv 0) (pv 1) (fun _ _ => rfl)) (pa_cons pe_int (pa_cons (pe_cst (by rfl) T.c_MOST_PRICE) pa_nil)))))))) pa_nil)))))), [], [], [],
    (ss_seq (ss_if (st_or (st_not (st_B ((sm_isTy ((sm_var rfl)).v)).v)) (st_not (st_test ((sm_chain sr_le sr_le (sm_int).v ((sm_cb sc_len (sb_cons ((sm_var rfl)).v sb_nil))).v (sm_int).v)).v))) (ss_ret sm_bl) ss_next)
      (ss_ret (sm_lock (hl rfl) rfl (fun C => (sm_cb sc_all (sb_cons ((sn_lc (si_keysL rfl) (by decide) sg_name st_yes (sm_and ((sm_call (fun h => Bool.noConfusion h) (sa_cons (sm_var rfl) sa_nil))).v (sm_call (fun h => Bool.noConfusion h) (sa_cons (sm_dget ((sm_varL rfl)).v ((sm_var rfl)).v) (sa_cons sm_int (sa_cons sm_int sa_nil))))))).v sb_nil))))))⟩)
def S_are_packs : Rho → Out Res := (sSeq (sIf (cOr (cNot (cB (eUn (fun d => boD (dIsTyB "dict" d)) (eVar 0)))) (cB (eOp dGt (eCall dLen (aCons (eVar 0) aNil)) (eC (.int 4))))) (sRet (eC (.bl false))) sNext)
      (sRet (eLock 0 (eCall dAll (aCons (eLc (iOf itemsK (eVar 0)) (gN 1) cYes (eAnd (eCall F_is_name (aCons (eVar 1) aNil)) (eUn (fun d => boD (dIsClB "Pack" d)) (eOp dGet (eVar 0) (eVar 1))))) aNil)))))
def F_are_packs : List D → Out D := fnD 2 S_are_packs
theorem ok_are_packs (T : Tx P w K mg base) : GOk P w K mg base 2 "are_packs" ["thing"] (spF K true 1 F_are_packs) :=
  GFun.sim (k := 1) (ψ := S_are_packs) T.d_are_packs sc_are_packs (fun _ _ _ _ _ _ us hl => match us, hl with | [_], _ => rfl) (fun f cdv A outer s H E C hl hr => ⟨_, (pss_cons (ps_if (PW.pt (pw_or (pt_not (pt_val (pe_callB call_isA (by rfl) T.n_isinstance (by decide +kernel) (pa_cons (pv 0) (pa_cons (pe_bltn (v := .ty "dict") (by rfl) T.n_dict (by decide +kernel) rfl) pa_nil))))) (pw_or1 (pt_cmpR op_gt (pe_callB call_lenA (by rfl) T.n_len (by decide +kernel) (pa_cons (pv 0) pa_nil)) (pe_cst (by rfl) T.c_MOST_PACKS) (nomark _))))) (pss_one (ps_ret pe_bl)) pss_nil)
      (pss_one (ps_ret (pe_lock (pe_callB (cr_all rfl) (by rfl) T.n_all (by decide +kernel) (pa_cons (pe_lc (own := [("name", 1)]) (by rfl) sc_are_packs.nd (pi_keys (pv 0)) (blkOk_by (own := [("name", 1)]) (N := N_are_packs) (sc := defScope s_are_packs) (by decide +kernel)) (fun _ _ _ _ _ => (pg_name (i := 1) sc_are_packs.nd rfl (Or.inl rfl))) (fun _ _ _ _ _ => pts_nil) (fun _ _ _ _ _ => (pe_and (pe_g (ok_is_name T) (hr.mono (by decide)) (by rfl) passL (pa_cons (pv 1) pa_nil)) (pe_one (pe_callB (call_isAK K rfl) (by rfl) T.n_isinstance (by decide +kernel) (pa_cons (pe_dget (hu_of hr) (pv 0) (pv 1) (fun _ _ => rfl)) (pa_cons (pe_cls (by rfl) T.g_Pack) pa_nil))))))) pa_nil)))))), [], [], [],
    (ss_seq (ss_if (st_or (st_not (st_B ((sm_isTy ((sm_var rfl)).v)).v)) (st_test ((sm_op sr_gt ((sm_cb sc_len (sb_cons ((sm_var rfl)).v sb_nil))).v (sm_int).v)).v)) (ss_ret sm_bl) ss_next)
      (ss_ret (sm_lock (hl rfl) rfl (fun C => (sm_cb sc_all (sb_cons ((sn_lc (si_keysL rfl) (by decide) sg_name st_yes (sm_and ((sm_call (fun h => Bool.noConfusion h) (sa_cons (sm_var rfl) sa_nil))).v (sm_isCl T.oi_Pack ((sm_dget ((sm_varL rfl)).v ((sm_var rfl)).v)).v)))).v sb_nil))))))⟩)
def S_Pack_last : Rho → Out Res := (sRet (eCall dMax (aCons (eLc (iOf itemsT (eUn (dFld "Pack" "own_slots") (eVar 0))) (gT (gsCons (gN 1) (gsCons (gN 2) gsNil))) cYes (eVar 2)) aNil)))
def F_Pack_last : List D → Out D := fnD 3 S_Pack_last
theorem ok_Pack_last (T : Tx P w K mg base) : POk P w K mg base 1 (He.ga K "Pack") "last" (spF K false 1 F_Pack_last) :=
  PFun.sim (k := 0) (ψ := S_Pack_last) T.m_Pack_last sc_Pack_last (fun _ _ _ _ _ _ us hl => match us, hl with | [_], _ => rfl) (fun f cdv A outer s H E C hl hr => ⟨_, (pss_one (ps_ret (pe_callB (cr_max rfl) (by rfl) T.n_max (by decide +kernel) (pa_cons (pe_lc (own := [("cell", 1), ("day", 2)]) (by rfl) sc_Pack_last.nd (pi_tup (pe_fld (pv 0) rfl)) (blkOk_by (own := [("cell", 1), ("day", 2)]) (N := N_Pack_last) (sc := defScope s_Pack_last) (by decide +kernel)) (fun _ _ _ _ _ => (pg_tupK K rfl 2 rfl (pgs_cons (pg_name (i := 1) sc_Pack_last.nd rfl (Or.inl rfl)) (pgs_cons (pg_name (i := 2) sc_Pack_last.nd rfl (Or.inl rfl)) pgs_nil)))) (fun _ _ _ _ _ => pts_nil) (fun _ _ _ _ _ => (pv 2))) pa_nil)))), [], [], [],
    (ss_ret (sm_cb sc_max (sb_cons ((sn_lc (si_tup (sm_fld T.cl_Pack T.na_Pack_own_slots ((sm_var rfl)).v)) (by decide) (sg_tup (sgs_cons sg_name (sgs_cons sg_name sgs_nil)) (gs_len (gs_len gs_len0))) st_yes (sm_var rfl))).v sb_nil)))⟩)
def S_does_fit : Rho → Out Res := (sSeq (sSet 4 (eOp dGet (eVar 2) (eVar 3)))
      (sSeq (sIf (cOr (cB (eOp dGe (fun ρ => ((eVar 4) ρ).bind fun x => (dProp "Pack" F_Pack_last x).nox) (eVar 1))) (cNot (cB (eCall dAll (aCons (eLc (iOf itemsT (eUn (dFld "Pack" "own_slots") (eVar 4))) (gT (gsCons (gN 5) (gsCons (gN 6) gsNil))) cYes (eOp (dDin false) (eVar 5) (eVar 0))) aNil))))) (sRet (eC (.bl false))) sNext)
      (sRet (eOr (eOp dIsN (eUn (dFld "Pack" "own_roll") (eVar 4)) (eC .non)) (eAnd (eOp (dDin false) (eOp dIx (eUn (dFld "Pack" "own_roll") (eVar 4)) (eC (.int 0))) (eVar 2)) (eOp dGt (fun ρ => ((eOp dGet (eVar 2) (eOp dIx (eUn (dFld "Pack" "own_roll") (eVar 4)) (eC (.int 0)))) ρ).bind fun x => (dProp "Pack" F_Pack_last x).nox) (fun ρ => ((eVar 4) ρ).bind fun x => (dProp "Pack" F_Pack_last x).nox)))))))
def F_does_fit : List D → Out D := fnD 7 S_does_fit
theorem ok_does_fit (T : Tx P w K mg base) : GOk P w K mg base 3 "does_fit" ["prices", "days", "packs", "name"] (spF K false 4 F_does_fit) :=
  GFun.sim (k := 2) (ψ := S_does_fit) T.d_does_fit sc_does_fit (fun _ _ _ _ _ _ us hl => match us, hl with | [_, _, _, _], _ => rfl) (fun f cdv A outer s H E C hl hr => ⟨_, (pss_cons (ps_set (i := 4) sc_does_fit.nd rfl (Or.inl rfl) (pe_dget (hu_of hr) (pv 2) (pv 3) (fun _ _ => rfl)))
      (pss_cons (ps_if (PW.pt (pw_or (pt_cmpR op_ge (pe_pr (ok_Pack_last T) T.cl_Pack (hr.mono (by decide)) passL (pv 4) rfl) (pv 1) (nomark _)) (pw_or1 (pt_not (pt_val (pe_callB (cr_all rfl) (by rfl) T.n_all (by decide +kernel) (pa_cons (pe_lc (own := [("cell", 5), ("day", 6)]) (by rfl) sc_does_fit.nd (pi_tup (pe_fld (pv 4) rfl)) (blkOk_by (own := [("cell", 5), ("day", 6)]) (N := N_does_fit) (sc := defScope s_does_fit) (by decide +kernel)) (fun _ _ _ _ _ => (pg_tupK K rfl 2 rfl (pgs_cons (pg_name (i := 5) sc_does_fit.nd rfl (Or.inl rfl)) (pgs_cons (pg_name (i := 6) sc_does_fit.nd rfl (Or.inl rfl)) pgs_nil)))) (fun _ _ _ _ _ => pts_nil) (fun _ _ _ _ _ => (pe_cmp (pc_din (hu_of hr) (pv 5) (pv 0)) rfl))) pa_nil))))))) (pss_one (ps_ret pe_bl)) pss_nil)
      (pss_one (ps_ret (pe_or (pe_cmpR op_isN (pe_fld (pv 4) rfl) pe_non (nomark _)) (pe_one (pe_and (pe_cmp (pc_din (hu_of hr) (pe_ix ix_seq (pe_fld (pv 4) rfl) pe_int (fun _ _ => rfl)) (pv 2)) rfl) (pe_one (pe_cmpR op_gt (pe_pr (ok_Pack_last T) T.cl_Pack (hr.mono (by decide)) passL (pe_dget (hu_of hr) (pv 2) (pe_ix ix_seq (pe_fld (pv 4) rfl) pe_int (fun _ _ => rfl)) (fun _ _ => rfl)) rfl) (pe_pr (ok_Pack_last T) T.cl_Pack (hr.mono (by decide)) passL (pv 4) rfl) (nomark _)))))))))), [], [], [],
    (ss_seq (ss_set (sm_dget ((sm_var rfl)).v ((sm_var rfl)).v))
      (ss_seq (ss_if (st_or (st_test ((sm_op sr_ge ((sm_prop (fun h => Bool.noConfusion h) (sm_var rfl))).v ((sm_var rfl)).v)).v) (st_not (st_B ((sm_cb sc_all (sb_cons ((sn_lc (si_tup (sm_fld T.cl_Pack T.na_Pack_own_slots ((sm_var rfl)).v)) (by decide) (sg_tup (sgs_cons sg_name (sgs_cons sg_name sgs_nil)) (gs_len (gs_len gs_len0))) st_yes (sm_din ((sm_var rfl)).v ((sm_var rfl)).v))).v sb_nil))).v))) (ss_ret sm_bl) ss_next)
      (ss_ret (sm_or ((sm_op sr_isN ((sm_fld T.cl_Pack T.na_Pack_own_roll ((sm_var rfl)).v)).v (sm_non).v)).v (sm_and ((sm_din ((sm_op sr_ix ((sm_fld T.cl_Pack T.na_Pack_own_roll ((sm_var rfl)).v)).v (sm_int).v)).v ((sm_var rfl)).v)).v (sm_op sr_gt ((sm_prop (fun h => Bool.noConfusion h) (sm_dget ((sm_var rfl)).v ((sm_op sr_ix ((sm_fld T.cl_Pack T.na_Pack_own_roll ((sm_var rfl)).v)).v (sm_int).v)).v))).v ((sm_prop (fun h => Bool.noConfusion h) (sm_var rfl))).v))))))⟩)
def S_Plan___init__ : Rho → Out Res := (sSeq (sIf (cNot (cB (eCall F_are_prices (aCons (eVar 1) aNil)))) (sRaise "BadPlan" "part" (aCons (eC (.str "prices")) aNil)) sNext)
      (sSeq (sIf (cNot (cB (eCall F_is_within (aCons (eVar 2) (aCons (eC (.int 1)) (aCons (eC (.int 4)) aNil)))))) (sRaise "BadPlan" "part" (aCons (eC (.str "days")) aNil)) sNext)
      (sSeq (sIf (cNot (cB (eCall F_are_packs (aCons (eVar 3) aNil)))) (sRaise "BadPlan" "part" (aCons (eC (.str "packs")) aNil)) sNext)
      (sSeq (sFor (iOf itemsL (eCall dSortedK (aCons (eVar 3) aNil))) (gN 4) (sIf (cNot (cB (eCall F_does_fit (aCons (eVar 1) (aCons (eVar 2) (aCons (eVar 3) (aCons (eVar 4) aNil))))))) (sRaise "BadFit" "name" (aCons (eVar 4) aNil)) sNext))
      (sSeq (sIf (cB (eOp dGt (eLock 3 (eCall dSum (aCons (eLc (iOf itemsK (eVar 3)) (gN 4) cYes (eUn (dFld "Pack" "own_amount") (eOp dGet (eVar 3) (eVar 4)))) aNil))) (eC (.int 6)))) (sRaise "TooMany" "most" (aCons (eC (.int 6)) aNil)) sNext)
      (sSeq (sFldS "Plan" "own_prices" 0 (eDc (iOf itemsL (eCall dSortedK (aCons (eVar 1) aNil))) (gN 5) cYes (eVar 5) (eOp dGet (eVar 1) (eVar 5))))
      (sSeq (sFldS "Plan" "own_days" 0 (eVar 2))
      (sSeq (sFldS "Plan" "own_names" 0 (eCall dTuple (aCons (eCall dSortedK (aCons (eVar 3) aNil)) aNil)))
      (sFldS "Plan" "own_rows" 0 (eCall dTuple (aCons (eLc (iOf itemsT (eUn (dFld "Plan" "own_names") (eVar 0))) (gN 4) cYes (eOp dGet (eVar 3) (eVar 4))) aNil)))))))))))
def F_Plan___init__ : List D → Out D := fnI "Plan" 6 S_Plan___init__
theorem fn_Plan___init__ (T : Tx P w K mg base) {f : Addr} {fd : FuncData} {dvs : List V} (F : FnD K "__init__" "Plan.__init__" s_Plan___init__ dvs f fd) : FnOk P w K mg base (L2.CX P w) 4 f fd ["self", "prices", "days", "packs"] (spI K true "Plan" 3 F_Plan___init__) :=
  FunD.simI (k := 3) (j := 3) (ψ := S_Plan___init__) F sc_Plan___init__ rfl (fun cdv A outer s H E C x hl hr => ⟨_, (pss_cons (ps_if (pt_not (pt_val (pe_g (ok_are_prices T) (hr.mono (by decide)) (by rfl) (passes_call (takes_of rfl rfl rfl rfl) (fun _ _ _ _ h => h)) (pa_cons (pv 1) pa_nil)))) (pss_one (ps_raise rfl (takes_of rfl rfl rfl rfl) (pmk_sup T.s_BadPlan T.g_BadPlan hr (by rfl) (pa_cons pe_str pa_nil)))) pss_nil)
      (pss_cons (ps_if (pt_not (pt_val (pe_g (ok_is_within T) (hr.mono (by decide)) (by rfl) (passes_call (takes_of rfl rfl rfl rfl) (fun _ _ _ _ h => h)) (pa_cons (pv 2) (pa_cons pe_int (pa_cons (pe_cst (by rfl) T.c_MOST_DAYS) pa_nil)))))) (pss_one (ps_raise rfl (takes_of rfl rfl rfl rfl) (pmk_sup T.s_BadPlan T.g_BadPlan hr (by rfl) (pa_cons pe_str pa_nil)))) pss_nil)
      (pss_cons (ps_if (pt_not (pt_val (pe_g (ok_are_packs T) (hr.mono (by decide)) (by rfl) (passes_call (takes_of rfl rfl rfl rfl) (fun _ _ _ _ h => h)) (pa_cons (pv 3) pa_nil)))) (pss_one (ps_raise rfl (takes_of rfl rfl rfl rfl) (pmk_sup T.s_BadPlan T.g_BadPlan hr (by rfl) (pa_cons pe_str pa_nil)))) pss_nil)
      (pss_cons (ps_for (passes_of rfl) rfl (pi_list (pe_callB (call_sortedD rfl) (by rfl) T.n_sorted (by decide +kernel) (pa_cons (pv 3) pa_nil))) (pg_name (i := 4) sc_Plan___init__.nd rfl (Or.inl rfl)) (pss_one (ps_if (pt_not (pt_val (pe_g (ok_does_fit T) (hr.mono (by decide)) (by rfl) (passes_call (takes_of rfl rfl rfl rfl) (fun _ _ _ _ h => h)) (pa_cons (pv 1) (pa_cons (pv 2) (pa_cons (pv 3) (pa_cons (pv 4) pa_nil))))))) (pss_one (ps_raise rfl (takes_of rfl rfl rfl rfl) (pmk_sup T.s_BadFit T.g_BadFit hr (by rfl) (pa_cons (pv 4) pa_nil)))) pss_nil)))
      (pss_cons (ps_if (pt_cmpR op_gt (pe_lock (pe_callB (cr_sum rfl) (by rfl) T.n_sum (by decide +kernel) (pa_cons (pe_lc (own := [("name", 4)]) (by rfl) sc_Plan___init__.nd (pi_keys (pv 3)) (blkOk_by (own := [("name", 4)]) (N := N_Plan___init__) (sc := defScope s_Plan___init__) (by decide +kernel)) (fun _ _ _ _ _ => (pg_name (i := 4) sc_Plan___init__.nd rfl (Or.inl rfl))) (fun _ _ _ _ _ => pts_nil) (fun _ _ _ _ _ => (pe_fldK K rfl (pe_dget (hu_of hr) (pv 3) (pv 4) (fun _ _ => rfl)) rfl))) pa_nil))) (pe_cst (by rfl) T.c_MOST_UNITS) (nomark _)) (pss_one (ps_raise rfl (takes_of rfl rfl rfl rfl) (pmk_sup T.s_TooMany T.g_TooMany hr (by rfl) (pa_cons (pe_cst (by rfl) T.c_MOST_UNITS) pa_nil)))) pss_nil)
      (pss_cons (ps_fld (pv 0) (pe_dc (own := [("cell", 5)]) rfl sc_Plan___init__.nd (pi_list (pe_callB (call_sortedD rfl) (by rfl) T.n_sorted (by decide +kernel) (pa_cons (pv 1) pa_nil))) (blkOk_by (own := [("cell", 5)]) (N := N_Plan___init__) (sc := defScope s_Plan___init__) (by decide +kernel)) (fun _ _ _ _ _ => (pg_name (i := 5) sc_Plan___init__.nd rfl (Or.inl rfl))) (fun _ _ _ _ _ => pts_nil) (fun _ _ _ _ _ => (pv 5)) (fun _ _ _ _ _ => (pe_dget (hu_of hr) (pv 1) (pv 5) (fun _ _ => rfl)))) rfl)
      (pss_cons (ps_fld (pv 0) (pv 2) rfl)
      (pss_cons (ps_fld (pv 0) (pe_callTy call_tupF (by rfl) T.n_tuple (by decide +kernel) (pa_cons (pe_callB (call_sortedD rfl) (by rfl) T.n_sorted (by decide +kernel) (pa_cons (pv 3) pa_nil)) pa_nil)) rfl)
      (pss_one (ps_fld (pv 0) (pe_callTy call_tupF (by rfl) T.n_tuple (by decide +kernel) (pa_cons (pe_lc (own := [("name", 4)]) (by rfl) sc_Plan___init__.nd (pi_tup (pe_fld (pv 0) rfl)) (blkOk_by (own := [("name", 4)]) (N := N_Plan___init__) (sc := defScope s_Plan___init__) (by decide +kernel)) (fun _ _ _ _ _ => (pg_name (i := 4) sc_Plan___init__.nd rfl (Or.inl rfl))) (fun _ _ _ _ _ => pts_nil) (fun _ _ _ _ _ => (pe_dget (hu_of hr) (pv 3) (pv 4) (fun _ _ => rfl)))) pa_nil)) rfl)))))))))), [.fr, .fr, .fr, .un, .un], [], [],
    (ss_seq (ss_if (st_not (st_B ((sm_call (fun _ => hl rfl) (sa_cons (sm_var rfl) sa_nil))).v)) (ss_raise T.ox_BadPlan (sa_cons sm_str sa_nil)) ss_next)
      (ss_seq (ss_if (st_not (st_B ((sm_call (fun h => Bool.noConfusion h) (sa_cons (sm_var rfl) (sa_cons sm_int (sa_cons sm_int sa_nil))))).v)) (ss_raise T.ox_BadPlan (sa_cons sm_str sa_nil)) ss_next)
      (ss_seq (ss_if (st_not (st_B ((sm_call (fun _ => hl rfl) (sa_cons (sm_var rfl) sa_nil))).v)) (ss_raise T.ox_BadPlan (sa_cons sm_str sa_nil)) ss_next)
      (ss_seq (ss_for (si_list ((sn_cb sc_sortedK (sb_cons ((sm_var rfl)).v sb_nil))).e) sg_name (ss_then (ss_if (st_not (st_B ((sm_call (fun h => Bool.noConfusion h) (sa_cons (sm_var rfl) (sa_cons (sm_var rfl) (sa_cons (sm_var rfl) (sa_cons (sm_var rfl) sa_nil)))))).v)) (ss_raise T.ox_BadFit (sa_cons (sm_var rfl) sa_nil)) ss_next) (.drop 4 .refl)))
      (ss_seq (ss_if (st_test ((sm_op sr_gt ((sm_lock (hl rfl) rfl (fun C => (sm_cb sc_sum (sb_cons ((sn_lc (si_keysL rfl) (by decide) sg_name st_yes (sm_fld T.cl_Pack T.na_Pack_own_amount ((sm_dget ((sm_varL rfl)).v ((sm_var rfl)).v)).v))).v sb_nil))))).v (sm_int).v)).v) (ss_raise T.ox_TooMany (sa_cons sm_int sa_nil)) ss_next)
      (ss_seq (ss_fld T.cl_Plan T.na_Plan_own_prices rfl ((sn_dc (si_list ((sn_cb sc_sortedK (sb_cons ((sm_var rfl)).v sb_nil))).e) (by decide) sg_name st_yes (sm_var rfl) (sm_dget ((sm_var rfl)).v ((sm_var rfl)).v))).e)
      (ss_seq (ss_fld T.cl_Plan T.na_Plan_own_days rfl (sm_var rfl))
      (ss_seq (ss_fld T.cl_Plan T.na_Plan_own_names rfl (sm_cb sc_tuple (sb_cons ((sn_cb sc_sortedK (sb_cons ((sm_var rfl)).v sb_nil))).v sb_nil)))
      (ss_fld T.cl_Plan T.na_Plan_own_rows rfl (sm_cb sc_tuple (sb_cons ((sn_lc (si_tup (sm_fld T.cl_Plan T.na_Plan_own_names (sm_own rfl))) (by decide) sg_name st_yes (sm_dget ((sm_var rfl)).v ((sm_var rfl)).v))).v sb_nil)))))))))))⟩)
theorem ok_Plan___init___3 (T : Tx P w K mg base) : IOk P w K mg base 4 (He.ga K "Plan") ["self", "prices", "days", "packs"] [] (spI K true "Plan" 3 F_Plan___init__) := by
  obtain ⟨f, fd, F, M⟩ := T.i_Plan.ex
  exact ⟨f, fd, [], M, F.bindsN (fun _ _ _ _ _ _ us hl => match us, hl with | [_, _, _, _], _ => rfl), .nil, fn_Plan___init__ T F⟩
def S__law_pick : Rho → Out Res := (sRet (eOp dIx (eVar 1) (eCall F__law_take (aCons (eVar 0) (aCons (eCall dLen (aCons (eVar 1) aNil)) aNil)))))
def F__law_pick : List D → Out D := fnD 2 S__law_pick
theorem ok__law_pick (T : Tx P w K mg base) : GOk P w K mg base 3 "_law_pick" ["_law_draw", "_law_some"] (spF K false 2 F__law_pick) :=
  GFun.sim (k := 2) (ψ := S__law_pick) T.d__law_pick sc__law_pick (fun _ _ _ _ _ _ us hl => match us, hl with | [_, _], _ => rfl) (fun f cdv A outer s H E C hl hr => ⟨_, (pss_one (ps_ret (pe_ix ix_seq (pv 1) (pe_g (ok__law_take T) (hr.mono (by decide)) (by rfl) (passes_call (takes_of rfl rfl rfl rfl) (fun _ _ _ _ h => h)) (pa_cons (pv 0) (pa_cons (pe_callB call_lenA (by rfl) T.n_len (by decide +kernel) (pa_cons (pv 1) pa_nil)) pa_nil))) (fun _ _ => rfl)))), [], [], [],
    (ss_ret (sm_op sr_ix ((sm_var rfl)).v ((sm_call (fun h => Bool.noConfusion h) (sa_cons (sm_var rfl) (sa_cons (sm_cb sc_len (sb_cons ((sm_var rfl)).v sb_nil)) sa_nil)))).v))⟩)
end
end ND
namespace ND
open PySem PySem.Spec PyProof.Rows L2
section
variable {P : Program} {w : World} {K : PySem.W.Frag} {mg : Str → Option Value} {base : Heap}
def S__law_wares : Rho → Out Res := (sRet (eCall dSortedK (aCons (eOp dGet (eVar 0) (eC (.str "packs"))) aNil)))
def F__law_wares : List D → Out D := fnD 1 S__law_wares
theorem ok__law_wares (T : Tx P w K mg base) : GOk P w K mg base 1 "_law_wares" ["_law_sheet_here"] (spF K false 1 F__law_wares) :=
  GFun.sim (k := 0) (ψ := S__law_wares) T.d__law_wares sc__law_wares (fun _ _ _ _ _ _ us hl => match us, hl with | [_], _ => rfl) (fun f cdv A outer s H E C hl hr => ⟨_, (pss_one (ps_ret (pe_callB (call_sortedD rfl) (by rfl) T.n_sorted (by decide +kernel) (pa_cons (pe_dget (hu_of hr) (pv 0) pe_str (fun _ _ => rfl)) pa_nil)))), [], [], [],
    (ss_ret ((sn_cb sc_sortedK (sb_cons ((sm_dget ((sm_var rfl)).v (sm_str).v)).v sb_nil))).e)⟩)
def S__law_plan : Rho → Out Res := (sSeq (sSet 1 (eC (.dct [])))
      (sSeq (sFor (iOf itemsL (eCall F__law_wares (aCons (eVar 0) aNil))) (gN 2) (sSeq (sSet 3 (eOp dGet (eOp dGet (eVar 0) (eC (.str "packs"))) (eVar 2)))
      (sDPutO 1 (eVar 2) (eCall (fun ds => F_Pack___init__ (ds ++ [])) (aCons (eOp dGet (eVar 3) (eC (.str "slots"))) (aCons (eOp dGet (eVar 3) (eC (.str "amount"))) (aCons (eOp dGet (eVar 3) (eC (.str "cost"))) (aCons (eOp dGet (eVar 3) (eC (.str "roll"))) aNil))))))))
      (sRet (eCall (fun ds => F_Plan___init__ (ds ++ [])) (aCons (eOp dGet (eVar 0) (eC (.str "prices"))) (aCons (eOp dGet (eVar 0) (eC (.str "days"))) (aCons (eVar 1) aNil)))))))
def F__law_plan : List D → Out D := fnD 4 S__law_plan
theorem ok__law_plan (T : Tx P w K mg base) : GOk P w K mg base 7 "_law_plan" ["_law_sheet_here"] (spF K true 1 F__law_plan) :=
  GFun.sim (k := 6) (ψ := S__law_plan) T.d__law_plan sc__law_plan (fun _ _ _ _ _ _ us hl => match us, hl with | [_], _ => rfl) (fun f cdv A outer s H E C hl hr => ⟨_, (pss_cons (ps_set (i := 1) sc__law_plan.nd rfl (Or.inl rfl) pe_dnewK)
      (pss_cons (ps_for (passes_of rfl) rfl (pi_list (pe_g (ok__law_wares T) (hr.mono (by decide)) (by rfl) (passes_call (takes_of rfl rfl rfl rfl) (fun _ _ _ _ h => h)) (pa_cons (pv 0) pa_nil))) (pg_name (i := 2) sc__law_plan.nd rfl (Or.inl rfl)) (pss_cons (ps_set (i := 3) sc__law_plan.nd rfl (Or.inl rfl) (pe_dget (hu_of hr) (pe_dget (hu_of hr) (pv 0) pe_str (fun _ _ => rfl)) (pv 2) (fun _ _ => rfl)))
      (pss_one (ps_dput (hu_of hr) (pv 1) (pv 2) (pe_mk (ok_Pack___init___4 T) (hr.mono (by decide)) (by rfl) T.g_Pack (passes_call (takes_of rfl rfl rfl rfl) (fun _ _ _ _ h => h)) (pa_cons (pe_dget (hu_of hr) (pv 3) pe_str (fun _ _ => rfl)) (pa_cons (pe_dget (hu_of hr) (pv 3) pe_str (fun _ _ => rfl)) (pa_cons (pe_dget (hu_of hr) (pv 3) pe_str (fun _ _ => rfl)) (pa_cons (pe_dget (hu_of hr) (pv 3) pe_str (fun _ _ => rfl)) pa_nil))))) rfl))))
      (pss_one (ps_ret (pe_mk (ok_Plan___init___3 T) (hr.mono (by decide)) (by rfl) T.g_Plan (passes_call (takes_of rfl rfl rfl rfl) (fun _ _ _ _ h => h)) (pa_cons (pe_dget (hu_of hr) (pv 0) pe_str (fun _ _ => rfl)) (pa_cons (pe_dget (hu_of hr) (pv 0) pe_str (fun _ _ => rfl)) (pa_cons (pv 1) pa_nil)))))))), [], [], [],
    (ss_seq (ss_new sn_dnew)
      (ss_seq (ss_for (si_list (sm_call (fun h => Bool.noConfusion h) (sa_cons (sm_var rfl) sa_nil))) sg_name (ss_then (ss_seq (ss_set (sm_dget ((sm_dget ((sm_var rfl)).v (sm_str).v)).v ((sm_var rfl)).v))
      (ss_dput rfl ((sn_make (dds := []) (fun h => Bool.noConfusion h) T.oc_Pack (fun _ => .nil) (sa_cons (sm_dget ((sm_var rfl)).v (sm_str).v) (sa_cons (sm_dget ((sm_var rfl)).v (sm_str).v) (sa_cons (sm_dget ((sm_var rfl)).v (sm_str).v) (sa_cons (sm_dget ((sm_var rfl)).v (sm_str).v) sa_nil)))))).e ((sm_var rfl)).v)) (.drop 2 (.drop 3 .refl))))
      (ss_go (.frz 1 rfl .refl) (ss_ret ((sn_make (dds := []) (fun _ => hl rfl) T.oc_Plan (fun _ => .nil) (sa_cons (sm_dget ((sm_var rfl)).v (sm_str).v) (sa_cons (sm_dget ((sm_var rfl)).v (sm_str).v) (sa_cons (sm_var rfl) sa_nil))))).e))))⟩)
def S__law_later : Rho → Out Res := (sRet (eCall dSorted (aCons (eLc (iOf itemsL (eOp dGet (eOp dGet (eOp dGet (eVar 0) (eC (.str "packs"))) (eVar 1)) (eC (.str "slots")))) (gN 3) (cB (eOp dGe (eOp dIx (eVar 3) (eC (.int 1))) (eVar 2))) (eVar 3)) aNil)))
def F__law_later : List D → Out D := fnD 4 S__law_later
theorem ok__law_later (T : Tx P w K mg base) : GOk P w K mg base 1 "_law_later" ["_law_sheet_here", "_law_label", "_law_date"] (spF K false 3 F__law_later) :=
  GFun.sim (k := 0) (ψ := S__law_later) T.d__law_later sc__law_later (fun _ _ _ _ _ _ us hl => match us, hl with | [_, _, _], _ => rfl) (fun f cdv A outer s H E C hl hr => ⟨_, (pss_one (ps_ret (pe_callB (cr_sortD (u80 hr)) (by rfl) T.n_sorted (by decide +kernel) (pa_cons (pe_lc (own := [("_law_spot", 3)]) (by rfl) sc__law_later.nd (pi_list (pe_dget (hu_of hr) (pe_dget (hu_of hr) (pe_dget (hu_of hr) (pv 0) pe_str (fun _ _ => rfl)) (pv 1) (fun _ _ => rfl)) pe_str (fun _ _ => rfl))) (blkOk_by (own := [("_law_spot", 3)]) (N := N__law_later) (sc := defScope s__law_later) (by decide +kernel)) (fun _ _ _ _ _ => (pg_name (i := 3) sc__law_later.nd rfl (Or.inl rfl))) (fun _ _ _ _ _ => (pts_one (pt_cmpR op_ge (pe_ix (ix_seqK K rfl) (pv 3) pe_int (fun _ _ => rfl)) (pv 2) (nomark _)))) (fun _ _ _ _ _ => (pv 3))) pa_nil)))), [], [], [],
    (ss_ret ((sn_cb sc_sorted (sb_cons ((sn_lc (si_list (sm_dget ((sm_dget ((sm_dget ((sm_var rfl)).v (sm_str).v)).v ((sm_var rfl)).v)).v (sm_str).v)) (by decide) sg_name (st_test ((sm_op sr_ge ((sm_op sr_ix ((sm_var rfl)).v (sm_int).v)).v ((sm_var rfl)).v)).v) (sm_var rfl))).v sb_nil))).e)⟩)
def S__law_by_days : Rho → Out Res := (sRet (eLc (iOf itemsL (eCall dSorted (aCons (eLc (iOf itemsQ (eVar 0)) (gN 1) cYes (eUn dRev (eVar 1))) aNil))) (gN 1) cYes (eUn dRev (eVar 1))))
def F__law_by_days : List D → Out D := fnD 2 S__law_by_days
theorem ok__law_by_days (T : Tx P w K mg base) : GOk P w K mg base 1 "_law_by_days" ["_law_spots_here"] (spF K false 1 F__law_by_days) :=
  GFun.sim (k := 0) (ψ := S__law_by_days) T.d__law_by_days sc__law_by_days (fun _ _ _ _ _ _ us hl => match us, hl with | [_], _ => rfl) (fun f cdv A outer s H E C hl hr => ⟨_, (pss_one (ps_ret (pe_lc (own := [("_law_spot", 1)]) (by rfl) sc__law_by_days.nd (pi_list (pe_callB (cr_sortD (u80 hr)) (by rfl) T.n_sorted (by decide +kernel) (pa_cons (pe_lc (own := [("_law_spot", 1)]) (by rfl) sc__law_by_days.nd (pi_sq (pv 0)) (blkOk_by (own := [("_law_spot", 1)]) (N := N__law_by_days) (sc := defScope s__law_by_days) (by decide +kernel)) (fun _ _ _ _ _ => (pg_name (i := 1) sc__law_by_days.nd rfl (Or.inl rfl))) (fun _ _ _ _ _ => pts_nil) (fun _ _ _ _ _ => (pe_revFK K rfl (pv 1)))) pa_nil))) (blkOk_by (own := [("_law_spot", 1)]) (N := N__law_by_days) (sc := defScope s__law_by_days) (by decide +kernel)) (fun _ _ _ _ _ => (pg_name (i := 1) sc__law_by_days.nd rfl (Or.inl rfl))) (fun _ _ _ _ _ => pts_nil) (fun _ _ _ _ _ => (pe_revFK K rfl (pv 1)))))), [], [], [],
    (ss_ret ((sn_lc (si_list ((sn_cb sc_sorted (sb_cons ((sn_lc (si_sq (sm_var rfl)) (by decide) sg_name st_yes (sm_revF (sm_var rfl)))).v sb_nil))).e) (by decide) sg_name st_yes (sm_revF (sm_var rfl)))).e)⟩)
def S__law_common : Rho → Out Res := (sRet (eLc (iOf itemsL (eCall F__law_later (aCons (eVar 0) (aCons (eVar 1) (aCons (eC (.int 0)) aNil))))) (gN 3) (cB (eOp dIn (eVar 3) (eOp dGet (eOp dGet (eOp dGet (eVar 0) (eC (.str "packs"))) (eVar 2)) (eC (.str "slots"))))) (eVar 3)))
def F__law_common : List D → Out D := fnD 4 S__law_common
theorem ok__law_common (T : Tx P w K mg base) : GOk P w K mg base 2 "_law_common" ["_law_sheet_here", "_law_label", "_law_rival"] (spF K false 3 F__law_common) :=
  GFun.sim (k := 1) (ψ := S__law_common) T.d__law_common sc__law_common (fun _ _ _ _ _ _ us hl => match us, hl with | [_, _, _], _ => rfl) (fun f cdv A outer s H E C hl hr => ⟨_, (pss_one (ps_ret (pe_lc (own := [("_law_spot", 3)]) (by rfl) sc__law_common.nd (pi_list (pe_g (ok__law_later T) (hr.mono (by decide)) (by rfl) (passes_call (takes_of rfl rfl rfl rfl) (fun _ _ _ _ h => h)) (pa_cons (pv 0) (pa_cons (pv 1) (pa_cons pe_int pa_nil))))) (blkOk_by (own := [("_law_spot", 3)]) (N := N__law_common) (sc := defScope s__law_common) (by decide +kernel)) (fun _ _ _ _ _ => (pg_name (i := 3) sc__law_common.nd rfl (Or.inl rfl))) (fun _ _ _ _ _ => (pts_one (pt_cmpR (op_inAK K rfl (u65 hr)) (pv 3) (pe_dget (hu_of hr) (pe_dget (hu_of hr) (pe_dget (hu_of hr) (pv 0) pe_str (fun _ _ => rfl)) (pv 2) (fun _ _ => rfl)) pe_str (fun _ _ => rfl)) (by rfl)))) (fun _ _ _ _ _ => (pv 3))))), [], [], [],
    (ss_ret ((sn_lc (si_list (sm_call (fun h => Bool.noConfusion h) (sa_cons (sm_var rfl) (sa_cons (sm_var rfl) (sa_cons sm_int sa_nil))))) (by decide) sg_name (st_test ((sm_op sr_inA ((sm_var rfl)).v ((sm_dget ((sm_dget ((sm_dget ((sm_var rfl)).v (sm_str).v)).v ((sm_var rfl)).v)).v (sm_str).v)).v)).v) (sm_var rfl))).e)⟩)
def S_need_plan : Rho → Out Res := (sIf (cNot (cB (eUn (fun d => boD (dIsClB "Plan" d)) (eVar 0)))) (sRaise "BadPlan" "part" (aCons (eC (.str "plan")) aNil)) sNext)
def F_need_plan : List D → Out D := fnD 1 S_need_plan
theorem ok_need_plan (T : Tx P w K mg base) : GOk P w K mg base 2 "need_plan" ["plan"] (spF K false 1 F_need_plan) :=
  GFun.sim (k := 1) (ψ := S_need_plan) T.d_need_plan sc_need_plan (fun _ _ _ _ _ _ us hl => match us, hl with | [_], _ => rfl) (fun f cdv A outer s H E C hl hr => ⟨_, (pss_one (ps_if (pt_not (pt_val (pe_callB call_isA (by rfl) T.n_isinstance (by decide +kernel) (pa_cons (pv 0) (pa_cons (pe_cls (by rfl) T.g_Plan) pa_nil))))) (pss_one (ps_raise rfl (takes_of rfl rfl rfl rfl) (pmk_sup T.s_BadPlan T.g_BadPlan hr (by rfl) (pa_cons pe_str pa_nil)))) pss_nil)), [.fr], [], [],
    (ss_if (st_not (st_B ((sm_isCl T.oi_Plan ((sm_var rfl)).v)).v)) (ss_raise T.ox_BadPlan (sa_cons sm_str sa_nil)) ss_next)⟩)
def S_need_pack : Rho → Out Res := (sIf (cOr (cNot (cB (eUn (fun d => boD (dIsTyB "str" d)) (eVar 1)))) (cB (eOp dNotIn (eVar 1) (eUn (dFld "Plan" "own_names") (eVar 0))))) (sRaise "NoPack" "name" (aCons (eVar 1) aNil)) sNext)
def F_need_pack : List D → Out D := fnD 2 S_need_pack
theorem ok_need_pack (T : Tx P w K mg base) : GOk P w K mg base 2 "need_pack" ["plan", "name"] (spF K false 2 F_need_pack) :=
  GFun.sim (k := 1) (ψ := S_need_pack) T.d_need_pack sc_need_pack (fun _ _ _ _ _ _ us hl => match us, hl with | [_, _], _ => rfl) (fun f cdv A outer s H E C hl hr => ⟨_, (pss_one (ps_if (PW.pt (pw_or (pt_not (pt_val (pe_callB call_isA (by rfl) T.n_isinstance (by decide +kernel) (pa_cons (pv 1) (pa_cons (pe_bltn (v := .ty "str") (by rfl) T.n_str (by decide +kernel) rfl) pa_nil))))) (pw_or1 (pt_cmpR (op_notInA (u65 hr)) (pv 1) (pe_fld (pv 0) rfl) (by rfl))))) (pss_one (ps_raise rfl (takes_of rfl rfl rfl rfl) (pmk_sup T.s_NoPack T.g_NoPack hr (by rfl) (pa_cons (pv 1) pa_nil)))) pss_nil)), [.fr, .fr], [], [],
    (ss_if (st_or (st_not (st_B ((sm_isTy ((sm_var rfl)).v)).v)) (st_test ((sm_op sr_inA ((sm_var rfl)).v ((sm_fld T.cl_Plan T.na_Plan_own_names ((sm_var rfl)).v)).v)).v)) (ss_raise T.ox_NoPack (sa_cons (sm_var rfl) sa_nil)) ss_next)⟩)
def S_slots_of : Rho → Out Res := (sRet (eUn (dFld "Pack" "own_slots") (eOp dIx (eUn (dFld "Plan" "own_rows") (eVar 0)) (eIdx (eUn (dFld "Plan" "own_names") (eVar 0)) (eVar 1)))))
def F_slots_of : List D → Out D := fnD 2 S_slots_of
theorem ok_slots_of (T : Tx P w K mg base) : GOk P w K mg base 1 "slots_of" ["plan", "name"] (spF K false 2 F_slots_of) :=
  GFun.sim (k := 0) (ψ := S_slots_of) T.d_slots_of sc_slots_of (fun _ _ _ _ _ _ us hl => match us, hl with | [_, _], _ => rfl) (fun f cdv A outer s H E C hl hr => ⟨_, (pss_one (ps_ret (pe_fld (pe_ix ix_seq (pe_fld (pv 0) rfl) (pe_idxF (pe_fld (pv 0) rfl) (pa_cons (pv 1) pa_nil)) (fun _ _ => rfl)) rfl))), [], [], [],
    (ss_ret (sm_fld T.cl_Pack T.na_Pack_own_slots ((sm_op sr_ix ((sm_fld T.cl_Plan T.na_Plan_own_rows ((sm_var rfl)).v)).v ((sm_idx (sm_fld T.cl_Plan T.na_Plan_own_names ((sm_var rfl)).v) ((sm_var rfl)).v)).v)).v))⟩)
def S_later_slots : Rho → Out Res := (sRet (eLc (iOf itemsT (eCall F_slots_of (aCons (eVar 0) (aCons (eVar 1) aNil)))) (gN 3) (cB (eOp dGe (eOp dIx (eVar 3) (eC (.int 1))) (eVar 2))) (eVar 3)))
def F_later_slots : List D → Out D := fnN 4 S_later_slots
theorem okS_later_slots (T : Tx P w K mg base) : GOkS P w K mg base 2 "later_slots" s_later_slots ["plan", "name", "day"] (spFN K false 3 F_later_slots) := by
  exact GFun.simN (k := 1) (ψ := S_later_slots) T.d_later_slots sc_later_slots (fun f cdv A outer s H E C hl hr => ⟨_, (pss_one (ps_ret (pe_lc (own := [("slot", 3)]) (by rfl) sc_later_slots.nd (pi_tup (pe_g (ok_slots_of T) (hr.mono (by decide)) (by rfl) (passes_call (takes_of rfl rfl rfl rfl) (fun _ _ _ _ h => h)) (pa_cons (pv 0) (pa_cons (pv 1) pa_nil)))) (blkOk_by (own := [("slot", 3)]) (N := N_later_slots) (sc := defScope s_later_slots) (by decide +kernel)) (fun _ _ _ _ _ => (pg_name (i := 3) sc_later_slots.nd rfl (Or.inl rfl))) (fun _ _ _ _ _ => (pts_one (pt_cmpR op_ge (pe_ix (ix_seqK K rfl) (pv 3) pe_int (fun _ _ => rfl)) (pv 2) (nomark _)))) (fun _ _ _ _ _ => (pv 3))))), [], [], [],
    (ss_retNw (sn_lc (si_tup (sm_call (fun h => Bool.noConfusion h) (sa_cons (sm_var rfl) (sa_cons (sm_var rfl) sa_nil)))) (by decide) sg_name (st_test ((sm_op sr_ge ((sm_op sr_ix ((sm_var rfl)).v (sm_int).v)).v ((sm_var rfl)).v)).v) (sm_var rfl)))⟩)
theorem ok_later_slots (T : Tx P w K mg base) : GOk P w K mg base 2 "later_slots" ["plan", "name", "day"] (spFN K false 3 F_later_slots) := (okS_later_slots T).ok (fun _ _ _ _ _ _ us hl => match us, hl with | [_, _, _], _ => rfl)
def S_slots_from : Rho → Out Res := (sSeq (sDrop (eCall F_need_plan (aCons (eVar 0) aNil)))
      (sSeq (sDrop (eCall F_need_pack (aCons (eVar 0) (aCons (eVar 1) aNil))))
      (sSeq (sIf (cNot (cB (eCall F_is_within (aCons (eVar 2) (aCons (eC (.int 0)) (aCons (eOp dSub (eUn (dFld "Plan" "own_days") (eVar 0)) (eC (.int 1))) aNil)))))) (sRaise "BadDay" "day" (aCons (eVar 2) aNil)) sNext)
      (sRet (eCall F_later_slots (aCons (eVar 0) (aCons (eVar 1) (aCons (eVar 2) aNil))))))))
def F_slots_from : List D → Out D := fnN 3 S_slots_from
theorem okS_slots_from (T : Tx P w K mg base) : GOkS P w K mg base 3 "slots_from" s_slots_from ["plan", "name", "day"] (spFN K false 3 F_slots_from) := by
  exact GFun.simN (k := 2) (ψ := S_slots_from) T.d_slots_from sc_slots_from (fun f cdv A outer s H E C hl hr => ⟨_, (pss_cons (ps_expr (pe_g (ok_need_plan T) (hr.mono (by decide)) (by rfl) (passes_call (takes_of rfl rfl rfl rfl) (fun _ _ _ _ h => h)) (pa_cons (pv 0) pa_nil)))
      (pss_cons (ps_expr (pe_g (ok_need_pack T) (hr.mono (by decide)) (by rfl) (passes_call (takes_of rfl rfl rfl rfl) (fun _ _ _ _ h => h)) (pa_cons (pv 0) (pa_cons (pv 1) pa_nil))))
      (pss_cons (ps_if (pt_not (pt_val (pe_g (ok_is_within T) (hr.mono (by decide)) (by rfl) (passes_call (takes_of rfl rfl rfl rfl) (fun _ _ _ _ h => h)) (pa_cons (pv 2) (pa_cons pe_int (pa_cons (pe_op op_sub (pe_fld (pv 0) rfl) pe_int) pa_nil)))))) (pss_one (ps_raise rfl (takes_of rfl rfl rfl rfl) (pmk_sup T.s_BadDay T.g_BadDay hr (by rfl) (pa_cons (pv 2) pa_nil)))) pss_nil)
      (pss_one (ps_ret (pe_g (ok_later_slots T) (hr.mono (by decide)) (by rfl) (passes_call (takes_of rfl rfl rfl rfl) (fun _ _ _ _ h => h)) (pa_cons (pv 0) (pa_cons (pv 1) (pa_cons (pv 2) pa_nil))))))))), [], [], [],
    (ss_seq (ss_drop ((sm_call (fun h => Bool.noConfusion h) (sa_cons (sm_var rfl) sa_nil))).v)
      (ss_seq (ss_drop ((sm_call (fun h => Bool.noConfusion h) (sa_cons (sm_var rfl) (sa_cons (sm_var rfl) sa_nil)))).v)
      (ss_seq (ss_if (st_not (st_B ((sm_call (fun h => Bool.noConfusion h) (sa_cons (sm_var rfl) (sa_cons sm_int (sa_cons (sm_op sr_sub ((sm_fld T.cl_Plan T.na_Plan_own_days ((sm_var rfl)).v)).v (sm_int).v) sa_nil))))).v)) (ss_raise T.ox_BadDay (sa_cons (sm_var rfl) sa_nil)) ss_next)
      (ss_retNw (sn_call (fun h => Bool.noConfusion h) (sa_cons (sm_var rfl) (sa_cons (sm_var rfl) (sa_cons (sm_var rfl) sa_nil))))))))⟩)
theorem ok_slots_from (T : Tx P w K mg base) : GOk P w K mg base 3 "slots_from" ["plan", "name", "day"] (spFN K false 3 F_slots_from) := (okS_slots_from T).ok (fun _ _ _ _ _ _ us hl => match us, hl with | [_, _, _], _ => rfl)
def S_in_common : Rho → Out Res := (sRet (eLc (iOf itemsT (eCall F_slots_of (aCons (eVar 0) (aCons (eVar 1) aNil)))) (gN 3) (cB (eOp dIn (eVar 3) (eCall F_slots_of (aCons (eVar 0) (aCons (eVar 2) aNil))))) (eVar 3)))
def F_in_common : List D → Out D := fnD 4 S_in_common
theorem ok_in_common (T : Tx P w K mg base) : GOk P w K mg base 2 "in_common" ["plan", "one", "other"] (spF K false 3 F_in_common) :=
  GFun.sim (k := 1) (ψ := S_in_common) T.d_in_common sc_in_common (fun _ _ _ _ _ _ us hl => match us, hl with | [_, _, _], _ => rfl) (fun f cdv A outer s H E C hl hr => ⟨_, (pss_one (ps_ret (pe_lc (own := [("slot", 3)]) (by rfl) sc_in_common.nd (pi_tup (pe_g (ok_slots_of T) (hr.mono (by decide)) (by rfl) (passes_call (takes_of rfl rfl rfl rfl) (fun _ _ _ _ h => h)) (pa_cons (pv 0) (pa_cons (pv 1) pa_nil)))) (blkOk_by (own := [("slot", 3)]) (N := N_in_common) (sc := defScope s_in_common) (by decide +kernel)) (fun _ _ _ _ _ => (pg_name (i := 3) sc_in_common.nd rfl (Or.inl rfl))) (fun _ _ _ _ _ => (pts_one (pt_cmpR (op_inAK K rfl (u65 hr)) (pv 3) (pe_g (ok_slots_of T) (hr.mono (by decide)) (by rfl) passL (pa_cons (pv 0) (pa_cons (pv 2) pa_nil))) (by rfl)))) (fun _ _ _ _ _ => (pv 3))))), [], [], [],
    (ss_ret ((sn_lc (si_tup (sm_call (fun h => Bool.noConfusion h) (sa_cons (sm_var rfl) (sa_cons (sm_var rfl) sa_nil)))) (by decide) sg_name (st_test ((sm_op sr_inA ((sm_var rfl)).v ((sm_call (fun h => Bool.noConfusion h) (sa_cons (sm_var rfl) (sa_cons (sm_var rfl) sa_nil)))).v)).v) (sm_var rfl))).e)⟩)
def S_day_first : Rho → Out Res := (sRet (eTup (aCons (eOp dIx (eVar 0) (eC (.int 1))) (aCons (eOp dIx (eVar 0) (eC (.int 0))) aNil))))
theorem swd_day_first (T : Tx P w K mg base) : ∃ f, SwapDef K "day_first" s_day_first f "slot" ∧ mg "day_first" = some (.ref f) := by
  obtain ⟨f, fd, F, hm⟩ := T.d_day_first.ex
  exact ⟨f, ⟨⟨fd, F⟩, sc_day_first, ⟨_, _, _, _, _, _, _, _, _, _, _, rfl⟩, rfl, by decide, (fun _ _ _ _ _ _ us hl => match us, hl with | [_], _ => rfl)⟩, hm⟩
def F_day_first : List D → Out D := fnD 1 S_day_first
theorem ok_day_first (T : Tx P w K mg base) : GOk P w K mg base 1 "day_first" ["slot"] (spF K false 1 F_day_first) :=
  GFun.sim (k := 0) (ψ := S_day_first) T.d_day_first sc_day_first (fun _ _ _ _ _ _ us hl => match us, hl with | [_], _ => rfl) (fun f cdv A outer s H E C hl hr => ⟨_, (pss_one (ps_ret (pe_tupF (pa_cons (pe_ix ix_seq (pv 0) pe_int (fun _ _ => rfl)) (pa_cons (pe_ix ix_seq (pv 0) pe_int (fun _ _ => rfl)) pa_nil))))), [], [], [],
    (ss_ret (sm_tup (sa_cons (sm_op sr_ix ((sm_var rfl)).v (sm_int).v) (sa_cons (sm_op sr_ix ((sm_var rfl)).v (sm_int).v) sa_nil))))⟩)
def S_shared : Rho → Out Res := (sSeq (sDrop (eCall F_need_plan (aCons (eVar 0) aNil)))
      (sSeq (sDrop (eCall F_need_pack (aCons (eVar 0) (aCons (eVar 1) aNil))))
      (sSeq (sDrop (eCall F_need_pack (aCons (eVar 0) (aCons (eVar 2) aNil))))
      (sRet (eUn dSortW (eCall F_in_common (aCons (eVar 0) (aCons (eVar 1) (aCons (eVar 2) aNil)))))))))
def F_shared : List D → Out D := fnN 3 S_shared
theorem okS_shared (T : Tx P w K mg base) : GOkS P w K mg base 3 "shared" s_shared ["plan", "one", "other"] (spFN K false 3 F_shared) := by
  obtain ⟨f_day_first, sw_day_first⟩ := swd_day_first T
  exact GFun.simN (k := 2) (ψ := S_shared) T.d_shared sc_shared (fun f cdv A outer s H E C hl hr => ⟨_, (pss_cons (ps_expr (pe_g (ok_need_plan T) (hr.mono (by decide)) (by rfl) (passes_call (takes_of rfl rfl rfl rfl) (fun _ _ _ _ h => h)) (pa_cons (pv 0) pa_nil)))
      (pss_cons (ps_expr (pe_g (ok_need_pack T) (hr.mono (by decide)) (by rfl) (passes_call (takes_of rfl rfl rfl rfl) (fun _ _ _ _ h => h)) (pa_cons (pv 0) (pa_cons (pv 1) pa_nil))))
      (pss_cons (ps_expr (pe_g (ok_need_pack T) (hr.mono (by decide)) (by rfl) (passes_call (takes_of rfl rfl rfl rfl) (fun _ _ _ _ h => h)) (pa_cons (pv 0) (pa_cons (pv 2) pa_nil))))
      (pss_one (ps_ret (pe_callBK (cr_sortW sw_day_first.1 hr) (by rfl) T.n_sorted (by decide +kernel) (pa_cons (pe_g (ok_in_common T) (hr.mono (by decide)) (by rfl) (passes_call (takes_of rfl rfl rfl rfl) (fun _ _ _ _ h => h)) (pa_cons (pv 0) (pa_cons (pv 1) (pa_cons (pv 2) pa_nil)))) pa_nil) (pk_cons (pe_glob (v := .ref f_day_first) (by rfl) sw_day_first.2 rfl) pk_nil))))))), [], [], [],
    (ss_seq (ss_drop ((sm_call (fun h => Bool.noConfusion h) (sa_cons (sm_var rfl) sa_nil))).v)
      (ss_seq (ss_drop ((sm_call (fun h => Bool.noConfusion h) (sa_cons (sm_var rfl) (sa_cons (sm_var rfl) sa_nil)))).v)
      (ss_seq (ss_drop ((sm_call (fun h => Bool.noConfusion h) (sa_cons (sm_var rfl) (sa_cons (sm_var rfl) sa_nil)))).v)
      (ss_retNw (sn_sortW ((sm_call (fun h => Bool.noConfusion h) (sa_cons (sm_var rfl) (sa_cons (sm_var rfl) (sa_cons (sm_var rfl) sa_nil))))).v)))))⟩)
theorem ok_shared (T : Tx P w K mg base) : GOk P w K mg base 3 "shared" ["plan", "one", "other"] (spFN K false 3 F_shared) := (okS_shared T).ok (fun _ _ _ _ _ _ us hl => match us, hl with | [_, _, _], _ => rfl)
end
end ND
/-! plain laws: ground -/
namespace ND
open PySem PySem.Spec PyProof.Rows L2
/-! ### texts in order -/
theorem lt_irr : ∀ a : List Nat, ltCps a a = false
  | [] => rfl
  | x :: r => by unfold ltCps; simp [lt_irr r]
theorem lt_tri : ∀ {a b : List Nat}, ltCps a b = false → ltCps b a = false → a = b
  | [], [], _, _ => rfl
  | [], _ :: _, h, _ => by cases h
  | _ :: _, [], _, h => by cases h
  | x :: r, y :: t, h, h' => by
    unfold ltCps at h h'
    simp only [Bool.or_eq_false_iff, Bool.and_eq_false_iff, decide_eq_false_iff_not, beq_eq_false_iff_ne] at h h'
    have e : x = y := by omega
    subst e
    rw [lt_tri (h.2.resolve_left (fun z => z rfl)) (h'.2.resolve_left (fun z => z rfl))]
theorem lt_tr : ∀ {a b c : List Nat}, ltCps a b = true → ltCps b c = true → ltCps a c = true
  | [], [], _, h, _ => by cases h
  | [], _ :: _, [], _, h => by cases h
  | [], _ :: _, _ :: _, _, _ => rfl
  | _ :: _, [], _, h, _ => by cases h
  | _ :: _, _ :: _, [], _, h => by cases h
  | x :: r, y :: t, z :: u, h, h' => by
    unfold ltCps at h h' ⊢
    simp only [Bool.or_eq_true, Bool.and_eq_true, decide_eq_true_eq, beq_iff_eq] at h h' ⊢
    rcases h with h | ⟨rfl, h⟩ <;> rcases h' with h' | ⟨rfl, h'⟩
    · left; omega
    · left; exact h
    · left; exact h'
    · right; exact ⟨rfl, lt_tr h h'⟩
/-- a stands not behind b -/
def leS (a b : Str) : Prop := ltCps b.cps.toList a.cps.toList = false
theorem leS_anti {a b : Str} (h : leS a b) (h' : leS b a) : a = b := by
  have e := lt_tri h' h
  obtain ⟨x⟩ := a
  obtain ⟨y⟩ := b
  have : x = y := Array.toList_inj.mp e
  rw [this]
theorem leS_trans {a b c : Str} (h : leS a b) (h' : leS b c) : leS a c := by
  unfold leS at *
  cases q : ltCps c.cps.toList a.cps.toList with
  | false => rfl
  | true =>
    cases q2 : ltCps a.cps.toList b.cps.toList with
    | true =>
      have := lt_tr q q2
      rw [h'] at this
      cases this
    | false =>
      have e := lt_tri q2 h
      rw [e] at q
      rw [h'] at q
      cases q
theorem rising_all : ∀ {p : Str} {r : List Str}, risingS p r = true → ∀ x ∈ r, leS p x
  | p, y :: r, h, x, hx => by
    unfold risingS at h
    rw [Bool.and_eq_true, Bool.not_eq_true'] at h
    rcases List.mem_cons.mp hx with rfl | hx
    · exact h.1
    · exact leS_trans (b := y) h.1 (rising_all h.2 x hx)
theorem rising_sorted {p : Str} {r : List Str} (h : risingS p r = true) : sortedS r = true := by
  cases r with
  | nil => rfl
  | cons y r =>
    unfold risingS at h
    rw [Bool.and_eq_true] at h
    exact h.2
theorem sort_uniq : ∀ {xs ys : List Str}, xs.Perm ys → sortedS xs = true → sortedS ys = true → xs = ys
  | [], ys, h, _, _ => by rw [List.nil_perm.mp h]
  | x :: xs, [], h, _, _ => by cases (List.perm_nil.mp h)
  | x :: xs, y :: ys, h, h1, h2 => by
    have e : x = y := by
      have m1 : x ∈ y :: ys := h.subset List.mem_cons_self
      have m2 : y ∈ x :: xs := h.symm.subset List.mem_cons_self
      rcases List.mem_cons.mp m1 with e | m1
      · exact e
      · rcases List.mem_cons.mp m2 with e | m2
        · exact e.symm
        · exact leS_anti (rising_all h1 y m2) (rising_all h2 x m1)
    subst e
    rw [sort_uniq ((List.perm_cons x).mp h) (rising_sorted h1) (rising_sorted h2)]
/-! ### what an outcome is, at a cost of c -/
namespace Out
variable {α β : Type}
structure sp (o : Out α) (c : Nat) (Q : α → Prop) (X : Str → List (Str × D) → Prop) : Prop where
  h : ∀ n, o.wp (n + c) (fun m a => n ≤ m ∧ Q a) (fun m e fs => n ≤ m ∧ X e fs)
theorem sp_ok {a : α} {c : Nat} {Q : α → Prop} {X : Str → List (Str × D) → Prop} (h : Q a) : (Out.ok a).sp c Q X := ⟨fun n => ⟨Nat.le_add_right _ _, h⟩⟩
theorem sp_exc {c : Nat} {e : Str} {fs : List (Str × D)} {Q : α → Prop} {X : Str → List (Str × D) → Prop} (h : X e fs) : (Out.exc e fs : Out α).sp c Q X := ⟨fun n => ⟨Nat.le_add_right _ _, h⟩⟩
theorem sp_any {k c : Nat} {P : D → Prop} {f : D → Out α} {Q : α → Prop} {X : Str → List (Str × D) → Prop} (h : ∀ d, P d → (f d).sp c Q X) : (Out.any k P f).sp (k + c) Q X := ⟨fun n => ⟨n + c, by omega, fun d hd => (h d hd).h n⟩⟩
theorem wp_up {Q Q' : Nat → α → Prop} {E E' : Nat → Str → List (Str × D) → Prop} : ∀ {o : Out α} {n k : Nat}, o.wp n Q E → (∀ m a, Q m a → Q' (m + k) a) → (∀ m c fs, E m c fs → E' (m + k) c fs) → o.wp (n + k) Q' E'
  | .ok a, n, k, h, hq, _ => hq _ _ h
  | .exc c fs, n, k, h, _, he => he _ _ _ h
  | .stuck, _, _, h, _, _ => h.elim
  | .any c P f, n, k, h, hq, he => by
    obtain ⟨m, e, h⟩ := h
    exact ⟨m + k, by omega, fun d hd => wp_up (h d hd) hq he⟩
theorem sp_bind {o : Out α} {f : α → Out β} {c1 c2 : Nat} {Q : β → Prop} {X : Str → List (Str × D) → Prop} (h : o.sp c1 (fun a => (f a).sp c2 Q X) X) : (o.bind f).sp (c1 + c2) Q X := by
  constructor
  intro n
  refine bind_wp (wp_mono (fun m a k => ?_) (fun m e fs k => ?_) (by have := h.h (n + c2); rw [show n + (c1 + c2) = n + c2 + c1 by omega]; exact this))
  · obtain ⟨l, k⟩ := k
    obtain ⟨j, rfl⟩ : ∃ j, m = n + c2 + j := ⟨m - (n + c2), by omega⟩
    have := wp_up (k := j) (k.h n) (Q' := fun m a => n ≤ m ∧ Q a) (E' := fun m e fs => n ≤ m ∧ X e fs) (fun m a z => ⟨by omega, z.2⟩) (fun m e fs z => ⟨by omega, z.2⟩)
    exact this
  · exact ⟨by omega, k.2⟩
theorem sp_mono {o : Out α} {c c' : Nat} {Q Q' : α → Prop} {X X' : Str → List (Str × D) → Prop} (h : o.sp c Q X) (hc : c ≤ c') (hq : ∀ a, Q a → Q' a) (hx : ∀ e fs, X e fs → X' e fs) : o.sp c' Q' X' := by
  constructor
  intro n
  obtain ⟨j, rfl⟩ : ∃ j, c' = c + j := ⟨c' - c, by omega⟩
  rw [show n + (c + j) = n + c + j by omega]
  exact wp_up (h.h n) (fun m a z => ⟨by omega, hq _ z.2⟩) (fun m e fs z => ⟨by omega, hx _ _ z.2⟩)
theorem sp_q {o : Out α} {c : Nat} {Q Q' : α → Prop} {X : Str → List (Str × D) → Prop} (h : o.sp c Q X) (hq : ∀ a, Q a → Q' a) : o.sp c Q' X := sp_mono h (Nat.le_refl _) hq fun _ _ z => z
theorem sp_nox {o : Out α} {c : Nat} {Q : α → Prop} {X : Str → List (Str × D) → Prop} (h : o.sp c Q fun _ _ => False) : o.nox.sp c Q X := by
  constructor
  intro n
  have key : ∀ {o : Out α} {n : Nat} {Q : Nat → α → Prop} {E : Nat → Str → List (Str × D) → Prop}, o.wp n Q (fun _ _ _ => False) → o.nox.wp n Q E := by
    intro o
    induction o with
    | ok a => exact fun h => h
    | exc c fs => exact fun h => h.elim
    | stuck => exact fun h => h.elim
    | any c P k ih =>
      intro n Q E h
      obtain ⟨m, e, h⟩ := h
      exact ⟨m, e, fun d hd => ih d (h d hd)⟩
  exact key (wp_mono (fun _ _ z => z) (fun _ _ _ z => z.2.elim) (h.h n))
theorem sp_eq {o o' : Out α} {c : Nat} {Q : α → Prop} {X : Str → List (Str × D) → Prop} (e : o = o') (h : o'.sp c Q X) : o.sp c Q X := e ▸ h
/-- two steps, the costs known -/
theorem sp_then {o : Out α} {f : α → Out β} {c1 c : Nat} {P : α → Prop} {Q : β → Prop} {X : Str → List (Str × D) → Prop} (h : o.sp c1 P X) (hc : c1 ≤ c) (k : ∀ a, P a → (f a).sp (c - c1) Q X) : (o.bind f).sp c Q X := by
  have := sp_bind (c2 := c - c1) (sp_q h k)
  rw [show c1 + (c - c1) = c by omega] at this
  exact this
end Out
/-- loops whose body neither leaves nor raises -/
theorem forD_sp {γ : D → Rho → Option Rho} {b : Rho → Out Res} {P : Rho → Prop} {c : Nat} {X : Str → List (Str × D) → Prop} : ∀ {ds : List D}, (∀ x ∈ ds, ∀ ρ, P ρ → ∃ ρ1, γ x ρ = some ρ1 ∧ (b ρ1).sp c (fun r => ∃ ρ2, r = .nx ρ2 ∧ P ρ2) X) → ∀ ρ, P ρ → (forD γ b ds ρ).sp (c * ds.length) (fun r => ∃ ρ2, r = .nx ρ2 ∧ P ρ2) X
  | [], _, ρ, h => Out.sp_ok ⟨ρ, rfl, h⟩
  | x :: xs, h, ρ, hp => by
    obtain ⟨ρ1, e, hb⟩ := h x List.mem_cons_self ρ hp
    unfold forD
    simp only [e]
    rw [List.length_cons, Nat.mul_succ, Nat.add_comm]
    refine Out.sp_bind (Out.sp_q hb ?_)
    rintro r ⟨ρ2, rfl, hp2⟩
    exact forD_sp (fun y hy => h y (List.mem_cons_of_mem _ hy)) ρ2 hp2
theorem law_of_sp {N : Nat} {ψ : Rho → Out Res} {c : Nat} (hc : c ≤ budget) (h : ∀ ns : List Int, ns.length ≤ 63 → (ψ (rho0 N ns)).sp c (fun r => r = .rt (.bl true)) (fun _ _ => False)) : LawD N ψ := fun ns hl => by
  have := (h ns hl).h (budget - c)
  rw [show budget - c + c = budget by omega] at this
  refine Out.wp_mono (fun m r k => ?_) (fun _ _ _ z => z.2) this
  rw [k.2]
end ND
namespace ND
open PySem PySem.Spec PyProof.Rows L2
/-! ### comprehensions -/
theorem lc_map {γ : D → Rho → Option Rho} {b : Rho → Out D} {ρ : Rho} {f : D → D} : ∀ {ds : List D}, (∀ x ∈ ds, ∃ ρ1, γ x ρ = some ρ1 ∧ b ρ1 = .ok (f x)) → lcD γ cYes b ρ ds = .ok (ds.map f)
  | [], _ => rfl
  | x :: ds, h => by
    obtain ⟨ρ1, e1, e2⟩ := h x List.mem_cons_self
    unfold lcD
    simp only [e1, e2, cYes, Out.nox_ok, Out.ok_bind, cond_true]
    rw [lc_map fun y hy => h y (List.mem_cons_of_mem _ hy)]
    rfl
theorem boolsD_true {xs : List D} (h : ∀ x ∈ xs, x = .bl true) : boolsD xs = some (List.replicate xs.length true) := by
  induction xs with
  | nil => rfl
  | cons x xs ih =>
    rw [h x List.mem_cons_self]
    show (boolsD xs).map _ = _
    rw [ih fun y hy => h y (List.mem_cons_of_mem _ hy)]
    rfl
theorem dAll_true {xs : List D} (h : ∀ x ∈ xs, x = .bl true) : dAll [.lst xs] = .ok (.bl true) := by
  show (match boolsD xs with | some bs => _ | none => _) = _
  rw [boolsD_true h]
  simp
/-! ### numbers, names -/
def isInt : D → Bool
  | .int _ => true
  | _ => false
theorem is_number_eq {d : D} (h : d ≠ .drw) : F_is_number [d] = .ok (.bl (isInt d)) := by
  cases d <;> first | rfl | exact absurd rfl h
theorem is_within_int {i a b : Int} : F_is_within [.int i, .int a, .int b] = .ok (.bl (decide (a ≤ i) && decide (i ≤ b))) := by
  unfold F_is_within S_is_within
  simp only [fnD, sSeq, sIf, sRet, sRetN, sDrop, sSet, sNext, sRaise, eVar, eC, eOp, eUn, eCall, eAnd, eOr, eNot, eIf, eChain, eTup, eLst, eLc, iOf, cB, cNot, cAnd, cOr, aNil, aCons, gN, Out.ok_bind, Out.exc_bind, Out.nox_ok, boD_some, List.cons_append, List.nil_append, List.append_nil, List.length_cons, List.length_nil, List.replicate, List.getD_cons_zero, List.getD_cons_succ, List.set_cons_zero, List.set_cons_succ, Nat.reduceAdd, Nat.reduceSub, Nat.reduceLeDiff, List.replicate_succ, List.replicate_zero, cond_true, cond_false, Bool.not_true, Bool.not_false, is_number_eq, isInt, dLe, d2I]
  rw [is_number_eq (by intro z; cases z)]
  simp only [fnD, sSeq, sIf, sRet, sRetN, sDrop, sSet, sNext, sRaise, eVar, eC, eOp, eUn, eCall, eAnd, eOr, eNot, eIf, eChain, eTup, eLst, eLc, iOf, cB, cNot, cAnd, cOr, aNil, aCons, gN, Out.ok_bind, Out.exc_bind, Out.nox_ok, boD_some, List.cons_append, List.nil_append, List.append_nil, List.length_cons, List.length_nil, List.replicate, List.getD_cons_zero, List.getD_cons_succ, List.set_cons_zero, List.set_cons_succ, Nat.reduceAdd, Nat.reduceSub, Nat.reduceLeDiff, List.replicate_succ, List.replicate_zero, cond_true, cond_false, Bool.not_true, Bool.not_false, isInt]
  cases h : decide (a ≤ i) <;> rfl
theorem is_within_no {d : D} {a b : Int} (h : d ≠ .drw) (hn : isInt d = false) : F_is_within [d, .int a, .int b] = .ok (.bl false) := by
  unfold F_is_within S_is_within
  simp only [fnD, sSeq, sIf, sRet, sRetN, sDrop, sSet, sNext, sRaise, eVar, eC, eOp, eUn, eCall, eAnd, eOr, eNot, eIf, eChain, eTup, eLst, eLc, iOf, cB, cNot, cAnd, cOr, aNil, aCons, gN, Out.ok_bind, Out.exc_bind, Out.nox_ok, boD_some, List.cons_append, List.nil_append, List.append_nil, List.length_cons, List.length_nil, List.replicate, List.getD_cons_zero, List.getD_cons_succ, List.set_cons_zero, List.set_cons_succ, Nat.reduceAdd, Nat.reduceSub, Nat.reduceLeDiff, List.replicate_succ, List.replicate_zero, cond_true, cond_false, Bool.not_true, Bool.not_false]
  rw [is_number_eq h, hn]
  simp only [fnD, sSeq, sIf, sRet, sRetN, sDrop, sSet, sNext, sRaise, eVar, eC, eOp, eUn, eCall, eAnd, eOr, eNot, eIf, eChain, eTup, eLst, eLc, iOf, cB, cNot, cAnd, cOr, aNil, aCons, gN, Out.ok_bind, Out.exc_bind, Out.nox_ok, boD_some, List.cons_append, List.nil_append, List.append_nil, List.length_cons, List.length_nil, List.replicate, List.getD_cons_zero, List.getD_cons_succ, List.set_cons_zero, List.set_cons_succ, Nat.reduceAdd, Nat.reduceSub, Nat.reduceLeDiff, List.replicate_succ, List.replicate_zero, cond_true, cond_false, Bool.not_true, Bool.not_false]
theorem is_name_ok {z : Str} (h : NameOk z) : F_is_name [.str z] = .ok (.bl true) := by
  unfold F_is_name S_is_name
  have e1 : decide ((1 : Int) ≤ (z.length : Nat)) = true := decide_eq_true (by have := h.1; omega)
  have e2 : decide (((z.length : Nat) : Int) ≤ 6) = true := decide_eq_true (by have := h.2.1; omega)
  have e3 : isTyS (tyOfD (.str z)) "str" = true := rfl
  have e4 : lcD (gN 1) cYes (eOp (dInS false) (eVar 1) (eC (D.str (Str.ofString "abcdefghijklmnopqrstuvwxyz")))) [.str z, .non] (signs z) = .ok ((signs z).map fun _ => .bl true) := by
    refine lc_map fun x hx => ⟨_, rfl, ?_⟩
    obtain ⟨c, hc, rfl⟩ := List.mem_map.mp hx
    have hm := h.2.2 c hc
    simp only [fnD, sSeq, sIf, sRet, sRetN, sDrop, sSet, sNext, sRaise, eVar, eC, eOp, eUn, eCall, eAnd, eOr, eNot, eIf, eChain, eTup, eLst, eLc, iOf, cB, cNot, cAnd, cOr, aNil, aCons, gN, Out.ok_bind, Out.exc_bind, Out.nox_ok, boD_some, List.cons_append, List.nil_append, List.append_nil, List.length_cons, List.length_nil, List.replicate, List.getD_cons_zero, List.getD_cons_succ, List.set_cons_zero, List.set_cons_succ, Nat.reduceAdd, Nat.reduceSub, Nat.reduceLeDiff, List.replicate_succ, List.replicate_zero, cond_true, cond_false, Bool.not_true, Bool.not_false, dInS]
    show Out.ok (D.bl (false ^^ decide (c ∈ (Str.ofString "abcdefghijklmnopqrstuvwxyz").cps.toList))) = _
    rw [decide_eq_true (show c ∈ (Str.ofString "abcdefghijklmnopqrstuvwxyz").cps.toList from hm)]
    rfl
  simp only [fnD, sSeq, sIf, sRet, sRetN, sDrop, sSet, sNext, sRaise, eVar, eC, eOp, eUn, eCall, eAnd, eOr, eNot, eIf, eChain, eTup, eLst, eLc, iOf, cB, cNot, cAnd, cOr, aNil, aCons, gN, Out.ok_bind, Out.exc_bind, Out.nox_ok, boD_some, List.cons_append, List.nil_append, List.append_nil, List.length_cons, List.length_nil, List.replicate, List.getD_cons_zero, List.getD_cons_succ, List.set_cons_zero, List.set_cons_succ, Nat.reduceAdd, Nat.reduceSub, Nat.reduceLeDiff, List.replicate_succ, List.replicate_zero, cond_true, cond_false, Bool.not_true, Bool.not_false, dIsTyB, dLen, dLe, d2I, e1, e2, e3, itemsS, e4]
  rw [dAll_true fun x hx => by obtain ⟨_, _, rfl⟩ := List.mem_map.mp hx; rfl]
  rfl
/-! ### slots -/
theorem ix0 {a b : D} : dIx (.tup [a, b]) (.int 0) = .ok a := rfl
theorem ix1 {a b : D} : dIx (.tup [a, b]) (.int 1) = .ok b := rfl
theorem eqInt (i j : Int) : dEq (.int i) (.int j) = .ok (.bl (decide (i = j))) := by
  by_cases h : i = j
  · subst h
    rw [decide_eq_true rfl]
    show Out.ok (D.bl (dEqB (.int i) (.int i))) = _
    congr 2
    unfold dEqB
    simp [D.py, PyData.eqv]
  · rw [decide_eq_false h]
    show Out.ok (D.bl (dEqB (.int i) (.int j))) = _
    congr 2
    unfold dEqB
    simp [D.py, PyData.eqv, h]
theorem is_slot_ok {s : Spot} (h : NameOk s.1) (h0 : 0 ≤ s.2) (h1 : s.2 ≤ 3) : F_is_slot [encSpot s] = .ok (.bl true) := by
  unfold F_is_slot S_is_slot encSpot
  have e1 : decide ((0 : Int) ≤ s.2) = true := decide_eq_true h0
  have e2 : decide (s.2 ≤ 3) = true := decide_eq_true h1
  have e3 : isTyS (tyOfD (.tup [D.str s.1, D.int s.2])) "tuple" = true := rfl
  have e4 : dSub (.int 4) (.int 1) = .ok (.int 3) := rfl
  have e5 : dEq (.int ((2 : Nat) : Int)) (.int 2) = .ok (.bl true) := eqInt _ _
  simp only [fnD, sSeq, sIf, sRet, sRetN, sDrop, sSet, sNext, sRaise, eVar, eC, eOp, eUn, eCall, eAnd, eOr, eNot, eIf, eChain, eTup, eLst, eLc, iOf, cB, cNot, cAnd, cOr, aNil, aCons, gN, Out.ok_bind, Out.exc_bind, Out.nox_ok, boD_some, List.cons_append, List.nil_append, List.append_nil, List.length_cons, List.length_nil, List.replicate, List.getD_cons_zero, List.getD_cons_succ, List.set_cons_zero, List.set_cons_succ, Nat.reduceAdd, Nat.reduceSub, Nat.reduceLeDiff, List.replicate_succ, List.replicate_zero, cond_true, cond_false, Bool.not_true, Bool.not_false, dIsTyB, dLen, e3, e5, ix0, ix1, is_name_ok h, e4, is_within_int, e1, e2, Bool.and_self]
theorem tkeys_spot (s : Spot) : tkeys [.str s.1, .int s.2] = some [.inr s.1, .inl s.2] := rfl
theorem tkeysL_spots : ∀ ss : List Spot, tkeysL (ss.map encSpot) = some (ss.map fun s => [Sum.inr s.1, Sum.inl s.2])
  | [] => rfl
  | s :: ss => by
    show (tkeys [.str s.1, .int s.2]).bind (fun k => (tkeysL (ss.map encSpot)).map fun ks => k :: ks) = _
    rw [tkeysL_spots ss]
    rfl
/-- slots that Pack takes -/
structure SlotsOk (ss : List Spot) : Prop where
  l1 : 1 ≤ ss.length
  l2 : ss.length ≤ 12
  ok : ∀ s ∈ ss, NameOk s.1 ∧ 0 ≤ s.2 ∧ s.2 ≤ 3
  nd : ss.Nodup
theorem are_slots_ok {ss : List Spot} (h : SlotsOk ss) : (F_are_slots [.lst (ss.map encSpot)]).sp 0 (fun d => d = .bl true) (fun _ _ => False) := by
  unfold F_are_slots S_are_slots
  have hl : F_is_list [.lst (ss.map encSpot)] = .ok (.bl true) := rfl
  have e1 : decide ((1 : Int) ≤ ((ss.map encSpot).length : Nat)) = true := decide_eq_true (by rw [List.length_map]; have := h.l1; omega)
  have e2 : decide ((((ss.map encSpot).length : Nat) : Int) ≤ 12) = true := decide_eq_true (by rw [List.length_map]; have := h.l2; omega)
  have e4 : lcD (gN 1) cYes (eCall F_is_slot (aCons (eVar 1) aNil)) [.lst (ss.map encSpot), .non] (ss.map encSpot) = .ok ((ss.map encSpot).map fun _ => .bl true) := by
    refine lc_map fun x hx => ⟨_, rfl, ?_⟩
    obtain ⟨s, hs, rfl⟩ := List.mem_map.mp hx
    obtain ⟨k1, k2, k3⟩ := h.ok s hs
    simp only [fnD, sSeq, sIf, sRet, sRetN, sDrop, sSet, sNext, sRaise, eVar, eC, eOp, eUn, eCall, eAnd, eOr, eNot, eIf, eChain, eTup, eLst, eLc, iOf, cB, cNot, cAnd, cOr, aNil, aCons, gN, Out.ok_bind, Out.exc_bind, Out.nox_ok, boD_some, List.cons_append, List.nil_append, List.append_nil, List.length_cons, List.length_nil, List.replicate, List.getD_cons_zero, List.getD_cons_succ, List.set_cons_zero, List.set_cons_succ, Nat.reduceAdd, Nat.reduceSub, Nat.reduceLeDiff, List.replicate_succ, List.replicate_zero, cond_true, cond_false, Bool.not_true, Bool.not_false, is_slot_ok k1 k2 k3]
  have e5 : dAll [.lst ((ss.map encSpot).map fun _ => .bl true)] = .ok (.bl true) := dAll_true fun x hx => by obtain ⟨_, _, rfl⟩ := List.mem_map.mp hx; rfl
  simp only [fnD, sSeq, sIf, sRet, sRetN, sDrop, sSet, sNext, sRaise, eVar, eC, eOp, eUn, eCall, eAnd, eOr, eNot, eIf, eChain, eTup, eLst, eLc, iOf, cB, cNot, cAnd, cOr, aNil, aCons, gN, Out.ok_bind, Out.exc_bind, Out.nox_ok, boD_some, List.cons_append, List.nil_append, List.append_nil, List.length_cons, List.length_nil, List.replicate, List.getD_cons_zero, List.getD_cons_succ, List.set_cons_zero, List.set_cons_succ, Nat.reduceAdd, Nat.reduceSub, Nat.reduceLeDiff, List.replicate_succ, List.replicate_zero, cond_true, cond_false, Bool.not_true, Bool.not_false, hl, dLen, dLe, d2I, e1, e2, itemsQ, e4, e5, dSetLen, tkeysL_spots]
  have e6 : decide ((ss.map fun s => [Sum.inr (α := Int) s.1, Sum.inl s.2]).length < 64) = true := decide_eq_true (by rw [List.length_map]; have := h.l2; omega)
  simp only [e6, cond_true, Out.any_bind]
  refine Out.sp_any (c := 0) fun d hd => ?_
  obtain ⟨n, hn, hi, rfl⟩ := hd
  have nd : (ss.map fun s => [Sum.inr (α := Int) s.1, Sum.inl s.2]).Nodup := by
    refine List.Pairwise.map _ (fun a b hab z => hab ?_) h.nd
    have z1 := List.cons.inj z
    have z2 := List.cons.inj z1.2
    exact Prod.ext (Sum.inr.inj z1.1) (Sum.inl.inj z2.1)
  have en := hi.mpr nd
  rw [List.length_map] at en
  simp only [Out.ok_bind, eqInt, List.length_map, en]
  exact Out.sp_ok (by simp)
/-! ### packs -/
theorem canSort_spots (ss : List Spot) : canSort (ss.map encSpot) = true := by
  unfold canSort
  have key : ∀ x ∈ ss.map encSpot, ∃ s, x = encSpot s := fun x hx => by
    obtain ⟨s, _, rfl⟩ := List.mem_map.mp hx
    exact ⟨s, rfl⟩
  rw [Bool.and_eq_true, Bool.and_eq_true, Bool.or_eq_true, List.all_eq_true, List.all_eq_true]
  refine ⟨fun x hx => ?_, fun x hx => List.all_eq_true.mpr fun y hy => ?_, .inl (List.all_eq_true.mpr fun x hx => ?_)⟩
  · obtain ⟨s, rfl⟩ := key x hx
    rfl
  · obtain ⟨s, rfl⟩ := key x hx
    obtain ⟨t, rfl⟩ := key y hy
    rfl
  · obtain ⟨s, rfl⟩ := key x hx
    rfl
structure WareP (w : Ware) : Prop where
  sl : SlotsOk w.slots
  a0 : 0 ≤ w.amount
  a3 : w.amount ≤ 3
  co : ∀ c, w.cost = some c → 0 ≤ c ∧ c ≤ 99
  ro : ∀ r, w.roll = some r → NameOk r.1 ∧ 1 ≤ r.2 ∧ r.2 ≤ 3
def packD (w : Ware) : D := .ins "Pack" [("own_slots", .tup (sortD (w.slots.map encSpot))), ("own_amount", .int w.amount), ("own_cost", encOI w.cost), ("own_roll", encOS w.roll)]
theorem is_roll_ok {o : Option Spot} (h : ∀ r, o = some r → NameOk r.1 ∧ 1 ≤ r.2 ∧ r.2 ≤ 3) : F_is_roll [encOS o] = .ok (.bl true) := by
  cases o with
  | none => rfl
  | some r =>
    obtain ⟨k, h0, h1⟩ := h r rfl
    unfold F_is_roll S_is_roll encOS encSpot
    have e1 : decide ((1 : Int) ≤ r.2) = true := decide_eq_true h0
    have e2 : decide (r.2 ≤ 3) = true := decide_eq_true h1
    have e3 : isTyS (tyOfD (.tup [D.str r.1, D.int r.2])) "tuple" = true := rfl
    have e5 : dEq (.int ((2 : Nat) : Int)) (.int 2) = .ok (.bl true) := eqInt _ _
    have e6 : dIsN (.tup [D.str r.1, D.int r.2]) .non = .ok (.bl false) := rfl
    simp only [fnD, sSeq, sIf, sRet, sRetN, sDrop, sSet, sNext, sRaise, eVar, eC, eOp, eUn, eCall, eAnd, eOr, eNot, eIf, eChain, eTup, eLst, eLc, iOf, cB, cNot, cAnd, cOr, aNil, aCons, gN, Out.ok_bind, Out.exc_bind, Out.nox_ok, boD_some, List.cons_append, List.nil_append, List.append_nil, List.length_cons, List.length_nil, List.replicate, List.getD_cons_zero, List.getD_cons_succ, List.set_cons_zero, List.set_cons_succ, Nat.reduceAdd, Nat.reduceSub, Nat.reduceLeDiff, List.replicate_succ, List.replicate_zero, cond_true, cond_false, Bool.not_true, Bool.not_false, e6, dIsTyB, dLen, e3, e5, ix0, ix1, is_name_ok k, is_within_int, e1, e2, Bool.and_self]
theorem seq_nx {a b : Rho → Out Res} {ρ ρ' : Rho} (h : a ρ = .ok (.nx ρ')) : sSeq a b ρ = b ρ' := by
  unfold sSeq
  rw [h]
  rfl
theorem if_no {c : Rho → Out Bool} {a b : Rho → Out Res} {ρ : Rho} (h : c ρ = .ok false) : sIf c a b ρ = b ρ := by
  unfold sIf
  rw [h]
  rfl
theorem fld_nx {c f : Str} {a : Rho → Out D} {d : D} {fs : List (Str × D)} {ρ : Rho} (h : a (.ins c fs :: ρ) = .ok d) (hl : fs.length < 1000) : sFldS c f 0 a (.ins c fs :: ρ) = .ok (.nx (.ins c (putFD f d fs) :: ρ)) := by
  unfold sFldS
  rw [h]
  simp [hl]
theorem sp_seq0 {a b : Rho → Out Res} {ρ : Rho} {P : Rho → Prop} {Q : Res → Prop} {X : Str → List (Str × D) → Prop} (h : (a ρ).sp 0 (fun r => ∃ ρ', r = .nx ρ' ∧ P ρ') X) (k : ∀ ρ', P ρ' → (b ρ').sp 0 Q X) : (sSeq a b ρ).sp 0 Q X := by
  unfold sSeq
  refine Out.sp_then h (Nat.le_refl 0) fun r hr => ?_
  obtain ⟨ρ', rfl, hp⟩ := hr
  exact k ρ' hp
theorem sp_if0 {c : Rho → Out Bool} {a b : Rho → Out Res} {ρ : Rho} {Q : Res → Prop} {X : Str → List (Str × D) → Prop} (h : (c ρ).sp 0 (fun x => x = false) X) (k : (b ρ).sp 0 Q X) : (sIf c a b ρ).sp 0 Q X := by
  unfold sIf
  refine Out.sp_then h (Nat.le_refl 0) fun x hx => ?_
  subst hx
  exact k
theorem putFD_new {f : Str} {d : D} : ∀ {fs : List (Str × D)} (ks : List Str), fs.map (·.1) = ks → (ks.all fun g => !decide (g = f)) = true → putFD f d fs = fs ++ [(f, d)]
  | [], _, _, _ => rfl
  | (g, x) :: fs, _, rfl, h => by
    rw [List.map_cons, List.all_cons, Bool.and_eq_true] at h
    have hg : ¬ g = f := by simpa using h.1
    unfold putFD
    rw [if_neg hg, putFD_new _ rfl h.2]
    rfl
theorem sp_fld0 {c f : Str} {a : Rho → Out D} {d : D} {fs : List (Str × D)} {ρ : Rho} {X : Str → List (Str × D) → Prop} (ks : List Str) (hk : fs.map (·.1) = ks) (hf : (ks.all fun g => !decide (g = f)) = true) (hl : ks.length < 1000) (h : (a (.ins c fs :: ρ)).sp 0 (fun x => x = d) X) :
    (sFldS c f 0 a (.ins c fs :: ρ)).sp 0 (fun r => ∃ ρ', r = .nx ρ' ∧ ρ' = .ins c (fs ++ [(f, d)]) :: ρ) X := by
  unfold sFldS
  refine Out.sp_then h (Nat.le_refl 0) fun x hx => ?_
  subst hx
  have hl' : fs.length < 1000 := by rw [← hk, List.length_map] at hl; exact hl
  show (bif decide (c = c) && decide (fs.length < 1000) then Out.ok (Res.nx (.ins c (putFD f x fs) :: ρ)) else .stuck).sp _ _ _
  rw [decide_eq_true rfl, decide_eq_true hl', putFD_new ks hk hf]
  exact Out.sp_ok ⟨_, rfl, rfl⟩
theorem pack_body {w : Ware} {ρ : Rho} (h : WareP w) (hρ : ρ = [.lst (w.slots.map encSpot), .int w.amount, encOI w.cost, encOS w.roll]) : (S_Pack___init__ (.ins "Pack" [] :: ρ)).sp 0 (fun r => ∃ ρ', r = .nx ρ' ∧ ρ' = packD w :: ρ) (fun _ _ => False) := by
  have e1 : decide ((0 : Int) ≤ w.amount) = true := decide_eq_true h.a0
  have e2 : decide (w.amount ≤ 3) = true := decide_eq_true h.a3
  unfold S_Pack___init__
  refine sp_seq0 (P := fun ρ' => ρ' = .ins "Pack" [] :: ρ) (sp_if0 ?_ (Out.sp_ok ⟨_, rfl, rfl⟩)) fun ρ' e => ?_
  · subst hρ
    simp only [fnD, sSeq, sIf, sRet, sRetN, sDrop, sSet, sNext, sRaise, eVar, eC, eOp, eUn, eCall, eAnd, eOr, eNot, eIf, eChain, eTup, eLst, eLc, iOf, cB, cNot, cAnd, cOr, aNil, aCons, gN, Out.ok_bind, Out.exc_bind, Out.nox_ok, boD_some, List.cons_append, List.nil_append, List.append_nil, List.length_cons, List.length_nil, List.replicate, List.getD_cons_zero, List.getD_cons_succ, List.set_cons_zero, List.set_cons_succ, Nat.reduceAdd, Nat.reduceSub, Nat.reduceLeDiff, List.replicate_succ, List.replicate_zero, cond_true, cond_false, Bool.not_true, Bool.not_false, Out.bind_assoc]
    refine Out.sp_then (are_slots_ok h.sl) (Nat.le_refl 0) fun d hd => ?_
    subst hd
    exact Out.sp_ok rfl
  subst e
  refine sp_seq0 (P := fun ρ' => ρ' = .ins "Pack" [] :: ρ) (sp_if0 ?_ (Out.sp_ok ⟨_, rfl, rfl⟩)) fun ρ' e => ?_
  · subst hρ
    simp only [fnD, sSeq, sIf, sRet, sRetN, sDrop, sSet, sNext, sRaise, eVar, eC, eOp, eUn, eCall, eAnd, eOr, eNot, eIf, eChain, eTup, eLst, eLc, iOf, cB, cNot, cAnd, cOr, aNil, aCons, gN, Out.ok_bind, Out.exc_bind, Out.nox_ok, boD_some, List.cons_append, List.nil_append, List.append_nil, List.length_cons, List.length_nil, List.replicate, List.getD_cons_zero, List.getD_cons_succ, List.set_cons_zero, List.set_cons_succ, Nat.reduceAdd, Nat.reduceSub, Nat.reduceLeDiff, List.replicate_succ, List.replicate_zero, cond_true, cond_false, Bool.not_true, Bool.not_false, is_within_int, e1, e2, Bool.and_self]
    exact Out.sp_ok rfl
  subst e
  refine sp_seq0 (P := fun ρ' => ρ' = .ins "Pack" [] :: ρ) (sp_if0 ?_ (Out.sp_ok ⟨_, rfl, rfl⟩)) fun ρ' e => ?_
  · subst hρ
    cases hc : w.cost with
    | none => exact Out.sp_ok rfl
    | some c =>
      obtain ⟨c0, c1⟩ := h.co c hc
      have k1 : decide ((0 : Int) ≤ c) = true := decide_eq_true c0
      have k2 : decide (c ≤ 99) = true := decide_eq_true c1
      have k3 : dNotN (.int c) .non = .ok (.bl true) := rfl
      unfold encOI
      simp only [fnD, sSeq, sIf, sRet, sRetN, sDrop, sSet, sNext, sRaise, eVar, eC, eOp, eUn, eCall, eAnd, eOr, eNot, eIf, eChain, eTup, eLst, eLc, iOf, cB, cNot, cAnd, cOr, aNil, aCons, gN, Out.ok_bind, Out.exc_bind, Out.nox_ok, boD_some, List.cons_append, List.nil_append, List.append_nil, List.length_cons, List.length_nil, List.replicate, List.getD_cons_zero, List.getD_cons_succ, List.set_cons_zero, List.set_cons_succ, Nat.reduceAdd, Nat.reduceSub, Nat.reduceLeDiff, List.replicate_succ, List.replicate_zero, cond_true, cond_false, Bool.not_true, Bool.not_false, k3, is_within_int, k1, k2, Bool.and_self]
      exact Out.sp_ok rfl
  subst e
  refine sp_seq0 (P := fun ρ' => ρ' = .ins "Pack" [] :: ρ) (sp_if0 ?_ (Out.sp_ok ⟨_, rfl, rfl⟩)) fun ρ' e => ?_
  · subst hρ
    simp only [fnD, sSeq, sIf, sRet, sRetN, sDrop, sSet, sNext, sRaise, eVar, eC, eOp, eUn, eCall, eAnd, eOr, eNot, eIf, eChain, eTup, eLst, eLc, iOf, cB, cNot, cAnd, cOr, aNil, aCons, gN, Out.ok_bind, Out.exc_bind, Out.nox_ok, boD_some, List.cons_append, List.nil_append, List.append_nil, List.length_cons, List.length_nil, List.replicate, List.getD_cons_zero, List.getD_cons_succ, List.set_cons_zero, List.set_cons_succ, Nat.reduceAdd, Nat.reduceSub, Nat.reduceLeDiff, List.replicate_succ, List.replicate_zero, cond_true, cond_false, Bool.not_true, Bool.not_false, is_roll_ok h.ro]
    exact Out.sp_ok rfl
  subst e
  refine sp_seq0 (sp_fld0 (d := .tup (sortD (w.slots.map encSpot))) [] rfl rfl (by decide) ?_) fun ρ' e => ?_
  · subst hρ
    have k : dSorted [.lst (w.slots.map encSpot)] = .ok (.lst (sortD (w.slots.map encSpot))) := by
      show (bif canSort _ then _ else _) = _
      rw [canSort_spots]
      rfl
    simp only [fnD, sSeq, sIf, sRet, sRetN, sDrop, sSet, sNext, sRaise, eVar, eC, eOp, eUn, eCall, eAnd, eOr, eNot, eIf, eChain, eTup, eLst, eLc, iOf, cB, cNot, cAnd, cOr, aNil, aCons, gN, Out.ok_bind, Out.exc_bind, Out.nox_ok, boD_some, List.cons_append, List.nil_append, List.append_nil, List.length_cons, List.length_nil, List.replicate, List.getD_cons_zero, List.getD_cons_succ, List.set_cons_zero, List.set_cons_succ, Nat.reduceAdd, Nat.reduceSub, Nat.reduceLeDiff, List.replicate_succ, List.replicate_zero, cond_true, cond_false, Bool.not_true, Bool.not_false, k, dTuple]
    exact Out.sp_ok rfl
  subst e
  refine sp_seq0 (sp_fld0 (d := .int w.amount) ["own_slots"] rfl (by decide +kernel) (by decide) ?_) fun ρ' e => ?_
  · subst hρ
    exact Out.sp_ok rfl
  subst e
  refine sp_seq0 (sp_fld0 (d := encOI w.cost) ["own_slots", "own_amount"] rfl (by decide +kernel) (by decide) ?_) fun ρ' e => ?_
  · subst hρ
    exact Out.sp_ok rfl
  subst e
  refine Out.sp_q (sp_fld0 (d := encOS w.roll) ["own_slots", "own_amount", "own_cost"] rfl (by decide +kernel) (by decide) ?_) fun r hr => hr
  subst hρ
  exact Out.sp_ok rfl
theorem fnI_of {c : Str} {N : Nat} {ψ : Rho → Out Res} {ds : List D} {d : D} {X : Str → List (Str × D) → Prop} (hN : N = ds.length + 1) (h : (ψ (.ins c [] :: ds)).sp 0 (fun r => ∃ ρ', r = .nx ρ' ∧ ρ' = d :: ds) X) : (fnI c N ψ ds).sp 0 (fun x => x = d) X := by
  unfold fnI
  subst hN
  rw [Nat.sub_self, List.replicate_zero, List.append_nil]
  refine Out.sp_then h (Nat.le_refl 0) fun r hr => ?_
  obtain ⟨ρ2, rfl, rfl⟩ := hr
  exact Out.sp_ok rfl
theorem pack_made {w : Ware} (h : WareP w) : (F_Pack___init__ [.lst (w.slots.map encSpot), .int w.amount, encOI w.cost, encOS w.roll]).sp 0 (fun d => d = packD w) (fun _ _ => False) := by
  unfold F_Pack___init__
  exact fnI_of rfl (pack_body h rfl)
end ND
namespace ND
open PySem PySem.Spec PyProof.Rows L2
theorem lk_hit {f : Str} {d : D} {r : List (Str × D)} : List.lookup f ((f, d) :: r) = some d := by
  rw [List.lookup_cons]
  simp
theorem lk_miss {f g : Str} {d : D} {r : List (Str × D)} (h : decide (f = g) = false) : List.lookup f ((g, d) :: r) = List.lookup f r := by
  rw [List.lookup_cons, show (f == g) = false from beq_eq_false_iff_ne.mpr (of_decide_eq_false h)]
theorem fld_of {c f : Str} {fs : List (Str × D)} {d : D} (h : fs.lookup f = some d) : dFld c f (.ins c fs) = .ok d := by
  unfold dFld
  simp [h, optD]
variable {w : Ware}
theorem pk_slots : dFld "Pack" "own_slots" (packD w) = .ok (.tup (sortD (w.slots.map encSpot))) := fld_of lk_hit
theorem pk_amount : dFld "Pack" "own_amount" (packD w) = .ok (.int w.amount) := fld_of ((lk_miss (by decide +kernel)).trans lk_hit)
theorem pk_cost : dFld "Pack" "own_cost" (packD w) = .ok (encOI w.cost) := fld_of ((lk_miss (by decide +kernel)).trans ((lk_miss (by decide +kernel)).trans lk_hit))
theorem pk_roll : dFld "Pack" "own_roll" (packD w) = .ok (encOS w.roll) := fld_of ((lk_miss (by decide +kernel)).trans ((lk_miss (by decide +kernel)).trans ((lk_miss (by decide +kernel)).trans lk_hit)))
/-- the slots in order, as spots -/
theorem sortD_spots (ss : List Spot) : ∃ ts : List Spot, ts.Perm ss ∧ sortD (ss.map encSpot) = ts.map encSpot := by
  refine ⟨ss.mergeSort fun a b => dLeB (encSpot a) (encSpot b), List.mergeSort_perm _ _, ?_⟩
  unfold sortD
  exact (List.map_mergeSort (f := encSpot) (r := fun a b => dLeB (encSpot a) (encSpot b)) (s := dLeB) fun a _ b _ => rfl).symm
theorem lc_gT {ρ : Rho} {x y : Nat} {b : Rho → Out D} {f : Spot → D} : ∀ {ss : List Spot}, (∀ s ∈ ss, b ((ρ.set x (.str s.1)).set y (.int s.2)) = .ok (f s)) → lcD (gT (gsCons (gN x) (gsCons (gN y) gsNil))) cYes b ρ (ss.map encSpot) = .ok (ss.map f)
  | [], _ => rfl
  | s :: ss, h => by
    have e : gT (gsCons (gN x) (gsCons (gN y) gsNil)) (encSpot s) ρ = some ((ρ.set x (.str s.1)).set y (.int s.2)) := rfl
    rw [List.map_cons]
    unfold lcD
    simp only [e, cYes, Out.nox_ok, Out.ok_bind, cond_true, h s List.mem_cons_self]
    rw [lc_gT fun t ht => h t (List.mem_cons_of_mem _ ht)]
    rfl
theorem ints_of {α : Type} {f : α → Int} : ∀ {xs : List α}, intsD (xs.map fun x => D.int (f x)) = some (xs.map f)
  | [] => rfl
  | x :: xs => by
    show (intsD (xs.map fun x => D.int (f x))).map _ = _
    rw [ints_of]
    rfl
theorem fold_is : ∀ {xs : List Int} {x m : Int}, m ∈ x :: xs → (∀ y ∈ x :: xs, y ≤ m) → xs.foldl max x = m
  | [], x, m, hm, _ => (List.mem_singleton.mp hm).symm
  | y :: xs, x, m, hm, hy => by
    rw [List.foldl_cons]
    have h1 := hy x List.mem_cons_self
    have h2 := hy y (List.mem_cons_of_mem _ List.mem_cons_self)
    refine fold_is ?_ fun z hz => ?_
    · rcases List.mem_cons.mp hm with e | hm
      · rw [show max x y = m by omega]
        exact List.mem_cons_self
      · rcases List.mem_cons.mp hm with e | hm
        · rw [show max x y = m by omega]
          exact List.mem_cons_self
        · exact List.mem_cons_of_mem _ hm
    · rcases List.mem_cons.mp hz with e | hz
      · omega
      · exact hy z (List.mem_cons_of_mem _ (List.mem_cons_of_mem _ hz))
theorem maxL_is {xs : List Int} {m : Int} (hm : m ∈ xs) (hy : ∀ y ∈ xs, y ≤ m) : maxL xs = some m := by
  cases xs with
  | nil => cases hm
  | cons x xs => exact congrArg some (fold_is hm hy)
theorem last_ok {w : Ware} (h : w.slots ≠ []) : F_Pack_last [packD w] = .ok (.int (lastS w.slots)) := by
  obtain ⟨ts, hp, hs⟩ := sortD_spots w.slots
  unfold F_Pack_last S_Pack_last
  have e : lcD (gT (gsCons (gN 1) (gsCons (gN 2) gsNil))) cYes (eVar 2) [packD w, .non, .non] (ts.map encSpot) = .ok (ts.map fun s => .int s.2) := lc_gT fun s hs => rfl
  have m : maxL (ts.map (·.2)) = some (lastS w.slots) := maxL_is ((hp.map (·.2)).symm.subset (lastS_mem h)) fun y hy => lastS_max ((hp.map (·.2)).subset hy)
  have e2 : dMax [.lst (ts.map fun s => D.int s.2)] = .ok (.int (lastS w.slots)) := by
    show (match (intsD _).bind maxL with | some m => _ | none => _) = _
    rw [ints_of (f := fun s : Spot => s.2)]
    show (match maxL (ts.map fun s => s.2) with | some m => _ | none => _) = _
    rw [m]
  simp only [fnD, sSeq, sIf, sRet, sRetN, sDrop, sSet, sNext, sRaise, eVar, eC, eOp, eUn, eCall, eAnd, eOr, eNot, eIf, eChain, eTup, eLst, eLc, iOf, cB, cNot, cAnd, cOr, aNil, aCons, gN, Out.ok_bind, Out.exc_bind, Out.nox_ok, boD_some, List.cons_append, List.nil_append, List.append_nil, List.length_cons, List.length_nil, List.replicate, List.getD_cons_zero, List.getD_cons_succ, List.set_cons_zero, List.set_cons_succ, Nat.reduceAdd, Nat.reduceSub, Nat.reduceLeDiff, List.replicate_succ, List.replicate_zero, cond_true, cond_false, Bool.not_true, Bool.not_false, pk_slots, itemsT, hs, e, e2]
end ND
namespace ND
open PySem PySem.Spec PyProof.Rows L2
theorem kS_inj {a b : Str} (h : (kS a : Key) = kS b) : a = b := Sum.inr.inj h
theorem valD_at {α : Type} {g : α → D} : ∀ {ws : List (Str × α)} {l : Str} {w : α}, (ws.map (·.1)).Nodup → (l, w) ∈ ws → valD (ws.map fun x => ((kS x.1 : Key), g x.2)) (kS l) = some (g w)
  | x :: ws, l, w, nd, h => by
    rw [List.map_cons] at nd ⊢
    obtain ⟨n1, n2⟩ := List.nodup_cons.mp nd
    rw [valD_cons]
    rcases List.mem_cons.mp h with rfl | h
    · rw [if_pos rfl]
    · have hne : ¬ (kS x.1 : Key) = kS l := fun z => n1 (by
        rw [kS_inj z]
        exact List.mem_map.mpr ⟨_, h, rfl⟩)
      rw [if_neg hne]
      exact valD_at n2 h
def packsD (ws : List (Str × Ware)) : D := .dct (ws.map fun w => ((kS w.1 : Key), packD w.2))
def pricesD (rs : List (Str × Int)) : D := .dct (rs.map fun r => ((kS r.1 : Key), D.int r.2))
theorem get_pack {ws : List (Str × Ware)} {l : Str} {w : Ware} (nd : (ws.map (·.1)).Nodup) (h : (l, w) ∈ ws) : dGet (packsD ws) (.str l) = .ok (packD w) := by
  show optD (valD (ws.map fun w => ((kS w.1 : Key), packD w.2)) (kS l)) = _
  rw [valD_at (g := packD) nd h]
  rfl
theorem valD_has {α : Type} {g : α → D} : ∀ {ws : List (Str × α)} {l : Str}, l ∈ ws.map (·.1) → (valD (ws.map fun x => ((kS x.1 : Key), g x.2)) (kS l)).isSome = true
  | x :: ws, l, h => by
    rw [List.map_cons] at h ⊢
    rw [valD_cons]
    by_cases hk : (kS x.1 : Key) = kS l
    · rw [if_pos hk]
      rfl
    · rw [if_neg hk]
      rcases List.mem_cons.mp h with e | h
      · exact absurd (by rw [e]) hk
      · exact valD_has h
theorem din_pack {ws : List (Str × Ware)} {l : Str} (h : l ∈ ws.map (·.1)) : dDin false (.str l) (packsD ws) = .ok (.bl true) := by
  show Out.ok (D.bl (false ^^ (valD (ws.map fun w => ((kS w.1 : Key), packD w.2)) (kS l)).isSome)) = _
  rw [valD_has (g := packD) h]
  rfl
theorem din_price {rs : List (Str × Int)} {l : Str} (h : l ∈ rs.map (·.1)) : dDin false (.str l) (pricesD rs) = .ok (.bl true) := by
  show Out.ok (D.bl (false ^^ (valD (rs.map fun w => ((kS w.1 : Key), D.int w.2)) (kS l)).isSome)) = _
  rw [valD_has (g := D.int) h]
  rfl
theorem prop_last {w : Ware} (h : w.slots ≠ []) : (dProp "Pack" F_Pack_last (packD w)).nox = .ok (.int (lastS w.slots)) := by
  have e : dProp "Pack" F_Pack_last (packD w) = F_Pack_last [packD w] := by
    unfold dProp packD
    simp
  rw [e, last_ok h]
  rfl
/-- a ware that fits -/
structure FitP (rs : List (Str × Int)) (n : Nat) (ws : List (Str × Ware)) (w : Ware) : Prop where
  ne : w.slots ≠ []
  la : lastS w.slots < n
  ce : ∀ s ∈ w.slots, s.1 ∈ rs.map (·.1)
  ro : ∀ r, w.roll = some r → ∃ x, (r.1, x) ∈ ws ∧ x.slots ≠ [] ∧ lastS w.slots < lastS x.slots
theorem fit_ok {rs : List (Str × Int)} {n : Nat} {ws : List (Str × Ware)} {l : Str} {w : Ware} (nd : (ws.map (·.1)).Nodup) (h : (l, w) ∈ ws) (f : FitP rs n ws w) : F_does_fit [pricesD rs, .int n, packsD ws, .str l] = .ok (.bl true) := by
  obtain ⟨ts, hp, hs⟩ := sortD_spots w.slots
  unfold F_does_fit S_does_fit
  have e1 : decide ((n : Int) ≤ lastS w.slots) = false := decide_eq_false (by have := f.la; omega)
  have e2 : lcD (gT (gsCons (gN 5) (gsCons (gN 6) gsNil))) cYes (eOp (dDin false) (eVar 5) (eVar 0)) [pricesD rs, .int n, packsD ws, .str l, packD w, .non, .non] (ts.map encSpot) = .ok (ts.map fun _ => .bl true) := lc_gT fun s hs' => by
    simp only [fnD, sSeq, sIf, sRet, sRetN, sDrop, sSet, sNext, sRaise, eVar, eC, eOp, eUn, eCall, eAnd, eOr, eNot, eIf, eChain, eTup, eLst, eLc, iOf, cB, cNot, cAnd, cOr, aNil, aCons, gN, Out.ok_bind, Out.exc_bind, Out.nox_ok, boD_some, List.cons_append, List.nil_append, List.append_nil, List.length_cons, List.length_nil, List.replicate, List.getD_cons_zero, List.getD_cons_succ, List.set_cons_zero, List.set_cons_succ, Nat.reduceAdd, Nat.reduceSub, Nat.reduceLeDiff, List.replicate_succ, List.replicate_zero, cond_true, cond_false, Bool.not_true, Bool.not_false, din_price (f.ce s (hp.subset hs'))]
  have e3 : dAll [.lst (ts.map fun _ => .bl true)] = .ok (.bl true) := dAll_true fun x hx => by obtain ⟨_, _, rfl⟩ := List.mem_map.mp hx; rfl
  have e4 : (eOr (eOp dIsN (eUn (dFld "Pack" "own_roll") (eVar 4)) (eC .non)) (eAnd (eOp (dDin false) (eOp dIx (eUn (dFld "Pack" "own_roll") (eVar 4)) (eC (.int 0))) (eVar 2)) (eOp dGt (fun ρ => ((eOp dGet (eVar 2) (eOp dIx (eUn (dFld "Pack" "own_roll") (eVar 4)) (eC (.int 0)))) ρ).bind fun x => (dProp "Pack" F_Pack_last x).nox) (fun ρ => ((eVar 4) ρ).bind fun x => (dProp "Pack" F_Pack_last x).nox)))) [pricesD rs, .int n, packsD ws, .str l, packD w, .non, .non] = .ok (.bl true) := by
    cases hr : w.roll with
    | none =>
      have k : dIsN (encOS w.roll) .non = .ok (.bl true) := by rw [hr]; rfl
      simp only [fnD, sSeq, sIf, sRet, sRetN, sDrop, sSet, sNext, sRaise, eVar, eC, eOp, eUn, eCall, eAnd, eOr, eNot, eIf, eChain, eTup, eLst, eLc, iOf, cB, cNot, cAnd, cOr, aNil, aCons, gN, Out.ok_bind, Out.exc_bind, Out.nox_ok, boD_some, List.cons_append, List.nil_append, List.append_nil, List.length_cons, List.length_nil, List.replicate, List.getD_cons_zero, List.getD_cons_succ, List.set_cons_zero, List.set_cons_succ, Nat.reduceAdd, Nat.reduceSub, Nat.reduceLeDiff, List.replicate_succ, List.replicate_zero, cond_true, cond_false, Bool.not_true, Bool.not_false, pk_roll, k]
    | some r =>
      obtain ⟨x, hx, hxn, hxl⟩ := f.ro r hr
      have k : dIsN (encOS w.roll) .non = .ok (.bl false) := by rw [hr]; rfl
      have k2 : dIx (encOS w.roll) (.int 0) = .ok (.str r.1) := by rw [hr]; rfl
      have k3 : decide (lastS w.slots < lastS x.slots) = true := decide_eq_true hxl
      simp only [fnD, sSeq, sIf, sRet, sRetN, sDrop, sSet, sNext, sRaise, eVar, eC, eOp, eUn, eCall, eAnd, eOr, eNot, eIf, eChain, eTup, eLst, eLc, iOf, cB, cNot, cAnd, cOr, aNil, aCons, gN, Out.ok_bind, Out.exc_bind, Out.nox_ok, boD_some, List.cons_append, List.nil_append, List.append_nil, List.length_cons, List.length_nil, List.replicate, List.getD_cons_zero, List.getD_cons_succ, List.set_cons_zero, List.set_cons_succ, Nat.reduceAdd, Nat.reduceSub, Nat.reduceLeDiff, List.replicate_succ, List.replicate_zero, cond_true, cond_false, Bool.not_true, Bool.not_false, pk_roll, k, k2, din_pack (List.mem_map.mpr ⟨_, hx, rfl⟩), get_pack nd hx, prop_last hxn, prop_last f.ne, dGt, d2I, k3]
  have h1 : sSet 4 (eOp dGet (eVar 2) (eVar 3)) [pricesD rs, .int n, packsD ws, .str l, .non, .non, .non] = .ok (.nx [pricesD rs, .int n, packsD ws, .str l, packD w, .non, .non]) := by
    simp only [fnD, sSeq, sIf, sRet, sRetN, sDrop, sSet, sNext, sRaise, eVar, eC, eOp, eUn, eCall, eAnd, eOr, eNot, eIf, eChain, eTup, eLst, eLc, iOf, cB, cNot, cAnd, cOr, aNil, aCons, gN, Out.ok_bind, Out.exc_bind, Out.nox_ok, boD_some, List.cons_append, List.nil_append, List.append_nil, List.length_cons, List.length_nil, List.replicate, List.getD_cons_zero, List.getD_cons_succ, List.set_cons_zero, List.set_cons_succ, Nat.reduceAdd, Nat.reduceSub, Nat.reduceLeDiff, List.replicate_succ, List.replicate_zero, cond_true, cond_false, Bool.not_true, Bool.not_false, get_pack nd h]
  show ((sSeq _ _ [pricesD rs, .int n, packsD ws, .str l, .non, .non, .non]).bind _) = _
  rw [seq_nx h1, seq_nx (ρ' := [pricesD rs, .int n, packsD ws, .str l, packD w, .non, .non]) (by
    refine if_no ?_
    simp only [fnD, sSeq, sIf, sRet, sRetN, sDrop, sSet, sNext, sRaise, eVar, eC, eOp, eUn, eCall, eAnd, eOr, eNot, eIf, eChain, eTup, eLst, eLc, iOf, cB, cNot, cAnd, cOr, aNil, aCons, gN, Out.ok_bind, Out.exc_bind, Out.nox_ok, boD_some, List.cons_append, List.nil_append, List.append_nil, List.length_cons, List.length_nil, List.replicate, List.getD_cons_zero, List.getD_cons_succ, List.set_cons_zero, List.set_cons_succ, Nat.reduceAdd, Nat.reduceSub, Nat.reduceLeDiff, List.replicate_succ, List.replicate_zero, cond_true, cond_false, Bool.not_true, Bool.not_false, prop_last f.ne, dGe, d2I, e1, pk_slots, itemsT, hs, e2, e3])]
  unfold sRet
  rw [e4]
  rfl
end ND
namespace ND
open PySem PySem.Spec PyProof.Rows L2
theorem keyOk_of {z : Str} (h : SOk z) : keyOkB (kS z) = true := by
  show (decide (z.length ≤ 100000) && PyData.strOk z) = true
  rw [decide_eq_true h.1, h.2]
  rfl
theorem itemsK_of {α : Type} {g : α → D} {ws : List (Str × α)} (h : ∀ w ∈ ws, SOk w.1) : itemsK (.dct (ws.map fun x => ((kS x.1 : Key), g x.2))) = .ok (ws.map fun x => .str x.1) := by
  have e : ((ws.map fun x => ((kS x.1 : Key), g x.2)).all fun kv => keyOkB kv.1) = true := by
    rw [List.all_eq_true]
    intro p hp
    obtain ⟨w, hw, rfl⟩ := List.mem_map.mp hp
    exact keyOk_of (h w hw)
  show (bif _ then _ else _) = _
  rw [e, List.map_map]
  rfl
theorem lc_str {α : Type} {γ : D → Rho → Option Rho} {b : Rho → Out D} {ρ : Rho} {f : Str × α → D} : ∀ {ws : List (Str × α)}, (∀ w ∈ ws, ∃ ρ1, γ (.str w.1) ρ = some ρ1 ∧ b ρ1 = .ok (f w)) → lcD γ cYes b ρ (ws.map fun x => .str x.1) = .ok (ws.map f)
  | [], _ => rfl
  | x :: ds, h => by
    obtain ⟨ρ1, e1, e2⟩ := h x List.mem_cons_self
    rw [List.map_cons]
    unfold lcD
    simp only [e1, e2, cYes, Out.nox_ok, Out.ok_bind, cond_true]
    rw [lc_str fun y hy => h y (List.mem_cons_of_mem _ hy)]
    rfl
theorem get_price {rs : List (Str × Int)} {l : Str} {w : Int} (nd : (rs.map (·.1)).Nodup) (h : (l, w) ∈ rs) : dGet (pricesD rs) (.str l) = .ok (.int w) := by
  show optD (valD (rs.map fun w => ((kS w.1 : Key), D.int w.2)) (kS l)) = _
  rw [valD_at (g := D.int) nd h]
  rfl
theorem prices_ok {rs : List (Str × Int)} (l1 : 1 ≤ rs.length) (l3 : rs.length ≤ 3) (nd : (rs.map (·.1)).Nodup) (ok : ∀ r ∈ rs, NameOk r.1 ∧ 0 ≤ r.2 ∧ r.2 ≤ 9) : F_are_prices [pricesD rs] = .ok (.bl true) := by
  unfold F_are_prices S_are_prices
  have ln : (rs.map fun r => ((kS r.1 : Key), D.int r.2)).length = rs.length := List.length_map ..
  have e1 : decide ((1 : Int) ≤ (rs.length : Nat)) = true := decide_eq_true (by omega)
  have e2 : decide (((rs.length : Nat) : Int) ≤ 3) = true := decide_eq_true (by omega)
  have e3 : dLen [pricesD rs] = .ok (.int rs.length) := by
    show Out.ok (D.int ((rs.map fun r => ((kS r.1 : Key), D.int r.2)).length : Nat)) = _
    rw [ln]
  have e4 : dIsTyB "dict" (pricesD rs) = some true := rfl
  have e5 : itemsK (pricesD rs) = .ok (rs.map fun x => .str x.1) := itemsK_of (g := D.int) fun w hw => nameOk_sok (ok w hw).1
  have e6 : lcD (gN 1) cYes (eAnd (eCall F_is_name (aCons (eVar 1) aNil)) (eCall F_is_within (aCons (eOp dGet (eVar 0) (eVar 1)) (aCons (eC (.int 0)) (aCons (eC (.int 9)) aNil))))) [pricesD rs, .non] (rs.map fun x => .str x.1) = .ok (rs.map fun _ => .bl true) := by
    refine lc_str fun r hr => ⟨_, rfl, ?_⟩
    obtain ⟨k, k0, k9⟩ := ok r hr
    have d0 : decide ((0 : Int) ≤ r.2) = true := decide_eq_true k0
    have d9 : decide (r.2 ≤ 9) = true := decide_eq_true k9
    simp only [fnD, sSeq, sIf, sRet, sRetN, sDrop, sSet, sNext, sRaise, eVar, eC, eOp, eUn, eCall, eAnd, eOr, eNot, eIf, eChain, eTup, eLst, eLc, iOf, cB, cNot, cAnd, cOr, aNil, aCons, gN, Out.ok_bind, Out.exc_bind, Out.nox_ok, boD_some, List.cons_append, List.nil_append, List.append_nil, List.length_cons, List.length_nil, List.replicate, List.getD_cons_zero, List.getD_cons_succ, List.set_cons_zero, List.set_cons_succ, Nat.reduceAdd, Nat.reduceSub, Nat.reduceLeDiff, List.replicate_succ, List.replicate_zero, cond_true, cond_false, Bool.not_true, Bool.not_false, is_name_ok k, get_price nd (show (r.1, r.2) ∈ rs from hr), is_within_int, d0, d9, Bool.and_self]
  have e7 : dAll [.lst (rs.map fun _ => .bl true)] = .ok (.bl true) := dAll_true fun x hx => by obtain ⟨_, _, rfl⟩ := List.mem_map.mp hx; rfl
  have h2 : eLock 0 (eCall dAll (aCons (eLc (iOf itemsK (eVar 0)) (gN 1) cYes (eAnd (eCall F_is_name (aCons (eVar 1) aNil)) (eCall F_is_within (aCons (eOp dGet (eVar 0) (eVar 1)) (aCons (eC (.int 0)) (aCons (eC (.int 9)) aNil)))))) aNil)) [pricesD rs, .non] = .ok (.bl true) := by
    show (Out.nox _) = _
    simp only [fnD, sSeq, sIf, sRet, sRetN, sDrop, sSet, sNext, sRaise, eVar, eC, eOp, eUn, eCall, eAnd, eOr, eNot, eIf, eChain, eTup, eLst, eLc, iOf, cB, cNot, cAnd, cOr, aNil, aCons, gN, Out.ok_bind, Out.exc_bind, Out.nox_ok, boD_some, List.cons_append, List.nil_append, List.append_nil, List.length_cons, List.length_nil, List.replicate, List.getD_cons_zero, List.getD_cons_succ, List.set_cons_zero, List.set_cons_succ, Nat.reduceAdd, Nat.reduceSub, Nat.reduceLeDiff, List.replicate_succ, List.replicate_zero, cond_true, cond_false, Bool.not_true, Bool.not_false, e5, e6, e7]
  show ((sSeq _ _ [pricesD rs, .non]).bind _) = _
  rw [seq_nx (ρ' := [pricesD rs, .non]) (by
    refine if_no ?_
    simp only [fnD, sSeq, sIf, sRet, sRetN, sDrop, sSet, sNext, sRaise, eVar, eC, eOp, eUn, eCall, eAnd, eOr, eNot, eIf, eChain, eTup, eLst, eLc, iOf, cB, cNot, cAnd, cOr, aNil, aCons, gN, Out.ok_bind, Out.exc_bind, Out.nox_ok, boD_some, List.cons_append, List.nil_append, List.append_nil, List.length_cons, List.length_nil, List.replicate, List.getD_cons_zero, List.getD_cons_succ, List.set_cons_zero, List.set_cons_succ, Nat.reduceAdd, Nat.reduceSub, Nat.reduceLeDiff, List.replicate_succ, List.replicate_zero, cond_true, cond_false, Bool.not_true, Bool.not_false, e4, e3, dLe, d2I, e1, e2])]
  unfold sRet
  rw [h2]
  rfl
theorem packs_ok {ws : List (Str × Ware)} (l4 : ws.length ≤ 4) (nd : (ws.map (·.1)).Nodup) (ok : ∀ w ∈ ws, NameOk w.1) : F_are_packs [packsD ws] = .ok (.bl true) := by
  unfold F_are_packs S_are_packs
  have ln : (ws.map fun r => ((kS r.1 : Key), packD r.2)).length = ws.length := List.length_map ..
  have e1 : decide ((4 : Int) < (ws.length : Nat)) = false := decide_eq_false (by omega)
  have e3 : dLen [packsD ws] = .ok (.int ws.length) := by
    show Out.ok (D.int ((ws.map fun r => ((kS r.1 : Key), packD r.2)).length : Nat)) = _
    rw [ln]
  have e4 : dIsTyB "dict" (packsD ws) = some true := rfl
  have e5 : itemsK (packsD ws) = .ok (ws.map fun x => .str x.1) := itemsK_of (g := packD) fun w hw => nameOk_sok (ok w hw)
  have e6 : lcD (gN 1) cYes (eAnd (eCall F_is_name (aCons (eVar 1) aNil)) (eUn (fun d => boD (dIsClB "Pack" d)) (eOp dGet (eVar 0) (eVar 1)))) [packsD ws, .non] (ws.map fun x => .str x.1) = .ok (ws.map fun _ => .bl true) := by
    refine lc_str fun r hr => ⟨_, rfl, ?_⟩
    have k : dIsClB "Pack" (packD r.2) = some true := by
      show some (isaB "Pack" "Pack") = _
      rw [show isaB "Pack" "Pack" = true by decide +kernel]
    simp only [fnD, sSeq, sIf, sRet, sRetN, sDrop, sSet, sNext, sRaise, eVar, eC, eOp, eUn, eCall, eAnd, eOr, eNot, eIf, eChain, eTup, eLst, eLc, iOf, cB, cNot, cAnd, cOr, aNil, aCons, gN, Out.ok_bind, Out.exc_bind, Out.nox_ok, boD_some, List.cons_append, List.nil_append, List.append_nil, List.length_cons, List.length_nil, List.replicate, List.getD_cons_zero, List.getD_cons_succ, List.set_cons_zero, List.set_cons_succ, Nat.reduceAdd, Nat.reduceSub, Nat.reduceLeDiff, List.replicate_succ, List.replicate_zero, cond_true, cond_false, Bool.not_true, Bool.not_false, is_name_ok (ok r hr), get_pack nd (show (r.1, r.2) ∈ ws from hr), k]
  have e7 : dAll [.lst (ws.map fun _ => .bl true)] = .ok (.bl true) := dAll_true fun x hx => by obtain ⟨_, _, rfl⟩ := List.mem_map.mp hx; rfl
  have h2 : eLock 0 (eCall dAll (aCons (eLc (iOf itemsK (eVar 0)) (gN 1) cYes (eAnd (eCall F_is_name (aCons (eVar 1) aNil)) (eUn (fun d => boD (dIsClB "Pack" d)) (eOp dGet (eVar 0) (eVar 1))))) aNil)) [packsD ws, .non] = .ok (.bl true) := by
    show (Out.nox _) = _
    simp only [fnD, sSeq, sIf, sRet, sRetN, sDrop, sSet, sNext, sRaise, eVar, eC, eOp, eUn, eCall, eAnd, eOr, eNot, eIf, eChain, eTup, eLst, eLc, iOf, cB, cNot, cAnd, cOr, aNil, aCons, gN, Out.ok_bind, Out.exc_bind, Out.nox_ok, boD_some, List.cons_append, List.nil_append, List.append_nil, List.length_cons, List.length_nil, List.replicate, List.getD_cons_zero, List.getD_cons_succ, List.set_cons_zero, List.set_cons_succ, Nat.reduceAdd, Nat.reduceSub, Nat.reduceLeDiff, List.replicate_succ, List.replicate_zero, cond_true, cond_false, Bool.not_true, Bool.not_false, e5, e6, e7]
  show ((sSeq _ _ [packsD ws, .non]).bind _) = _
  rw [seq_nx (ρ' := [packsD ws, .non]) (by
    refine if_no ?_
    simp only [fnD, sSeq, sIf, sRet, sRetN, sDrop, sSet, sNext, sRaise, eVar, eC, eOp, eUn, eCall, eAnd, eOr, eNot, eIf, eChain, eTup, eLst, eLc, iOf, cB, cNot, cAnd, cOr, aNil, aCons, gN, Out.ok_bind, Out.exc_bind, Out.nox_ok, boD_some, List.cons_append, List.nil_append, List.append_nil, List.length_cons, List.length_nil, List.replicate, List.getD_cons_zero, List.getD_cons_succ, List.set_cons_zero, List.set_cons_succ, Nat.reduceAdd, Nat.reduceSub, Nat.reduceLeDiff, List.replicate_succ, List.replicate_zero, cond_true, cond_false, Bool.not_true, Bool.not_false, e4, e3, dGt, d2I, e1])]
  unfold sRet
  rw [h2]
  rfl
end ND
namespace ND
open PySem PySem.Spec PyProof.Rows L2
theorem keysS_of {α : Type} {g : α → D} : ∀ {ws : List (Str × α)}, keysS (ws.map fun x => ((kS x.1 : Key), g x.2)) = some (ws.map (·.1))
  | [] => rfl
  | x :: ws => by
    show (keysS (ws.map fun x => ((kS x.1 : Key), g x.2))).map _ = _
    rw [keysS_of]
    rfl
theorem sortK {α : Type} {g : α → D} {ws : List (Str × α)} (l : ws.length < 64) (ok : ∀ w ∈ ws, SOk w.1) (so : sortedS (ws.map (·.1)) = true) {X : Str → List (Str × D) → Prop} : (dSortedK [.dct (ws.map fun x => ((kS x.1 : Key), g x.2))]).sp 0 (fun d => d = .lst (ws.map fun x => .str x.1)) X := by
  unfold dSortedK
  simp only [keysS_of (g := g)]
  have e : (((ws.map (·.1)).all sokB) && decide ((ws.map (·.1)).length < 64)) = true := by
    rw [Bool.and_eq_true, List.all_eq_true]
    refine ⟨fun z hz => ?_, decide_eq_true (by rw [List.length_map]; exact l)⟩
    obtain ⟨w, hw, rfl⟩ := List.mem_map.mp hz
    have := ok w hw
    unfold sokB
    rw [decide_eq_true this.1, this.2]
    rfl
  simp only [e, cond_true]
  refine Out.sp_any (c := 0) fun d hd => ?_
  obtain ⟨ys, hp, hs, rfl⟩ := hd
  rw [sort_uniq hp hs so, List.map_map]
  exact Out.sp_ok rfl
/-- the wares and rates of a plan -/
structure PlanP (rs : List (Str × Int)) (n : Nat) (ws : List (Str × Ware)) : Prop where
  r1 : 1 ≤ rs.length
  r3 : rs.length ≤ 3
  rn : (rs.map (·.1)).Nodup
  ro : ∀ r ∈ rs, NameOk r.1 ∧ 0 ≤ r.2 ∧ r.2 ≤ 9
  rso : sortedS (rs.map (·.1)) = true
  d1 : 1 ≤ n
  d4 : n ≤ 4
  w4 : ws.length ≤ 4
  wn : (ws.map (·.1)).Nodup
  wk : ∀ w ∈ ws, NameOk w.1
  wso : sortedS (ws.map (·.1)) = true
  wp : ∀ w ∈ ws, WareP w.2
  fi : ∀ w ∈ ws, FitP rs n ws w.2
  un : (ws.map (·.2.amount)).sum ≤ 6
def planD (rs : List (Str × Int)) (n : Nat) (ws : List (Str × Ware)) : D := .ins "Plan" [("own_prices", pricesD rs), ("own_days", .int n), ("own_names", .tup (ws.map fun x => .str x.1)), ("own_rows", .tup (ws.map fun x => packD x.2))]
theorem dc_same {ρ : Rho} {g : Int → D} : ∀ {rs : List (Str × Int)} {acc : List (Key × D)}, (∀ r ∈ rs, (eOp dGet (eVar 1) (eVar 5)) (ρ.set 5 (.str r.1)) = .ok (D.int r.2)) → 5 < ρ.length → (∀ r ∈ rs, ∀ p ∈ acc, p.1 ≠ kS r.1) → (rs.map (·.1)).Nodup →
    dcD (gN 5) cYes (eVar 5) (eOp dGet (eVar 1) (eVar 5)) ρ (rs.map fun x => .str x.1) acc = .ok (acc ++ rs.map fun r => ((kS r.1 : Key), D.int r.2))
  | [], acc, _, _, _, _ => by
    rw [List.map_nil, List.map_nil, List.append_nil]
    rfl
  | r :: rs, acc, h, hl, ha, nd => by
    rw [List.map_cons] at nd ⊢
    obtain ⟨n1, n2⟩ := List.nodup_cons.mp nd
    have e1 : (eVar 5) (ρ.set 5 (.str r.1)) = .ok (.str r.1) := by
      show Out.ok ((ρ.set 5 (.str r.1)).getD 5 .non) = _
      rw [List.getD_eq_getElem?_getD, List.getElem?_set_self hl]
      rfl
    unfold dcD
    have e2 := h r List.mem_cons_self
    simp only [gN, cYes, Out.nox_ok, Out.ok_bind, cond_true, e1, e2, keyOfD]
    show dcD (gN 5) cYes (eVar 5) (eOp dGet (eVar 1) (eVar 5)) ρ (rs.map fun x => .str x.1) (putD acc (kS r.1) (D.int r.2)) = _
    have e3 : putD acc (kS r.1) (D.int r.2) = acc ++ [((kS r.1 : Key), D.int r.2)] := by
      unfold putD
      rw [if_neg]
      intro z
      obtain ⟨p, hp, hz⟩ := List.any_eq_true.mp z
      exact ha r List.mem_cons_self p hp (of_decide_eq_true hz)
    rw [e3, dc_same (g := g) (fun x hx => h x (List.mem_cons_of_mem _ hx)) hl (fun x hx p hp => ?_) n2, List.append_assoc]
    · rfl
    · rcases List.mem_append.mp hp with hp | hp
      · exact ha x (List.mem_cons_of_mem _ hx) p hp
      · rw [List.mem_singleton.mp hp]
        intro z
        exact n1 (by rw [kS_inj z]; exact List.mem_map.mpr ⟨x, hx, rfl⟩)
end ND
namespace ND
open PySem PySem.Spec PyProof.Rows L2
theorem sum_of {ws : List (Str × Ware)} : dSum [.lst (ws.map fun w => D.int w.2.amount)] = .ok (.int (ws.map (·.2.amount)).sum) := by
  show (match intsD (ws.map fun w => D.int w.2.amount) with | some ns => Out.ok (D.int ns.sum) | none => Out.stuck) = _
  rw [ints_of (f := fun w : Str × Ware => w.2.amount)]
theorem eOp_ok {f : D → D → Out D} {a b : Rho → Out D} {ρ : Rho} {x y : D} (h1 : a ρ = .ok x) (h2 : b ρ = .ok y) : eOp f a b ρ = f x y := by
  unfold eOp
  rw [h1, Out.ok_bind, h2]
  rfl
theorem cB_ok {a : Rho → Out D} {ρ : Rho} {b : Bool} (h : a ρ = .ok (.bl b)) : cB a ρ = .ok b := by
  unfold cB
  rw [h]
  rfl
theorem plan_body {rs : List (Str × Int)} {n : Nat} {ws : List (Str × Ware)} {ρ : Rho} (h : PlanP rs n ws) (hρ : ρ = [pricesD rs, .int n, packsD ws, .non, .non]) : (S_Plan___init__ (.ins "Plan" [] :: ρ)).sp 0 (fun r => ∃ ρ', r = .nx ρ' ∧ ρ'.getD 0 .non = planD rs n ws) (fun _ _ => False) := by
  have e1 : decide ((1 : Int) ≤ (n : Nat)) = true := decide_eq_true (by have := h.d1; omega)
  have e2 : decide (((n : Nat) : Int) ≤ 4) = true := decide_eq_true (by have := h.d4; omega)
  have kw : ∀ {X : Str → List (Str × D) → Prop}, (dSortedK [packsD ws]).sp 0 (fun d => d = .lst (ws.map fun x => .str x.1)) X := fun {X} => sortK (g := packD) (by have := h.w4; omega) (fun w hw => nameOk_sok (h.wk w hw)) h.wso
  have kr : ∀ {X : Str → List (Str × D) → Prop}, (dSortedK [pricesD rs]).sp 0 (fun d => d = .lst (rs.map fun x => .str x.1)) X := fun {X} => sortK (g := D.int) (by have := h.r3; omega) (fun w hw => nameOk_sok (h.ro w hw).1) h.rso
  unfold S_Plan___init__
  refine sp_seq0 (P := fun ρ' => ρ' = .ins "Plan" [] :: ρ) (sp_if0 ?_ (Out.sp_ok ⟨_, rfl, rfl⟩)) fun ρ' e => ?_
  · subst hρ
    simp only [fnD, sSeq, sIf, sRet, sRetN, sDrop, sSet, sNext, sRaise, eVar, eC, eOp, eUn, eCall, eAnd, eOr, eNot, eIf, eChain, eTup, eLst, eLc, iOf, cB, cNot, cAnd, cOr, aNil, aCons, gN, Out.ok_bind, Out.exc_bind, Out.nox_ok, boD_some, List.cons_append, List.nil_append, List.append_nil, List.length_cons, List.length_nil, List.replicate, List.getD_cons_zero, List.getD_cons_succ, List.set_cons_zero, List.set_cons_succ, Nat.reduceAdd, Nat.reduceSub, Nat.reduceLeDiff, List.replicate_succ, List.replicate_zero, cond_true, cond_false, Bool.not_true, Bool.not_false, prices_ok h.r1 h.r3 h.rn h.ro]
    exact Out.sp_ok rfl
  subst e
  refine sp_seq0 (P := fun ρ' => ρ' = .ins "Plan" [] :: ρ) (sp_if0 ?_ (Out.sp_ok ⟨_, rfl, rfl⟩)) fun ρ' e => ?_
  · subst hρ
    simp only [fnD, sSeq, sIf, sRet, sRetN, sDrop, sSet, sNext, sRaise, eVar, eC, eOp, eUn, eCall, eAnd, eOr, eNot, eIf, eChain, eTup, eLst, eLc, iOf, cB, cNot, cAnd, cOr, aNil, aCons, gN, Out.ok_bind, Out.exc_bind, Out.nox_ok, boD_some, List.cons_append, List.nil_append, List.append_nil, List.length_cons, List.length_nil, List.replicate, List.getD_cons_zero, List.getD_cons_succ, List.set_cons_zero, List.set_cons_succ, Nat.reduceAdd, Nat.reduceSub, Nat.reduceLeDiff, List.replicate_succ, List.replicate_zero, cond_true, cond_false, Bool.not_true, Bool.not_false, is_within_int, e1, e2, Bool.and_self]
    exact Out.sp_ok rfl
  subst e
  refine sp_seq0 (P := fun ρ' => ρ' = .ins "Plan" [] :: ρ) (sp_if0 ?_ (Out.sp_ok ⟨_, rfl, rfl⟩)) fun ρ' e => ?_
  · subst hρ
    simp only [fnD, sSeq, sIf, sRet, sRetN, sDrop, sSet, sNext, sRaise, eVar, eC, eOp, eUn, eCall, eAnd, eOr, eNot, eIf, eChain, eTup, eLst, eLc, iOf, cB, cNot, cAnd, cOr, aNil, aCons, gN, Out.ok_bind, Out.exc_bind, Out.nox_ok, boD_some, List.cons_append, List.nil_append, List.append_nil, List.length_cons, List.length_nil, List.replicate, List.getD_cons_zero, List.getD_cons_succ, List.set_cons_zero, List.set_cons_succ, Nat.reduceAdd, Nat.reduceSub, Nat.reduceLeDiff, List.replicate_succ, List.replicate_zero, cond_true, cond_false, Bool.not_true, Bool.not_false, packs_ok h.w4 h.wn h.wk]
    exact Out.sp_ok rfl
  subst e
  refine sp_seq0 (P := fun ρ' => ∃ x, ρ' = [.ins "Plan" [], pricesD rs, .int n, packsD ws, x, .non]) ?_ fun ρ' e => ?_
  · subst hρ
    unfold sFor
    refine Out.sp_then (c1 := 0) (P := fun ds => ds = ws.map fun x => .str x.1) ?_ (Nat.le_refl 0) fun ds hds => ?_
    · simp only [fnD, sSeq, sIf, sRet, sRetN, sDrop, sSet, sNext, sRaise, eVar, eC, eOp, eUn, eCall, eAnd, eOr, eNot, eIf, eChain, eTup, eLst, eLc, iOf, cB, cNot, cAnd, cOr, aNil, aCons, gN, Out.ok_bind, Out.exc_bind, Out.nox_ok, boD_some, List.cons_append, List.nil_append, List.append_nil, List.length_cons, List.length_nil, List.replicate, List.getD_cons_zero, List.getD_cons_succ, List.set_cons_zero, List.set_cons_succ, Nat.reduceAdd, Nat.reduceSub, Nat.reduceLeDiff, List.replicate_succ, List.replicate_zero, cond_true, cond_false, Bool.not_true, Bool.not_false, Out.bind_assoc]
      refine Out.sp_then kw (Nat.le_refl 0) fun d hd => ?_
      subst hd
      exact Out.sp_ok rfl
    · subst hds
      have := forD_sp (γ := gN 4) (c := 0) (X := fun _ _ => False) (P := fun ρ' => ∃ x, ρ' = [.ins "Plan" [], pricesD rs, .int n, packsD ws, x, .non]) (b := sIf (cNot (cB (eCall F_does_fit (aCons (eVar 1) (aCons (eVar 2) (aCons (eVar 3) (aCons (eVar 4) aNil))))))) (sRaise "BadFit" "name" (aCons (eVar 4) aNil)) sNext) (ds := ws.map fun x => .str x.1) (fun x hx ρ hp => by
        obtain ⟨y, rfl⟩ := hp
        obtain ⟨w, hw, rfl⟩ := List.mem_map.mp hx
        refine ⟨_, rfl, sp_if0 ?_ (Out.sp_ok ⟨_, rfl, _, rfl⟩)⟩
        simp only [fnD, sSeq, sIf, sRet, sRetN, sDrop, sSet, sNext, sRaise, eVar, eC, eOp, eUn, eCall, eAnd, eOr, eNot, eIf, eChain, eTup, eLst, eLc, iOf, cB, cNot, cAnd, cOr, aNil, aCons, gN, Out.ok_bind, Out.exc_bind, Out.nox_ok, boD_some, List.cons_append, List.nil_append, List.append_nil, List.length_cons, List.length_nil, List.replicate, List.getD_cons_zero, List.getD_cons_succ, List.set_cons_zero, List.set_cons_succ, Nat.reduceAdd, Nat.reduceSub, Nat.reduceLeDiff, List.replicate_succ, List.replicate_zero, cond_true, cond_false, Bool.not_true, Bool.not_false, fit_ok h.wn (show (w.1, w.2) ∈ ws from hw) (h.fi w hw)]
        exact Out.sp_ok rfl) [.ins "Plan" [], pricesD rs, .int n, packsD ws, .non, .non] ⟨.non, rfl⟩
      rw [Nat.zero_mul] at this
      exact this
  obtain ⟨x, rfl⟩ := e
  have e5 : itemsK (packsD ws) = .ok (ws.map fun x => .str x.1) := itemsK_of (g := packD) fun w hw => nameOk_sok (h.wk w hw)
  refine sp_seq0 (P := fun ρ' => ρ' = [.ins "Plan" [], pricesD rs, .int n, packsD ws, x, .non]) (sp_if0 ?_ (Out.sp_ok ⟨_, rfl, rfl⟩)) fun ρ' e => ?_
  · have e6 : lcD (gN 4) cYes (eUn (dFld "Pack" "own_amount") (eOp dGet (eVar 3) (eVar 4))) [.ins "Plan" [], pricesD rs, .int n, packsD ws, x, .non] (ws.map fun x => .str x.1) = .ok (ws.map fun w => .int w.2.amount) := by
      refine lc_str fun r hr => ⟨_, rfl, ?_⟩
      simp only [fnD, sSeq, sIf, sRet, sRetN, sDrop, sSet, sNext, sRaise, eVar, eC, eOp, eUn, eCall, eAnd, eOr, eNot, eIf, eChain, eTup, eLst, eLc, iOf, cB, cNot, cAnd, cOr, aNil, aCons, gN, Out.ok_bind, Out.exc_bind, Out.nox_ok, boD_some, List.cons_append, List.nil_append, List.append_nil, List.length_cons, List.length_nil, List.replicate, List.getD_cons_zero, List.getD_cons_succ, List.set_cons_zero, List.set_cons_succ, Nat.reduceAdd, Nat.reduceSub, Nat.reduceLeDiff, List.replicate_succ, List.replicate_zero, cond_true, cond_false, Bool.not_true, Bool.not_false, get_pack h.wn (show (r.1, r.2) ∈ ws from hr), pk_amount]
    have e7 : decide ((6 : Int) < (ws.map (·.2.amount)).sum) = false := decide_eq_false (by have := h.un; omega)
    have h2 : eLock 3 (eCall dSum (aCons (eLc (iOf itemsK (eVar 3)) (gN 4) cYes (eUn (dFld "Pack" "own_amount") (eOp dGet (eVar 3) (eVar 4)))) aNil)) [.ins "Plan" [], pricesD rs, .int n, packsD ws, x, .non] = .ok (.int (ws.map (·.2.amount)).sum) := by
      show (Out.nox _) = _
      simp only [fnD, sSeq, sIf, sRet, sRetN, sDrop, sSet, sNext, sRaise, eVar, eC, eOp, eUn, eCall, eAnd, eOr, eNot, eIf, eChain, eTup, eLst, eLc, iOf, cB, cNot, cAnd, cOr, aNil, aCons, gN, Out.ok_bind, Out.exc_bind, Out.nox_ok, boD_some, List.cons_append, List.nil_append, List.append_nil, List.length_cons, List.length_nil, List.replicate, List.getD_cons_zero, List.getD_cons_succ, List.set_cons_zero, List.set_cons_succ, Nat.reduceAdd, Nat.reduceSub, Nat.reduceLeDiff, List.replicate_succ, List.replicate_zero, cond_true, cond_false, Bool.not_true, Bool.not_false, e5, e6, sum_of]
    have h3 : dGt (.int (ws.map (·.2.amount)).sum) (.int 6) = .ok (.bl false) := by
      show Out.ok (D.bl (decide ((6 : Int) < (ws.map (·.2.amount)).sum))) = _
      rw [e7]
    rw [cB_ok ((eOp_ok h2 rfl).trans h3)]
    exact Out.sp_ok rfl
  subst e
  refine sp_seq0 (sp_fld0 (d := pricesD rs) [] rfl rfl (by decide) ?_) fun ρ' e => ?_
  · unfold eDc
    refine Out.sp_then (c1 := 0) (P := fun ds => ds = rs.map fun x => .str x.1) ?_ (Nat.le_refl 0) fun ds hds => ?_
    · simp only [fnD, sSeq, sIf, sRet, sRetN, sDrop, sSet, sNext, sRaise, eVar, eC, eOp, eUn, eCall, eAnd, eOr, eNot, eIf, eChain, eTup, eLst, eLc, iOf, cB, cNot, cAnd, cOr, aNil, aCons, gN, Out.ok_bind, Out.exc_bind, Out.nox_ok, boD_some, List.cons_append, List.nil_append, List.append_nil, List.length_cons, List.length_nil, List.replicate, List.getD_cons_zero, List.getD_cons_succ, List.set_cons_zero, List.set_cons_succ, Nat.reduceAdd, Nat.reduceSub, Nat.reduceLeDiff, List.replicate_succ, List.replicate_zero, cond_true, cond_false, Bool.not_true, Bool.not_false, Out.bind_assoc]
      refine Out.sp_then kr (Nat.le_refl 0) fun d hd => ?_
      subst hd
      exact Out.sp_ok rfl
    · subst hds
      rw [dc_same (g := D.int) (fun r hr => ?_) (by simp) (fun r hr p hp => by cases hp) h.rn]
      · exact Out.sp_ok rfl
      · simp only [fnD, sSeq, sIf, sRet, sRetN, sDrop, sSet, sNext, sRaise, eVar, eC, eOp, eUn, eCall, eAnd, eOr, eNot, eIf, eChain, eTup, eLst, eLc, iOf, cB, cNot, cAnd, cOr, aNil, aCons, gN, Out.ok_bind, Out.exc_bind, Out.nox_ok, boD_some, List.cons_append, List.nil_append, List.append_nil, List.length_cons, List.length_nil, List.replicate, List.getD_cons_zero, List.getD_cons_succ, List.set_cons_zero, List.set_cons_succ, Nat.reduceAdd, Nat.reduceSub, Nat.reduceLeDiff, List.replicate_succ, List.replicate_zero, cond_true, cond_false, Bool.not_true, Bool.not_false, get_price h.rn (show (r.1, r.2) ∈ rs from hr)]
  subst e
  refine sp_seq0 (sp_fld0 (d := .int n) ["own_prices"] rfl (by decide +kernel) (by decide) (Out.sp_ok rfl)) fun ρ' e => ?_
  subst e
  refine sp_seq0 (sp_fld0 (d := .tup (ws.map fun x => .str x.1)) ["own_prices", "own_days"] rfl (by decide +kernel) (by decide) ?_) fun ρ' e => ?_
  · simp only [fnD, sSeq, sIf, sRet, sRetN, sDrop, sSet, sNext, sRaise, eVar, eC, eOp, eUn, eCall, eAnd, eOr, eNot, eIf, eChain, eTup, eLst, eLc, iOf, cB, cNot, cAnd, cOr, aNil, aCons, gN, Out.ok_bind, Out.exc_bind, Out.nox_ok, boD_some, List.cons_append, List.nil_append, List.append_nil, List.length_cons, List.length_nil, List.replicate, List.getD_cons_zero, List.getD_cons_succ, List.set_cons_zero, List.set_cons_succ, Nat.reduceAdd, Nat.reduceSub, Nat.reduceLeDiff, List.replicate_succ, List.replicate_zero, cond_true, cond_false, Bool.not_true, Bool.not_false, Out.bind_assoc]
    refine Out.sp_then kw (Nat.le_refl 0) fun d hd => ?_
    subst hd
    exact Out.sp_ok rfl
  subst e
  refine Out.sp_q (sp_fld0 (d := .tup (ws.map fun x => packD x.2)) ["own_prices", "own_days", "own_names"] rfl (by decide +kernel) (by decide) ?_) fun r hr => ?_
  · have key : ∀ fs : List (Str × D), fs.lookup ("own_names" : Str) = some (D.tup (ws.map fun x => .str x.1)) → ((eCall dTuple (aCons (eLc (iOf itemsT (eUn (dFld "Plan" "own_names") (eVar 0))) (gN 4) cYes (eOp dGet (eVar 3) (eVar 4))) aNil)) [.ins "Plan" fs, pricesD rs, .int n, packsD ws, x, .non]).sp 0 (fun d => d = .tup (ws.map fun x => packD x.2)) (fun _ _ => False) := fun fs hf => by
      have k : dFld "Plan" "own_names" (.ins "Plan" fs) = .ok (.tup (ws.map fun x => .str x.1)) := fld_of hf
      have e6 : lcD (gN 4) cYes (eOp dGet (eVar 3) (eVar 4)) [.ins "Plan" fs, pricesD rs, .int n, packsD ws, x, .non] (ws.map fun x => .str x.1) = .ok (ws.map fun w => packD w.2) := by
        refine lc_str fun r hr => ⟨_, rfl, ?_⟩
        simp only [fnD, sSeq, sIf, sRet, sRetN, sDrop, sSet, sNext, sRaise, eVar, eC, eOp, eUn, eCall, eAnd, eOr, eNot, eIf, eChain, eTup, eLst, eLc, iOf, cB, cNot, cAnd, cOr, aNil, aCons, gN, Out.ok_bind, Out.exc_bind, Out.nox_ok, boD_some, List.cons_append, List.nil_append, List.append_nil, List.length_cons, List.length_nil, List.replicate, List.getD_cons_zero, List.getD_cons_succ, List.set_cons_zero, List.set_cons_succ, Nat.reduceAdd, Nat.reduceSub, Nat.reduceLeDiff, List.replicate_succ, List.replicate_zero, cond_true, cond_false, Bool.not_true, Bool.not_false, get_pack h.wn (show (r.1, r.2) ∈ ws from hr)]
      simp only [fnD, sSeq, sIf, sRet, sRetN, sDrop, sSet, sNext, sRaise, eVar, eC, eOp, eUn, eCall, eAnd, eOr, eNot, eIf, eChain, eTup, eLst, eLc, iOf, cB, cNot, cAnd, cOr, aNil, aCons, gN, Out.ok_bind, Out.exc_bind, Out.nox_ok, boD_some, List.cons_append, List.nil_append, List.append_nil, List.length_cons, List.length_nil, List.replicate, List.getD_cons_zero, List.getD_cons_succ, List.set_cons_zero, List.set_cons_succ, Nat.reduceAdd, Nat.reduceSub, Nat.reduceLeDiff, List.replicate_succ, List.replicate_zero, cond_true, cond_false, Bool.not_true, Bool.not_false, k, itemsT, e6, dTuple]
      exact Out.sp_ok rfl
    refine key _ ?_
    show List.lookup _ (((_ : Str), (_ : D)) :: ((_ : Str), (_ : D)) :: ((_ : Str), (_ : D)) :: []) = _
    rw [lk_miss (by decide +kernel), lk_miss (by decide +kernel), lk_hit]
  · obtain ⟨ρ', rfl, rfl⟩ := hr
    exact ⟨_, rfl, rfl⟩
theorem plan_made {rs : List (Str × Int)} {n : Nat} {ws : List (Str × Ware)} (h : PlanP rs n ws) : (F_Plan___init__ [pricesD rs, .int n, packsD ws]).sp 0 (fun d => d = planD rs n ws) (fun _ _ => False) := by
  unfold F_Plan___init__ fnI
  refine Out.sp_then (plan_body h rfl) (Nat.le_refl 0) fun r hr => ?_
  obtain ⟨ρ2, rfl, e⟩ := hr
  exact Out.sp_ok e
end ND
namespace ND
open PySem PySem.Spec PyProof.Rows L2
theorem sub_nodup {kinds : List Str} {n : Nat} (h : kinds.Nodup) : (allSpots kinds n).Nodup := by
  unfold allSpots spSort
  refine (List.mergeSort_perm _ _).nodup_iff.mpr ?_
  unfold spots0
  refine List.pairwise_flatMap.mpr ⟨fun t _ => ?_, ?_⟩
  · exact List.Pairwise.map _ (fun a b hab z => hab (congrArg Prod.fst z)) h
  · refine List.Pairwise.imp (fun {a b} hab => ?_) (List.nodup_range (n := n))
    intro x hx y hy z
    obtain ⟨k, _, rfl⟩ := List.mem_map.mp hx
    obtain ⟨k', _, rfl⟩ := List.mem_map.mp hy
    have z2 : (a : Int) = b := congrArg Prod.snd z
    exact hab (by omega)
theorem plan_of_sheet {most : Nat} {units : Int} {s : Sheet} (h : SheetOk most units s) (hm : most ≤ 4) (hu : units ≤ 6) : PlanP s.rates s.span s.wares := by
  have key : ∀ k ∈ s.rates.map (·.1), NameOk k := fun k hk => by
    obtain ⟨r, hr, rfl⟩ := List.mem_map.mp hk
    exact (h.rn r hr).1
  have sp : s.span * s.rates.length ≤ 4 * 3 := Nat.mul_le_mul h.d1 h.r1
  refine ⟨h.r0, h.r1, h.rnd, h.rn, h.rso, h.d0, h.d1, Nat.le_trans h.wl hm, h.wnd, h.wn, h.wso, fun w hw => ?_, fun w hw => ?_, Int.le_trans h.sum hu⟩
  · have o := h.wo w hw
    refine ⟨⟨?_, ?_, fun x hx => ?_, (sub_nodup h.rnd).sublist o.sub⟩, o.am0, o.am3, o.cost, fun r hr => ?_⟩
    · exact List.length_pos_iff.mpr o.ne
    · have l := o.sub.length_le
      unfold allSpots spSort at l
      rw [List.length_mergeSort, sp0_len, List.length_map] at l
      omega
    · obtain ⟨a, b, c⟩ := sp_mem (o.sub.subset hx)
      have := h.d1
      exact ⟨key _ a, b, by omega⟩
    · obtain ⟨a, b, x, hx, e, _⟩ := h.roll w hw r hr
      rw [← e]
      exact ⟨h.wn x hx, a, b⟩
  · have o := h.wo w hw
    refine ⟨o.ne, ?_, fun x hx => (sp_mem (o.sub.subset hx)).1, fun r hr => ?_⟩
    · obtain ⟨x, hx, e⟩ := List.mem_map.mp (lastS_mem o.ne)
      rw [← e]
      exact (sp_mem (o.sub.subset hx)).2.2
    · obtain ⟨_, _, x, hx, e, hl⟩ := h.roll w hw r hr
      exact ⟨x.2, by rw [← e]; exact hx, (h.wo x hx).ne, hl⟩
end ND
namespace ND
open PySem PySem.Spec PyProof.Rows L2
theorem gv_hit {k : Str} {d : D} {r : List (Key × D)} : valD ((kS k, d) :: r) (kS k) = some d := by rw [valD_cons, if_pos rfl]
theorem gv_miss {k g : Str} {d : D} {r : List (Key × D)} (h : decide (g = k) = false) : valD ((kS g, d) :: r) (kS k) = valD r (kS k) := by
  rw [valD_cons, if_neg fun z => of_decide_eq_false h (kS_inj z)]
theorem get_of {kvs : List (Key × D)} {k : Str} {d : D} (h : valD kvs (kS k) = some d) : dGet (.dct kvs) (.str k) = .ok d := by
  show optD (valD kvs (kS k)) = _
  rw [h]
  rfl
section
variable {s : Sheet} {w : Ware}
def waresD (s : Sheet) : D := .dct (s.wares.map fun w => ((kS w.1 : Key), encWare w.2))
theorem sh_prices : dGet (encSheet s) (.str "prices") = .ok (pricesD s.rates) := get_of gv_hit
theorem sh_days : dGet (encSheet s) (.str "days") = .ok (.int s.span) := get_of ((gv_miss (by decide +kernel)).trans gv_hit)
theorem sh_packs : dGet (encSheet s) (.str "packs") = .ok (waresD s) := get_of ((gv_miss (by decide +kernel)).trans ((gv_miss (by decide +kernel)).trans gv_hit))
theorem wa_slots : dGet (encWare w) (.str "slots") = .ok (.lst (w.slots.map encSpot)) := get_of gv_hit
theorem wa_amount : dGet (encWare w) (.str "amount") = .ok (.int w.amount) := get_of ((gv_miss (by decide +kernel)).trans gv_hit)
theorem wa_cost : dGet (encWare w) (.str "cost") = .ok (encOI w.cost) := get_of ((gv_miss (by decide +kernel)).trans ((gv_miss (by decide +kernel)).trans gv_hit))
theorem wa_roll : dGet (encWare w) (.str "roll") = .ok (encOS w.roll) := get_of ((gv_miss (by decide +kernel)).trans ((gv_miss (by decide +kernel)).trans ((gv_miss (by decide +kernel)).trans gv_hit)))
theorem get_ware {l : Str} (nd : (s.wares.map (·.1)).Nodup) (h : (l, w) ∈ s.wares) : dGet (waresD s) (.str l) = .ok (encWare w) := get_of (valD_at (g := encWare) nd h)
theorem wares_ok {most : Nat} {units : Int} {X : Str → List (Str × D) → Prop} (h : SheetOk most units s) (hm : most ≤ 10) : (F__law_wares [encSheet s]).sp 0 (fun d => d = .lst (s.wares.map fun x => .str x.1)) X := by
  unfold F__law_wares S__law_wares
  simp only [fnD, sSeq, sIf, sRet, sRetN, sDrop, sSet, sNext, sRaise, eVar, eC, eOp, eUn, eCall, eAnd, eOr, eNot, eIf, eChain, eTup, eLst, eLc, iOf, cB, cNot, cAnd, cOr, aNil, aCons, gN, Out.ok_bind, Out.exc_bind, Out.nox_ok, boD_some, List.cons_append, List.nil_append, List.append_nil, List.length_cons, List.length_nil, List.replicate, List.getD_cons_zero, List.getD_cons_succ, List.set_cons_zero, List.set_cons_succ, Nat.reduceAdd, Nat.reduceSub, Nat.reduceLeDiff, List.replicate_succ, List.replicate_zero, cond_true, cond_false, Bool.not_true, Bool.not_false, sh_packs, Out.bind_assoc]
  refine Out.sp_then (sortK (g := encWare) (ws := s.wares) (by have := h.wl; omega) (fun w hw => nameOk_sok (h.wn w hw)) h.wso) (Nat.le_refl 0) fun d hd => ?_
  subst hd
  exact Out.sp_ok rfl
end
end ND
namespace ND
open PySem PySem.Spec PyProof.Rows L2
section
variable {s : Sheet} {w : Ware}
theorem putD_pack {acc : List (Str × Ware)} {l : Str} {w : Ware} (h : l ∉ acc.map (·.1)) : putD (acc.map fun w => ((kS w.1 : Key), packD w.2)) (kS l) (packD w) = (acc ++ [(l, w)]).map fun w => ((kS w.1 : Key), packD w.2) := by
  unfold putD
  rw [if_neg, List.map_append]
  · rfl
  · intro z
    obtain ⟨p, hp, hz⟩ := List.any_eq_true.mp z
    obtain ⟨x, hx, rfl⟩ := List.mem_map.mp hp
    have e := kS_inj (of_decide_eq_true hz)
    exact h (List.mem_map.mpr ⟨x, hx, e⟩)
theorem plan_step {most : Nat} {units : Int} {acc : List (Str × Ware)} {l : Str} {y : D} (h : SheetOk most units s) (hw : (l, w) ∈ s.wares) (wp : WareP w) (hl : acc.length < 1000) (hn : l ∉ acc.map (·.1)) :
    (sSeq (sSet 3 (eOp dGet (eOp dGet (eVar 0) (eC (.str "packs"))) (eVar 2))) (sDPutO 1 (eVar 2) (eCall (fun ds => F_Pack___init__ (ds ++ [])) (aCons (eOp dGet (eVar 3) (eC (.str "slots"))) (aCons (eOp dGet (eVar 3) (eC (.str "amount"))) (aCons (eOp dGet (eVar 3) (eC (.str "cost"))) (aCons (eOp dGet (eVar 3) (eC (.str "roll"))) aNil)))))) [encSheet s, packsD acc, .str l, y]).sp 0
      (fun r => r = .nx [encSheet s, packsD (acc ++ [(l, w)]), .str l, encWare w]) (fun _ _ => False) := by
  rw [seq_nx (ρ' := [encSheet s, packsD acc, .str l, encWare w]) (by simp only [fnD, sSeq, sIf, sRet, sRetN, sDrop, sSet, sNext, sRaise, eVar, eC, eOp, eUn, eCall, eAnd, eOr, eNot, eIf, eChain, eTup, eLst, eLc, iOf, cB, cNot, cAnd, cOr, aNil, aCons, gN, Out.ok_bind, Out.exc_bind, Out.nox_ok, boD_some, List.cons_append, List.nil_append, List.append_nil, List.length_cons, List.length_nil, List.replicate, List.getD_cons_zero, List.getD_cons_succ, List.set_cons_zero, List.set_cons_succ, Nat.reduceAdd, Nat.reduceSub, Nat.reduceLeDiff, List.replicate_succ, List.replicate_zero, cond_true, cond_false, Bool.not_true, Bool.not_false, sh_packs, get_ware h.wnd hw])]
  unfold sDPutO
  simp only [fnD, sSeq, sIf, sRet, sRetN, sDrop, sSet, sNext, sRaise, eVar, eC, eOp, eUn, eCall, eAnd, eOr, eNot, eIf, eChain, eTup, eLst, eLc, iOf, cB, cNot, cAnd, cOr, aNil, aCons, gN, Out.ok_bind, Out.exc_bind, Out.nox_ok, boD_some, List.cons_append, List.nil_append, List.append_nil, List.length_cons, List.length_nil, List.replicate, List.getD_cons_zero, List.getD_cons_succ, List.set_cons_zero, List.set_cons_succ, Nat.reduceAdd, Nat.reduceSub, Nat.reduceLeDiff, List.replicate_succ, List.replicate_zero, cond_true, cond_false, Bool.not_true, Bool.not_false, wa_slots, wa_amount, wa_cost, wa_roll, Out.bind_assoc]
  refine Out.sp_then (pack_made wp) (Nat.le_refl 0) fun d hd => ?_
  subst hd
  have e : decide ((acc.map fun w => ((kS w.1 : Key), packD w.2)).length < 99999) = true := decide_eq_true (by rw [List.length_map]; omega)
  show (bif decide ((acc.map fun w => ((kS w.1 : Key), packD w.2)).length < 99999) then Out.ok (Res.nx [encSheet s, .dct (putD (acc.map fun w => ((kS w.1 : Key), packD w.2)) (kS l) (packD w)), .str l, encWare w]) else .stuck).sp _ _ _
  rw [e, putD_pack hn]
  exact Out.sp_ok rfl
end
end ND
namespace ND
open PySem PySem.Spec PyProof.Rows L2
section
variable {s : Sheet} {w : Ware}
abbrev planB : Rho → Out Res := sSeq (sSet 3 (eOp dGet (eOp dGet (eVar 0) (eC (.str "packs"))) (eVar 2))) (sDPutO 1 (eVar 2) (eCall (fun ds => F_Pack___init__ (ds ++ [])) (aCons (eOp dGet (eVar 3) (eC (.str "slots"))) (aCons (eOp dGet (eVar 3) (eC (.str "amount"))) (aCons (eOp dGet (eVar 3) (eC (.str "cost"))) (aCons (eOp dGet (eVar 3) (eC (.str "roll"))) aNil))))))
theorem plan_loop {most : Nat} {units : Int} (h : SheetOk most units s) (P : PlanP s.rates s.span s.wares) : ∀ (ws acc : List (Str × Ware)) (x y : D), (∀ w ∈ ws, w ∈ s.wares) → ((acc ++ ws).map (·.1)).Nodup → acc.length + ws.length < 1000 →
    (forD (gN 2) planB (ws.map fun x => .str x.1) [encSheet s, packsD acc, x, y]).sp 0 (fun r => ∃ x y, r = .nx [encSheet s, packsD (acc ++ ws), x, y]) (fun _ _ => False)
  | [], acc, x, y, _, _, _ => by
    rw [List.append_nil]
    exact Out.sp_ok ⟨x, y, rfl⟩
  | w :: ws, acc, x, y, hw, nd, hl => by
    rw [List.map_cons]
    unfold forD
    have hn : w.1 ∉ acc.map (·.1) := fun z => by
      rw [List.map_append, List.map_cons] at nd
      exact (List.nodup_append.mp nd).2.2 _ z _ List.mem_cons_self rfl
    have hlc : (w :: ws).length = ws.length + 1 := rfl
    refine Out.sp_then (plan_step (y := y) h (show (w.1, w.2) ∈ s.wares from hw w List.mem_cons_self) (P.wp w (hw w List.mem_cons_self)) (by omega) hn) (Nat.le_refl 0) fun r hr => ?_
    subst hr
    have := plan_loop h P ws (acc ++ [(w.1, w.2)]) (.str w.1) (encWare w.2) (fun v hv => hw v (List.mem_cons_of_mem _ hv)) (by rw [List.append_assoc]; exact nd) (by rw [List.length_append]; show acc.length + 1 + ws.length < 1000; omega)
    rw [List.append_assoc] at this
    exact this
theorem lawplan_ok {most : Nat} {units : Int} (h : SheetOk most units s) (hm : most ≤ 4) (hu : units ≤ 6) : (F__law_plan [encSheet s]).sp 0 (fun d => d = planD s.rates s.span s.wares) (fun _ _ => False) := by
  have P := plan_of_sheet h hm hu
  unfold F__law_plan S__law_plan fnD
  refine Out.sp_then (c1 := 0) (P := fun r => r = .rt (planD s.rates s.span s.wares)) ?_ (Nat.le_refl 0) fun r hr => ?_
  · refine sp_seq0 (P := fun ρ' => ρ' = [encSheet s, packsD [], .non, .non]) (Out.sp_ok ⟨_, rfl, rfl⟩) fun ρ' e => ?_
    subst e
    refine sp_seq0 (P := fun ρ' => ∃ x y, ρ' = [encSheet s, packsD s.wares, x, y]) ?_ fun ρ' e => ?_
    · unfold sFor
      refine Out.sp_then (c1 := 0) (P := fun ds => ds = s.wares.map fun x => .str x.1) ?_ (Nat.le_refl 0) fun ds hds => ?_
      · simp only [fnD, sSeq, sIf, sRet, sRetN, sDrop, sSet, sNext, sRaise, eVar, eC, eOp, eUn, eCall, eAnd, eOr, eNot, eIf, eChain, eTup, eLst, eLc, iOf, cB, cNot, cAnd, cOr, aNil, aCons, gN, Out.ok_bind, Out.exc_bind, Out.nox_ok, boD_some, List.cons_append, List.nil_append, List.append_nil, List.length_cons, List.length_nil, List.replicate, List.getD_cons_zero, List.getD_cons_succ, List.set_cons_zero, List.set_cons_succ, Nat.reduceAdd, Nat.reduceSub, Nat.reduceLeDiff, List.replicate_succ, List.replicate_zero, cond_true, cond_false, Bool.not_true, Bool.not_false, Out.bind_assoc]
        refine Out.sp_then (wares_ok h (by omega)) (Nat.le_refl 0) fun d hd => ?_
        subst hd
        exact Out.sp_ok rfl
      · subst hds
        refine Out.sp_q (plan_loop h P s.wares [] .non .non (fun _ z => z) h.wnd (by have := h.wl; show 0 + s.wares.length < 1000; omega)) fun r hr => ?_
        obtain ⟨x, y, rfl⟩ := hr
        exact ⟨_, rfl, x, y, rfl⟩
    · obtain ⟨x, y, rfl⟩ := e
      unfold sRet
      simp only [fnD, sSeq, sIf, sRet, sRetN, sDrop, sSet, sNext, sRaise, eVar, eC, eOp, eUn, eCall, eAnd, eOr, eNot, eIf, eChain, eTup, eLst, eLc, iOf, cB, cNot, cAnd, cOr, aNil, aCons, gN, Out.ok_bind, Out.exc_bind, Out.nox_ok, boD_some, List.cons_append, List.nil_append, List.append_nil, List.length_cons, List.length_nil, List.replicate, List.getD_cons_zero, List.getD_cons_succ, List.set_cons_zero, List.set_cons_succ, Nat.reduceAdd, Nat.reduceSub, Nat.reduceLeDiff, List.replicate_succ, List.replicate_zero, cond_true, cond_false, Bool.not_true, Bool.not_false, sh_prices, sh_days, Out.bind_assoc]
      refine Out.sp_then (plan_made P) (Nat.le_refl 0) fun d hd => ?_
      subst hd
      exact Out.sp_ok rfl
  · subst hr
    exact Out.sp_ok rfl
end
end ND
namespace ND
open PySem PySem.Spec PyProof.Rows L2
theorem take_ok {n : Int} {X : Str → List (Str × D) → Prop} (h0 : 0 < n) (h1 : n < 1000000) : (F__law_take [.drw, .int n]).sp 1 (fun d => inR n d) X := by
  unfold F__law_take takeD
  show (if 0 < n ∧ n < 1000000 then Out.any 1 (inR n) Out.ok else Out.stuck).sp _ _ _
  rw [if_pos ⟨h0, h1⟩]
  exact Out.sp_any (c := 0) fun d hd => Out.sp_ok hd
theorem atI_memD {xs : List D} {i : Int} (h0 : 0 ≤ i) (h1 : i < xs.length) : ∃ x ∈ xs, L2.atI xs i = some x := by
  refine ⟨xs[i.toNat]'(by omega), List.getElem_mem _, ?_⟩
  unfold L2.atI L2.ixN
  rw [if_pos h0, if_pos h1]
  exact List.getElem?_eq_getElem (by omega)
theorem pick_ok {xs : List D} {X : Str → List (Str × D) → Prop} (h0 : 0 < xs.length) (h1 : xs.length < 1000000) : (F__law_pick [.drw, .lst xs]).sp 1 (fun d => d ∈ xs) X := by
  unfold F__law_pick S__law_pick
  simp only [fnD, sSeq, sIf, sRet, sRetN, sDrop, sSet, sNext, sRaise, eVar, eC, eOp, eUn, eCall, eAnd, eOr, eNot, eIf, eChain, eTup, eLst, eLc, iOf, cB, cNot, cAnd, cOr, aNil, aCons, gN, Out.ok_bind, Out.exc_bind, Out.nox_ok, boD_some, List.cons_append, List.nil_append, List.append_nil, List.length_cons, List.length_nil, List.replicate, List.getD_cons_zero, List.getD_cons_succ, List.set_cons_zero, List.set_cons_succ, Nat.reduceAdd, Nat.reduceSub, Nat.reduceLeDiff, List.replicate_succ, List.replicate_zero, cond_true, cond_false, Bool.not_true, Bool.not_false, dLen, Out.bind_assoc]
  refine Out.sp_then (take_ok (by omega) (by omega)) (Nat.le_refl 1) fun d hd => ?_
  obtain ⟨i, i0, i1, rfl⟩ := hd
  obtain ⟨x, hx, e⟩ := atI_memD i0 i1
  have k : dIx (.lst xs) (.int i) = .ok x := by
    show optD (L2.atI xs i) = _
    rw [e]
    rfl
  simp only [fnD, sSeq, sIf, sRet, sRetN, sDrop, sSet, sNext, sRaise, eVar, eC, eOp, eUn, eCall, eAnd, eOr, eNot, eIf, eChain, eTup, eLst, eLc, iOf, cB, cNot, cAnd, cOr, aNil, aCons, gN, Out.ok_bind, Out.exc_bind, Out.nox_ok, boD_some, List.cons_append, List.nil_append, List.append_nil, List.length_cons, List.length_nil, List.replicate, List.getD_cons_zero, List.getD_cons_succ, List.set_cons_zero, List.set_cons_succ, Nat.reduceAdd, Nat.reduceSub, Nat.reduceLeDiff, List.replicate_succ, List.replicate_zero, cond_true, cond_false, Bool.not_true, Bool.not_false, k]
  exact Out.sp_ok hx
end ND
/-! k25: what the functions of slots answer -/
namespace ND
open PySem PySem.Spec PyProof.Rows L2
theorem sort_filter {α : Type} {le : α → α → Bool} (h : PySem.W.TotalLe le) (p : α → Bool) (l : List α) : (l.filter p).mergeSort le = (l.mergeSort le).filter p := by
  refine (PySem.W.sort_unique h ((PySem.W.sort_pairwise h l).filter p) fun c => ?_).symm
  have e : ∀ m : List α, (m.filter p).filter (PySem.W.sameRank le c) = (m.filter (PySem.W.sameRank le c)).filter p := fun m => by
    rw [List.filter_filter, List.filter_filter]
    congr 1
    funext a
    exact Bool.and_comm _ _
  rw [e, e, PySem.W.sort_stable h]
theorem data_total {β : Type} (k : β → PyData) : PySem.W.TotalLe (PySem.W.dataLe false k) := by
  unfold PySem.W.dataLe
  exact PySem.W.sortLe_total _ _ _
def leSp (a b : Spot) : Bool := dLeB (encSpot a) (encSpot b)
def srtS (ss : List Spot) : List Spot := ss.mergeSort leSp
theorem leSp_total : PySem.W.TotalLe leSp := data_total fun a : Spot => (encSpot a).py
theorem sortD_enc (ss : List Spot) : sortD (ss.map encSpot) = (srtS ss).map encSpot := by
  unfold sortD srtS
  exact (List.map_mergeSort (f := encSpot) (r := leSp) (s := dLeB) fun a _ b _ => rfl).symm
theorem srtS_mem {ss : List Spot} {p : Spot} : p ∈ srtS ss ↔ p ∈ ss := List.mem_mergeSort
theorem lc_spots {c : Rho → Out Bool} {ρ : Rho} {p : Spot → Bool} {i : Nat} (hi : i < ρ.length) : ∀ {ss : List Spot}, (∀ s ∈ ss, c (ρ.set i (encSpot s)) = .ok (p s)) → lcD (gN i) c (eVar i) ρ (ss.map encSpot) = .ok ((ss.filter p).map encSpot)
  | [], _ => rfl
  | s :: ss, h => by
    have h1 := h s List.mem_cons_self
    have e : gN i (encSpot s) ρ = some (ρ.set i (encSpot s)) := rfl
    have e2 : eVar i (ρ.set i (encSpot s)) = .ok (encSpot s) := by
      unfold eVar
      rw [List.getD_eq_getElem?_getD, List.getElem?_set_self hi]
      rfl
    rw [List.map_cons]
    unfold lcD
    simp only [e, h1, Out.nox_ok, Out.ok_bind, e2]
    have ih := lc_spots hi fun t ht => h t (List.mem_cons_of_mem _ ht)
    cases hp : p s with
    | true =>
      rw [List.filter_cons_of_pos hp]
      simp only [cond_true, ih, Out.ok_bind, List.map_cons]
    | false =>
      rw [List.filter_cons_of_neg (by rw [hp]; exact Bool.false_ne_true)]
      simp only [cond_false, ih]
variable {s : Sheet} {w v : Ware} {l k : Str} {d : Int} {rs : List (Str × Int)} {n : Nat} {ws : List (Str × Ware)}
theorem sorted_spots (ss : List Spot) : dSorted [.lst (ss.map encSpot)] = .ok (.lst ((srtS ss).map encSpot)) := by
  show (bif canSort (ss.map encSpot) then Out.ok (D.lst (sortD (ss.map encSpot))) else .stuck) = _
  rw [canSort_spots, sortD_enc]
  rfl
def fromD (d : Int) (p : Spot) : Bool := decide (p.2 ≥ d)
theorem later_eq (nd : (s.wares.map (·.1)).Nodup) (h : (l, w) ∈ s.wares) : F__law_later [encSheet s, .str l, .int d] = .ok (.lst ((srtS (w.slots.filter (fromD d))).map encSpot)) := by
  unfold F__law_later S__law_later
  have e4 : lcD (gN 3) (cB (eOp dGe (eOp dIx (eVar 3) (eC (.int 1))) (eVar 2))) (eVar 3) [encSheet s, .str l, .int d, .non] (w.slots.map encSpot) = .ok ((w.slots.filter (fromD d)).map encSpot) := by
    refine lc_spots (by show 3 < 4; decide) fun p hp => ?_
    unfold encSpot
    simp only [fnD, sSeq, sIf, sRet, sRetN, sDrop, sSet, sNext, sRaise, eVar, eC, eOp, eUn, eCall, eAnd, eOr, eNot, eIf, eChain, eTup, eLst, eLc, iOf, cB, cNot, cAnd, cOr, aNil, aCons, gN, Out.ok_bind, Out.exc_bind, Out.nox_ok, boD_some, List.cons_append, List.nil_append, List.append_nil, List.length_cons, List.length_nil, List.replicate, List.getD_cons_zero, List.getD_cons_succ, List.set_cons_zero, List.set_cons_succ, Nat.reduceAdd, Nat.reduceSub, Nat.reduceLeDiff, List.replicate_succ, List.replicate_zero, cond_true, cond_false, Bool.not_true, Bool.not_false, ix1]
    rfl
  simp only [fnD, sSeq, sIf, sRet, sRetN, sDrop, sSet, sNext, sRaise, eVar, eC, eOp, eUn, eCall, eAnd, eOr, eNot, eIf, eChain, eTup, eLst, eLc, iOf, cB, cNot, cAnd, cOr, aNil, aCons, gN, Out.ok_bind, Out.exc_bind, Out.nox_ok, boD_some, List.cons_append, List.nil_append, List.append_nil, List.length_cons, List.length_nil, List.replicate, List.getD_cons_zero, List.getD_cons_succ, List.set_cons_zero, List.set_cons_succ, Nat.reduceAdd, Nat.reduceSub, Nat.reduceLeDiff, List.replicate_succ, List.replicate_zero, cond_true, cond_false, Bool.not_true, Bool.not_false, sh_packs, get_ware nd h, wa_slots, itemsL, e4, sorted_spots]
theorem strs_names : ∀ ws : List (Str × Ware), strsD (ws.map fun x => D.str x.1) = some (ws.map (·.1))
  | [] => rfl
  | x :: ws => by
    show (strsD (ws.map fun x => D.str x.1)).map _ = _
    rw [strs_names ws]
    rfl
theorem idx_of : ∀ {ws : List (Str × Ware)}, (ws.map (·.1)).Nodup → (l, w) ∈ ws → ∃ j, idxS l (ws.map (·.1)) = some j ∧ ws[j]? = some (l, w)
  | [], _, h => nomatch h
  | x :: ws, nd, h => by
    rw [List.map_cons, List.nodup_cons] at nd
    rcases List.mem_cons.mp h with rfl | h
    · exact ⟨0, by show (if l = l then some 0 else _) = _; rw [if_pos rfl], rfl⟩
    · obtain ⟨j, h1, h2⟩ := idx_of nd.2 h
      have hne : x.1 ≠ l := fun z => nd.1 (z ▸ List.mem_map.mpr ⟨_, h, rfl⟩)
      refine ⟨j + 1, ?_, h2⟩
      show (if x.1 = l then some 0 else (idxS l (ws.map (·.1))).map (· + 1)) = _
      rw [if_neg hne, h1]
      rfl
theorem pl_names : dFld "Plan" "own_names" (planD rs n ws) = .ok (.tup (ws.map fun x => .str x.1)) := fld_of ((lk_miss (by decide +kernel)).trans ((lk_miss (by decide +kernel)).trans lk_hit))
theorem pl_rows : dFld "Plan" "own_rows" (planD rs n ws) = .ok (.tup (ws.map fun x => packD x.2)) := fld_of ((lk_miss (by decide +kernel)).trans ((lk_miss (by decide +kernel)).trans ((lk_miss (by decide +kernel)).trans lk_hit)))
theorem pl_days : dFld "Plan" "own_days" (planD rs n ws) = .ok (.int n) := fld_of ((lk_miss (by decide +kernel)).trans lk_hit)
theorem atI_nat {α : Type} {xs : List α} {j : Nat} {x : α} (h : xs[j]? = some x) : L2.atI xs (j : Int) = some x := by
  have hl : j < xs.length := by
    rcases Nat.lt_or_ge j xs.length with z | z
    · exact z
    · rw [List.getElem?_eq_none z] at h
      cases h
  unfold L2.atI L2.ixN
  rw [if_pos (by omega), if_pos (by omega)]
  exact h
theorem slots_of_eq (nd : (ws.map (·.1)).Nodup) (h : (l, w) ∈ ws) : F_slots_of [planD rs n ws, .str l] = .ok (.tup ((srtS w.slots).map encSpot)) := by
  unfold F_slots_of S_slots_of
  obtain ⟨j, h1, h2⟩ := idx_of nd h
  have e1 : dIx (.tup (ws.map fun x => packD x.2)) (.int (j : Nat)) = .ok (packD w) := by
    show optD (L2.atI (ws.map fun x => packD x.2) (j : Nat)) = _
    rw [atI_nat (x := packD w) (by rw [List.getElem?_map, h2]; rfl)]
    rfl
  simp only [fnD, sSeq, sIf, sRet, sRetN, sDrop, sSet, sNext, sRaise, eVar, eC, eOp, eUn, eCall, eAnd, eOr, eNot, eIf, eChain, eTup, eLst, eLc, iOf, cB, cNot, cAnd, cOr, aNil, aCons, gN, Out.ok_bind, Out.exc_bind, Out.nox_ok, boD_some, List.cons_append, List.nil_append, List.append_nil, List.length_cons, List.length_nil, List.replicate, List.getD_cons_zero, List.getD_cons_succ, List.set_cons_zero, List.set_cons_succ, Nat.reduceAdd, Nat.reduceSub, Nat.reduceLeDiff, List.replicate_succ, List.replicate_zero, cond_true, cond_false, Bool.not_true, Bool.not_false, eIdx, pl_rows, pl_names, strs_names, h1, e1, pk_slots, sortD_enc]
theorem later_slots_eq (nd : (ws.map (·.1)).Nodup) (h : (l, w) ∈ ws) : F_later_slots [planD rs n ws, .str l, .int d] = .ok (.lst (((srtS w.slots).filter (fromD d)).map encSpot)) := by
  unfold F_later_slots S_later_slots
  have e4 : lcD (gN 3) (cB (eOp dGe (eOp dIx (eVar 3) (eC (.int 1))) (eVar 2))) (eVar 3) [planD rs n ws, .str l, .int d, .non] ((srtS w.slots).map encSpot) = .ok (((srtS w.slots).filter (fromD d)).map encSpot) := by
    refine lc_spots (by show 3 < 4; decide) fun p hp => ?_
    unfold encSpot
    simp only [fnD, sSeq, sIf, sRet, sRetN, sDrop, sSet, sNext, sRaise, eVar, eC, eOp, eUn, eCall, eAnd, eOr, eNot, eIf, eChain, eTup, eLst, eLc, iOf, cB, cNot, cAnd, cOr, aNil, aCons, gN, Out.ok_bind, Out.exc_bind, Out.nox_ok, boD_some, List.cons_append, List.nil_append, List.append_nil, List.length_cons, List.length_nil, List.replicate, List.getD_cons_zero, List.getD_cons_succ, List.set_cons_zero, List.set_cons_succ, Nat.reduceAdd, Nat.reduceSub, Nat.reduceLeDiff, List.replicate_succ, List.replicate_zero, cond_true, cond_false, Bool.not_true, Bool.not_false, ix1]
    rfl
  simp only [fnD, sSeq, sIf, sRet, sRetN, sDrop, sSet, sNext, sRaise, eVar, eC, eOp, eUn, eCall, eAnd, eOr, eNot, eIf, eChain, eTup, eLst, eLc, iOf, cB, cNot, cAnd, cOr, aNil, aCons, gN, Out.ok_bind, Out.exc_bind, Out.nox_ok, boD_some, List.cons_append, List.nil_append, List.append_nil, List.length_cons, List.length_nil, List.replicate, List.getD_cons_zero, List.getD_cons_succ, List.set_cons_zero, List.set_cons_succ, Nat.reduceAdd, Nat.reduceSub, Nat.reduceLeDiff, List.replicate_succ, List.replicate_zero, cond_true, cond_false, Bool.not_true, Bool.not_false, fnN, slots_of_eq nd h, itemsT, e4]
/-! ### shared slots -/
theorem eqv_spot (p q : Spot) : dEqB (encSpot p) (encSpot q) = decide (p = q) := by
  unfold dEqB encSpot
  obtain ⟨a, b⟩ := p
  obtain ⟨c, e⟩ := q
  simp [D.py, D.py.pyL, PyData.eqv, PyData.eqvAll]
  rfl
theorem in_spots (p : Spot) (ss : List Spot) : dInB (encSpot p) (ss.map encSpot) = decide (p ∈ ss) := by
  unfold dInB
  rw [List.any_map]
  induction ss with
  | nil => rfl
  | cons t ss ih =>
    rw [List.any_cons, ih]
    show (dEqB (encSpot t) (encSpot p) || _) = _
    rw [eqv_spot]
    by_cases h1 : t = p
    · subst h1
      simp
    · by_cases h2 : p ∈ ss <;> simp [h1, h2, Ne.symm h1]
theorem pl_spots (ss : List Spot) : (ss.map encSpot).all (D.pl 8) = true := by
  rw [List.all_eq_true]
  intro x hx
  obtain ⟨t, _, rfl⟩ := List.mem_map.mp hx
  rfl
theorem dIn_lst (p : Spot) (ss : List Spot) : dIn (encSpot p) (.lst (ss.map encSpot)) = .ok (.bl (decide (p ∈ ss))) := by
  show (bif D.pl 8 (encSpot p) && (ss.map encSpot).all (D.pl 8) then Out.ok (D.bl (false ^^ dInB (encSpot p) (ss.map encSpot))) else .stuck) = _
  rw [pl_spots, in_spots]
  show Out.ok (D.bl (false ^^ _)) = _
  rw [Bool.false_xor]
theorem dIn_tup (p : Spot) (ss : List Spot) : dIn (encSpot p) (.tup (ss.map encSpot)) = .ok (.bl (decide (p ∈ ss))) := by
  show (bif D.pl 8 (encSpot p) && (ss.map encSpot).all (D.pl 8) then Out.ok (D.bl (false ^^ dInB (encSpot p) (ss.map encSpot))) else .stuck) = _
  rw [pl_spots, in_spots]
  show Out.ok (D.bl (false ^^ _)) = _
  rw [Bool.false_xor]
def comm (w v : Ware) : List Spot := (srtS w.slots).filter fun p => decide (p ∈ v.slots)
theorem in_common_eq (nd : (ws.map (·.1)).Nodup) (h : (l, w) ∈ ws) (h2 : (k, v) ∈ ws) : F_in_common [planD rs n ws, .str l, .str k] = .ok (.lst ((comm w v).map encSpot)) := by
  unfold F_in_common S_in_common
  have e4 : lcD (gN 3) (cB (eOp dIn (eVar 3) (eCall F_slots_of (aCons (eVar 0) (aCons (eVar 2) aNil))))) (eVar 3) [planD rs n ws, .str l, .str k, .non] ((srtS w.slots).map encSpot) = .ok ((comm w v).map encSpot) := by
    refine lc_spots (p := fun p => decide (p ∈ v.slots)) (by show 3 < 4; decide) fun p hp => ?_
    have e5 := dIn_tup p (srtS v.slots)
    rw [show decide (p ∈ srtS v.slots) = decide (p ∈ v.slots) from decide_eq_decide.mpr srtS_mem] at e5
    simp only [fnD, sSeq, sIf, sRet, sRetN, sDrop, sSet, sNext, sRaise, eVar, eC, eOp, eUn, eCall, eAnd, eOr, eNot, eIf, eChain, eTup, eLst, eLc, iOf, cB, cNot, cAnd, cOr, aNil, aCons, gN, Out.ok_bind, Out.exc_bind, Out.nox_ok, boD_some, List.cons_append, List.nil_append, List.append_nil, List.length_cons, List.length_nil, List.replicate, List.getD_cons_zero, List.getD_cons_succ, List.set_cons_zero, List.set_cons_succ, Nat.reduceAdd, Nat.reduceSub, Nat.reduceLeDiff, List.replicate_succ, List.replicate_zero, cond_true, cond_false, Bool.not_true, Bool.not_false, slots_of_eq nd h2, e5]
  simp only [fnD, sSeq, sIf, sRet, sRetN, sDrop, sSet, sNext, sRaise, eVar, eC, eOp, eUn, eCall, eAnd, eOr, eNot, eIf, eChain, eTup, eLst, eLc, iOf, cB, cNot, cAnd, cOr, aNil, aCons, gN, Out.ok_bind, Out.exc_bind, Out.nox_ok, boD_some, List.cons_append, List.nil_append, List.append_nil, List.length_cons, List.length_nil, List.replicate, List.getD_cons_zero, List.getD_cons_succ, List.set_cons_zero, List.set_cons_succ, Nat.reduceAdd, Nat.reduceSub, Nat.reduceLeDiff, List.replicate_succ, List.replicate_zero, cond_true, cond_false, Bool.not_true, Bool.not_false, slots_of_eq nd h, itemsT, e4]
theorem filt_all {ss : List Spot} (h : ∀ p ∈ ss, 0 ≤ p.2) : ss.filter (fromD 0) = ss := List.filter_eq_self.mpr fun p hp => decide_eq_true (h p hp)
theorem common_eq (nd : (s.wares.map (·.1)).Nodup) (h : (l, w) ∈ s.wares) (h2 : (k, v) ∈ s.wares) (h0 : ∀ p ∈ w.slots, 0 ≤ p.2) : F__law_common [encSheet s, .str l, .str k] = .ok (.lst ((comm w v).map encSpot)) := by
  unfold F__law_common S__law_common
  have e4 : lcD (gN 3) (cB (eOp dIn (eVar 3) (eOp dGet (eOp dGet (eOp dGet (eVar 0) (eC (.str "packs"))) (eVar 2)) (eC (.str "slots"))))) (eVar 3) [encSheet s, .str l, .str k, .non] ((srtS w.slots).map encSpot) = .ok ((comm w v).map encSpot) := by
    refine lc_spots (p := fun p => decide (p ∈ v.slots)) (by show 3 < 4; decide) fun p hp => ?_
    simp only [fnD, sSeq, sIf, sRet, sRetN, sDrop, sSet, sNext, sRaise, eVar, eC, eOp, eUn, eCall, eAnd, eOr, eNot, eIf, eChain, eTup, eLst, eLc, iOf, cB, cNot, cAnd, cOr, aNil, aCons, gN, Out.ok_bind, Out.exc_bind, Out.nox_ok, boD_some, List.cons_append, List.nil_append, List.append_nil, List.length_cons, List.length_nil, List.replicate, List.getD_cons_zero, List.getD_cons_succ, List.set_cons_zero, List.set_cons_succ, Nat.reduceAdd, Nat.reduceSub, Nat.reduceLeDiff, List.replicate_succ, List.replicate_zero, cond_true, cond_false, Bool.not_true, Bool.not_false, sh_packs, get_ware nd h2, wa_slots, dIn_lst]
  have e5 := later_eq (d := 0) nd h
  rw [filt_all h0] at e5
  simp only [fnD, sSeq, sIf, sRet, sRetN, sDrop, sSet, sNext, sRaise, eVar, eC, eOp, eUn, eCall, eAnd, eOr, eNot, eIf, eChain, eTup, eLst, eLc, iOf, cB, cNot, cAnd, cOr, aNil, aCons, gN, Out.ok_bind, Out.exc_bind, Out.nox_ok, boD_some, List.cons_append, List.nil_append, List.append_nil, List.length_cons, List.length_nil, List.replicate, List.getD_cons_zero, List.getD_cons_succ, List.set_cons_zero, List.set_cons_succ, Nat.reduceAdd, Nat.reduceSub, Nat.reduceLeDiff, List.replicate_succ, List.replicate_zero, cond_true, cond_false, Bool.not_true, Bool.not_false, e5, itemsL, e4]
theorem pairW_spots : ∀ ss : List Spot, pairW (ss.map encSpot) = some ss
  | [] => rfl
  | p :: ss => by
    show (pairW (ss.map encSpot)).map ((p.1, p.2) :: ·) = _
    rw [pairW_spots ss]
    rfl
theorem sortW_spots (ss : List Spot) : dSortW (.lst (ss.map encSpot)) = .ok (.lst ((srtP ss).map encSpot)) := by
  show (match pairW (ss.map encSpot) with | some ps => Out.ok (D.lst ((srtP ps).map encW)) | none => .stuck) = _
  rw [pairW_spots]
  rfl
def revS (p : Spot) : D := .tup [.int p.2, .str p.1]
theorem lc_revs {i : Nat} {ρ : Rho} (hi : i < ρ.length) {f g : Spot → D} (hg : ∀ p, dRev (f p) = .ok (g p)) : ∀ {ss : List Spot}, lcD (gN i) cYes (eUn dRev (eVar i)) ρ (ss.map f) = .ok (ss.map g)
  | [] => rfl
  | p :: ss => by
    have e : gN i (f p) ρ = some (ρ.set i (f p)) := rfl
    have e2 : eVar i (ρ.set i (f p)) = .ok (f p) := by
      unfold eVar
      rw [List.getD_eq_getElem?_getD, List.getElem?_set_self hi]
      rfl
    rw [List.map_cons]
    unfold lcD
    simp only [e, cYes, Out.nox_ok, Out.ok_bind, eUn, e2, hg, cond_true]
    rw [lc_revs hi hg]
    rfl
theorem canSort_revs (ss : List Spot) : canSort (ss.map revS) = true := by
  unfold canSort
  have key : ∀ x ∈ ss.map revS, ∃ s, x = revS s := fun x hx => by
    obtain ⟨s, _, rfl⟩ := List.mem_map.mp hx
    exact ⟨s, rfl⟩
  rw [Bool.and_eq_true, Bool.and_eq_true, Bool.or_eq_true, List.all_eq_true, List.all_eq_true]
  refine ⟨fun x hx => ?_, fun x hx => List.all_eq_true.mpr fun y hy => ?_, .inl (List.all_eq_true.mpr fun x hx => ?_)⟩
  · obtain ⟨s, rfl⟩ := key x hx
    rfl
  · obtain ⟨s, rfl⟩ := key x hx
    obtain ⟨t, rfl⟩ := key y hy
    rfl
  · obtain ⟨s, rfl⟩ := key x hx
    rfl
theorem by_days_eq (ss : List Spot) : F__law_by_days [.lst (ss.map encSpot)] = .ok (.lst ((srtP ss).map encSpot)) := by
  unfold F__law_by_days S__law_by_days
  have e1 : lcD (gN 1) cYes (eUn dRev (eVar 1)) [.lst (ss.map encSpot), .non] (ss.map encSpot) = .ok (ss.map revS) := lc_revs (by show 1 < 2; decide) fun p => rfl
  have e2 : dSorted [.lst (ss.map revS)] = .ok (.lst ((srtP ss).map revS)) := by
    show (bif canSort (ss.map revS) then Out.ok (D.lst (sortD (ss.map revS))) else .stuck) = _
    rw [canSort_revs]
    have e3 : sortD (ss.map revS) = (srtP ss).map revS := by
      unfold sortD srtP
      exact (List.map_mergeSort (f := revS) (r := PySem.W.dataLe false swP) (s := dLeB) fun a _ b _ => rfl).symm
    rw [e3]
    rfl
  have e4 : lcD (gN 1) cYes (eUn dRev (eVar 1)) [.lst (ss.map encSpot), .non] ((srtP ss).map revS) = .ok ((srtP ss).map encSpot) := lc_revs (by show 1 < 2; decide) fun p => rfl
  simp only [fnD, sSeq, sIf, sRet, sRetN, sDrop, sSet, sNext, sRaise, eVar, eC, eOp, eUn, eCall, eAnd, eOr, eNot, eIf, eChain, eTup, eLst, eLc, iOf, cB, cNot, cAnd, cOr, aNil, aCons, gN, Out.ok_bind, Out.exc_bind, Out.nox_ok, boD_some, List.cons_append, List.nil_append, List.append_nil, List.length_cons, List.length_nil, List.replicate, List.getD_cons_zero, List.getD_cons_succ, List.set_cons_zero, List.set_cons_succ, Nat.reduceAdd, Nat.reduceSub, Nat.reduceLeDiff, List.replicate_succ, List.replicate_zero, cond_true, cond_false, Bool.not_true, Bool.not_false, itemsQ, e1, e2, itemsL, e4]
end ND
/-! k25: slots_from, shared -/
namespace ND
open PySem PySem.Spec PyProof.Rows L2
variable {s : Sheet} {w v : Ware} {l k : Str} {d : Int} {rs : List (Str × Int)} {n : Nat} {ws : List (Str × Ware)} {o p q : D}
theorem need_plan_ok : F_need_plan [planD rs n ws] = .ok .non := by
  have e : dIsClB "Plan" (planD rs n ws) = some true := by
    show some (isaB "Plan" "Plan") = _
    rw [show isaB "Plan" "Plan" = true by decide +kernel]
  unfold F_need_plan S_need_plan
  simp only [fnD, sSeq, sIf, sRet, sRetN, sDrop, sSet, sNext, sRaise, eVar, eC, eOp, eUn, eCall, eAnd, eOr, eNot, eIf, eChain, eTup, eLst, eLc, iOf, cB, cNot, cAnd, cOr, aNil, aCons, gN, Out.ok_bind, Out.exc_bind, Out.nox_ok, boD_some, List.cons_append, List.nil_append, List.append_nil, List.length_cons, List.length_nil, List.replicate, List.getD_cons_zero, List.getD_cons_succ, List.set_cons_zero, List.set_cons_succ, Nat.reduceAdd, Nat.reduceSub, Nat.reduceLeDiff, List.replicate_succ, List.replicate_zero, cond_true, cond_false, Bool.not_true, Bool.not_false, e]
theorem need_plan_no (h : dIsClB "Plan" o = some false) : F_need_plan [o] = .exc "BadPlan" [("part", .str "plan")] := by
  unfold F_need_plan S_need_plan
  simp only [fnD, sSeq, sIf, sRet, sRetN, sDrop, sSet, sNext, sRaise, eVar, eC, eOp, eUn, eCall, eAnd, eOr, eNot, eIf, eChain, eTup, eLst, eLc, iOf, cB, cNot, cAnd, cOr, aNil, aCons, gN, Out.ok_bind, Out.exc_bind, Out.nox_ok, boD_some, List.cons_append, List.nil_append, List.append_nil, List.length_cons, List.length_nil, List.replicate, List.getD_cons_zero, List.getD_cons_succ, List.set_cons_zero, List.set_cons_succ, Nat.reduceAdd, Nat.reduceSub, Nat.reduceLeDiff, List.replicate_succ, List.replicate_zero, cond_true, cond_false, Bool.not_true, Bool.not_false, h]
theorem eqv_str (a b : Str) : dEqB (.str a) (.str b) = decide (a = b) := by
  unfold dEqB
  simp [D.py, PyData.eqv]
  try rfl
theorem in_names (l : Str) (ws : List (Str × Ware)) : dInB (.str l) (ws.map fun x => .str x.1) = decide (l ∈ ws.map (·.1)) := by
  unfold dInB
  rw [List.any_map]
  induction ws with
  | nil => rfl
  | cons t ws ih =>
    rw [List.any_cons, ih]
    show (dEqB (.str t.1) (.str l) || _) = _
    rw [eqv_str]
    by_cases h1 : t.1 = l
    · subst h1
      simp
    · by_cases h2 : l ∈ ws.map (·.1) <;> simp [h1, h2, Ne.symm h1]
theorem pl_nms (ws : List (Str × Ware)) : (ws.map fun x => D.str x.1).all (D.pl 8) = true := by
  rw [List.all_eq_true]
  intro x hx
  obtain ⟨t, _, rfl⟩ := List.mem_map.mp hx
  rfl
theorem notin_names : dNotIn (.str l) (.tup (ws.map fun x => .str x.1)) = .ok (.bl (!decide (l ∈ ws.map (·.1)))) := by
  show (bif D.pl 8 (D.str l) && (ws.map fun x => D.str x.1).all (D.pl 8) then Out.ok (D.bl (true ^^ dInB (.str l) (ws.map fun x => .str x.1))) else .stuck) = _
  rw [pl_nms, in_names]
  show Out.ok (D.bl (true ^^ _)) = _
  rw [Bool.true_xor]
theorem need_pack_ok (h : (l, w) ∈ ws) : F_need_pack [planD rs n ws, .str l] = .ok .non := by
  unfold F_need_pack S_need_pack
  have e : isTyS (tyOfD (.str l)) "str" = true := rfl
  have e2 : decide (l ∈ ws.map (·.1)) = true := decide_eq_true (List.mem_map.mpr ⟨_, h, rfl⟩)
  simp only [fnD, sSeq, sIf, sRet, sRetN, sDrop, sSet, sNext, sRaise, eVar, eC, eOp, eUn, eCall, eAnd, eOr, eNot, eIf, eChain, eTup, eLst, eLc, iOf, cB, cNot, cAnd, cOr, aNil, aCons, gN, Out.ok_bind, Out.exc_bind, Out.nox_ok, boD_some, List.cons_append, List.nil_append, List.append_nil, List.length_cons, List.length_nil, List.replicate, List.getD_cons_zero, List.getD_cons_succ, List.set_cons_zero, List.set_cons_succ, Nat.reduceAdd, Nat.reduceSub, Nat.reduceLeDiff, List.replicate_succ, List.replicate_zero, cond_true, cond_false, Bool.not_true, Bool.not_false, dIsTyB, e, pl_names, notin_names, e2]
/-- what is no name of the plan -/
def OddN (ws : List (Str × Ware)) (o : D) : Prop := dIsTyB "str" o = some false ∨ ∃ z, o = .str z ∧ z ∉ ws.map (·.1)
theorem need_pack_no (h : OddN ws o) : F_need_pack [planD rs n ws, o] = .exc "NoPack" [("name", o)] := by
  unfold F_need_pack S_need_pack
  rcases h with h | ⟨z, rfl, hz⟩
  · simp only [fnD, sSeq, sIf, sRet, sRetN, sDrop, sSet, sNext, sRaise, eVar, eC, eOp, eUn, eCall, eAnd, eOr, eNot, eIf, eChain, eTup, eLst, eLc, iOf, cB, cNot, cAnd, cOr, aNil, aCons, gN, Out.ok_bind, Out.exc_bind, Out.nox_ok, boD_some, List.cons_append, List.nil_append, List.append_nil, List.length_cons, List.length_nil, List.replicate, List.getD_cons_zero, List.getD_cons_succ, List.set_cons_zero, List.set_cons_succ, Nat.reduceAdd, Nat.reduceSub, Nat.reduceLeDiff, List.replicate_succ, List.replicate_zero, cond_true, cond_false, Bool.not_true, Bool.not_false, h]
  · have e : isTyS (tyOfD (.str z)) "str" = true := rfl
    have e2 : decide (z ∈ ws.map (·.1)) = false := decide_eq_false hz
    simp only [fnD, sSeq, sIf, sRet, sRetN, sDrop, sSet, sNext, sRaise, eVar, eC, eOp, eUn, eCall, eAnd, eOr, eNot, eIf, eChain, eTup, eLst, eLc, iOf, cB, cNot, cAnd, cOr, aNil, aCons, gN, Out.ok_bind, Out.exc_bind, Out.nox_ok, boD_some, List.cons_append, List.nil_append, List.append_nil, List.length_cons, List.length_nil, List.replicate, List.getD_cons_zero, List.getD_cons_succ, List.set_cons_zero, List.set_cons_succ, Nat.reduceAdd, Nat.reduceSub, Nat.reduceLeDiff, List.replicate_succ, List.replicate_zero, cond_true, cond_false, Bool.not_true, Bool.not_false, dIsTyB, e, pl_names, notin_names, e2]
theorem sub1 : dSub (.int n) (.int 1) = .ok (.int ((n : Int) - 1)) := rfl
theorem slots_from_eq (nd : (ws.map (·.1)).Nodup) (h : (l, w) ∈ ws) (h0 : 0 ≤ d) (h1 : d < n) : F_slots_from [planD rs n ws, .str l, .int d] = .ok (.lst (((srtS w.slots).filter (fromD d)).map encSpot)) := by
  unfold F_slots_from S_slots_from
  have e1 : decide ((0 : Int) ≤ d) = true := decide_eq_true h0
  have e2 : decide (d ≤ (n : Int) - 1) = true := decide_eq_true (by omega)
  simp only [fnD, sSeq, sIf, sRet, sRetN, sDrop, sSet, sNext, sRaise, eVar, eC, eOp, eUn, eCall, eAnd, eOr, eNot, eIf, eChain, eTup, eLst, eLc, iOf, cB, cNot, cAnd, cOr, aNil, aCons, gN, Out.ok_bind, Out.exc_bind, Out.nox_ok, boD_some, List.cons_append, List.nil_append, List.append_nil, List.length_cons, List.length_nil, List.replicate, List.getD_cons_zero, List.getD_cons_succ, List.set_cons_zero, List.set_cons_succ, Nat.reduceAdd, Nat.reduceSub, Nat.reduceLeDiff, List.replicate_succ, List.replicate_zero, cond_true, cond_false, Bool.not_true, Bool.not_false, fnN, need_plan_ok, need_pack_ok h, pl_days, sub1, is_within_int, e1, e2, Bool.and_self, later_slots_eq nd h]
theorem slots_from_day (h : (l, w) ∈ ws) (hw : F_is_within [o, .int 0, .int ((n : Int) - 1)] = .ok (.bl false)) : F_slots_from [planD rs n ws, .str l, o] = .exc "BadDay" [("day", o)] := by
  unfold F_slots_from S_slots_from
  simp only [fnD, sSeq, sIf, sRet, sRetN, sDrop, sSet, sNext, sRaise, eVar, eC, eOp, eUn, eCall, eAnd, eOr, eNot, eIf, eChain, eTup, eLst, eLc, iOf, cB, cNot, cAnd, cOr, aNil, aCons, gN, Out.ok_bind, Out.exc_bind, Out.nox_ok, boD_some, List.cons_append, List.nil_append, List.append_nil, List.length_cons, List.length_nil, List.replicate, List.getD_cons_zero, List.getD_cons_succ, List.set_cons_zero, List.set_cons_succ, Nat.reduceAdd, Nat.reduceSub, Nat.reduceLeDiff, List.replicate_succ, List.replicate_zero, cond_true, cond_false, Bool.not_true, Bool.not_false, fnN, need_plan_ok, need_pack_ok h, pl_days, sub1, hw]
theorem slots_from_name (h : OddN ws o) : F_slots_from [planD rs n ws, o, p] = .exc "NoPack" [("name", o)] := by
  unfold F_slots_from S_slots_from
  simp only [fnD, sSeq, sIf, sRet, sRetN, sDrop, sSet, sNext, sRaise, eVar, eC, eOp, eUn, eCall, eAnd, eOr, eNot, eIf, eChain, eTup, eLst, eLc, iOf, cB, cNot, cAnd, cOr, aNil, aCons, gN, Out.ok_bind, Out.exc_bind, Out.nox_ok, boD_some, List.cons_append, List.nil_append, List.append_nil, List.length_cons, List.length_nil, List.replicate, List.getD_cons_zero, List.getD_cons_succ, List.set_cons_zero, List.set_cons_succ, Nat.reduceAdd, Nat.reduceSub, Nat.reduceLeDiff, List.replicate_succ, List.replicate_zero, cond_true, cond_false, Bool.not_true, Bool.not_false, fnN, need_plan_ok, need_pack_no h]
theorem shared_eq (nd : (ws.map (·.1)).Nodup) (h : (l, w) ∈ ws) (h2 : (k, v) ∈ ws) : F_shared [planD rs n ws, .str l, .str k] = .ok (.lst ((srtP (comm w v)).map encSpot)) := by
  unfold F_shared S_shared
  simp only [fnD, sSeq, sIf, sRet, sRetN, sDrop, sSet, sNext, sRaise, eVar, eC, eOp, eUn, eCall, eAnd, eOr, eNot, eIf, eChain, eTup, eLst, eLc, iOf, cB, cNot, cAnd, cOr, aNil, aCons, gN, Out.ok_bind, Out.exc_bind, Out.nox_ok, boD_some, List.cons_append, List.nil_append, List.append_nil, List.length_cons, List.length_nil, List.replicate, List.getD_cons_zero, List.getD_cons_succ, List.set_cons_zero, List.set_cons_succ, Nat.reduceAdd, Nat.reduceSub, Nat.reduceLeDiff, List.replicate_succ, List.replicate_zero, cond_true, cond_false, Bool.not_true, Bool.not_false, fnN, need_plan_ok, need_pack_ok h, need_pack_ok h2, in_common_eq nd h h2, sortW_spots]
theorem shared_no2 (h : (l, w) ∈ ws) (h2 : OddN ws o) : F_shared [planD rs n ws, .str l, o] = .exc "NoPack" [("name", o)] := by
  unfold F_shared S_shared
  simp only [fnD, sSeq, sIf, sRet, sRetN, sDrop, sSet, sNext, sRaise, eVar, eC, eOp, eUn, eCall, eAnd, eOr, eNot, eIf, eChain, eTup, eLst, eLc, iOf, cB, cNot, cAnd, cOr, aNil, aCons, gN, Out.ok_bind, Out.exc_bind, Out.nox_ok, boD_some, List.cons_append, List.nil_append, List.append_nil, List.length_cons, List.length_nil, List.replicate, List.getD_cons_zero, List.getD_cons_succ, List.set_cons_zero, List.set_cons_succ, Nat.reduceAdd, Nat.reduceSub, Nat.reduceLeDiff, List.replicate_succ, List.replicate_zero, cond_true, cond_false, Bool.not_true, Bool.not_false, fnN, need_plan_ok, need_pack_ok h, need_pack_no h2]
theorem shared_no1 (h2 : OddN ws o) : F_shared [planD rs n ws, o, p] = .exc "NoPack" [("name", o)] := by
  unfold F_shared S_shared
  simp only [fnD, sSeq, sIf, sRet, sRetN, sDrop, sSet, sNext, sRaise, eVar, eC, eOp, eUn, eCall, eAnd, eOr, eNot, eIf, eChain, eTup, eLst, eLc, iOf, cB, cNot, cAnd, cOr, aNil, aCons, gN, Out.ok_bind, Out.exc_bind, Out.nox_ok, boD_some, List.cons_append, List.nil_append, List.append_nil, List.length_cons, List.length_nil, List.replicate, List.getD_cons_zero, List.getD_cons_succ, List.set_cons_zero, List.set_cons_succ, Nat.reduceAdd, Nat.reduceSub, Nat.reduceLeDiff, List.replicate_succ, List.replicate_zero, cond_true, cond_false, Bool.not_true, Bool.not_false, fnN, need_plan_ok, need_pack_no h2]
theorem shared_no0 (h : dIsClB "Plan" o = some false) : F_shared [o, p, q] = .exc "BadPlan" [("part", .str "plan")] := by
  unfold F_shared S_shared
  simp only [fnD, sSeq, sIf, sRet, sRetN, sDrop, sSet, sNext, sRaise, eVar, eC, eOp, eUn, eCall, eAnd, eOr, eNot, eIf, eChain, eTup, eLst, eLc, iOf, cB, cNot, cAnd, cOr, aNil, aCons, gN, Out.ok_bind, Out.exc_bind, Out.nox_ok, boD_some, List.cons_append, List.nil_append, List.append_nil, List.length_cons, List.length_nil, List.replicate, List.getD_cons_zero, List.getD_cons_succ, List.set_cons_zero, List.set_cons_succ, Nat.reduceAdd, Nat.reduceSub, Nat.reduceLeDiff, List.replicate_succ, List.replicate_zero, cond_true, cond_false, Bool.not_true, Bool.not_false, fnN, need_plan_no h]
theorem later_is (nd : (s.wares.map (·.1)).Nodup) (h : (l, w) ∈ s.wares) : F__law_later [encSheet s, .str l, .int d] = .ok (.lst (((srtS w.slots).filter (fromD d)).map encSpot)) := by
  rw [later_eq nd h]
  unfold srtS
  rw [sort_filter leSp_total]
/-! ### repr, ne -/
theorem ne_refl (h : D.pl 8 o = true) (h2 : dEqB o o = true) : dNe o o = .ok (.bl false) := by
  unfold dNe
  rw [h, h2]
  rfl
theorem eqB_spots : ∀ ss : List Spot, PyData.eqvAll (D.py.pyL (ss.map encSpot)) (D.py.pyL (ss.map encSpot)) = true
  | [] => rfl
  | p :: ss => by
    have h := eqv_spot p p
    rw [decide_eq_true rfl] at h
    unfold dEqB at h
    rw [List.map_cons]
    simp only [D.py.pyL, PyData.eqvAll, h, eqB_spots ss, Bool.and_self]
theorem ne_spots (ss : List Spot) : dNe (.lst (ss.map encSpot)) (.lst (ss.map encSpot)) = .ok (.bl false) := by
  refine ne_refl ?_ ?_
  · show (ss.map encSpot).all (D.pl 7) = true
    rw [List.all_eq_true]
    intro x hx
    obtain ⟨t, _, rfl⟩ := List.mem_map.mp hx
    rfl
  · show PyData.eqv (.list _) (.list _) = true
    simp only [PyData.eqv, eqB_spots]
theorem shw_spots {ss : List Spot} (hl : ss.length ≤ 12) (h : ∀ p ∈ ss, SOk p.1 ∧ p.1.length ≤ 6 ∧ 0 ≤ p.2 ∧ p.2 ≤ 3) : dRp (.lst (ss.map encSpot)) = .ok (D.py (.lst (ss.map encSpot))).shown := by
  refine dRp_of (k := 3) (b := 1000) ?_ (by decide) (by decide)
  refine shw_lst (k := 2) (b := 20) (m := 12) (fun x hx => ?_) (by rw [List.length_map]; exact hl) (by decide)
  obtain ⟨t, ht, rfl⟩ := List.mem_map.mp hx
  obtain ⟨a, b, c, e⟩ := h t ht
  refine shw_tup (k := 1) (b := 6) (m := 2) (fun y hy => ?_) (by show 2 ≤ 2; decide) (by decide)
  simp only [List.mem_cons, List.not_mem_nil, or_false] at hy
  rcases hy with rfl | rfl
  · exact shw_str a b
  · exact shw_int (by omega)
end ND
namespace ND
open PySem PySem.Spec PyProof.Rows L2
section
variable {P : Program} {w : World} {K : PySem.W.Frag} {mg : Str → Option Value} {base : Heap}
def S_law : Rho → Out Res := (sSeq (sFor (iRg1 (aCons (eOp dAdd (eC (.int 3)) (eCall dMin2 (aCons (eCall dLen (aCons (eVar 0) aNil)) (aCons (eC (.int 10)) aNil)))) aNil)) (gN 2) (sSeq (sSet 3 (eCall F__law_sheet (aCons (eVar 1) (aCons (eC (.int 4)) (aCons (eC (.int 6)) (aCons (eC (.int 3)) (aCons (eC (.int 3)) aNil)))))))
      (sSeq (sSet 4 (eCall F__law_plan (aCons (eVar 3) aNil)))
      (sSeq (sFor (iOf itemsL (eCall F__law_wares (aCons (eVar 3) aNil))) (gN 5) (sSeq (sFor (iRg1 (aCons (eOp dGet (eVar 3) (eC (.str "days"))) aNil)) (gN 6) (sSeq (sSet 7 (eCall F__law_later (aCons (eVar 3) (aCons (eVar 5) (aCons (eVar 6) aNil)))))
      (sSeq (sSet 8 (eCall F_slots_from (aCons (eVar 4) (aCons (eVar 5) (aCons (eVar 6) aNil)))))
      (sSeq (sIf (cB (eZNe (rRp (eVar 8)) (rRp (eVar 7)))) (sRet (eC (.bl false))) sNext)
      (sSeq (sApp 8 (eC .non))
      (sIf (cB (eOp dNe (eCallK F_slots_from [2, 1, 0] aNil (aCons (eVar 6) (aCons (eVar 5) (aCons (eVar 4) aNil)))) (eVar 7))) (sRet (eC (.bl false))) sNext))))))
      (sSeq (sFor (iOf itemsL (eCall F__law_wares (aCons (eVar 3) aNil))) (gN 9) (sSeq (sSet 7 (eCall F__law_by_days (aCons (eCall F__law_common (aCons (eVar 3) (aCons (eVar 5) (aCons (eVar 9) aNil)))) aNil)))
      (sSeq (sSet 8 (eCall F_shared (aCons (eVar 4) (aCons (eVar 5) (aCons (eVar 9) aNil)))))
      (sSeq (sIf (cB (eZNe (rRp (eVar 8)) (rRp (eVar 7)))) (sRet (eC (.bl false))) sNext)
      (sSeq (sApp 8 (eC .non))
      (sIf (cB (eOp dNe (eCallK F_shared [2, 1, 0] aNil (aCons (eVar 9) (aCons (eVar 5) (aCons (eVar 4) aNil)))) (eVar 7))) (sRet (eC (.bl false))) sNext))))))
      (sSeq (sSet 10 (eCall F__law_pick (aCons (eVar 1) (aCons (eLst (aCons (eC .non) (aCons (eUn dNeg (eC (.int 1))) (aCons (eOp dGet (eVar 3) (eC (.str "days"))) (aCons (eC (.bl true)) (aCons (eC (.str "0")) (aCons (eTup (aCons (eC (.int 0)) aNil)) (aCons (eC (.int 100000000000000000000)) aNil)))))))) aNil))))
      (sSeq (sSet 11 (eCaught (eCall F_slots_from (aCons (eVar 4) (aCons (eVar 5) (aCons (eVar 10) aNil))))))
      (sSeq (sIf (cOr (cNot (cB (eUn (fun d => boD (dIsClB "BadDay" d)) (eVar 11)))) (cB (eZNe (rRp (eUn (dXf "day") (eVar 11))) (rRp (eVar 10))))) (sRet (eC (.bl false))) sNext)
      (sSeq (sSet 10 (eCall F__law_pick (aCons (eVar 1) (aCons (eLst (aCons (eC .non) (aCons (eC (.int 5)) (aCons (eC (.str "QQ")) (aCons (eTup aNil) (aCons (eLst aNil) (aCons (eC (.bl true)) (aCons (eC (.str "A")) aNil)))))))) aNil))))
      (sSeq (sSet 11 (eCaught (eCall F_shared (aCons (eVar 4) (aCons (eVar 5) (aCons (eVar 10) aNil))))))
      (sSeq (sSet 12 (eCaught (eCall F_shared (aCons (eVar 4) (aCons (eVar 10) (aCons (eVar 5) aNil))))))
      (sIf (cOr (cNot (cB (eUn (fun d => boD (dIsClB "NoPack" d)) (eVar 11)))) (cOr (cNot (cB (eUn (fun d => boD (dIsClB "NoPack" d)) (eVar 12)))) (cB (eZNe (rRp (eUn (dXf "name") (eVar 11))) (rRp (eVar 10)))))) (sRet (eC (.bl false))) sNext))))))))))
      (sSeq (sSet 10 (eCall F__law_pick (aCons (eVar 1) (aCons (eLst (aCons (eC .non) (aCons (eC (.int 5)) (aCons (eC (.str "QQ")) (aCons (eTup aNil) (aCons (eLst aNil) (aCons (eC (.bl true)) (aCons (eC (.str "A")) aNil)))))))) aNil))))
      (sSeq (sSet 11 (eCaught (eCall F_slots_from (aCons (eVar 4) (aCons (eVar 10) (aCons (eVar 10) aNil))))))
      (sSeq (sIf (cOr (cNot (cB (eUn (fun d => boD (dIsClB "NoPack" d)) (eVar 11)))) (cB (eZNe (rRp (eUn (dXf "name") (eVar 11))) (rRp (eVar 10))))) (sRet (eC (.bl false))) sNext)
      (sIf (cNot (cB (eUn (fun d => boD (dIsClB "BadPlan" d)) (eCaught (eCall F_shared (aCons (eVar 10) (aCons (eVar 10) (aCons (eVar 10) aNil)))))))) (sRet (eC (.bl false))) sNext))))))))
      (sRet (eC (.bl true))))
theorem ok_law (T : Tx P w K mg base) {fd : FuncData} (F : FnP K "law" "law" s_law (He.ga K "law") fd) (hL : LawD 13 S_law) : FnG P w K mg base 8 (He.ga K "law") fd ["_law_script"] (spLw K) := by
  obtain ⟨g, cdg, GL⟩ := gets T
  refine LFun.okG (k := 7) T.l_law F sc_law (fun vs H Q E h => ?_) (fun A outer s H vs Q E hgd hr h => ?_)
  · obtain ⟨a, ns, rfl, _⟩ := h
    rfl
  · obtain ⟨a, ns, rfl, _⟩ := id h
    exact ⟨_, (pss_cons (ps_set (i := 1) sc_law.nd rfl (Or.inl rfl) (pe_g (show GOk P w K mg base 1 "_law_begun" ["_law_script"] (spBg K) from okH__law_begun T) (hr.mono (by decide)) (by rfl) (passes_call (takes_of rfl rfl rfl rfl) (fun _ _ _ _ h => h)) (pa_cons (pv 0) pa_nil)))
      (pss_cons (ps_for (passes_of rfl) rfl (pi_range1 (by rfl) T.n_range (pa_cons (pe_op op_add pe_int (pe_callB (call_min2 rfl) (by rfl) T.n_min (by decide +kernel) (pa_cons (pe_callB call_lenA (by rfl) T.n_len (by decide +kernel) (pa_cons (pv 0) pa_nil)) (pa_cons pe_int pa_nil)))) pa_nil)) (pg_name (i := 2) sc_law.nd rfl (Or.inl rfl)) (pss_cons (ps_set (i := 3) sc_law.nd rfl (Or.inl rfl) (pe_g (ok__law_sheet T) (hr.mono (by decide)) (by rfl) (passes_call (takes_of rfl rfl rfl rfl) (fun _ _ _ _ h => h)) (pa_cons (pv 1) (pa_cons pe_int (pa_cons pe_int (pa_cons pe_int (pa_cons pe_int pa_nil)))))))
      (pss_cons (ps_set (i := 4) sc_law.nd rfl (Or.inr rfl) (pe_g (ok__law_plan T) (hr.mono (by decide)) (by rfl) (passes_call (takes_of rfl rfl rfl rfl) (fun _ _ _ _ h => h)) (pa_cons (pv 3) pa_nil)))
      (pss_cons (ps_for (passes_of rfl) rfl (pi_list (pe_g (ok__law_wares T) (hr.mono (by decide)) (by rfl) (passes_call (takes_of rfl rfl rfl rfl) (fun _ _ _ _ h => h)) (pa_cons (pv 3) pa_nil))) (pg_name (i := 5) sc_law.nd rfl (Or.inr rfl)) (pss_cons (ps_for (passes_of rfl) rfl (pi_range1 (by rfl) T.n_range (pa_cons (pe_dget (hu_of hr) (pv 3) pe_str (fun _ _ => rfl)) pa_nil)) (pg_name (i := 6) sc_law.nd rfl (Or.inl rfl)) (pss_cons (ps_set (i := 7) sc_law.nd rfl (Or.inl rfl) (pe_g (ok__law_later T) (hr.mono (by decide)) (by rfl) (passes_call (takes_of rfl rfl rfl rfl) (fun _ _ _ _ h => h)) (pa_cons (pv 3) (pa_cons (pv 5) (pa_cons (pv 6) pa_nil)))))
      (pss_cons (ps_set (i := 8) sc_law.nd rfl (Or.inl rfl) (pe_g (ok_slots_from T) (hr.mono (by decide)) (by rfl) (passes_call (takes_of rfl rfl rfl rfl) (fun _ _ _ _ h => h)) (pa_cons (pv 4) (pa_cons (pv 5) (pa_cons (pv 6) pa_nil)))))
      (pss_cons (ps_if (pt_cmpR op_ne (pe_callB (call_repr' hgd hr) (by rfl) T.n_repr (by decide +kernel) (pa_cons (pv 8) pa_nil)) (pe_callB (call_repr' hgd hr) (by rfl) T.n_repr (by decide +kernel) (pa_cons (pv 7) pa_nil)) (nomark _)) (pss_one (ps_ret pe_bl)) pss_nil)
      (pss_cons (ps_expr (pe_bm PySem.F.plainAttrs_list PySem.F.slot_list_append PySem.F.type_list_append mt_append (pv 8) (pa_cons pe_non pa_nil)))
      (pss_one (ps_if (pt_cmpR (op_neD hr.units) (pe_gk0 (ks := ["day", "name", "plan"]) (idx := [2, 1, 0]) (okS_slots_from T) (hr.mono (by decide)) (by rfl) (passes_call (takes_of rfl rfl rfl rfl) (fun _ _ _ _ h => h)) (pk_cons (pv 6) (pk_cons (pv 5) (pk_cons (pv 4) pk_nil))) (fun _ _ _ _ _ _ us ws h1 h2 => match us, ws, h1, h2 with | [], [_, _, _], _, _ => rfl)) (pv 7) (nomark _)) (pss_one (ps_ret pe_bl)) pss_nil)))))))
      (pss_cons (ps_for (passes_of rfl) rfl (pi_list (pe_g (ok__law_wares T) (hr.mono (by decide)) (by rfl) (passes_call (takes_of rfl rfl rfl rfl) (fun _ _ _ _ h => h)) (pa_cons (pv 3) pa_nil))) (pg_name (i := 9) sc_law.nd rfl (Or.inl rfl)) (pss_cons (ps_set (i := 7) sc_law.nd rfl (Or.inl rfl) (pe_g (ok__law_by_days T) (hr.mono (by decide)) (by rfl) (passes_call (takes_of rfl rfl rfl rfl) (fun _ _ _ _ h => h)) (pa_cons (pe_g (ok__law_common T) (hr.mono (by decide)) (by rfl) (passes_call (takes_of rfl rfl rfl rfl) (fun _ _ _ _ h => h)) (pa_cons (pv 3) (pa_cons (pv 5) (pa_cons (pv 9) pa_nil)))) pa_nil)))
      (pss_cons (ps_set (i := 8) sc_law.nd rfl (Or.inl rfl) (pe_g (ok_shared T) (hr.mono (by decide)) (by rfl) (passes_call (takes_of rfl rfl rfl rfl) (fun _ _ _ _ h => h)) (pa_cons (pv 4) (pa_cons (pv 5) (pa_cons (pv 9) pa_nil)))))
      (pss_cons (ps_if (pt_cmpR op_ne (pe_callB (call_repr' hgd hr) (by rfl) T.n_repr (by decide +kernel) (pa_cons (pv 8) pa_nil)) (pe_callB (call_repr' hgd hr) (by rfl) T.n_repr (by decide +kernel) (pa_cons (pv 7) pa_nil)) (nomark _)) (pss_one (ps_ret pe_bl)) pss_nil)
      (pss_cons (ps_expr (pe_bm PySem.F.plainAttrs_list PySem.F.slot_list_append PySem.F.type_list_append mt_append (pv 8) (pa_cons pe_non pa_nil)))
      (pss_one (ps_if (pt_cmpR (op_neD hr.units) (pe_gk0 (ks := ["other", "one", "plan"]) (idx := [2, 1, 0]) (okS_shared T) (hr.mono (by decide)) (by rfl) (passes_call (takes_of rfl rfl rfl rfl) (fun _ _ _ _ h => h)) (pk_cons (pv 9) (pk_cons (pv 5) (pk_cons (pv 4) pk_nil))) (fun _ _ _ _ _ _ us ws h1 h2 => match us, ws, h1, h2 with | [], [_, _, _], _, _ => rfl)) (pv 7) (nomark _)) (pss_one (ps_ret pe_bl)) pss_nil)))))))
      (pss_cons (ps_set (i := 10) sc_law.nd rfl (Or.inr rfl) (pe_g (ok__law_pick T) (hr.mono (by decide)) (by rfl) (passes_call (takes_of rfl rfl rfl rfl) (fun _ _ _ _ h => h)) (pa_cons (pv 1) (pa_cons (pe_lst (pa_cons pe_non (pa_cons (pe_un un_neg pe_int) (pa_cons (pe_dget (hu_of hr) (pv 3) pe_str (fun _ _ => rfl)) (pa_cons pe_bl (pa_cons pe_str (pa_cons (pe_tupF (pa_cons pe_int pa_nil)) (pa_cons (pe_op op_pow pe_int pe_int) pa_nil)))))))) pa_nil))))
      (pss_cons (ps_set (i := 11) sc_law.nd rfl (Or.inl rfl) (pe_lamP (k := 3) (T := tbsOf K) (P := tabOf K "law") (by rfl) GL (keep_gives rfl T.g_PackError rfl (by decide) rfl rfl) T.l_law.tb rfl T.l_law.mm (tb_uniq T.l_law.nd T.l_law.mm) (hr.mono (by decide)) (LamX.lamS_by (sc := defScope s_law) (by decide +kernel)) rfl (fun _ _ _ _ _ => rfl) (fun A outer s H E f c hr => (pe_g (ok_slots_from T) (hr.mono (by decide)) (by rfl) (passes_call (takes_of rfl rfl rfl rfl) (fun _ _ _ _ h => h)) (pa_cons (pv 4) (pa_cons (pv 5) (pa_cons (pv 10) pa_nil)))))))
      (pss_cons (ps_if (PW.pt (pw_or (pt_not (pt_val (pe_callB call_isA (by rfl) T.n_isinstance (by decide +kernel) (pa_cons (pv 11) (pa_cons (pe_cls (by rfl) T.g_BadDay) pa_nil))))) (pw_or1 (pt_cmpR op_ne (pe_callB (call_repr' hgd hr) (by rfl) T.n_repr (by decide +kernel) (pa_cons (pe_xk (pv 11)) pa_nil)) (pe_callB (call_repr' hgd hr) (by rfl) T.n_repr (by decide +kernel) (pa_cons (pv 10) pa_nil)) (nomark _))))) (pss_one (ps_ret pe_bl)) pss_nil)
      (pss_cons (ps_set (i := 10) sc_law.nd rfl (Or.inr rfl) (pe_g (ok__law_pick T) (hr.mono (by decide)) (by rfl) (passes_call (takes_of rfl rfl rfl rfl) (fun _ _ _ _ h => h)) (pa_cons (pv 1) (pa_cons (pe_lst (pa_cons pe_non (pa_cons pe_int (pa_cons pe_str (pa_cons (pe_tupF pa_nil) (pa_cons (pe_lst pa_nil) (pa_cons pe_bl (pa_cons pe_str pa_nil)))))))) pa_nil))))
      (pss_cons (ps_set (i := 11) sc_law.nd rfl (Or.inl rfl) (pe_lamP (k := 3) (T := tbsOf K) (P := tabOf K "law") (by rfl) GL (keep_gives rfl T.g_PackError rfl (by decide) rfl rfl) T.l_law.tb rfl T.l_law.mm (tb_uniq T.l_law.nd T.l_law.mm) (hr.mono (by decide)) (LamX.lamS_by (sc := defScope s_law) (by decide +kernel)) rfl (fun _ _ _ _ _ => rfl) (fun A outer s H E f c hr => (pe_g (ok_shared T) (hr.mono (by decide)) (by rfl) (passes_call (takes_of rfl rfl rfl rfl) (fun _ _ _ _ h => h)) (pa_cons (pv 4) (pa_cons (pv 5) (pa_cons (pv 10) pa_nil)))))))
      (pss_cons (ps_set (i := 12) sc_law.nd rfl (Or.inl rfl) (pe_lamP (k := 3) (T := tbsOf K) (P := tabOf K "law") (by rfl) GL (keep_gives rfl T.g_PackError rfl (by decide) rfl rfl) T.l_law.tb rfl T.l_law.mm (tb_uniq T.l_law.nd T.l_law.mm) (hr.mono (by decide)) (LamX.lamS_by (sc := defScope s_law) (by decide +kernel)) rfl (fun _ _ _ _ _ => rfl) (fun A outer s H E f c hr => (pe_g (ok_shared T) (hr.mono (by decide)) (by rfl) (passes_call (takes_of rfl rfl rfl rfl) (fun _ _ _ _ h => h)) (pa_cons (pv 4) (pa_cons (pv 10) (pa_cons (pv 5) pa_nil)))))))
      (pss_one (ps_if (PW.pt (pw_or (pt_not (pt_val (pe_callB call_isA (by rfl) T.n_isinstance (by decide +kernel) (pa_cons (pv 11) (pa_cons (pe_cls (by rfl) T.g_NoPack) pa_nil))))) (pw_or (pt_not (pt_val (pe_callB call_isA (by rfl) T.n_isinstance (by decide +kernel) (pa_cons (pv 12) (pa_cons (pe_cls (by rfl) T.g_NoPack) pa_nil))))) (pw_or1 (pt_cmpR op_ne (pe_callB (call_repr' hgd hr) (by rfl) T.n_repr (by decide +kernel) (pa_cons (pe_xk (pv 11)) pa_nil)) (pe_callB (call_repr' hgd hr) (by rfl) T.n_repr (by decide +kernel) (pa_cons (pv 10) pa_nil)) (nomark _)))))) (pss_one (ps_ret pe_bl)) pss_nil)))))))))))
      (pss_cons (ps_set (i := 10) sc_law.nd rfl (Or.inr rfl) (pe_g (ok__law_pick T) (hr.mono (by decide)) (by rfl) (passes_call (takes_of rfl rfl rfl rfl) (fun _ _ _ _ h => h)) (pa_cons (pv 1) (pa_cons (pe_lst (pa_cons pe_non (pa_cons pe_int (pa_cons pe_str (pa_cons (pe_tupF pa_nil) (pa_cons (pe_lst pa_nil) (pa_cons pe_bl (pa_cons pe_str pa_nil)))))))) pa_nil))))
      (pss_cons (ps_set (i := 11) sc_law.nd rfl (Or.inl rfl) (pe_lamP (k := 3) (T := tbsOf K) (P := tabOf K "law") (by rfl) GL (keep_gives rfl T.g_PackError rfl (by decide) rfl rfl) T.l_law.tb rfl T.l_law.mm (tb_uniq T.l_law.nd T.l_law.mm) (hr.mono (by decide)) (LamX.lamS_by (sc := defScope s_law) (by decide +kernel)) rfl (fun _ _ _ _ _ => rfl) (fun A outer s H E f c hr => (pe_g (ok_slots_from T) (hr.mono (by decide)) (by rfl) (passes_call (takes_of rfl rfl rfl rfl) (fun _ _ _ _ h => h)) (pa_cons (pv 4) (pa_cons (pv 10) (pa_cons (pv 10) pa_nil)))))))
      (pss_cons (ps_if (PW.pt (pw_or (pt_not (pt_val (pe_callB call_isA (by rfl) T.n_isinstance (by decide +kernel) (pa_cons (pv 11) (pa_cons (pe_cls (by rfl) T.g_NoPack) pa_nil))))) (pw_or1 (pt_cmpR op_ne (pe_callB (call_repr' hgd hr) (by rfl) T.n_repr (by decide +kernel) (pa_cons (pe_xk (pv 11)) pa_nil)) (pe_callB (call_repr' hgd hr) (by rfl) T.n_repr (by decide +kernel) (pa_cons (pv 10) pa_nil)) (nomark _))))) (pss_one (ps_ret pe_bl)) pss_nil)
      (pss_one (ps_if (pt_not (pt_val (pe_callB call_isA (by rfl) T.n_isinstance (by decide +kernel) (pa_cons (pe_lamP (k := 3) (T := tbsOf K) (P := tabOf K "law") (by rfl) GL (keep_gives rfl T.g_PackError rfl (by decide) rfl rfl) T.l_law.tb rfl T.l_law.mm (tb_uniq T.l_law.nd T.l_law.mm) (hr.mono (by decide)) (LamX.lamS_by (sc := defScope s_law) (by decide +kernel)) rfl (fun _ _ _ _ _ => rfl) (fun A outer s H E f c hr => (pe_g (ok_shared T) (hr.mono (by decide)) (by rfl) (passes_call (takes_of rfl rfl rfl rfl) (fun _ _ _ _ h => h)) (pa_cons (pv 10) (pa_cons (pv 10) (pa_cons (pv 10) pa_nil)))))) (pa_cons (pe_cls (by rfl) T.g_BadPlan) pa_nil))))) (pss_one (ps_ret pe_bl)) pss_nil)))))))))
      (pss_one (ps_ret pe_bl)))), law_run (N := N_law) (Γn := []) (Γb := []) (Γc := []) T.ct (by decide) (fun C hl0 => have hl : true = true → C.lk = [] := fun _ => hl0
    (ss_seq (ss_for (si_range1 (sb_cons ((sm_op sr_add (sm_int).v ((sm_cb sc_min2 (sb_cons ((sm_cb sc_len (sb_cons ((sm_var rfl)).v sb_nil))).v (sb_cons (sm_int).v sb_nil)))).v)).v sb_nil)) sg_name (ss_then (ss_seq (ss_set (sm_call (fun h => Bool.noConfusion h) (sa_cons (sm_var rfl) (sa_cons sm_int (sa_cons sm_int (sa_cons sm_int (sa_cons sm_int sa_nil)))))))
      (ss_seq (ss_set (sm_call (fun _ => hl rfl) (sa_cons (sm_var rfl) sa_nil)))
      (ss_seq (ss_for (si_list (sm_call (fun h => Bool.noConfusion h) (sa_cons (sm_var rfl) sa_nil))) sg_name (ss_then (ss_seq (ss_for (si_range1 (sb_cons ((sm_dget ((sm_var rfl)).v (sm_str).v)).v sb_nil)) sg_name (ss_then (ss_seq (ss_set (sm_call (fun h => Bool.noConfusion h) (sa_cons (sm_var rfl) (sa_cons (sm_var rfl) (sa_cons (sm_var rfl) sa_nil)))))
      (ss_seq (ss_new (sn_call (fun h => Bool.noConfusion h) (sa_cons (sm_var rfl) (sa_cons (sm_var rfl) (sa_cons (sm_var rfl) sa_nil)))))
      (ss_seq (ss_if (st_test ((sm_zne (sz_repr (sm_own rfl)) (sz_repr ((sm_var rfl)).v))).v) (ss_ret sm_bl) ss_next)
      (ss_seq (ss_app rfl sm_non)
      (ss_if (st_test ((sm_op sr_neD ((sn_callK (i := 0) (j := 3) (idx := [2, 1, 0]) (fun h => Bool.noConfusion h) (fun ds h => match ds, h with | [_, _, _], _ => rfl) sa_nil (sa_cons (sm_var rfl) (sa_cons (sm_var rfl) (sa_cons (sm_var rfl) sa_nil))))).v ((sm_var rfl)).v)).v) (ss_ret sm_bl) ss_next))))) (.drop 6 (.drop 7 (.drop 8 .refl)))))
      (ss_seq (ss_for (si_list (sm_call (fun h => Bool.noConfusion h) (sa_cons (sm_var rfl) sa_nil))) sg_name (ss_then (ss_seq (ss_set (sm_call (fun h => Bool.noConfusion h) (sa_cons (sm_call (fun h => Bool.noConfusion h) (sa_cons (sm_var rfl) (sa_cons (sm_var rfl) (sa_cons (sm_var rfl) sa_nil)))) sa_nil)))
      (ss_seq (ss_new (sn_call (fun h => Bool.noConfusion h) (sa_cons (sm_var rfl) (sa_cons (sm_var rfl) (sa_cons (sm_var rfl) sa_nil)))))
      (ss_seq (ss_if (st_test ((sm_zne (sz_repr (sm_own rfl)) (sz_repr ((sm_var rfl)).v))).v) (ss_ret sm_bl) ss_next)
      (ss_seq (ss_app rfl sm_non)
      (ss_if (st_test ((sm_op sr_neD ((sn_callK (i := 0) (j := 3) (idx := [2, 1, 0]) (fun h => Bool.noConfusion h) (fun ds h => match ds, h with | [_, _, _], _ => rfl) sa_nil (sa_cons (sm_var rfl) (sa_cons (sm_var rfl) (sa_cons (sm_var rfl) sa_nil))))).v ((sm_var rfl)).v)).v) (ss_ret sm_bl) ss_next))))) (.drop 7 (.drop 8 (.drop 9 .refl)))))
      (ss_seq (ss_set (sm_call (fun h => Bool.noConfusion h) (sa_cons (sm_var rfl) (sa_cons ((sn_lst (sa_cons sm_non (sa_cons (sm_un su_neg sm_int.v) (sa_cons (sm_dget ((sm_var rfl)).v (sm_str).v) (sa_cons sm_bl (sa_cons sm_str (sa_cons (sm_tup (sa_cons sm_int sa_nil)) (sa_cons (sm_pow ⟨by decide +kernel, by decide +kernel, by decide +kernel⟩ (by decide +kernel)) sa_nil))))))))).e sa_nil))))
      (ss_seq (ss_set (sm_caught T.l_law.mm (fun E => ((sn_call (fun h => Bool.noConfusion h) (sa_cons (sm_var rfl) (sa_cons (sm_var rfl) (sa_cons (sm_var rfl) sa_nil))))).v)))
      (ss_seq (ss_if (st_or (st_not (st_B ((sm_isCl T.oi_BadDay ((sm_var rfl)).v)).v)) (st_test ((sm_zne (sz_repr ((sm_xf T.nx_day ((sm_var rfl)).v)).v) (sz_repr ((sm_var rfl)).v))).v)) (ss_ret sm_bl) ss_next)
      (ss_seq (ss_set (sm_call (fun h => Bool.noConfusion h) (sa_cons (sm_var rfl) (sa_cons ((sn_lst (sa_cons sm_non (sa_cons sm_int (sa_cons sm_str (sa_cons (sm_tup sa_nil) (sa_cons ((sn_lst sa_nil)).e (sa_cons sm_bl (sa_cons sm_str sa_nil))))))))).e sa_nil))))
      (ss_seq (ss_set (sm_caught T.l_law.mm (fun E => ((sn_call (fun h => Bool.noConfusion h) (sa_cons (sm_var rfl) (sa_cons (sm_var rfl) (sa_cons (sm_var rfl) sa_nil))))).v)))
      (ss_seq (ss_set (sm_caught T.l_law.mm (fun E => ((sn_call (fun h => Bool.noConfusion h) (sa_cons (sm_var rfl) (sa_cons (sm_var rfl) (sa_cons (sm_var rfl) sa_nil))))).v)))
      (ss_if (st_or (st_not (st_B ((sm_isCl T.oi_NoPack ((sm_var rfl)).v)).v)) (st_or (st_not (st_B ((sm_isCl T.oi_NoPack ((sm_var rfl)).v)).v)) (st_test ((sm_zne (sz_repr ((sm_xf T.nx_name ((sm_var rfl)).v)).v) (sz_repr ((sm_var rfl)).v))).v))) (ss_ret sm_bl) ss_next))))))))) (.drop 5 (.drop 10 (.drop 11 (.drop 12 .refl))))))
      (ss_seq (ss_set (sm_call (fun h => Bool.noConfusion h) (sa_cons (sm_var rfl) (sa_cons ((sn_lst (sa_cons sm_non (sa_cons sm_int (sa_cons sm_str (sa_cons (sm_tup sa_nil) (sa_cons ((sn_lst sa_nil)).e (sa_cons sm_bl (sa_cons sm_str sa_nil))))))))).e sa_nil))))
      (ss_seq (ss_set (sm_caught T.l_law.mm (fun E => ((sn_call (fun h => Bool.noConfusion h) (sa_cons (sm_var rfl) (sa_cons (sm_var rfl) (sa_cons (sm_var rfl) sa_nil))))).v)))
      (ss_seq (ss_if (st_or (st_not (st_B ((sm_isCl T.oi_NoPack ((sm_var rfl)).v)).v)) (st_test ((sm_zne (sz_repr ((sm_xf T.nx_name ((sm_var rfl)).v)).v) (sz_repr ((sm_var rfl)).v))).v)) (ss_ret sm_bl) ss_next)
      (ss_if (st_not (st_B ((sm_isCl T.oi_BadPlan ((sm_caught T.l_law.mm (fun E => ((sn_call (fun h => Bool.noConfusion h) (sa_cons (sm_var rfl) (sa_cons (sm_var rfl) (sa_cons (sm_var rfl) sa_nil))))).v))).v)).v)) (ss_ret sm_bl) ss_next))))))) (.drop 2 (.drop 3 (.drop 4 (.drop 10 (.drop 11 .refl)))))))
      (ss_ret sm_bl))) hL h⟩
end
end ND
/-! k25: the loops -/
namespace ND
open PySem PySem.Spec PyProof.Rows L2
def B_law_3 : Rho → Out Res := (sSeq (sSet 7 (eCall F__law_later (aCons (eVar 3) (aCons (eVar 5) (aCons (eVar 6) aNil)))))
      (sSeq (sSet 8 (eCall F_slots_from (aCons (eVar 4) (aCons (eVar 5) (aCons (eVar 6) aNil)))))
      (sSeq (sIf (cB (eZNe (rRp (eVar 8)) (rRp (eVar 7)))) (sRet (eC (.bl false))) sNext)
      (sSeq (sApp 8 (eC .non))
      (sIf (cB (eOp dNe (eCallK F_slots_from [2, 1, 0] aNil (aCons (eVar 6) (aCons (eVar 5) (aCons (eVar 4) aNil)))) (eVar 7))) (sRet (eC (.bl false))) sNext)))))
def B_law_4 : Rho → Out Res := (sSeq (sSet 7 (eCall F__law_by_days (aCons (eCall F__law_common (aCons (eVar 3) (aCons (eVar 5) (aCons (eVar 9) aNil)))) aNil)))
      (sSeq (sSet 8 (eCall F_shared (aCons (eVar 4) (aCons (eVar 5) (aCons (eVar 9) aNil)))))
      (sSeq (sIf (cB (eZNe (rRp (eVar 8)) (rRp (eVar 7)))) (sRet (eC (.bl false))) sNext)
      (sSeq (sApp 8 (eC .non))
      (sIf (cB (eOp dNe (eCallK F_shared [2, 1, 0] aNil (aCons (eVar 9) (aCons (eVar 5) (aCons (eVar 4) aNil)))) (eVar 7))) (sRet (eC (.bl false))) sNext)))))

theorem app_nx {i : Nat} {a : Rho → Out D} {ρ : Rho} {xs : List D} {d : D} (hx : ρ.getD i .non = .lst xs) (hl : xs.length < 100000) (h : a ρ = .ok d) : sApp i a ρ = .ok (.nx (ρ.set i (.lst (xs ++ [d])))) := by
  unfold sApp onL
  rw [hx]
  show (Out.bind (a ρ) _) = _
  rw [h, Out.ok_bind, decide_eq_true hl]
  rfl
theorem zne_same {a b : Rho → Out D} {ρ : Rho} {x : D} {z : Str} (h1 : a ρ = .ok x) (h2 : b ρ = .ok x) (h : dRp x = .ok z) : eZNe (rRp a) (rRp b) ρ = .ok (.bl false) := by
  unfold eZNe rRp
  rw [h1, h2, Out.ok_bind, h, Out.ok_bind, Out.ok_bind, decide_eq_true rfl]
  rfl
theorem call_ok {F : List D → Out D} {a : Rho → Out (List D)} {ρ : Rho} {ds : List D} (ha : a ρ = .ok ds) : eCall F a ρ = F ds := by
  unfold eCall
  rw [ha, Out.ok_bind]
theorem set_nx {i : Nat} {a : Rho → Out D} {ρ : Rho} {d : D} (h : a ρ = .ok d) : sSet i a ρ = .ok (.nx (ρ.set i d)) := by
  unfold sSet
  rw [h, Out.ok_bind]
theorem ifno_nx {c : Rho → Out Bool} {a : Rho → Out Res} {ρ : Rho} (h : c ρ = .ok false) : sIf c a sNext ρ = .ok (.nx ρ) := by
  rw [if_no h]
  rfl
variable {s : Sheet} {w v : Ware} {l k : Str} {d : Int} {L t a5 a6 a7 a8 a9 a10 a11 a12 : D}
theorem srtS_len (ss : List Spot) : (srtS ss).length = ss.length := by unfold srtS; rw [List.length_mergeSort]
theorem spots_shw {w : Ware} {ss : List Spot} (P : WareP w) (hl : ss.length ≤ w.slots.length) (h : ∀ p ∈ ss, p ∈ w.slots) : dRp (.lst (ss.map encSpot)) = .ok (D.py (.lst (ss.map encSpot))).shown := by
  refine shw_spots (Nat.le_trans hl P.sl.l2) fun p hp => ?_
  obtain ⟨k1, k2, k3⟩ := P.sl.ok p (h p hp)
  exact ⟨nameOk_sok k1, k1.2.1, k2, k3⟩
theorem date_body (nd : (s.wares.map (·.1)).Nodup) (h : (l, w) ∈ s.wares) (P : WareP w) (h0 : 0 ≤ d) (h1 : d < s.span) : ∃ b7 b8,
    B_law_3 [L, .drw, t, encSheet s, planD s.rates s.span s.wares, .str l, .int d, a7, a8, a9, a10, a11, a12] = .ok (.nx [L, .drw, t, encSheet s, planD s.rates s.span s.wares, .str l, .int d, b7, b8, a9, a10, a11, a12]) := by
  have hs := slots_from_eq (rs := s.rates) nd h h0 h1
  have hlen : ((srtS w.slots).filter (fromD d)).length ≤ w.slots.length := Nat.le_trans (List.length_filter_le _ _) (Nat.le_of_eq (srtS_len _))
  have hr := spots_shw P hlen fun p hp => srtS_mem.mp (List.mem_filter.mp hp).1
  refine ⟨.lst (((srtS w.slots).filter (fromD d)).map encSpot), .lst (((srtS w.slots).filter (fromD d)).map encSpot ++ [.non]), ?_⟩
  unfold B_law_3
  refine Eq.trans (seq_nx (set_nx (Eq.trans (call_ok (ds := [encSheet s, .str l, .int d]) rfl) (later_is nd h)))) ?_
  refine Eq.trans (seq_nx (set_nx (Eq.trans (call_ok (ds := [planD s.rates s.span s.wares, .str l, .int d]) rfl) hs))) ?_
  refine Eq.trans (seq_nx (ifno_nx (cB_ok (zne_same rfl rfl hr)))) ?_
  refine Eq.trans (seq_nx (app_nx (xs := ((srtS w.slots).filter (fromD d)).map encSpot) rfl (by rw [List.length_map]; have := P.sl.l2; omega) rfl)) ?_
  refine Eq.trans (ifno_nx (cB_ok (Eq.trans (eOp_ok (x := .lst (((srtS w.slots).filter (fromD d)).map encSpot)) (y := .lst (((srtS w.slots).filter (fromD d)).map encSpot)) hs rfl) (ne_spots _)))) ?_
  rfl
theorem comm_len : (comm w v).length ≤ w.slots.length := Nat.le_trans (List.length_filter_le _ _) (Nat.le_of_eq (srtS_len _))
theorem rival_body (nd : (s.wares.map (·.1)).Nodup) (h : (l, w) ∈ s.wares) (h2 : (k, v) ∈ s.wares) (P : WareP w) : ∃ b7 b8,
    B_law_4 [L, .drw, t, encSheet s, planD s.rates s.span s.wares, .str l, a6, a7, a8, .str k, a10, a11, a12] = .ok (.nx [L, .drw, t, encSheet s, planD s.rates s.span s.wares, .str l, a6, b7, b8, .str k, a10, a11, a12]) := by
  have hs := shared_eq (rs := s.rates) (n := s.span) nd h h2
  have hlen : (srtP (comm w v)).length ≤ w.slots.length := by
    unfold srtP
    rw [List.length_mergeSort]
    exact comm_len
  have hr := spots_shw (ss := srtP (comm w v)) P hlen fun p hp => srtS_mem.mp (List.mem_filter.mp (List.mem_mergeSort.mp hp)).1
  have hc := common_eq nd h h2 fun p hp => (P.sl.ok p hp).2.1
  refine ⟨.lst ((srtP (comm w v)).map encSpot), .lst ((srtP (comm w v)).map encSpot ++ [.non]), ?_⟩
  unfold B_law_4
  refine Eq.trans (seq_nx (set_nx (Eq.trans (call_ok (ds := [.lst ((comm w v).map encSpot)]) (by simp only [fnD, sSeq, sIf, sRet, sRetN, sDrop, sSet, sNext, sRaise, eVar, eC, eOp, eUn, eCall, eAnd, eOr, eNot, eIf, eChain, eTup, eLst, eLc, iOf, cB, cNot, cAnd, cOr, aNil, aCons, gN, Out.ok_bind, Out.exc_bind, Out.nox_ok, boD_some, List.cons_append, List.nil_append, List.append_nil, List.length_cons, List.length_nil, List.replicate, List.getD_cons_zero, List.getD_cons_succ, List.set_cons_zero, List.set_cons_succ, Nat.reduceAdd, Nat.reduceSub, Nat.reduceLeDiff, List.replicate_succ, List.replicate_zero, cond_true, cond_false, Bool.not_true, Bool.not_false, hc])) (by_days_eq _)))) ?_
  refine Eq.trans (seq_nx (set_nx (Eq.trans (call_ok (ds := [planD s.rates s.span s.wares, .str l, .str k]) rfl) hs))) ?_
  refine Eq.trans (seq_nx (ifno_nx (cB_ok (zne_same rfl rfl hr)))) ?_
  refine Eq.trans (seq_nx (app_nx (xs := (srtP (comm w v)).map encSpot) rfl (by rw [List.length_map]; have := P.sl.l2; omega) rfl)) ?_
  refine Eq.trans (ifno_nx (cB_ok (Eq.trans (eOp_ok (x := .lst ((srtP (comm w v)).map encSpot)) (y := .lst ((srtP (comm w v)).map encSpot)) hs rfl) (ne_spots _)))) ?_
  rfl
end ND
/-! k25: the label's turn -/
namespace ND
open PySem PySem.Spec PyProof.Rows L2
def B_law_2 : Rho → Out Res := (sSeq (sFor (iRg1 (aCons (eOp dGet (eVar 3) (eC (.str "days"))) aNil)) (gN 6) (sSeq (sSet 7 (eCall F__law_later (aCons (eVar 3) (aCons (eVar 5) (aCons (eVar 6) aNil)))))
      (sSeq (sSet 8 (eCall F_slots_from (aCons (eVar 4) (aCons (eVar 5) (aCons (eVar 6) aNil)))))
      (sSeq (sIf (cB (eZNe (rRp (eVar 8)) (rRp (eVar 7)))) (sRet (eC (.bl false))) sNext)
      (sSeq (sApp 8 (eC .non))
      (sIf (cB (eOp dNe (eCallK F_slots_from [2, 1, 0] aNil (aCons (eVar 6) (aCons (eVar 5) (aCons (eVar 4) aNil)))) (eVar 7))) (sRet (eC (.bl false))) sNext))))))
      (sSeq (sFor (iOf itemsL (eCall F__law_wares (aCons (eVar 3) aNil))) (gN 9) (sSeq (sSet 7 (eCall F__law_by_days (aCons (eCall F__law_common (aCons (eVar 3) (aCons (eVar 5) (aCons (eVar 9) aNil)))) aNil)))
      (sSeq (sSet 8 (eCall F_shared (aCons (eVar 4) (aCons (eVar 5) (aCons (eVar 9) aNil)))))
      (sSeq (sIf (cB (eZNe (rRp (eVar 8)) (rRp (eVar 7)))) (sRet (eC (.bl false))) sNext)
      (sSeq (sApp 8 (eC .non))
      (sIf (cB (eOp dNe (eCallK F_shared [2, 1, 0] aNil (aCons (eVar 9) (aCons (eVar 5) (aCons (eVar 4) aNil)))) (eVar 7))) (sRet (eC (.bl false))) sNext))))))
      (sSeq (sSet 10 (eCall F__law_pick (aCons (eVar 1) (aCons (eLst (aCons (eC .non) (aCons (eUn dNeg (eC (.int 1))) (aCons (eOp dGet (eVar 3) (eC (.str "days"))) (aCons (eC (.bl true)) (aCons (eC (.str "0")) (aCons (eTup (aCons (eC (.int 0)) aNil)) (aCons (eC (.int 100000000000000000000)) aNil)))))))) aNil))))
      (sSeq (sSet 11 (eCaught (eCall F_slots_from (aCons (eVar 4) (aCons (eVar 5) (aCons (eVar 10) aNil))))))
      (sSeq (sIf (cOr (cNot (cB (eUn (fun d => boD (dIsClB "BadDay" d)) (eVar 11)))) (cB (eZNe (rRp (eUn (dXf "day") (eVar 11))) (rRp (eVar 10))))) (sRet (eC (.bl false))) sNext)
      (sSeq (sSet 10 (eCall F__law_pick (aCons (eVar 1) (aCons (eLst (aCons (eC .non) (aCons (eC (.int 5)) (aCons (eC (.str "QQ")) (aCons (eTup aNil) (aCons (eLst aNil) (aCons (eC (.bl true)) (aCons (eC (.str "A")) aNil)))))))) aNil))))
      (sSeq (sSet 11 (eCaught (eCall F_shared (aCons (eVar 4) (aCons (eVar 5) (aCons (eVar 10) aNil))))))
      (sSeq (sSet 12 (eCaught (eCall F_shared (aCons (eVar 4) (aCons (eVar 10) (aCons (eVar 5) aNil))))))
      (sIf (cOr (cNot (cB (eUn (fun d => boD (dIsClB "NoPack" d)) (eVar 11)))) (cOr (cNot (cB (eUn (fun d => boD (dIsClB "NoPack" d)) (eVar 12)))) (cB (eZNe (rRp (eUn (dXf "name") (eVar 11))) (rRp (eVar 10)))))) (sRet (eC (.bl false))) sNext)))))))))

theorem sp_seqc {a b : Rho → Out Res} {ρ : Rho} {c1 c : Nat} {P : Rho → Prop} {Q : Res → Prop} {X : Str → List (Str × D) → Prop} (h : (a ρ).sp c1 (fun r => ∃ ρ', r = .nx ρ' ∧ P ρ') X) (hc : c1 ≤ c) (k : ∀ ρ', P ρ' → (b ρ').sp (c - c1) Q X) : (sSeq a b ρ).sp c Q X := by
  unfold sSeq
  refine Out.sp_then h hc fun r hr => ?_
  obtain ⟨ρ', rfl, hp⟩ := hr
  exact k ρ' hp
theorem or_no {c1 c2 : Rho → Out Bool} {ρ : Rho} (h1 : c1 ρ = .ok false) (h2 : c2 ρ = .ok false) : cOr c1 c2 ρ = .ok false := by
  unfold cOr
  rw [h1, Out.ok_bind, cond_false, h2]
theorem not_yes {c : Rho → Out Bool} {ρ : Rho} (h : c ρ = .ok true) : cNot c ρ = .ok false := by
  unfold cNot
  rw [h, Out.ok_bind]
  rfl
theorem isx_yes {c c' : Str} {fs : List (Str × D)} {i : Nat} {ρ : Rho} (hi : ρ.getD i .non = .exc c' fs) (h : isaB c' c = true) : cB (eUn (fun d => boD (dIsClB c d)) (eVar i)) ρ = .ok true := by
  refine cB_ok ?_
  unfold eUn eVar
  rw [Out.ok_bind, hi]
  show boD (some (isaB c' c)) = _
  rw [h]
  rfl
theorem caught_x {F : List D → Out D} {a : Rho → Out (List D)} {ρ : Rho} {ds : List D} {c : Str} {fs : List (Str × D)} (ha : a ρ = .ok ds) (h : F ds = .exc c fs) : eCaught (eCall F a) ρ = .ok (.exc c fs) := by
  unfold eCaught eCall
  rw [ha, Out.ok_bind, h]
  rfl
theorem xf_ok {f c : Str} {d : D} {i : Nat} {ρ : Rho} (hi : ρ.getD i .non = .exc c [(f, d)]) : eUn (dXf f) (eVar i) ρ = .ok d := by
  unfold eUn eVar
  rw [Out.ok_bind, hi]
  show optD (List.lookup f [(f, d)]) = _
  rw [lk_hit]
  rfl
theorem shown_of {o : D} (h : Shw 2 10 o) : ∃ z, dRp o = .ok z := ⟨_, dRp_of h (by decide) (by decide)⟩
/-- what is no day of the plan -/
structure OddD (n : Nat) (o : D) : Prop where
  no : F_is_within [o, .int 0, .int ((n : Int) - 1)] = .ok (.bl false)
  sh : ∃ z, dRp o = .ok z
theorem oddD_of {n : Nat} {o : D} (h1 : 1 ≤ n) (h4 : n ≤ 4) (h : o ∈ [D.non, .int (-1), .int n, .bl true, .str "0", .tup [.int 0], .int 100000000000000000000]) : OddD n o := by
  simp only [List.mem_cons, List.not_mem_nil, or_false] at h
  have neg : ∀ i : Int, ¬ (0 ≤ i ∧ i ≤ (n : Int) - 1) → F_is_within [.int i, .int 0, .int ((n : Int) - 1)] = .ok (.bl false) := fun i hi => by
    rw [is_within_int]
    congr 2
    rw [← Bool.decide_and]
    exact decide_eq_false hi
  rcases h with rfl | rfl | rfl | rfl | rfl | rfl | rfl
  · exact ⟨is_within_no (by intro z; cases z) rfl, shown_of shw_non⟩
  · exact ⟨neg _ (by omega), shown_of (shw_int (by decide))⟩
  · exact ⟨neg _ (by omega), shown_of (shw_int (by omega))⟩
  · exact ⟨is_within_no (by intro z; cases z) rfl, shown_of shw_bl⟩
  · exact ⟨is_within_no (by intro z; cases z) rfl, shown_of (shw_str ⟨by decide +kernel, by decide +kernel⟩ (by decide))⟩
  · refine ⟨is_within_no (by intro z; cases z) rfl, shown_of (shw_tup (k := 1) (b := 1) (m := 1) (fun y hy => ?_) (by decide) (by decide))⟩
    rw [List.mem_singleton.mp hy]
    exact shw_int (by decide)
  · exact ⟨neg _ (by omega), shown_of (shw_int (by decide))⟩
/-- what is no pack of the plan -/
structure OddP (ws : List (Str × Ware)) (o : D) : Prop where
  no : OddN ws o
  np : dIsClB "Plan" o = some false
  sh : ∃ z, dRp o = .ok z
theorem oddP_of {ws : List (Str × Ware)} {o : D} (hw : ∀ w ∈ ws, NameOk w.1) (h : o ∈ [D.non, .int 5, .str "QQ", .tup [], .lst [], .bl true, .str "A"]) : OddP ws o := by
  simp only [List.mem_cons, List.not_mem_nil, or_false] at h
  have nn : ∀ z : Str, ¬ NameOk z → z ∉ ws.map (·.1) := fun z hz hm => by
    obtain ⟨w, h1, rfl⟩ := List.mem_map.mp hm
    exact hz (hw w h1)
  rcases h with rfl | rfl | rfl | rfl | rfl | rfl | rfl
  · exact ⟨.inl rfl, rfl, shown_of shw_non⟩
  · exact ⟨.inl rfl, rfl, shown_of (shw_int (by decide))⟩
  · exact ⟨.inr ⟨_, rfl, nn _ (by decide +kernel)⟩, rfl, shown_of (shw_str ⟨by decide +kernel, by decide +kernel⟩ (by decide))⟩
  · exact ⟨.inl rfl, rfl, shown_of (shw_tup (k := 1) (b := 1) (m := 1) (fun y hy => nomatch hy) (by decide) (by decide))⟩
  · exact ⟨.inl rfl, rfl, shown_of (shw_lst (k := 1) (b := 1) (m := 1) (fun y hy => nomatch hy) (by decide) (by decide))⟩
  · exact ⟨.inl rfl, rfl, shown_of shw_bl⟩
  · exact ⟨.inr ⟨_, rfl, nn _ (by decide +kernel)⟩, rfl, shown_of (shw_str ⟨by decide +kernel, by decide +kernel⟩ (by decide))⟩
variable {s : Sheet} {w v : Ware} {l k : Str} {d : Int} {L t a5 a6 a7 a8 a9 a10 a11 a12 : D}
def PL (s : Sheet) (L t : D) (ρ : Rho) : Prop := ∃ a5 a6 a7 a8 a9 a10 a11 a12, ρ = [L, .drw, t, encSheet s, planD s.rates s.span s.wares, a5, a6, a7, a8, a9, a10, a11, a12]
theorem wares_it {X : Str → List (Str × D) → Prop} {ρ : Rho} (h : SheetOk 4 6 s) (he : ρ.getD 3 .non = encSheet s) : (iOf itemsL (eCall F__law_wares (aCons (eVar 3) aNil)) ρ).sp 0 (fun ds => ds = s.wares.map fun x => .str x.1) X := by
  unfold iOf
  refine Out.sp_then (c1 := 0) (P := fun d => d = .lst (s.wares.map fun x => .str x.1)) ?_ (Nat.le_refl _) fun d hd => ?_
  · refine Out.sp_eq ?_ (wares_ok h (by decide))
    unfold eCall aCons eVar
    rw [he]
    rfl
  · subst hd
    exact Out.sp_ok rfl
theorem label_body {X : Str → List (Str × D) → Prop} (hs : SheetOk 4 6 s) (P : PlanP s.rates s.span s.wares) (h : (l, w) ∈ s.wares) :
    (B_law_2 [L, .drw, t, encSheet s, planD s.rates s.span s.wares, .str l, a6, a7, a8, a9, a10, a11, a12]).sp 2 (fun r => ∃ ρ2, r = .nx ρ2 ∧ PL s L t ρ2) X := by
  have nd := P.wn
  have WP := P.wp _ h
  unfold B_law_2
  -- the days
  refine sp_seqc (c1 := 0) (P := fun ρ' => ∃ b6 b7 b8, ρ' = [L, .drw, t, encSheet s, planD s.rates s.span s.wares, .str l, b6, b7, b8, a9, a10, a11, a12]) ?_ (by decide) fun ρ' hp => ?_
  · have hr : iRg1 (aCons (eOp dGet (eVar 3) (eC (.str "days"))) aNil) [L, .drw, t, encSheet s, planD s.rates s.span s.wares, .str l, a6, a7, a8, a9, a10, a11, a12] = .ok (rangeD 0 s.span) := by
      unfold iRg1
      simp only [fnD, sSeq, sIf, sRet, sRetN, sDrop, sSet, sNext, sRaise, eVar, eC, eOp, eUn, eCall, eAnd, eOr, eNot, eIf, eChain, eTup, eLst, eLc, iOf, cB, cNot, cAnd, cOr, aNil, aCons, gN, Out.ok_bind, Out.exc_bind, Out.nox_ok, boD_some, List.cons_append, List.nil_append, List.append_nil, List.length_cons, List.length_nil, List.replicate, List.getD_cons_zero, List.getD_cons_succ, List.set_cons_zero, List.set_cons_succ, Nat.reduceAdd, Nat.reduceSub, Nat.reduceLeDiff, List.replicate_succ, List.replicate_zero, cond_true, cond_false, Bool.not_true, Bool.not_false, sh_days]
      rw [if_pos (by have := P.d4; omega)]
      congr 2
    unfold sFor
    rw [hr, Out.ok_bind]
    refine Out.sp_mono (forD_sp (b := B_law_3) (c := 0) (P := fun ρ' => ∃ b6 b7 b8, ρ' = [L, .drw, t, encSheet s, planD s.rates s.span s.wares, .str l, b6, b7, b8, a9, a10, a11, a12]) (fun x hx ρ hp => ?_) _ ⟨_, _, _, rfl⟩) (by rw [Nat.zero_mul]; exact Nat.le_refl _) (fun _ z => z) (fun _ _ z => z)
    obtain ⟨b6, b7, b8, rfl⟩ := hp
    obtain ⟨i, hi, rfl⟩ := List.mem_map.mp hx
    refine ⟨_, rfl, ?_⟩
    obtain ⟨c7, c8, e⟩ := date_body (L := L) (t := t) (a7 := b7) (a8 := b8) (a9 := a9) (a10 := a10) (a11 := a11) (a12 := a12) (d := 0 + (i : Nat)) nd h WP (by omega) (by have := List.mem_range.mp hi; omega)
    exact Out.sp_eq e (Out.sp_ok ⟨_, rfl, _, _, _, rfl⟩)
  obtain ⟨b6, b7, b8, rfl⟩ := hp
  -- the rivals
  refine sp_seqc (c1 := 0) (P := fun ρ' => ∃ b7 b8 b9, ρ' = [L, .drw, t, encSheet s, planD s.rates s.span s.wares, .str l, b6, b7, b8, b9, a10, a11, a12]) ?_ (by decide) fun ρ' hp => ?_
  · unfold sFor
    refine Out.sp_then (c1 := 0) (wares_it hs rfl) (Nat.le_refl _) fun ds hd => ?_
    subst hd
    refine Out.sp_mono (forD_sp (b := B_law_4) (c := 0) (P := fun ρ' => ∃ b7 b8 b9, ρ' = [L, .drw, t, encSheet s, planD s.rates s.span s.wares, .str l, b6, b7, b8, b9, a10, a11, a12]) (fun x hx ρ hp => ?_) _ ⟨_, _, _, rfl⟩) (by rw [Nat.zero_mul]; exact Nat.le_refl _) (fun _ z => z) (fun _ _ z => z)
    obtain ⟨b7, b8, b9, rfl⟩ := hp
    obtain ⟨y, hy, rfl⟩ := List.mem_map.mp hx
    refine ⟨_, rfl, ?_⟩
    obtain ⟨c7, c8, e⟩ := rival_body (L := L) (t := t) (a6 := b6) (a7 := b7) (a8 := b8) (a10 := a10) (a11 := a11) (a12 := a12) (k := y.1) (v := y.2) nd h hy WP
    exact Out.sp_eq e (Out.sp_ok ⟨_, rfl, _, _, _, rfl⟩)
  obtain ⟨c7, c8, c9, rfl⟩ := hp
  -- no day
  refine sp_seqc (c1 := 1) (P := fun ρ' => ∃ o, OddD s.span o ∧ ρ' = [L, .drw, t, encSheet s, planD s.rates s.span s.wares, .str l, b6, c7, c8, c9, o, a11, a12]) ?_ (by decide) fun ρ' hp => ?_
  · have en : dNeg (.int 1) = .ok (.int (-1)) := rfl
    simp only [fnD, sSeq, sIf, sRet, sRetN, sDrop, sSet, sNext, sRaise, eVar, eC, eOp, eUn, eCall, eAnd, eOr, eNot, eIf, eChain, eTup, eLst, eLc, iOf, cB, cNot, cAnd, cOr, aNil, aCons, gN, Out.ok_bind, Out.exc_bind, Out.nox_ok, boD_some, List.cons_append, List.nil_append, List.append_nil, List.length_cons, List.length_nil, List.replicate, List.getD_cons_zero, List.getD_cons_succ, List.set_cons_zero, List.set_cons_succ, Nat.reduceAdd, Nat.reduceSub, Nat.reduceLeDiff, List.replicate_succ, List.replicate_zero, cond_true, cond_false, Bool.not_true, Bool.not_false, sh_days, en, Out.bind_assoc]
    refine Out.sp_then (c := 1) (pick_ok (by show 0 < 7; decide) (by show 7 < 1000000; decide)) (Nat.le_refl _) fun d hd => ?_
    exact Out.sp_ok ⟨_, rfl, d, oddD_of P.d1 P.d4 hd, rfl⟩
  obtain ⟨o, ho, rfl⟩ := hp
  obtain ⟨z, hz⟩ := ho.sh
  refine Out.sp_eq (seq_nx (set_nx (caught_x (ds := [planD s.rates s.span s.wares, .str l, o]) rfl (slots_from_day h ho.no)))) ?_
  refine Out.sp_eq (seq_nx (ifno_nx (or_no (not_yes (isx_yes (c' := "BadDay") (fs := [("day", o)]) rfl (by decide +kernel))) (cB_ok (zne_same (x := o) (xf_ok (c := "BadDay") rfl) rfl hz))))) ?_
  -- no pack
  refine sp_seqc (c1 := 1) (P := fun ρ' => ∃ p, OddP s.wares p ∧ ρ' = [L, .drw, t, encSheet s, planD s.rates s.span s.wares, .str l, b6, c7, c8, c9, p, .exc "BadDay" [("day", o)], a12]) ?_ (by decide) fun ρ' hp => ?_
  · simp only [fnD, sSeq, sIf, sRet, sRetN, sDrop, sSet, sNext, sRaise, eVar, eC, eOp, eUn, eCall, eAnd, eOr, eNot, eIf, eChain, eTup, eLst, eLc, iOf, cB, cNot, cAnd, cOr, aNil, aCons, gN, Out.ok_bind, Out.exc_bind, Out.nox_ok, boD_some, List.cons_append, List.nil_append, List.append_nil, List.length_cons, List.length_nil, List.replicate, List.getD_cons_zero, List.getD_cons_succ, List.set_cons_zero, List.set_cons_succ, Nat.reduceAdd, Nat.reduceSub, Nat.reduceLeDiff, List.replicate_succ, List.replicate_zero, cond_true, cond_false, Bool.not_true, Bool.not_false, Out.bind_assoc]
    refine Out.sp_then (c := 1) (pick_ok (by show 0 < 7; decide) (by show 7 < 1000000; decide)) (Nat.le_refl _) fun d hd => ?_
    exact Out.sp_ok ⟨_, rfl, d, oddP_of P.wk hd, rfl⟩
  obtain ⟨p, hp, rfl⟩ := hp
  obtain ⟨z2, hz2⟩ := hp.sh
  refine Out.sp_eq (seq_nx (set_nx (caught_x (ds := [planD s.rates s.span s.wares, .str l, p]) rfl (shared_no2 h hp.no)))) ?_
  refine Out.sp_eq (seq_nx (set_nx (caught_x (ds := [planD s.rates s.span s.wares, p, .str l]) rfl (shared_no1 hp.no)))) ?_
  refine Out.sp_eq (ifno_nx (or_no (not_yes (isx_yes (c' := "NoPack") (fs := [("name", p)]) rfl (by decide +kernel))) (or_no (not_yes (isx_yes (c' := "NoPack") (fs := [("name", p)]) rfl (by decide +kernel))) (cB_ok (zne_same (x := p) (xf_ok (c := "NoPack") rfl) rfl hz2))))) ?_
  exact Out.sp_ok ⟨_, rfl, _, _, _, _, _, _, _, _, rfl⟩
end ND
/-! k25: the plain law -/
namespace ND
open PySem PySem.Spec PyProof.Rows L2
def B_law_1 : Rho → Out Res := (sSeq (sSet 3 (eCall F__law_sheet (aCons (eVar 1) (aCons (eC (.int 4)) (aCons (eC (.int 6)) (aCons (eC (.int 3)) (aCons (eC (.int 3)) aNil)))))))
      (sSeq (sSet 4 (eCall F__law_plan (aCons (eVar 3) aNil)))
      (sSeq (sFor (iOf itemsL (eCall F__law_wares (aCons (eVar 3) aNil))) (gN 5) (sSeq (sFor (iRg1 (aCons (eOp dGet (eVar 3) (eC (.str "days"))) aNil)) (gN 6) (sSeq (sSet 7 (eCall F__law_later (aCons (eVar 3) (aCons (eVar 5) (aCons (eVar 6) aNil)))))
      (sSeq (sSet 8 (eCall F_slots_from (aCons (eVar 4) (aCons (eVar 5) (aCons (eVar 6) aNil)))))
      (sSeq (sIf (cB (eZNe (rRp (eVar 8)) (rRp (eVar 7)))) (sRet (eC (.bl false))) sNext)
      (sSeq (sApp 8 (eC .non))
      (sIf (cB (eOp dNe (eCallK F_slots_from [2, 1, 0] aNil (aCons (eVar 6) (aCons (eVar 5) (aCons (eVar 4) aNil)))) (eVar 7))) (sRet (eC (.bl false))) sNext))))))
      (sSeq (sFor (iOf itemsL (eCall F__law_wares (aCons (eVar 3) aNil))) (gN 9) (sSeq (sSet 7 (eCall F__law_by_days (aCons (eCall F__law_common (aCons (eVar 3) (aCons (eVar 5) (aCons (eVar 9) aNil)))) aNil)))
      (sSeq (sSet 8 (eCall F_shared (aCons (eVar 4) (aCons (eVar 5) (aCons (eVar 9) aNil)))))
      (sSeq (sIf (cB (eZNe (rRp (eVar 8)) (rRp (eVar 7)))) (sRet (eC (.bl false))) sNext)
      (sSeq (sApp 8 (eC .non))
      (sIf (cB (eOp dNe (eCallK F_shared [2, 1, 0] aNil (aCons (eVar 9) (aCons (eVar 5) (aCons (eVar 4) aNil)))) (eVar 7))) (sRet (eC (.bl false))) sNext))))))
      (sSeq (sSet 10 (eCall F__law_pick (aCons (eVar 1) (aCons (eLst (aCons (eC .non) (aCons (eUn dNeg (eC (.int 1))) (aCons (eOp dGet (eVar 3) (eC (.str "days"))) (aCons (eC (.bl true)) (aCons (eC (.str "0")) (aCons (eTup (aCons (eC (.int 0)) aNil)) (aCons (eC (.int 100000000000000000000)) aNil)))))))) aNil))))
      (sSeq (sSet 11 (eCaught (eCall F_slots_from (aCons (eVar 4) (aCons (eVar 5) (aCons (eVar 10) aNil))))))
      (sSeq (sIf (cOr (cNot (cB (eUn (fun d => boD (dIsClB "BadDay" d)) (eVar 11)))) (cB (eZNe (rRp (eUn (dXf "day") (eVar 11))) (rRp (eVar 10))))) (sRet (eC (.bl false))) sNext)
      (sSeq (sSet 10 (eCall F__law_pick (aCons (eVar 1) (aCons (eLst (aCons (eC .non) (aCons (eC (.int 5)) (aCons (eC (.str "QQ")) (aCons (eTup aNil) (aCons (eLst aNil) (aCons (eC (.bl true)) (aCons (eC (.str "A")) aNil)))))))) aNil))))
      (sSeq (sSet 11 (eCaught (eCall F_shared (aCons (eVar 4) (aCons (eVar 5) (aCons (eVar 10) aNil))))))
      (sSeq (sSet 12 (eCaught (eCall F_shared (aCons (eVar 4) (aCons (eVar 10) (aCons (eVar 5) aNil))))))
      (sIf (cOr (cNot (cB (eUn (fun d => boD (dIsClB "NoPack" d)) (eVar 11)))) (cOr (cNot (cB (eUn (fun d => boD (dIsClB "NoPack" d)) (eVar 12)))) (cB (eZNe (rRp (eUn (dXf "name") (eVar 11))) (rRp (eVar 10)))))) (sRet (eC (.bl false))) sNext))))))))))
      (sSeq (sSet 10 (eCall F__law_pick (aCons (eVar 1) (aCons (eLst (aCons (eC .non) (aCons (eC (.int 5)) (aCons (eC (.str "QQ")) (aCons (eTup aNil) (aCons (eLst aNil) (aCons (eC (.bl true)) (aCons (eC (.str "A")) aNil)))))))) aNil))))
      (sSeq (sSet 11 (eCaught (eCall F_slots_from (aCons (eVar 4) (aCons (eVar 10) (aCons (eVar 10) aNil))))))
      (sSeq (sIf (cOr (cNot (cB (eUn (fun d => boD (dIsClB "NoPack" d)) (eVar 11)))) (cB (eZNe (rRp (eUn (dXf "name") (eVar 11))) (rRp (eVar 10))))) (sRet (eC (.bl false))) sNext)
      (sIf (cNot (cB (eUn (fun d => boD (dIsClB "BadPlan" d)) (eCaught (eCall F_shared (aCons (eVar 10) (aCons (eVar 10) (aCons (eVar 10) aNil)))))))) (sRet (eC (.bl false))) sNext)))))))

theorem eUn_ok {f : D → Out D} {a : Rho → Out D} {ρ : Rho} {x : D} (h : a ρ = .ok x) : eUn f a ρ = f x := by
  unfold eUn
  rw [h, Out.ok_bind]
theorem sheet_take {most units fees fl : Int} {X : Str → List (Str × D) → Prop} (h : 0 ≤ most ∧ most ≤ 10 ∧ 0 ≤ units ∧ 0 < fees ∧ fees < 1000000 ∧ 0 < fl ∧ fl < 1000000) : (F__law_sheet [.drw, .int most, .int units, .int fees, .int fl]).sp 2000 (fun d => ∃ s, SheetOk most.toNat units s ∧ d = encSheet s) X := by
  unfold F__law_sheet sheetF
  show (if 0 ≤ most ∧ most ≤ 10 ∧ 0 ≤ units ∧ 0 < fees ∧ fees < 1000000 ∧ 0 < fl ∧ fl < 1000000 then Out.any 2000 (isSheet most.toNat units) Out.ok else Out.stuck).sp _ _ _
  rw [if_pos h]
  exact Out.sp_any (c := 0) fun d hd => Out.sp_ok hd
def rhoP (ns : List Int) (ρ : Rho) : Prop := ∃ a2 a3 a4 a5 a6 a7 a8 a9 a10 a11 a12, ρ = [.lst (ns.map D.int), .drw, a2, a3, a4, a5, a6, a7, a8, a9, a10, a11, a12]
theorem turn_body {ns : List Int} {a2 a3 a4 a5 a6 a7 a8 a9 a10 a11 a12 : D} : (B_law_1 [.lst (ns.map D.int), .drw, a2, a3, a4, a5, a6, a7, a8, a9, a10, a11, a12]).sp 2010 (fun r => ∃ ρ2, r = .nx ρ2 ∧ rhoP ns ρ2) (fun _ _ => False) := by
  unfold B_law_1
  refine sp_seqc (c1 := 2000) (P := fun ρ' => ∃ s, SheetOk 4 6 s ∧ ρ' = [.lst (ns.map D.int), .drw, a2, encSheet s, a4, a5, a6, a7, a8, a9, a10, a11, a12]) ?_ (by decide) fun ρ' hp => ?_
  · simp only [fnD, sSeq, sIf, sRet, sRetN, sDrop, sSet, sNext, sRaise, eVar, eC, eOp, eUn, eCall, eAnd, eOr, eNot, eIf, eChain, eTup, eLst, eLc, iOf, cB, cNot, cAnd, cOr, aNil, aCons, gN, Out.ok_bind, Out.exc_bind, Out.nox_ok, boD_some, List.cons_append, List.nil_append, List.append_nil, List.length_cons, List.length_nil, List.replicate, List.getD_cons_zero, List.getD_cons_succ, List.set_cons_zero, List.set_cons_succ, Nat.reduceAdd, Nat.reduceSub, Nat.reduceLeDiff, List.replicate_succ, List.replicate_zero, cond_true, cond_false, Bool.not_true, Bool.not_false]
    refine Out.sp_then (sheet_take (by decide)) (Nat.le_refl _) fun d hd => ?_
    obtain ⟨s, hs, rfl⟩ := hd
    exact Out.sp_ok ⟨_, rfl, s, hs, rfl⟩
  obtain ⟨s, hs, rfl⟩ := hp
  have P := plan_of_sheet hs (by decide) (by decide)
  refine sp_seqc (c1 := 0) (P := fun ρ' => ρ' = [.lst (ns.map D.int), .drw, a2, encSheet s, planD s.rates s.span s.wares, a5, a6, a7, a8, a9, a10, a11, a12]) ?_ (by decide) fun ρ' hp => ?_
  · simp only [fnD, sSeq, sIf, sRet, sRetN, sDrop, sSet, sNext, sRaise, eVar, eC, eOp, eUn, eCall, eAnd, eOr, eNot, eIf, eChain, eTup, eLst, eLc, iOf, cB, cNot, cAnd, cOr, aNil, aCons, gN, Out.ok_bind, Out.exc_bind, Out.nox_ok, boD_some, List.cons_append, List.nil_append, List.append_nil, List.length_cons, List.length_nil, List.replicate, List.getD_cons_zero, List.getD_cons_succ, List.set_cons_zero, List.set_cons_succ, Nat.reduceAdd, Nat.reduceSub, Nat.reduceLeDiff, List.replicate_succ, List.replicate_zero, cond_true, cond_false, Bool.not_true, Bool.not_false]
    refine Out.sp_then (c := 0) (lawplan_ok hs (by decide) (by decide)) (by decide) fun d hd => ?_
    subst hd
    exact Out.sp_ok ⟨_, rfl, rfl⟩
  subst hp
  refine sp_seqc (c1 := 8) (P := PL s (.lst (ns.map D.int)) a2) ?_ (by decide) fun ρ' hp => ?_
  · unfold sFor
    refine Out.sp_then (c1 := 0) (wares_it hs rfl) (by decide) fun ds hd => ?_
    subst hd
    refine Out.sp_mono (forD_sp (b := B_law_2) (c := 2) (P := PL s (.lst (ns.map D.int)) a2) (fun x hx ρ hp => ?_) _ ⟨_, _, _, _, _, _, _, _, rfl⟩) (by rw [List.length_map]; have := hs.wl; omega) (fun _ z => z) (fun _ _ z => z)
    obtain ⟨b5, b6, b7, b8, b9, b10, b11, b12, rfl⟩ := hp
    obtain ⟨y, hy, rfl⟩ := List.mem_map.mp hx
    exact ⟨_, rfl, label_body (l := y.1) (w := y.2) hs P hy⟩
  obtain ⟨b5, b6, b7, b8, b9, b10, b11, b12, rfl⟩ := hp
  refine sp_seqc (c1 := 1) (P := fun ρ' => ∃ p, OddP s.wares p ∧ ρ' = [.lst (ns.map D.int), .drw, a2, encSheet s, planD s.rates s.span s.wares, b5, b6, b7, b8, b9, p, b11, b12]) ?_ (by decide) fun ρ' hp => ?_
  · simp only [fnD, sSeq, sIf, sRet, sRetN, sDrop, sSet, sNext, sRaise, eVar, eC, eOp, eUn, eCall, eAnd, eOr, eNot, eIf, eChain, eTup, eLst, eLc, iOf, cB, cNot, cAnd, cOr, aNil, aCons, gN, Out.ok_bind, Out.exc_bind, Out.nox_ok, boD_some, List.cons_append, List.nil_append, List.append_nil, List.length_cons, List.length_nil, List.replicate, List.getD_cons_zero, List.getD_cons_succ, List.set_cons_zero, List.set_cons_succ, Nat.reduceAdd, Nat.reduceSub, Nat.reduceLeDiff, List.replicate_succ, List.replicate_zero, cond_true, cond_false, Bool.not_true, Bool.not_false, Out.bind_assoc]
    refine Out.sp_then (c := 1) (pick_ok (by show 0 < 7; decide) (by show 7 < 1000000; decide)) (Nat.le_refl _) fun d hd => ?_
    exact Out.sp_ok ⟨_, rfl, d, oddP_of P.wk hd, rfl⟩
  obtain ⟨p, hp, rfl⟩ := hp
  obtain ⟨z2, hz2⟩ := hp.sh
  refine Out.sp_eq (seq_nx (set_nx (caught_x (ds := [planD s.rates s.span s.wares, p, p]) rfl (slots_from_name hp.no)))) ?_
  refine Out.sp_eq (seq_nx (ifno_nx (or_no (not_yes (isx_yes (c' := "NoPack") (fs := [("name", p)]) rfl (by decide +kernel))) (cB_ok (zne_same (x := p) (xf_ok (c := "NoPack") rfl) rfl hz2))))) ?_
  have hb : cB (eUn (fun d => boD (dIsClB "BadPlan" d)) (eCaught (eCall F_shared (aCons (eVar 10) (aCons (eVar 10) (aCons (eVar 10) aNil)))))) [.lst (ns.map D.int), .drw, a2, encSheet s, planD s.rates s.span s.wares, b5, b6, b7, b8, b9, p, .exc "NoPack" [("name", p)], b12] = .ok true := by
    refine cB_ok ?_
    refine Eq.trans (eUn_ok (x := .exc "BadPlan" [("part", .str "plan")]) (caught_x (ds := [p, p, p]) rfl (shared_no0 hp.np))) ?_
    show boD (some (isaB "BadPlan" "BadPlan")) = _
    rw [show isaB "BadPlan" "BadPlan" = true by decide +kernel]
    rfl
  refine Out.sp_eq (ifno_nx (not_yes hb)) ?_
  exact Out.sp_ok ⟨_, rfl, _, _, _, _, _, _, _, _, _, _, _, rfl⟩
theorem law_plain : LawD 13 S_law := by
  refine law_of_sp (c := 2010 * 13) (by decide) fun ns hl => ?_
  unfold S_law
  have hr : ∃ k : Nat, k ≤ 13 ∧ iRg1 (aCons (eOp dAdd (eC (.int 3)) (eCall dMin2 (aCons (eCall dLen (aCons (eVar 0) aNil)) (aCons (eC (.int 10)) aNil)))) aNil) (rho0 13 ns) = .ok (rangeD 0 k) := by
    by_cases hc : (10 : Int) < (ns.map D.int).length
    · have e : dMin2 [.int (ns.map D.int).length, .int 10] = .ok (.int 10) := by
        show Out.ok (D.int (if (10 : Int) < (ns.map D.int).length then 10 else (ns.map D.int).length)) = _
        rw [if_pos hc]
      refine ⟨13, by decide, ?_⟩
      unfold iRg1 rho0
      simp only [fnD, sSeq, sIf, sRet, sRetN, sDrop, sSet, sNext, sRaise, eVar, eC, eOp, eUn, eCall, eAnd, eOr, eNot, eIf, eChain, eTup, eLst, eLc, iOf, cB, cNot, cAnd, cOr, aNil, aCons, gN, Out.ok_bind, Out.exc_bind, Out.nox_ok, boD_some, List.cons_append, List.nil_append, List.append_nil, List.length_cons, List.length_nil, List.replicate, List.getD_cons_zero, List.getD_cons_succ, List.set_cons_zero, List.set_cons_succ, Nat.reduceAdd, Nat.reduceSub, Nat.reduceLeDiff, List.replicate_succ, List.replicate_zero, cond_true, cond_false, Bool.not_true, Bool.not_false, dLen, e, dAdd, d2I]
      rfl
    · have e : dMin2 [.int (ns.map D.int).length, .int 10] = .ok (.int (ns.map D.int).length) := by
        show Out.ok (D.int (if (10 : Int) < (ns.map D.int).length then 10 else (ns.map D.int).length)) = _
        rw [if_neg hc]
      refine ⟨3 + (ns.map D.int).length, by omega, ?_⟩
      unfold iRg1 rho0
      simp only [fnD, sSeq, sIf, sRet, sRetN, sDrop, sSet, sNext, sRaise, eVar, eC, eOp, eUn, eCall, eAnd, eOr, eNot, eIf, eChain, eTup, eLst, eLc, iOf, cB, cNot, cAnd, cOr, aNil, aCons, gN, Out.ok_bind, Out.exc_bind, Out.nox_ok, boD_some, List.cons_append, List.nil_append, List.append_nil, List.length_cons, List.length_nil, List.replicate, List.getD_cons_zero, List.getD_cons_succ, List.set_cons_zero, List.set_cons_succ, Nat.reduceAdd, Nat.reduceSub, Nat.reduceLeDiff, List.replicate_succ, List.replicate_zero, cond_true, cond_false, Bool.not_true, Bool.not_false, dLen, e, dAdd, d2I]
      rw [if_pos (by omega)]
      congr 2
  obtain ⟨k, hk, hr⟩ := hr
  refine sp_seqc (c1 := 2010 * k) (P := rhoP ns) ?_ (by omega) fun ρ' hp => ?_
  rotate_left
  · obtain ⟨a2, a3, a4, a5, a6, a7, a8, a9, a10, a11, a12, rfl⟩ := hp
    exact Out.sp_ok rfl
  unfold sFor
  rw [hr, Out.ok_bind]
  refine Out.sp_mono (forD_sp (b := B_law_1) (P := rhoP ns) (c := 2010) (fun x hx ρ hp => ?_) _ ⟨_, _, _, _, _, _, _, _, _, _, _, rfl⟩) (by unfold rangeD; rw [List.length_map, List.length_range]; exact Nat.le_refl _) (fun _ z => z) (fun _ _ z => z)
  obtain ⟨a2, a3, a4, a5, a6, a7, a8, a9, a10, a11, a12, rfl⟩ := hp
  exact ⟨_, rfl, turn_body⟩
end ND
namespace ND
open PySem PySem.Spec PyProof.Rows L2
section
variable {w : World} {K0 K : PySem.W.Frag} {h base : Heap} {mg : Str → Option Value}
theorem gloF (X : K.In h) (G : h.Ns mainGlobals mg) (c : Told ask K0 K) (i : Nat) {x : Str} (e : fa[i]? = some (.glo x)) : mg x = some (.ref (He.ga K x)) := He.glo_ok X G (c.fact i e)
theorem gloN (c : Told ask K0 K) (i : Nat) {x : Str} (e : fa[i]? = some (.glo x)) : PySem.W.nsIn K mainGlobals x = some (some (.ref (He.ga K x))) := He.eqO_ok (c.fact i e)
theorem allF (c : Told ask K0 K) : allB PySem.Challenge.pw_narrowdraws_k25_slots_from_a_day_on supN propN ocN oxN nxN K0 K = true := c.p.2.2
theorem supsF (c : Told ask K0 K) : (supN.all fun p => supChk PySem.Challenge.pw_narrowdraws_k25_slots_from_a_day_on K p.1 p.2) = true := (He.ba (allF c)).1
theorem propsF (c : Told ask K0 K) : (propN.all fun p => propB K p.1 p.2) = true := (He.ba (He.ba (allF c)).2).1
theorem ocF (c : Told ask K0 K) : (ocN.all fun c => (ownCls K).contains c) = true := (He.ba (He.ba (He.ba (allF c)).2).2).1
theorem oxF (c : Told ask K0 K) : (oxN.all fun c => (ownX K).contains c) = true := (He.ba (He.ba (He.ba (He.ba (allF c)).2).2).2).1
theorem nxF (c : Told ask K0 K) : (nxN.all fun f => nxB K f) = true := (He.ba (He.ba (He.ba (He.ba (He.ba (allF c)).2).2).2).2).1
theorem ctF (c : Told ask K0 K) : ctB K = true := (He.ba (He.ba (He.ba (He.ba (He.ba (He.ba (allF c)).2).2).2).2).2).1
theorem nlF (c : Told ask K0 K) : noLists K = true := (He.ba (He.ba (He.ba (He.ba (He.ba (He.ba (He.ba (allF c)).2).2).2).2).2).2).1
theorem tbF (c : Told ask K0 K) : tabsB K0 K = true := (He.ba (He.ba (He.ba (He.ba (He.ba (He.ba (He.ba (He.ba (allF c)).2).2).2).2).2).2).2).1
theorem ndF (c : Told ask K0 K) : decide ((tbsOf K).map (·.1)).Nodup = true := (He.ba (He.ba (He.ba (He.ba (He.ba (He.ba (He.ba (He.ba (allF c)).2).2).2).2).2).2).2).2
theorem ocM (c : Told ask K0 K) {x : Str} (h : x ∈ ocN) : x ∈ ownCls K := List.contains_iff_mem.mp (List.all_eq_true.mp (ocF c) x h)
theorem oxM (c : Told ask K0 K) {x : Str} (h : x ∈ oxN) : x ∈ ownX K := List.contains_iff_mem.mp (List.all_eq_true.mp (oxF c) x h)
theorem fok_day : FldOk "day" := ⟨by decide, by decide, by decide, by decide, by decide, by decide⟩
theorem fok_most : FldOk "most" := ⟨by decide, by decide, by decide, by decide, by decide, by decide⟩
theorem fok_name : FldOk "name" := ⟨by decide, by decide, by decide, by decide, by decide, by decide⟩
theorem fok_part : FldOk "part" := ⟨by decide, by decide, by decide, by decide, by decide, by decide⟩
theorem tx_of (X : K.In h) (G : h.Ns mainGlobals mg) (c : Told ask K0 K) (tb : ∀ p ∈ csOf K, LamX.TabB base mg p.1 p.2) : Tx PySem.Challenge.pw_narrowdraws_k25_slots_from_a_day_on w K mg base where
  d_is_number := c.gfun 0 rfl (gloF X G c 0 rfl)
  d_is_within := c.gfun 1 rfl (gloF X G c 1 rfl)
  d_is_list := c.gfun 2 rfl (gloF X G c 2 rfl)
  d_is_name := c.gfun 3 rfl (gloF X G c 3 rfl)
  d_is_slot := c.gfun 4 rfl (gloF X G c 4 rfl)
  d_are_slots := c.gfun 5 rfl (gloF X G c 5 rfl)
  d_is_roll := c.gfun 6 rfl (gloF X G c 6 rfl)
  d_are_prices := c.gfun 7 rfl (gloF X G c 7 rfl)
  d_are_packs := c.gfun 8 rfl (gloF X G c 8 rfl)
  d_does_fit := c.gfun 9 rfl (gloF X G c 9 rfl)
  d_need_plan := c.gfun 10 rfl (gloF X G c 10 rfl)
  d_need_pack := c.gfun 11 rfl (gloF X G c 11 rfl)
  d_slots_of := c.gfun 12 rfl (gloF X G c 12 rfl)
  d_later_slots := c.gfun 13 rfl (gloF X G c 13 rfl)
  d_slots_from := c.gfun 14 rfl (gloF X G c 14 rfl)
  d_in_common := c.gfun 15 rfl (gloF X G c 15 rfl)
  d_shared := c.gfun 16 rfl (gloF X G c 16 rfl)
  d_day_first := c.gfun 17 rfl (gloF X G c 17 rfl)
  d__law_begun := c.gfun 18 rfl (gloF X G c 18 rfl)
  d__law_mixed := c.gfun 19 rfl (gloF X G c 19 rfl)
  d__law_take := c.gfun 20 rfl (gloF X G c 20 rfl)
  d__law_pick := c.gfun 21 rfl (gloF X G c 21 rfl)
  d__law_any_of := c.gfun 22 rfl (gloF X G c 22 rfl)
  d__law_names := c.gfun 23 rfl (gloF X G c 23 rfl)
  d__law_all_spots := c.gfun 24 rfl (gloF X G c 24 rfl)
  d__law_spots := c.gfun 25 rfl (gloF X G c 25 rfl)
  d__law_last := c.gfun 26 rfl (gloF X G c 26 rfl)
  d__law_flows := c.gfun 27 rfl (gloF X G c 27 rfl)
  d__law_sheet := c.gfun 28 rfl (gloF X G c 28 rfl)
  d__law_plan := c.gfun 29 rfl (gloF X G c 29 rfl)
  d__law_wares := c.gfun 30 rfl (gloF X G c 30 rfl)
  d__law_caught := c.gfun 31 rfl (gloF X G c 31 rfl)
  d__law_later := c.gfun 32 rfl (gloF X G c 32 rfl)
  d__law_common := c.gfun 33 rfl (gloF X G c 33 rfl)
  d__law_by_days := c.gfun 34 rfl (gloF X G c 34 rfl)
  d_law := c.gfun 35 rfl (gloF X G c 35 rfl)
  n_abs := He.free_ok X G (c.fact 45 (f := .free "abs") rfl)
  n_all := He.free_ok X G (c.fact 46 (f := .free "all") rfl)
  n_bool := He.free_ok X G (c.fact 47 (f := .free "bool") rfl)
  n_dict := He.free_ok X G (c.fact 48 (f := .free "dict") rfl)
  n_int := He.free_ok X G (c.fact 49 (f := .free "int") rfl)
  n_isinstance := He.free_ok X G (c.fact 50 (f := .free "isinstance") rfl)
  n_len := He.free_ok X G (c.fact 51 (f := .free "len") rfl)
  n_list := He.free_ok X G (c.fact 52 (f := .free "list") rfl)
  n_max := He.free_ok X G (c.fact 53 (f := .free "max") rfl)
  n_min := He.free_ok X G (c.fact 54 (f := .free "min") rfl)
  n_range := He.free_ok X G (c.fact 55 (f := .free "range") rfl)
  n_repr := He.free_ok X G (c.fact 56 (f := .free "repr") rfl)
  n_set := He.free_ok X G (c.fact 57 (f := .free "set") rfl)
  n_sorted := He.free_ok X G (c.fact 58 (f := .free "sorted") rfl)
  n_str := He.free_ok X G (c.fact 59 (f := .free "str") rfl)
  n_sum := He.free_ok X G (c.fact 60 (f := .free "sum") rfl)
  n_tuple := He.free_ok X G (c.fact 61 (f := .free "tuple") rfl)
  c_LETTERS := He.str_ok X G (c.fact 71 (f := .str "LETTERS" "abcdefghijklmnopqrstuvwxyz") rfl)
  c_LONGEST_NAME := He.int_ok X G (c.fact 62 (f := .int "LONGEST_NAME" 6) rfl)
  c_MOST_CELLS := He.int_ok X G (c.fact 63 (f := .int "MOST_CELLS" 3) rfl)
  c_MOST_DAYS := He.int_ok X G (c.fact 64 (f := .int "MOST_DAYS" 4) rfl)
  c_MOST_PACKS := He.int_ok X G (c.fact 65 (f := .int "MOST_PACKS" 4) rfl)
  c_MOST_SLOTS := He.int_ok X G (c.fact 66 (f := .int "MOST_SLOTS" 12) rfl)
  c_MOST_AMOUNT := He.int_ok X G (c.fact 67 (f := .int "MOST_AMOUNT" 3) rfl)
  c_MOST_UNITS := He.int_ok X G (c.fact 68 (f := .int "MOST_UNITS" 6) rfl)
  c_MOST_PRICE := He.int_ok X G (c.fact 69 (f := .int "MOST_PRICE" 9) rfl)
  c_MOST_COST := He.int_ok X G (c.fact 70 (f := .int "MOST_COST" 99) rfl)
  g_PackError := gloF X G c 36 rfl
  g_BadPack := gloF X G c 37 rfl
  g_BadPlan := gloF X G c 38 rfl
  g_BadFit := gloF X G c 39 rfl
  g_TooMany := gloF X G c 40 rfl
  g_NoPack := gloF X G c 41 rfl
  g_BadDay := gloF X G c 42 rfl
  g_Pack := gloF X G c 43 rfl
  g_Plan := gloF X G c 44 rfl
  i_Pack := c.ifun 36 rfl (He.mkr_ok (c.fact 73 (f := .mkr "Pack") rfl))
  cl_Pack := He.cls_ok (c.fact 72 (f := .cls "Pack") rfl)
  oc_Pack := ocM c (by decide)
  na_Pack_own_slots := He.noat_ok (c.fact 74 (f := .noat "Pack" "own_slots") rfl)
  na_Pack_own_amount := He.noat_ok (c.fact 75 (f := .noat "Pack" "own_amount") rfl)
  na_Pack_own_cost := He.noat_ok (c.fact 76 (f := .noat "Pack" "own_cost") rfl)
  na_Pack_own_roll := He.noat_ok (c.fact 77 (f := .noat "Pack" "own_roll") rfl)
  m_Pack_last := c.pfun 37 rfl (propB_ok (List.all_eq_true.mp (propsF c) ("Pack", "last") (by decide)))
  i_Plan := c.ifun 38 rfl (He.mkr_ok (c.fact 79 (f := .mkr "Plan") rfl))
  cl_Plan := He.cls_ok (c.fact 78 (f := .cls "Plan") rfl)
  oc_Plan := ocM c (by decide)
  na_Plan_own_prices := He.noat_ok (c.fact 80 (f := .noat "Plan" "own_prices") rfl)
  na_Plan_own_days := He.noat_ok (c.fact 81 (f := .noat "Plan" "own_days") rfl)
  na_Plan_own_names := He.noat_ok (c.fact 82 (f := .noat "Plan" "own_names") rfl)
  na_Plan_own_rows := He.noat_ok (c.fact 83 (f := .noat "Plan" "own_rows") rfl)
  oi_PackError := List.mem_append_right _ (oxM c (by decide))
  ox_PackError := oxM c (by decide)
  e_PackError := He.exc_ok (c.fact 84 (f := .exc "PackError") rfl)
  oi_BadPack := List.mem_append_right _ (oxM c (by decide))
  ox_BadPack := oxM c (by decide)
  s_BadPack := supC_of (d := sd_BadPack) (List.all_eq_true.mp (supsF c) ("BadPack", "part") (by decide)) (c.sup 0 rfl) fok_part (by decide +kernel) rfl rfl rfl (by decide) (fun _ _ _ _ _ _ _ _ _ => ⟨rfl, rfl⟩)
  oi_BadPlan := List.mem_append_right _ (oxM c (by decide))
  ox_BadPlan := oxM c (by decide)
  s_BadPlan := supC_of (d := sd_BadPlan) (List.all_eq_true.mp (supsF c) ("BadPlan", "part") (by decide)) (c.sup 1 rfl) fok_part (by decide +kernel) rfl rfl rfl (by decide) (fun _ _ _ _ _ _ _ _ _ => ⟨rfl, rfl⟩)
  oi_BadFit := List.mem_append_right _ (oxM c (by decide))
  ox_BadFit := oxM c (by decide)
  s_BadFit := supC_of (d := sd_BadFit) (List.all_eq_true.mp (supsF c) ("BadFit", "name") (by decide)) (c.sup 2 rfl) fok_name (by decide +kernel) rfl rfl rfl (by decide) (fun _ _ _ _ _ _ _ _ _ => ⟨rfl, rfl⟩)
  oi_TooMany := List.mem_append_right _ (oxM c (by decide))
  ox_TooMany := oxM c (by decide)
  s_TooMany := supC_of (d := sd_TooMany) (List.all_eq_true.mp (supsF c) ("TooMany", "most") (by decide)) (c.sup 3 rfl) fok_most (by decide +kernel) rfl rfl rfl (by decide) (fun _ _ _ _ _ _ _ _ _ => ⟨rfl, rfl⟩)
  oi_NoPack := List.mem_append_right _ (oxM c (by decide))
  ox_NoPack := oxM c (by decide)
  s_NoPack := supC_of (d := sd_NoPack) (List.all_eq_true.mp (supsF c) ("NoPack", "name") (by decide)) (c.sup 4 rfl) fok_name (by decide +kernel) rfl rfl rfl (by decide) (fun _ _ _ _ _ _ _ _ _ => ⟨rfl, rfl⟩)
  oi_BadDay := List.mem_append_right _ (oxM c (by decide))
  ox_BadDay := oxM c (by decide)
  s_BadDay := supC_of (d := sd_BadDay) (List.all_eq_true.mp (supsF c) ("BadDay", "day") (by decide)) (c.sup 5 rfl) fok_day (by decide +kernel) rfl rfl rfl (by decide) (fun _ _ _ _ _ _ _ _ _ => ⟨rfl, rfl⟩)
  oi_Pack := List.mem_append_left _ (ocM c (by decide))
  oi_Plan := List.mem_append_left _ (ocM c (by decide))
  ct := ctB_ok (ctF c)
  nx_day := nxB_ok (List.all_eq_true.mp (nxF c) "day" (by decide))
  nx_name := nxB_ok (List.all_eq_true.mp (nxF c) "name" (by decide))
  l_law := c.lfun 35 rfl (gloF X G c 35 rfl) (by decide) (gloN c 35 rfl) (of_decide_eq_true (ndF c)) tb
end
end ND
open PySem PySem.W PySem.Calls PyProof.Rows
theorem PySem.Challenge.cw_narrowdraws_k25_slots_from_a_day_on_holds : PySem.Challenge.rw_narrowdraws_k25_slots_from_a_day_on.Holds := by
  w_on; o_law
  refine HandSHeadRun.head_any (r := OpenLaw.row PySem.Challenge.rw_narrowdraws_k25_slots_from_a_day_on) (q := view (OpenLaw.row PySem.Challenge.rw_narrowdraws_k25_slots_from_a_day_on).prog [59]) (H := ND.hk) (ob := ND.ob) (M := 20000) (loose := ND.names) (d := HandSHeadRun.topDef (OpenLaw.row PySem.Challenge.rw_narrowdraws_k25_slots_from_a_day_on).prog 59) (kwd := []) ND.ob_eq
    (by kernel_rfl) (fun s => by kernel_rfl) ND.run (by kernel_rfl) (by kernel_rfl) (by kernel_rfl) (by rfl) (by first | assumption | decide +kernel) (by decide +kernel) ⟨rfl, rfl, rfl, rfl, rfl, by decide +kernel⟩ ?hw ?hc
  case hw => w_witness2
  case hc =>
    refine ND.walk_TG (l := PySem.Challenge.rw_narrowdraws_k25_slots_from_a_day_on) (n := 63) (k := 8) (x := "_law_script") rfl (by decide) (by kernel_rfl) ⟨rfl, by decide, by decide⟩ ?F
    intro w mg fa h Y G hmg0
    obtain ⟨K0, K, KX0, KX, c⟩ := Y
    have hmg : mg ("law" : PySem.Str) = some (.ref fa) := by
      have e : (HandSHeadRun.topDef (OpenLaw.row PySem.Challenge.rw_narrowdraws_k25_slots_from_a_day_on).prog 59).name = ("law" : PySem.Str) := by kernel_rfl
      rw [← e]
      exact hmg0
    obtain ⟨sn, ck⟩ := c.seen 35 (d := ⟨.g "law", "law", "law", ND.s_law, 0⟩) rfl
    obtain ⟨fd, F⟩ := ND.DefT.funD sn ck
    have e := hmg.symm.trans (ND.gloF KX G c 35 rfl)
    cases e
    have b := L2.FunD.bindsA (ps := ["_law_script"]) F fun _ _ _ _ _ _ us hl => match us, hl with | [_], _ => rfl
    exact ⟨K0, K, fd, ND.spLw K, KX, ND.heads_of KX0 KX (ND.tbF c), fun s v => b s [v] rfl, fun H a ns hl hT hS => ⟨a, ns, rfl, ND.noLists_rd (ND.nlF c) hS, hl, ND.tabs_nil hT, fun _ => rfl⟩, fun base hK hN tb => ND.ok_law (P := PySem.Challenge.pw_narrowdraws_k25_slots_from_a_day_on) (w := w) (ND.tx_of KX G c tb) F ND.law_plain⟩
