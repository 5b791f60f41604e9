import PyProof.Rows.All
import Wide.All
import OpenK.AllK
import Wide.FinOn
import KE.KStateDown
import HandS.ForMost
import HandS.ForExc
import HandS.Defaults
import HandS.Wide
import HandS.Evl
import HandS.HeadHook2
import HandS.IsInst
import KE.KExcSuper
import HandS.ExcInit
import HandS.ExcValue
import HandS.HeadWalk
import HandS.MakeKwOnly
import HandS.ExcIs
import KE.KExcIs
import HandS.HeadEnd
import HandS.Head0
import HandS.Head1
import HandS.Head2
import KE.SortData
import HandS.Property
import HandS.Lambda
import HandS.TupAny
import HandS.Style
import HandS.Strs
import KE.KRevSl
import HandS.Walk
import HandS.Star
import HandS.Zip
import HandS.Deep
import HandS.DictComp
import HandS.TupSets
import HandS.SetFor
import HandS.Flow
import KE.KDictZip
import HandS.Zip0
import HandS.Comp
import HandS.EndTab
import PyProof.ReprBulk
import PyProof.FitsInt
import KE.GoesMore
import PyProof.EnumMake
import KE.GoesEnum
import KE.GoesZip
import KE.SortKeyHeap
import KE.KSortKey
import HandS.SortKw
import HandS.Sort
import HandS.Dict
import PyProof.FactsAll.dict
import PyProof.FactsAll.subtypes_4
import HandS.ListItems
import HandS.RaiseMore
import HandS.OwnEq
import PyProof.InstNe
import HandS.DictEq
import KE.DataMinMax
import HandS.MakeKw
import HandS.Small
import PyProof.StrOps2
import PySem.Challenge.RW_narrowdraws_k02_packs_as_made
set_option Elab.async false
set_option linter.all false
set_option maxRecDepth 100000
set_option maxHeartbeats 0
namespace ND
open PySem PySem.Spec PyProof.Rows L2
/-! ### global defs by name -/
abbrev FnP (K : PySem.W.Frag) (x qual : Str) (st : Stmt) (f : Addr) (fd : FuncData) : Prop := FunD K x qual (defArgs st) (defBody st) (defScope st) [] [] f fd
structure GFun (K : PySem.W.Frag) (mg : Str → Option Value) (x : Str) (st : Stmt) : Prop where
  ex : ∃ f fd, FnP K x x st f fd ∧ mg x = some (.ref f)
structure GOk (P : Program) (w : World) (K : PySem.W.Frag) (mg : Str → Option Value) (base : Heap) (k : Nat) (x : Str) (ps : List Str) (sp : Sp) : Prop where
  ex : ∃ f fd, mg x = some (.ref f) ∧ PySem.W.keepIn K (.ref f) = true ∧ Binds K fd ps [] ∧ FnOk P w K mg base (L2.CX P w) k f fd ps sp
section
variable {P : Program} {w : World} {K : PySem.W.Frag} {mg : Str → Option Value} {base : Heap}
theorem GFun.ok {x : Str} {st : Stmt} {N ps : List Str} {k : Nat} {sp : Sp} (F : GFun K mg x st) (S : FnScope N ps (defScope st))
    (hb : ∀ (kV doc pm : Value) (an : Option Addr) (cdv ct : Value) (us : List Value), us.length = ps.length → bindArgs (PySem.W.fnOf x x (defArgs st) (defBody st) (defScope st) .none kV doc pm an cdv ct) ⟨us, []⟩ = pure (ps.zip us))
    (len : ∀ vs H Q E, sp vs H Q E → vs.length = ps.length)
    (hbody : ∀ (f : Addr) (cdv : Value) (A : Around) (outer : List Env) (s : Shared) (H : Hp) (vs : List V) (Q : VK) (E : XK), Room k (A.deeper (envOfC x (defScope st) s.heap.objs.size f cdv)) → sp vs H Q E →
      ∃ t, PSs (cxOf (L2.CX P w) P w K mg base N x (defScope st) f cdv A outer s H E) (defBody st) t ∧ t { nx := fun _ H' => Q .non H', rt := Q } (start N vs) H) : GOk P w K mg base (k + 1) x ps sp := by
  obtain ⟨f, fd, F, hm⟩ := F.ex
  exact ⟨f, fd, hm, F.kp, F.bindsN hb, F.ok S len fun cdv A outer s H vs Q E hr h => hbody f cdv A outer s H vs Q E hr h⟩
theorem GOk.mono {j k : Nat} {x : Str} {ps : List Str} {sp : Sp} (G : GOk P w K mg base j x ps sp) (h : j ≤ k) : GOk P w K mg base k x ps sp := by
  obtain ⟨f, fd, a, b, c, d⟩ := G.ex
  exact ⟨f, fd, a, b, c, d.mono h⟩
end
section
variable {X : Cx} {k : Nat} {ps : List Str} {sp : Sp} {E : XK} {x : Str} {p pos : Pos} {e : Expr} {es : List Expr} {t : TA}
theorem pe_g (G : GOk X.prog X.w X.K X.mg X.base k x ps sp) (hr : Room k X.A) (hg : Gl X x) (hx : Passes (L2.CX X.prog X.w) X E)
    (ha : PA X (e :: es) t) (hdb : (x == ("__debug__" : Str)) = false := by decide) (he : starEach (e :: es) X.env = (false, eval e X.env) :: starEach es X.env := by rfl) (hpl : (backTo pos (starEach es X.env)).any (·.1) = false := by rfl) :
    PE X (.Call (.Name x p) (e :: es) [] pos) (tCall sp [] E t) := by
  obtain ⟨f, fd, hm, hk, hb, F⟩ := G.ex
  exact pe_call F hr hg hm hk hb .nil hx ha hdb he hpl
end
/-! ### the draw -/
/-- what is kept but for two objects -/
def Keep (d a : Addr) (H H' : Hp) : Prop := ∀ b o, b ≠ d → b ≠ a → H b = some o → H' b = some o
theorem Keep.refl {d a : Addr} {H : Hp} : Keep d a H H := fun _ _ _ _ h => h
theorem Keep.trans {d a : Addr} {H H1 H2 : Hp} (x : Keep d a H H1) (y : Keep d a H1 H2) : Keep d a H H2 := fun b o h1 h2 e => y b o h1 h2 (x b o h1 h2 e)
theorem Keep.of {d a : Addr} {H H' : Hp} (x : Same H H') : Keep d a H H' := fun b o _ _ e => x b o e
theorem Keep.new {d a p : Addr} {o : HO} {H H' : Hp} (x : Keep d a H H') (n : H p = none) : Keep d a H (upd H' p o) := fun b u h1 h2 e => by
  have hb : b ≠ p := ne_of_none e n
  rw [upd_ne hb]; exact x b u h1 h2 e
abbrev kS (x : Str) : Key := Sum.inr x
def drawD (aw ac : Addr) (r t : Int) : List (Key × V) := [(kS "wide", .ref aw), (kS "cells", .ref ac), (kS "rest", .int r), (kS "turn", .int t)]
/-- the draw at d: its wide numbers at aw, its cells at ac; at most T turns -/
structure Draw (K : PySem.W.Frag) (d aw ac : Addr) (T : Nat) (H : Hp) : Prop where
  ex : ∃ (ws cs : List Int) (r t : Int), H d = some (.dK (drawD aw ac r t)) ∧ H aw = some (.lst (ws.map V.int)) ∧ H ac = some (.lst (cs.map V.int)) ∧
    (∀ z ∈ ws, 0 ≤ z) ∧ ws.length ≤ 63 ∧ cs.length ≤ 63 ∧ (∀ z ∈ cs, 0 ≤ z ∧ z < 2147483629) ∧ 0 ≤ r ∧ 0 ≤ t ∧ t ≤ (T : Int)
  ne : aw ≠ ac
end ND
namespace ND
open PySem PySem.Spec PyProof.Rows L2
/-! ### constants of the module -/
section
variable {X : Cx} {x : Str} {pos : Pos}
theorem pe_cls {C : Addr} (hg : Gl X x) (hm : X.mg x = some (.ref C)) (hd : (x == ("__debug__" : Str)) = false := by decide) : PE X (.Name x pos) (tC (.ref C)) := pe_glob hg hm rfl hd
theorem pe_cst {i : Int} (hg : Gl X x) (hm : ∃ t, X.mg x = some (.int i t)) (hd : (x == ("__debug__" : Str)) = false := by decide) : PE X (.Name x pos) (tC (.int i)) := by
  obtain ⟨t, h⟩ := hm
  exact pe_glob hg h ⟨t, rfl⟩ hd
theorem pe_csts {z : Str} (hg : Gl X x) (hm : ∃ t, X.mg x = some (.str z t)) (hd : (x == ("__debug__" : Str)) = false := by decide) : PE X (.Name x pos) (tC (.str z)) := by
  obtain ⟨t, h⟩ := hm
  exact pe_glob hg h ⟨t, rfl⟩ hd
end
/-! ### xs == [], xs != [] of any list -/
section
variable {X : Cx}
theorem plainL_is {h : Heap} {a : Addr} {its : Array Value} (x : PlainL h a its) : h.IsList a its := by
  obtain ⟨o, n, e, c, _, d⟩ := x
  exact ⟨o, e, c, n, d⟩
theorem op_nilNe (hu : X.A.units < cLine) : OpR X (compareOp .NotEq) (fun x y H Q => ∃ a b xs, x = .ref a ∧ y = .ref b ∧ SqL X.K H a xs ∧ SqL X.K H b [] ∧ Q (.bl (!xs.isEmpty)) H) := by
  intro pins s σ H x y v u Q I rx ry h
  obtain ⟨a, b, xs, rfl, rfl, ha, hb, q⟩ := h
  cases rx; cases ry
  obtain ⟨i1, v1, p1, z1⟩ := I.list ha
  obtain ⟨i2, v2, p2, z2⟩ := I.list hb
  cases v2
  cases xs with
  | nil =>
    cases v1
    exact SeqAt.RcNeAt.lists (e := fun _ => true) (plainL_is p1) (plainL_is p2) rfl hu (fun j h1 _ => absurd h1 (Nat.not_lt_zero _)) _ _ _ _ ⟨.bl _, H, I, rfl, q⟩
  | cons y ys =>
    cases v1
    exact SeqAt.RcNeAt.lists_lengths (plainL_is p1) (plainL_is p2) (by simp) hu _ _ _ _ ⟨.bl _, H, I, rfl, q⟩
end
end ND
/-! own exceptions whose first step is super's __init__ with a text, whose second one stores one field -/
namespace ND
open PySem PySem.W PySem.Spec PySem.Calls PyProof.Rows PySem.HandSPX
def supA (fld : Str) (p1 p2 : Pos) : Arguments := { posonlyargs := [], args := [{ arg := "self", annotation := none, pos := p1 }, { arg := fld, annotation := none, pos := p2 }], vararg := none, kwonlyargs := [], kw_defaults := [], kwarg := none, defaults := [] }
def supB (fld msg : Str) (q0 q1 q2 q3 q4 q5 q6 q7 q8 q9 : Pos) : List Stmt :=
  [.Expr (.Call (.Attribute (.Call (.Name "super" q0) [] [] q1) "__init__" q2) [.Constant (.str msg) 0 q3] [] q4) q5, .Assign [.Attribute (.Name "self" q6) fld q7] (.Name fld q8) q9]
def supS (fld : Str) : Scope := { kind := .function, names := [(PySem.Str.ofString "self", .local), (fld, .local), (PySem.Str.ofString "__class__", .free), (PySem.Str.ofString "super", .globalImplicit)], isGenerator := false, isCoroutine := false, more := [] }
/-- a name that is none of the scope's other ones -/
structure FldOk (fld : Str) : Prop where
  loc : (supS fld).names.lookup fld = some .local
  su : (supS fld).names.lookup ("super" : Str) = some .globalImplicit
  cl : (supS fld).names.lookup ("__class__" : Str) = some .free
  me : (supS fld).names.lookup ("self" : Str) = some .local
  ne : fld ≠ "self"
  db : (fld == ("__debug__" : Str)) = false
/-- what the written part says of such a class -/
structure SupC (prog : Program) (K : Frag) (C fI : Addr) (fld : Str) : Prop where
  o : L2.OexC K C
  ok : FldOk fld
  noF : findIn K (.ref C) fld = some none
  iC : findIn K (.ref C) "__init__" = some (some (.ref fI))
  tI : typeIn K (.ref fI) = some (.type "function")
  fn : ∃ (oc : Value) (od an : Option Addr) (osl : Array (Option Value)) (qual msg : Str) (doc pm ct : Value) (cda cc : Addr) (ccl cl : Value) (cdd cld : Option Addr) (ccs csl : Array (Option Value)) (vs : Array Value) (file : Str) (tf : Tok) (p1 p2 q0 q1 q2 q3 q4 q5 q6 q7 q8 q9 : Pos),
    K.lookup fI = some ⟨oc, od, .func (ksFn "__init__" qual (supA fld p1 p2) (supB fld msg q0 q1 q2 q3 q4 q5 q6 q7 q8 q9) (supS fld) .none .none doc pm an (.ref cda) ct cc), osl⟩ ∧ codeIn K (.ref cda) qual = true ∧
    K.lookup cda = some ⟨ccl, cdd, .fields vs, ccs⟩ ∧ vs[2]? = some (.str file tf) ∧ ((prog.main.file : Str) == file) = true ∧ K.lookup cc = some ⟨cl, cld, .cell (some (.ref C)), csl⟩ ∧ (q2.endLine == q4.line) = true ∧
    (∀ (s : Shared) (u v : Value), BindsTo s (ksFn "__init__" qual (supA fld p1 p2) (supB fld msg q0 q1 q2 q3 q4 q5 q6 q7 q8 q9) (supS fld) .none .none doc pm an (.ref cda) ct cc) ⟨[u, v], []⟩ [("self", u), (fld, v)]) ∧
    (∀ (s : Shared) (u v : Value), BindsTo s (ksFn "__init__" qual (supA fld p1 p2) (supB fld msg q0 q1 q2 q3 q4 q5 q6 q7 q8 q9) (supS fld) .none .none doc pm an (.ref cda) ct cc) ⟨[u], [(fld, v)]⟩ [("self", u), (fld, v)])
  su : ks_superIn K C C "__init__" = some (some (.builtin "ValueError.__init__"))
  mr : mroIn K C (.ref C) = some true
  sv : mroIn K C (.type "ValueError") = some true
  op : nsIn K cStatics "thirdparty.any" = some none
  ns : nsIn K mainGlobals "super" = some none
  top : (prog.main.scope.names.lookup ("super" : Str)).isSome = false
section
variable {prog : Program} {w : World} {A : Around} {E : Value → Shared → Prop} {h : Heap} {g : Array GenState} {d : Drawn} {t : Nat} {os : OsState}
theorem sup_line (env : Env) (msg : Str) (q0 q1 q2 q3 q4 : Pos) (hl : (q2.endLine == q4.line) = true) :
    eval (.Call (.Attribute (.Call (.Name "super" q0) [] [] q1) "__init__" q2) [.Constant (.str msg) 0 q3] [] q4) env = (do
      let ov ← attributeBase (.Call (.Name "super" q0) [] [] q1) "__init__" env (eval (.Call (.Name "super" q0) [] [] q1) env)
      standAt q2.atName
      let (f, first) ← holding [ov] (getMethod ov "__init__" (L2.plainOf (.Call (.Name "super" q0) [] [] q1) env))
      callWith q4 f first (backTo q4 (starEach [.Constant (.str msg) 0 q3] env)) []) := by
  have key : ∀ ov, methodCall (.Call (.Name "super" q0) [] [] q1) "__init__" q2 q4 env ov 1 (backTo q4 (starEach [.Constant (.str msg) 0 q3] env)) [] = (do
      let (f, first) ← holding [ov] (getMethod ov "__init__" (L2.plainOf (.Call (.Name "super" q0) [] [] q1) env))
      callWith q4 f first (backTo q4 (starEach [.Constant (.str msg) 0 q3] env)) []) := fun ov => L2.mcall_line rfl hl
  show (do
      let ov ← attributeBase (.Call (.Name "super" q0) [] [] q1) "__init__" env (eval (.Call (.Name "super" q0) [] [] q1) env)
      standAt q2.atName
      methodCall (.Call (.Name "super" q0) [] [] q1) "__init__" q2 q4 env ov 1 (backTo q4 (starEach [.Constant (.str msg) 0 q3] env)) []) = _
  simp only [key]
/-- the wrapper is called -/
theorem mw_call {nm q : Str} {C N : Addr} {bs bm : List Value} {hdct : Bool} {sn : List Str} {sub : List Value} {ab : Bool} {col : Option Bool} {dd : Option Addr} {k0 k1 k2 k3 k5 : Option Value} {u e t0 : Addr} {rest : List Value} {Q : Value → Shared → Prop}
    (hC : h.get? C = some (excClassObj nm q C N bs bm hdct sn sub ab col dd k0 k1 k2 k3 k5 "ValueError.__new__")) (he : h.get? e = some (excO C t0)) (hu : h.get? u = some (kxs_mw "ValueError.__init__" e)) (hz : rest.length ≤ sizeLine)
    (hq : ∀ h' t1, (∀ b o, b ≠ e → h.get? b = some o → h'.get? b = some o) → h'.get? e = some (excO C t1) → Q .none ⟨h', g, d, t, os⟩) :
    wpAny (model prog w) A (call (.ref u) rest) Q E ⟨h, g, d, t, os⟩ := by
  have FB := F.excBase_ValueError
  apply wpAny_call
  apply codeAny_of_tree
  show wpAny _ A.in1 (callAny (.ref u) ⟨rest, []⟩) _ _ _
  unfold callAny
  apply wpAny_bind
  refine wpAny_load hu ?_
  have k1 : (Value.type "method-wrapper" == Value.type "method" || Value.type "method-wrapper" == Value.type "builtin_function_or_method" || Value.type "method-wrapper" == Value.type "method-wrapper") = true := by decide
  simp only [kxs_mw, k1, if_true]
  refine KFB.if_so (by decide) (wpAny_bind (check_bound_init FB.toExcCallFacts hC he rfl (wpAny_bind (wpAny_pure (wpAny_pure ⟨plainId_quiet FB.init.plain _, codeAny_builtin FB.initEntry ?_⟩)))))
  exact exc_init_tree (cls := .ref C) (t0 := t0) (dv := none) (c2 := .none) (c3 := .none) (b4 := .bool false) he hz fun h' k e' _ => hq h' _ k e'
end
section
variable {prog : Program} {w : World} {A : Around} {E : Value → Shared → Prop} {R : Result → Shared → Prop} {s : Shared} {K : Frag} {mg mb : Str → Option Value} {C fI : Addr} {fld : Str}
theorem sup_inst {hh : Heap} {x t0 : Addr} (hx : hh.get? x = some (excO C t0)) : InstAt hh x (excO C t0) C none := ⟨hx, rfl, rfl, trivial⟩
theorem sup_cls (T : SupC prog K C fI fld) {hh : Heap} (X : K.In hh) : ∃ nm q N bs bm sn sub ab col dd k0 k1 k2 k3 k5, hh.get? C = some (excClassObj nm q C N bs bm true sn sub ab col dd k0 k1 k2 k3 k5 "ValueError.__new__") ∧ refsVE bm = true ∧
    clsIn K C = some { name := nm, bases := bs, mro := .ref C :: bm, ns := N, qualname := q, hasDict := true, slotNames := sn, subclasses := sub, abstract := ab, collection := col, hasDel := false } := by
  obtain ⟨nm, q, N, bs, bm, sn, sub, ab, col, dd, k0, k1, k2, k3, k5, hC, hbm⟩ := T.o.cls
  refine ⟨nm, q, N, bs, bm, sn, sub, ab, col, dd, k0, k1, k2, k3, k5, X _ _ hC, hbm, ?_⟩
  unfold clsIn
  rw [hC] <;> rfl
/-- what __init__ leaves of a fresh exception -/
structure SupEnd (h h' : Heap) (x C dx t1 : Addr) (fld : Str) (v : Value) : Prop where
  keep : ∀ b o, b ≠ x → h.get? b = some o → h'.get? b = some o
  obj : h'.get? x = some { cls := .ref C, dict := some dx, data := .fields #[.ref t1, .none, .none, .none, .bool false, .none] }
  dbig : h.objs.size ≤ dx
  dne : dx ≠ x
  ns : h'.Ns1 dx (fun y => if y = fld then some v else none)
theorem one_len {v : Value} : [v].length ≤ sizeLine := by
  rw [sizeLine_eq]
  exact (by decide : 1 ≤ 16777216)
theorem self_look {x v : Value} (hne : fld ≠ "self") : List.lookup (PySem.Str.ofString "self") [((PySem.Str.ofString "self" : Str), x), (fld, v)].reverse = some x := by
  have e : ((PySem.Str.ofString "self" : Str) == fld) = false := beq_eq_false_iff_ne.mpr (fun z => hne z.symm)
  show List.lookup (PySem.Str.ofString "self") [(fld, v), ((PySem.Str.ofString "self" : Str), x)] = some x
  rw [List.lookup_cons, e]
  simp [List.lookup]
theorem fld_look {x v : Value} : List.lookup fld [((PySem.Str.ofString "self" : Str), x), (fld, v)].reverse = some v := by
  show List.lookup fld [(fld, v), ((PySem.Str.ofString "self" : Str), x)] = some v
  simp [List.lookup]
theorem sup_init (T : SupC prog K C fI fld) {x t0 : Addr} {v : Value} {args : Args} (ha : args = ⟨[.ref x, v], []⟩ ∨ args = ⟨[.ref x], [(fld, v)]⟩) (X : K.In s.heap) (hlim : s.heap.NoLimit) (hg : s.heap.Ns mainGlobals mg) (hb : s.heap.Ns builtinsNs mb)
    (hbs : ∀ y : Str, y ≠ "__name__" → mb y = bootBuiltins y) (hx : s.heap.get? x = some (excO C t0)) (hnx : K.lookup x = none) (hroom : A.depth < recursionLimit)
    (hq : ∀ h' tk dx t1, SupEnd s.heap h' x C dx t1 fld v → R (.ok (.ret .none)) { s with heap := h', toks := tk }) :
    codeAny (model prog w) A (.call (.ref fI) args) R s := by
  obtain ⟨oc, od, an, osl, qual, msg, doc, pm, ct, cda, cc, ccl, cl, cdd, cld, ccs, csl, vs, file, tf, p1, p2, q0, q1, q2, q3, q4, q5, q6, q7, q8, q9, lk, hcd, lc, hvs, hfile, lcc, hln, b1, b2⟩ := T.fn
  have hbind : BindsTo s (ksFn "__init__" qual (supA fld p1 p2) (supB fld msg q0 q1 q2 q3 q4 q5 q6 q7 q8 q9) (supS fld) .none .none doc pm an (.ref cda) ct cc) args [("self", .ref x), (fld, v)] := by
    rcases ha with rfl | rfl
    · exact b1 s _ _
    · exact b2 s _ _
  obtain ⟨hp, g, dr, tk, os⟩ := s
  refine ks_codeAny_call_defAt (body := supB fld msg q0 q1 q2 q3 q4 q5 q6 q7 q8 q9) hroom (X _ _ lk) rfl hlim (codeRec_of X hcd) rfl hbind (fun y hy => ?_) (fun y hy => ?_) (fun h1 hn k => ?_)
  · simp only [ksFn, fnX, supS, List.mem_cons, List.not_mem_nil, or_false] at hy
    rcases hy with rfl | rfl | rfl | rfl <;> exact fun z => nomatch z
  · simp only [List.mem_cons, List.not_mem_nil, or_false] at hy
    rcases hy with rfl | rfl
    · exact T.ok.me
    · exact T.ok.loc
  · have X1 : K.In h1 := X.keeps k
    have hx1 := k _ _ hx
    obtain ⟨nm, q, N, bs, bm, sn, sub, ab, col, dd, k0, k1, k2, k3, k5, hC1, hbm, hcl⟩ := sup_cls T X1
    refine ks_wpAt_execs_cons (ks_wpAt_Expr_any (ks_wpAt_MethodCall ?_ (sup_line _ _ _ _ _ _ _ hln)))
    refine ks_wpAt_super_base T.ok.su T.ok.cl (by decide) rfl (X1 _ _ lk) rfl rfl rfl (X1 _ _ lc) rfl hvs hfile T.top ?_
    refine ks_loadName_global rfl T.ok.su (loadGlobal_builtin (mg := mg) (mb := mb) (hg.keeps k) (mg_none_of X hg T.ns) (hb.keeps k) ((hbs _ (by decide +kernel)).trans (by decide +kernel)) ⟨rfl, ?_⟩)
    refine wpAny_loadName_free rfl T.ok.cl rfl ⟨_, X1 _ _ lcc, rfl⟩ ?_
    refine wpAny_loadName_local (v := .ref x) rfl T.ok.me hn ?_ ?_
    · exact self_look T.ok.ne
    refine ks_wpAny_isType_cls hC1 rfl ⟨rfl, ?_⟩
    refine ks_wpAny_call_super hC1 rfl hx1 rfl (fun c e => nomatch e) (looks_mroIn X1 T.mr) (fun h2 e2 kk2 => ?_)
    have X2 : K.In h2 := X1.keeps kk2
    have hx2 := kk2 _ _ hx1
    have I2 := sup_inst hx2
    have nxC : x ≠ C := fun e => by
      obtain ⟨nm, q, N, bs, bm, sn, sub, ab, col, dd, k0, k1, k2, k3, k5, hC, _⟩ := T.o.cls
      rw [e, hC] at hnx
      cases hnx
    have hal : alongIn K "__init__" bm = some (some (.builtin "ValueError.__init__")) := by
      have z := T.su
      unfold ks_superIn at z
      rw [hcl] at z
      have e1 : ((Value.ref C :: bm).dropWhile (· != .ref C)).drop 1 = bm := by simp [List.dropWhile]
      have z2 : alongIn K "__init__" (((Value.ref C :: bm).dropWhile (· != .ref C)).drop 1) = some (some (.builtin "ValueError.__init__")) := z
      rw [e1] at z2
      exact z2
    refine kxs_getMethod kxs_ValueError (l₀ := .ref C :: bm) (l := bm) (D := C) (x := x) (C := C) e2 (looks_opaque X2 T.op) (fun A Q E s k q => wpAny_bind ((looks_clsIn X2 hcl) A _ E s k (wpAny_pure q))) (by simp [List.dropWhile]) X2 hal
      (I2.type.andThen (looks_mroIn X2 T.sv)) nxC (by decide) ?_
    refine kxs_callWith (x := x) (i := "ValueError.__init__") rfl (evalArgs_plain (Calls.spliced_cons (wpAny_Constant_str (k := 0) (pos := q3) (Calls.spliced_nil ⟨Heap.get?_push_at rfl rfl, ?_⟩))))
    have hC2 := Heap.get?_push_of_some (kxs_mw "ValueError.__init__" x) (kk2 _ _ hC1)
    refine mw_call hC2 (Heap.get?_push_of_some _ hx2) (Heap.get?_push_at rfl rfl) one_len (fun h3 t1 k3 hx3 => ?_)
    have kk3 : ∀ b o, b ≠ x → h1.get? b = some o → h3.get? b = some o := fun b o nb e => k3 b o nb (Heap.get?_push_of_some _ (kk2 b o e))
    have X3 : K.In h3 := fun b o e => kk3 b o (fun z => by rw [z, hnx] at e; cases e) (X1 b o e)
    have nL : hp.objs.size ≠ x := Nat.ne_of_gt (Heap.lt_size hx)
    have hn3 : h3.Ns hp.objs.size (fun y => List.lookup y [((PySem.Str.ofString "self" : Str), Value.ref x), (fld, v)].reverse) := by
      obtain ⟨o, es, ep, e, r⟩ := hn
      exact ⟨o, es, ep, kk3 _ _ nL e, r⟩
    show _root_.PySem.wpAt _ _ _ (execs _ _) _ _ _
    refine wpAt_of_wpAny (wpAny_execs_cons (plainObj_wpAny_Assign_Attribute ?_))
    refine ldc rfl T.ok.loc hn3 fld_look ?_ T.ok.db
    refine ldc rfl T.ok.me hn3 (self_look T.ok.ne) ?_
    refine set_plain X3 (sup_inst hx3) T.o.sa ?_
    refine exc_osa X3 hx3 hcl (show refsVE (.ref C :: bm) = true from hbm) rfl T.noF (fun h4 tk4 dx k4 dn dne hx4 hn4 => ?_)
    refine wpAny_execs_nil (hq h4 tk4 dx t1 ⟨fun b o nb e => k4 b o nb (kk3 b o nb (k b o e)), hx4, ?_, dne, hn4⟩)
    exact Nat.le_of_lt (Nat.lt_of_lt_of_le (show hp.objs.size < h3.objs.size from hn3.lt) dn)
end
end ND
namespace ND
open PySem PySem.W PySem.Spec PySem.Calls PyProof.Rows PySem.HandSPX
section
variable {prog : Program} {w : World} {A : Around} {E : Value → Shared → Prop} {R : Result → Shared → Prop} {s : Shared} {K : Frag} {mg mb : Str → Option Value} {C fI : Addr} {fld : Str}
variable {h : Heap} {g : Array GenState} {d : Drawn} {t : Nat} {os : OsState} {M : Model}
variable {nm q : Str} {N : Addr} {bs bm bmB : List Value} {hdct : Bool} {sn : List Str} {sub : List Value} {ab : Bool} {col : Option Bool} {dd : Option Addr} {k0 k1 k2 k3 k5 : Option Value} {B newId initId : String}
/-! ### by a keyword -/
theorem new_check_kw (FB : ExcBaseFacts B newId initId bmB) (hT : ∀ X : String, bm.contains (.type X) = bmB.contains (.type X)) {x : Str} {v : Value} {Q : Unit → Shared → Prop}
    (hC : h.get? C = some (excClassObj nm q C N bs bm hdct sn sub ab col dd k0 k1 k2 k3 k5 newId)) (hq : Q () ⟨h, g, d, t, os⟩) : wpAny M A (checkBuiltinCall newId ⟨[.ref C], [(x, v)]⟩) Q E ⟨h, g, d, t, os⟩ := by
  have hcB : (Value.ref C :: bm).contains (.type B) = true := by rw [List.contains_cons, hT, FB.hasB, Bool.or_true]
  have st := FB.noStar
  simp only [checkBuiltinCall, FB.newKind, FB.newSplit, FB.newRow]
  repeat (first
    | refine wpAny_loadPart_at hC ?_
    | (refine wpAny_isSubtype_exc hC ?_; rw [hcB])
    | refine wpAny_staticBase_exc hC ?_
    | refine wpAny_madeBy_exc hC ?_
    | simp only [bne_self_eq_false, Bool.false_eq_true, if_false]
    | wp_step)
  exact hq
theorem new_run_kw (FB : ExcBaseFacts B newId initId bmB) (hT : ∀ X : String, bm.contains (.type X) = bmB.contains (.type X)) {x : Str} {v : Value}
    (hC : h.get? C = some (excClassObj nm q C N bs bm hdct sn sub ab col dd k0 k1 k2 k3 k5 newId))
    (hq : R (.ok (.ret (.ref (h.objs.size + 1)))) ⟨(h.push { cls := .type "tuple", data := .seq #[] }).push (excO C h.objs.size), g, d, t, os⟩) :
    codeAny (model prog w) A (.builtin newId ⟨[.ref C], [(x, v)]⟩) R ⟨h, g, d, t, os⟩ := by
  have e0 := FB.ends
  have hcB : (Value.ref C :: bm).contains (.type B) = true := by rw [List.contains_cons, hT, FB.hasB, Bool.or_true]
  have hcA : (Value.ref C :: bm).contains (.type "AttributeError") = false := by rw [List.contains_cons, hT, FB.noAttr]; rfl
  have hcN : (Value.ref C :: bm).contains (.type "NameError") = false := by rw [List.contains_cons, hT, FB.noName]; rfl
  refine codeAny_builtinAt FB.entry ?_
  unfold Builtin.«BaseException.__new__»
  refine _root_.PySem.wpAt_bind ?_
  show _root_.PySem.wpAt _ _ _ (stack >>= _) _ _ _
  refine _root_.PySem.wpAt_bind (_root_.PySem.wpAt_stack fun p below => _root_.PySem.wpAt_of_wpAny ?_)
  wp_walk
  refine _root_.PySem.wpAt_of_wpAny ?_
  rw [FB.owner]
  repeat (first
    | with_reducible refine wpAny_madeHere_exc FB.canon hC ?_
    | with_reducible refine wpAny_loadPart_at hC ?_
    | (with_reducible refine wpAny_isSubtype_exc hC ?_; first | rw [hcB] | rw [hcA] | rw [hcN])
    | wp_step)
  show R _ _
  rw [Heap.size_push]
  exact hq
theorem type_run_kw (FB : ExcBaseFacts B newId initId bmB) (hT : ∀ X : String, bm.contains (.type X) = bmB.contains (.type X)) {x : Str} {v : Value} {Q : Fin → Shared → Prop}
    (hC : h.get? C = some (excClassObj nm q C N bs bm hdct sn sub ab col dd k0 k1 k2 k3 k5 newId))
    (hi : W.Looks (model prog w) h (typeLookup (.ref C) "__init__") (some (.ref fI))) (hb : ∀ self, W.Looks (model prog w) h (bindSpecial (.ref fI) self) (.ref fI, [self]))
    (hq : codeAny (model prog w) A (.call (.ref fI) ⟨[.ref (h.objs.size + 1)], [(x, v)]⟩)
      (fun r s' => match r with | .ok (.ret z) => z = .none ∧ Q (.done (.ret (.ref (h.objs.size + 1)))) s' | .ok _ => False | .error e => E e s')
      ⟨(h.push (W.kdv_tup [])).push (excO C h.objs.size), g, d, t, os⟩) :
    wpAny (model prog w) A (Builtin.«type.__call__» ⟨[.ref C], [(x, v)]⟩) Q E ⟨h, g, d, t, os⟩ := by
  repeat (first
    | with_reducible refine wpAny_loadPart_at hC ?_
    | with_reducible refine wpAny_madeBy_exc hC ?_
    | wp_step)
  refine codeAny_call_builtin_code (Code.quiet_builtin _ FB.quiet) (new_check_kw FB hT hC ?_)
  refine new_run_kw FB hT hC ?_
  show wpAny _ _ _ _ _ _
  have kp : ∀ b o, h.get? b = some o → ((h.push (W.kdv_tup [])).push (excO C h.objs.size)).get? b = some o := fun b o e => Heap.get?_push_of_some _ (Heap.get?_push_of_some _ e)
  have hC1 := kp _ _ hC
  have hget : ((h.push (W.kdv_tup [])).push (excO C h.objs.size)).get? (h.objs.size + 1) = some (excO C h.objs.size) := by heap_get
  have hcC : (Value.ref C :: bm).contains (.ref C) = true := by simp
  have i1 := hi.keeps kp
  have b1 := (hb (.ref (h.objs.size + 1))).keeps kp
  unfold isInstance
  repeat (first
    | with_reducible refine wpAny_loadPart_at hget ?_
    | (with_reducible refine wpAny_isSubtype_exc hC1 ?_; rw [hcC])
    | wp_step)
  show wpAny _ _ (typeLookup (.ref C) _) _ _ _
  refine i1.at (wpAny_holding (wpAny_bind (b1.at (wpAny_bind (wpAny_call (codeAny_mono hq fun r s' z => ?_))))))
  rcases r with e | (v | _ | _ | _) <;> first | exact z | exact z.elim | skip
  obtain ⟨rfl, z⟩ := z
  first
    | exact wpAny_pure (wpAny_pure z)
    | (wp_walk; exact z)
theorem call_kw (FB : ExcBaseFacts B newId initId bmB) (hT : ∀ X : String, bm.contains (.type X) = bmB.contains (.type X)) {x : Str} {v : Value}
    (hC : h.get? C = some (excClassObj nm q C N bs bm hdct sn sub ab col dd k0 k1 k2 k3 k5 newId))
    (hi : W.Looks (model prog w) h (typeLookup (.ref C) "__init__") (some (.ref fI))) (hb : ∀ self, W.Looks (model prog w) h (bindSpecial (.ref fI) self) (.ref fI, [self]))
    (hq : codeAny (model prog w) (A.under (.builtin "type.__call__" ⟨[.ref C], [(x, v)]⟩)) (.call (.ref fI) ⟨[.ref (h.objs.size + 1)], [(x, v)]⟩) (W.InitBack (h.objs.size + 1) R)
      ⟨(h.push (W.kdv_tup [])).push (excO C h.objs.size), g, d, t, os⟩) :
    codeAny (model prog w) A (.call (.ref C) ⟨[], [(x, v)]⟩) R ⟨h, g, d, t, os⟩ := by
  have f1 := tc_lookup
  have f2 := tc_bind (.ref C)
  have hTy : (⟨h, g, d, t, os⟩ : Shared).TypeIs (.ref C) "type" := ⟨_, hC, rfl⟩
  refine codeAny_of_tree ?_
  show wpAny _ _ (callAny (.ref C) _) _ _ _
  repeat (any_goals (first
    | assumption
    | with_reducible refine wpAny_loadPart_at hC ?_
    | wp_step))
  refine ⟨rfl, ?_⟩
  refine codeAny_call_builtin_at (Code.quiet_builtin _ (by decide +kernel)) entry_typeCall (wpAny_check_type_call_sub hC (type_run_kw FB hT hC hi hb ?_))
  refine codeAny_mono hq fun r s' z => ?_
  rcases r with e | (v | _ | _ | _) <;> exact z
end
end ND
namespace ND
open PySem PySem.W PySem.Spec PySem.Calls PyProof.Rows PySem.HandSPX
/-- a made exception -/
structure SupMade (h h' : Heap) (e C d : Addr) (fld : Str) (v : Value) : Prop where
  keep : ∀ b o, h.get? b = some o → h'.get? b = some o
  new : h.objs.size ≤ e
  obj : ∃ t1 : Addr, h'.get? e = some { cls := .ref C, dict := some d, data := .fields #[.ref t1, .none, .none, .none, .bool false, .none] }
  dbig : h.objs.size ≤ d
  dne : d ≠ e
  ns : h'.Ns1 d (fun y => if y = fld then some v else none)
section
variable {prog : Program} {w : World} {A : Around} {E : Value → Shared → Prop} {R : Result → Shared → Prop} {s : Shared} {K : Frag} {mg mb : Str → Option Value} {C fI : Addr} {fld : Str}
theorem sup_made (T : SupC prog K C fI fld) {v : Value} {args : Args} (ha : args = ⟨[v], []⟩ ∨ args = ⟨[], [(fld, v)]⟩) (X : K.In s.heap) (hlim : s.heap.NoLimit) (hg : s.heap.Ns mainGlobals mg) (hb : s.heap.Ns builtinsNs mb)
    (hbs : ∀ y : Str, y ≠ "__name__" → mb y = bootBuiltins y) (hroom : A.depth + 1 < recursionLimit)
    (hq : ∀ h' tk e d, SupMade s.heap h' e C d fld v → R (.ok (.ret (.ref e))) { s with heap := h', toks := tk }) :
    codeAny (model prog w) A (.call (.ref C) args) R s := by
  obtain ⟨nm, q, N, bs, bm, sn, sub, ab, col, dd, k0, k1, k2, k3, k5, hC, hbm, _⟩ := sup_cls T X
  obtain ⟨hp, g, dr, tk, os⟩ := s
  -- what follows the making of the bare object, whatever the tuple of its arguments
  have rest : ∀ (rs : List Value) (a2 : Args) (A' : Around), (a2 = ⟨[.ref (hp.objs.size + 1), v], []⟩ ∨ a2 = ⟨[.ref (hp.objs.size + 1)], [(fld, v)]⟩) → A'.depth < recursionLimit →
      codeAny (model prog w) A' (.call (.ref fI) a2) (W.InitBack (hp.objs.size + 1) R) ⟨(hp.push (kdv_tup rs)).push (excO C hp.objs.size), g, dr, tk, os⟩ := by
    intro rs a2 A' h2 hA
    have kk : ∀ b o, hp.get? b = some o → ((hp.push (kdv_tup rs)).push (excO C hp.objs.size)).get? b = some o := fun b o e => Heap.get?_push_of_some _ (Heap.get?_push_of_some _ e)
    have hget : ((hp.push (kdv_tup rs)).push (excO C hp.objs.size)).get? (hp.objs.size + 1) = some (excO C hp.objs.size) := by heap_get
    have hnx : K.lookup (hp.objs.size + 1) = none := by
      cases e : K.lookup (hp.objs.size + 1) with
      | none => rfl
      | some o => exact absurd (Nat.lt_of_succ_lt (Heap.lt_size (X _ _ e))) (Nat.lt_irrefl _)
    refine sup_init (s := ⟨(hp.push (kdv_tup rs)).push (excO C hp.objs.size), g, dr, tk, os⟩) T h2 (X.keeps kk) (hlim.keeps kk) (hg.keeps kk) (hb.keeps kk) hbs hget hnx hA fun h' tk' dx t1 M => ?_
    have old : ∀ b o, hp.get? b = some o → h'.get? b = some o := fun b o e => M.keep b o (Nat.ne_of_lt (Nat.lt_succ_of_lt (Heap.lt_size e))) (kk b o e)
    have z : hp.objs.size ≤ dx := by
      have z1 : ((hp.push (kdv_tup rs)).push (excO C hp.objs.size)).objs.size ≤ dx := M.dbig
      rw [Heap.size_push, Heap.size_push] at z1
      omega
    exact ⟨rfl, hq h' tk' (hp.objs.size + 1) dx ⟨old, Nat.le_succ _, ⟨t1, M.obj⟩, z, M.dne, M.ns⟩⟩
  rcases ha with rfl | rfl
  · exact call_own F.excBase_ValueError (fun Y => refsVE_contains Y bm hbm) hC (looks_findIn X T.iC) (fun self => bind_fn X self T.tI) one_len (rest [v] _ _ (.inl rfl) (by show A.depth + 1 < recursionLimit; exact hroom))
  · exact call_kw F.excBase_ValueError (fun Y => refsVE_contains Y bm hbm) hC (looks_findIn X T.iC) (fun self => bind_fn X self T.tI) (rest [] _ _ (.inr rfl) (by show A.depth + 1 < recursionLimit; exact hroom))
end
end ND
namespace ND
open PySem PySem.Spec PyProof.Rows L2
/-- the exception at e, its dict at d, its one field -/
def excH (H : Hp) (e d C : Addr) (fld : Str) (v : V) : Hp := upd (upd H d (exd d [(fld, v)])) e (exo e C (some d))
theorem relO_fld {fld : Str} {v : V} {v' : Value} (r : RelV v v') (f : Str) : RelO (List.lookup f [(fld, v)]) (if f = fld then some v' else none) := by
  by_cases hw : f = fld
  · subst hw
    rw [if_pos rfl, show List.lookup f [(f, v)] = some v by simp [List.lookup]]
    exact r
  · rw [if_neg hw, show List.lookup f [(fld, v)] = none by simp [List.lookup, show (f == fld) = false by simpa using hw]]
    trivial
section
variable {X : Cx} {C fI : Addr} {fld : Str} {pins : List (Addr × Obj)} {σ : L2.St} {H : Hp}
theorem excH_e {e d : Addr} {v : V} : excH H e d C fld v e = some (exo e C (some d)) := upd_same
theorem excH_d {e d : Addr} {v : V} (n : d ≠ e) : excH H e d C fld v d = some (exd d [(fld, v)]) := by
  unfold excH
  rw [upd_ne n, upd_same]
theorem excH_ne {e d b : Addr} {v : V} (h1 : b ≠ e) (h2 : b ≠ d) : excH H e d C fld v b = H b := by
  unfold excH
  rw [upd_ne h1, upd_ne h2]
theorem excH_same {e d : Addr} {v : V} (ne : H e = none) (nd : H d = none) : Same H (excH H e d C fld v) := fun b o q => by
  rw [excH_ne (ne_of_none q ne) (ne_of_none q nd)]
  exact q
/-- what is held behind the making, the exception as a value -/
theorem sup_val {hp h' : Heap} {g : Array GenState} {dr : Drawn} {tk tk' : Nat} {os : OsState} {e d : Addr} {v : V} {v' : Value} (I : Inv X pins σ H ⟨hp, g, dr, tk, os⟩) (rv : RelV v v') (M : SupMade hp h' e C d fld v') :
    Inv X pins σ (excH H e d C fld v) ⟨h', g, dr, tk', os⟩ ∧ H e = none ∧ H d = none ∧ d ≠ e := by
  have ne : H e = none := I.hok.fresh M.new
  have nd : H d = none := I.hok.fresh M.dbig
  obtain ⟨t1, ho⟩ := M.obj
  have sm := excH_same (C := C) (fld := fld) (v := v) ne nd
  have off : ∀ b o, hp.get? b = some o → b ≠ e ∧ b ≠ d := fun b o q => ⟨Nat.ne_of_lt (Nat.lt_of_lt_of_le (Heap.lt_size q) M.new), Nat.ne_of_lt (Nat.lt_of_lt_of_le (Heap.lt_size q) M.dbig)⟩
  have un : Un X.fs [] H (excH H e d C fld v) hp h' := {
    keep := fun b o q _ _ _ => M.keep b o q
    slot := fun b o q _ _ _ => ⟨o.slots, M.keep b o q⟩
    free := fun b o q n _ => by rw [excH_ne (off b o q).1 (off b o q).2]; exact n
    there := fun b o q _ => ⟨o, M.keep b o q⟩
    tups := fun b xs q => sm b _ q
    frzs := fun b o u q => sm b _ q
    tbls := fun b ps q => ⟨#[], by rw [sm b _ q]; simp⟩ }
  have hok : HOk X.prog X.w (excH H e d C fld v) h' := fun b u q => by
    by_cases hb : b = e
    · subst hb
      rw [excH_e] at q
      cases q
      exact exo_ok ho
    · by_cases hd : b = d
      · subst hd
        rw [excH_d hb] at q
        cases q
        exact exd_ok M.ns fun f => relO_fld rv f
      · rw [excH_ne hb hd] at q
        exact (I.hok b u q).stay (fun c o _ z => M.keep c o z) (fun c z => sm c _ z) (fun c xs z => sm c _ z)
  exact ⟨I.un (h' := h') (t' := tk') un hok, ne, nd, M.dne⟩
end
end ND
namespace ND
open PySem PySem.Spec PyProof.Rows L2
/-- an exception object of the class at C, held as a value: without a dict, or with one at d -/
inductive IsX (H : Hp) (a C : Addr) : Prop
  | bare (h : H a = some (ExO (.ref C) a))
  | full {d : Addr} {fs : List (Str × V)} (h : H a = some (exo a C (some d))) (hd : H d = some (exd d fs))
/-- what of a class isinstance, and the reading of a field, ask -/
structure ExcK (K : PySem.W.Frag) (C : Addr) : Prop where
  cl : (PySem.W.clsIn K C).isSome = true
  ga : PySem.W.findIn K (.ref C) "__getattribute__" = some (some (.builtin "BaseException.__getattribute__"))
  gg : PySem.W.findIn K (.ref C) "__getattr__" = some none
  sb : PySem.W.subIn K (.ref C) (.type "BaseException") = some true
  hd : PySem.W.hasDictIn K C = true
  ha : PySem.W.findIn K (.ref C) "__class__" = some (some (.builtin "object.__class__"))
  hn : PySem.W.specialIn K (.builtin "object.__class__") "__get__" = some (some (.builtin "getset_descriptor.__get__"))
  ht : PySem.W.takesIn K (.builtin "object.__class__") = some true
  hm : PySem.W.mroIn K C (.type "object") = some true
section
end
end ND
namespace ND
open PySem PySem.Spec PyProof.Rows L2
/-! ### repr of data, and of a dict of flat data -/
def flatD : V → Option PyData
  | .non => some .none
  | .bl b => some (.bool b)
  | .int i => some (.int i)
  | .str x => some (.str x)
  | _ => none
def keyD : Key → PyData
  | .inl i => .int i
  | .inr x => .str x
inductive FlatKv : List (Key × V) → List (PyData × PyData) → Prop
  | nil : FlatKv [] []
  | cons {k : Key} {v : V} {d : PyData} {kvs : List (Key × V)} {ds : List (PyData × PyData)} : flatD v = some d → FlatKv kvs ds → FlatKv ((k, v) :: kvs) ((keyD k, d) :: ds)
inductive Rp (K : PySem.W.Frag) (H : Hp) : V → PyData → Prop
  | dat {v : V} {d : PyData} (h : Dp K H v d) (hl : d.hasDict = false) : Rp K H v d
  | dic {a : Addr} {kvs : List (Key × V)} {ds : List (PyData × PyData)} (h : H a = some (.dK kvs)) (hf : FlatKv kvs ds) : Rp K H (.ref a) (.dict ds)
theorem flat_reads {h : Heap} {v : V} {d : PyData} {u : Value} (e : flatD v = some d) (r : RelV v u) : Reads h u d [] := by
  cases v with
  | non => cases e; cases r; exact .none
  | bl b => cases e; cases r; exact .bool b
  | int i => cases e; obtain ⟨t, rfl⟩ := r; exact .int i t
  | str x => cases e; obtain ⟨t, rfl⟩ := r; exact .str x t
  | byt b => cases e
  | flt b => cases e
  | ref a => cases e
  | ty n => cases e
theorem kv_reads {P : Program} {w : World} {h : Heap} : ∀ {es : List DictEntry} {vs : List (Key × Value)} {kvs : List (Key × V)} {ds : List (PyData × PyData)}, Pairs (mixKind P w) es vs → KV kvs vs → FlatKv kvs ds →
    ReadsAll h (es.map (·.key)) (ds.map (·.1)) [] ∧ ReadsAll h (es.map (·.val)) (ds.map (·.2)) []
  | _, _, _, _, .nil, kv, f => by
    cases kv
    cases f
    exact ⟨.nil, .nil⟩
  | _, _, _, _, .cons hk hv t, kv, f => by
    cases kv with
    | cons r rs =>
      cases f with
      | cons e fs =>
        obtain ⟨a1, a2⟩ := kv_reads (h := h) t rs fs
        obtain ⟨r1, r2⟩ := r
        constructor
        · refine .cons (as := []) (bs := []) ?_ a1
          dsimp only at r1 ⊢
          subst r1
          rcases keyIs_shape hk with ⟨i, tt, e1, e2⟩ | ⟨x, tt, e1, e2⟩
          · rw [e1, e2]; exact .int i tt
          · rw [e1, e2]; exact .str x tt
        · refine .cons (as := []) (bs := []) ?_ a2
          dsimp only
          rw [hv]
          exact flat_reads e r2
section
variable {X : Cx}
def rRepr (K : PySem.W.Frag) : List V → Hp → VK → Prop := fun xs H Q => ∃ x d, xs = [x] ∧ Rp K H x d ∧ d.showable = true ∧ d.depth ≤ 64 ∧ d.shown.length ≤ sizeLine ∧ Q (.str d.shown) H
theorem call_repr {K : PySem.W.Frag} (hK : X.K = K) (hg : X.A.guards = some []) (hu : X.A.units + 80 < cLine) : CallR X (.builtin "repr") (rRepr K) := by
  subst hK
  intro pins s σ H xs us Q I r h
  obtain ⟨x, d, rfl, hr, hs, hd, hz, q⟩ := h
  obtain ⟨u, rfl, ru⟩ := vals1 r
  have fin : ∀ h' tk uu, (∀ b o, s.heap.get? b = some o → h'.get? b = some o) → EP X pins σ Q (.str d.shown uu) { s with heap := h', toks := tk } := fun h' tk uu k => ⟨.str d.shown, H, I.kept (t' := tk) k, ⟨uu, rfl⟩, q⟩
  have key : ∀ as, Reads s.heap u d as → (d.hasDict = true → sysModules ∉ as) → wpAny (model X.prog X.w) X.A (call (.builtin "repr") [u]) (EP X pins σ Q) X.xe s := by
    intro as rd hsm
    cases u with
    | ref a => exact repr_of_reads' rd hs hsm hg (by omega) (fun _ _ e => e) (fun h' uu tk k => fin h' tk uu k) hz
    | none => cases rd; exact PySem.P.repr_of_none (fin _ _ _ fun _ _ e => e)
    | bool b => cases rd; exact PySem.P.repr_of_bool (fin _ _ _ fun _ _ e => e)
    | int i t => cases rd; exact PySem.P.repr_of_int (by simpa [PyData.showable] using hs) (fin _ _ _ fun _ _ e => e)
    | str y t => cases rd; exact PySem.P.repr_of_str (fin _ _ _ fun _ _ e => e) hz
    | _ => cases rd
  cases hr with
  | dat h0 hl =>
    obtain ⟨as, rd⟩ := Dp.reads I d x u h0 ru
    exact key as rd (fun z => by rw [hl] at z; cases z)
  | dic h0 hf =>
    cases ru
    obtain ⟨_, hns, vs, kv, o, es, ep, ho, hx, hdt, _, hp, _⟩ := (show ObjOk X.prog X.w H s.heap _ (.dK _) from I.hok _ _ h0)
    obtain ⟨a1, a2⟩ := kv_reads (h := s.heap) hp kv hf
    refine key _ (.dict ho hx.1 hdt a1 a2) (fun _ z => ?_)
    simp only [List.append_nil, List.mem_cons, List.not_mem_nil, or_false] at z
    rw [← z] at hns
    simp at hns
end
end ND
/-! promises of defs that are called where no repr runs (so that they may ask for one) -/
namespace ND
open PySem PySem.Spec PyProof.Rows L2
structure FnG (P : Program) (w : World) (K : PySem.W.Frag) (mg : Str → Option Value) (base : Heap) (k : Nat) (f : Addr) (fd : FuncData) (ps : List Str) (sp : Sp) : Prop where
  len : ∀ vs H Q E, sp vs H Q E → vs.length = ps.length
  run : ∀ (A : Around) (outer : List Env) (s : Shared) (H : Hp) (args : Args) (us : List Value) (vs : List V) (Q : VK) (E : XK), A.guards = some [] → Room k A → Env0 P w K mg base A outer s H → BindsTo s fd args (ps.zip us) → Vals vs us → sp vs H Q E →
    codeAny (model P w) A (.call (.ref f) args) (CR (L2.CX P w) outer P w H s Q E) s
structure GOkG (P : Program) (w : World) (K : PySem.W.Frag) (mg : Str → Option Value) (base : Heap) (k : Nat) (x : Str) (ps : List Str) (sp : Sp) : Prop where
  ex : ∃ f fd, mg x = some (.ref f) ∧ PySem.W.keepIn K (.ref f) = true ∧ Binds K fd ps [] ∧ FnG P w K mg base k f fd ps sp
section
variable {P : Program} {w : World} {K : PySem.W.Frag} {mg : Str → Option Value} {base : Heap}
theorem FunD.okG {x qual : Str} {st : Stmt} {f : Addr} {fd : FuncData} {N ps : List Str} {k : Nat} {sp : Sp} (F : FnP K x qual st f fd) (S : FnScope N ps (defScope st)) (len : ∀ vs H Q E, sp vs H Q E → vs.length = ps.length)
    (hbody : ∀ (cdv : Value) (A : Around) (outer : List Env) (s : Shared) (H : Hp) (vs : List V) (Q : VK) (E : XK), A.guards = some [] → Room k (A.deeper (envOfC qual (defScope st) s.heap.objs.size f cdv)) → sp vs H Q E →
      ∃ t, PSs (cxOf (L2.CX P w) P w K mg base N qual (defScope st) f cdv A outer s H E) (defBody st) t ∧ t { nx := fun _ H' => Q .non H', rt := Q } (start N vs) H) : FnG P w K mg base (k + 1) f fd ps sp := by
  obtain ⟨oc, od, dV, kV, doc, pm, an, cdv, ct, osl, rfl, lk, hcd, _, _⟩ := F.ex
  constructor
  · exact len
  intro A outer s H args us vs Q E hgd hr e0 hb r hsp
  have KX : K.In s.heap := e0.mod.kin.keeps fun b o e => (e0.bs b o e).1
  have lim : s.heap.NoLimit := e0.mod.nolimit.keeps fun b o e => (e0.bs b o e).1
  obtain ⟨t, ht, hq⟩ := hbody cdv A outer s H vs Q E hgd (hr.deeper _) hsp
  refine codeAny_call_function hr.depth (KX _ _ lk) rfl S.co S.gen rfl (PySem.W.codeRec_of KX hcd) (hb _ _ _ _ (wpAny_newFunctionEnv_cells S.kind (fun y hy => ?_) fun env he s1 x => ?_))
  · obtain ⟨n, v⟩ := y
    rcases S.par n (List.of_mem_zip hy).1 with q | q
    · exact .inl q
    · exact .inr ⟨q, PySem.W.cellsFrom_some _ _ _ (.inl q)⟩
  · subst he
    refine ⟨lim.keeps x.toInCall.keep, codeAny_func ?_⟩
    have I : Inv (cxOf (L2.CX P w) P w K mg base N qual (defScope st) f cdv A outer s H E) [] (start N vs) H s1 := inv_start S hr.hd e0 (len _ _ _ _ hsp) r x
    refine wpAny_mono (ht.run [] s1 (start N vs) H _ I hq) (fun fl s' hs => ?_) fun e s' hs => hs
    match fl, hs with
    | .ret u, ⟨v, σ', H', J, rv, q⟩ => exact ⟨v, H', J.os, J.bare, J.base, J.hok, rv, q⟩
    | .next, ⟨σ', H', J, q⟩ => exact ⟨.non, H', J.os, J.bare, J.base, J.hok, rfl, q⟩
    | .brk, ⟨_, _, _, q⟩ => exact q.elim
    | .cont, ⟨_, _, _, q⟩ => exact q.elim
theorem GFun.okG {x : Str} {st : Stmt} {N ps : List Str} {k : Nat} {sp : Sp} (F : GFun K mg x st) (S : FnScope N ps (defScope st))
    (hb : ∀ (kV doc pm : Value) (an : Option Addr) (cdv ct : Value) (us : List Value), us.length = ps.length → bindArgs (PySem.W.fnOf x x (defArgs st) (defBody st) (defScope st) .none kV doc pm an cdv ct) ⟨us, []⟩ = pure (ps.zip us))
    (len : ∀ vs H Q E, sp vs H Q E → vs.length = ps.length)
    (hbody : ∀ (f : Addr) (cdv : Value) (A : Around) (outer : List Env) (s : Shared) (H : Hp) (vs : List V) (Q : VK) (E : XK), A.guards = some [] → Room k (A.deeper (envOfC x (defScope st) s.heap.objs.size f cdv)) → sp vs H Q E →
      ∃ t, PSs (cxOf (L2.CX P w) P w K mg base N x (defScope st) f cdv A outer s H E) (defBody st) t ∧ t { nx := fun _ H' => Q .non H', rt := Q } (start N vs) H) : GOkG P w K mg base (k + 1) x ps sp := by
  obtain ⟨f, fd, F, hm⟩ := F.ex
  exact ⟨f, fd, hm, F.kp, F.bindsN hb, FunD.okG F S len fun cdv A outer s H vs Q E hg hr h => hbody f cdv A outer s H vs Q E hg hr h⟩
end
section
variable {X : Cx} {k : Nat} {ps : List Str} {sp : Sp} {E : XK} {x : Str} {p pos : Pos} {e : Expr} {es : List Expr} {t : TA}
theorem pe_gg (G : GOkG X.prog X.w X.K X.mg X.base k x ps sp) (hgd : X.A.guards = some []) (hr : Room k X.A) (hg : Gl X x) (hx : Passes (L2.CX X.prog X.w) X E)
    (ha : PA X (e :: es) t) (hdb : (x == ("__debug__" : Str)) = false := by decide) (he : starEach (e :: es) X.env = (false, eval e X.env) :: starEach es X.env := by rfl) (hpl : (backTo pos (starEach es X.env)).any (·.1) = false := by rfl) :
    PE X (.Call (.Name x p) (e :: es) [] pos) (tCall sp [] E t) := by
  obtain ⟨f, fd, hm, hk, hb, F⟩ := G.ex
  refine ⟨fun pins s σ H Q I h => wpAny_Call_Name_kw (ld_glob I hg hm ?_ hdb)⟩
  refine PySem.W.callWith_K (h₀ := X.base) I.ok.mod.kin hk (thn (ha.run pos pins s σ H _ I h) fun us s1 hh => ?_) he hpl
  obtain ⟨vs, H1, I1, r, q⟩ := hh
  have q' : sp vs H1 Q E := by
    have z : sp (vs ++ []) H1 Q E := q
    rwa [List.append_nil] at z
  refine ⟨I1.kIn, ?_⟩
  have hl : (us ++ []).length = ps.length := by rw [List.append_nil, ← r.length]; exact F.len _ _ _ _ q'
  have bd : BindsTo s1 fd ⟨us, []⟩ (ps.zip us) := by
    have z := hb s1 us I1.kIn hl
    rwa [List.append_nil] at z
  refine wpAny_call (codeAny_mono (F.run X.A X.stack s1 H1 ⟨us, []⟩ us vs Q E hgd hr I1.env0 bd r q') fun r s' hq => ?_)
  match r, hq with
  | .error e, hq => exact hx pins σ H1 s1 e s' I1 hq
  | .ok (.ret u), hq => exact I1.after hq
  | .ok .next, hq => exact hq.elim
  | .ok .brk, hq => exact hq.elim
  | .ok .cont, hq => exact hq.elim
end
end ND
/-! the end of a law's proof: its promise, over the heap behind the top -/
namespace ND
open PySem PySem.Spec PyProof.Rows L2
end ND
namespace ND
open PySem PySem.Spec PyProof.Rows L2
/-! ### exceptions as values, over what stays -/
theorem IsX.mono {H H' : Hp} {a C : Addr} (e : Evl.Ex H H') (h : IsX H a C) : IsX H' a C := by
  cases h with
  | bare h => exact .bare (e _ _ h)
  | full h hd => exact .full (e _ _ h) (e _ _ hd)
section
variable {K : PySem.W.Frag} {σ : L2.St} {H : Hp} {ta te : TE}
/-- a new exception of the class at C -/
def EvX (te : TE) (σ : L2.St) (H : Hp) (C : Addr) : Prop := ∀ H1, Evl.Ex H H1 → ∀ Q : VK, (∀ e H2, Evl.Ex H1 H2 → IsX H2 e C → Q (.ref e) H2) → te σ H1 Q
/-- values that are exceptions of these classes -/
inductive Xs (H : Hp) : List V → List Addr → Prop
  | nil : Xs H [] []
  | cons {e C : Addr} {vs : List V} {cs : List Addr} : IsX H e C → Xs H vs cs → Xs H (.ref e :: vs) (C :: cs)
theorem Xs.mono {H H' : Hp} (e : Evl.Ex H H') : ∀ {vs : List V} {cs : List Addr}, Xs H vs cs → Xs H' vs cs
  | _, _, .nil => .nil
  | _, _, .cons h t => .cons (h.mono e) (t.mono e)
theorem Xs.append {H : Hp} : ∀ {vs ws : List V} {cs ds : List Addr}, Xs H vs cs → Xs H ws ds → Xs H (vs ++ ws) (cs ++ ds)
  | _, _, _, _, .nil, s => s
  | _, _, _, _, .cons h t, s => .cons h (t.append s)
theorem Xs.length {H : Hp} : ∀ {vs : List V} {cs : List Addr}, Xs H vs cs → vs.length = cs.length
  | _, _, .nil => rfl
  | _, _, .cons _ t => by rw [List.length_cons, List.length_cons, t.length]
theorem Xs.at {H : Hp} : ∀ {vs : List V} {cs : List Addr} {i : Nat} {v : V}, Xs H vs cs → vs[i]? = some v → ∃ e C, v = .ref e ∧ cs[i]? = some C ∧ IsX H e C
  | _, _, _, _, .nil, h => by simp at h
  | _, _, 0, _, .cons h t, e => by
    simp at e
    subst e
    exact ⟨_, _, rfl, rfl, h⟩
  | _, _, i + 1, v, .cons h t, e => by
    obtain ⟨x, C, a, b, c⟩ := t.at (i := i) (v := v) (by simpa using e)
    exact ⟨x, C, a, by simpa using b, c⟩
theorem EvX.mono {C : Addr} {H' : Hp} (e : Evl.Ex H H') (h : EvX te σ H C) : EvX te σ H' C := fun H1 e1 Q q => h H1 (e.trans e1) Q q
end
end ND
namespace ND
open PySem PySem.Spec PyProof.Rows L2
section
variable {K : PySem.W.Frag} {H H' : Hp}
mutual
theorem Dp_mono (e : Evl.Ex H H') : ∀ (d : PyData) (v : V), Dp K H v d → Dp K H' v d
  | .none, _, h => by cases h; exact .non
  | .bool b, _, h => by cases h; exact .bl b
  | .int i, _, h => by cases h; exact .int i
  | .str x, _, h => by cases h; exact .str x
  | .list ds, _, h => by
    cases h with
    | lst hs ha => exact .lst (Evl.ex_l e hs) (DpAll_mono e ds _ ha)
  | .tuple ds, _, h => by
    cases h with
    | tup hs ha => exact .tup (Evl.ex_t e hs) (DpAll_mono e ds _ ha)
  | .dict _, _, h => by cases h
theorem DpAll_mono (e : Evl.Ex H H') : ∀ (ds : List PyData) (vs : List V), DpAll K H vs ds → DpAll K H' vs ds
  | [], _, h => by cases h; exact .nil
  | d :: ds, _, h => by
    cases h with
    | cons h1 h2 => exact .cons (Dp_mono e d _ h1) (DpAll_mono e ds _ h2)
end
theorem Rp.mono {v : V} {d : PyData} (e : Evl.Ex H H') (h : Rp K H v d) : Rp K H' v d := by
  cases h with
  | dat h hl => exact .dat (Dp_mono e _ _ h) hl
  | dic h hf => exact .dic (e _ _ h) hf
end
theorem u80 {k : Nat} {A : Around} (hr : Room k A) : A.units + 80 < cLine := by
  have := hr.un
  omega
/-- a value whose repr can be told -/
def Rpr (K : PySem.W.Frag) (H : Hp) (v : V) : Prop := ∃ d, Rp K H v d ∧ d.showable = true ∧ d.depth ≤ 64 ∧ d.shown.length ≤ sizeLine
theorem Rpr.mono {K : PySem.W.Frag} {H H' : Hp} {v : V} (e : Evl.Ex H H') (h : Rpr K H v) : Rpr K H' v := by
  obtain ⟨d, a, b⟩ := h
  exact ⟨d, a.mono e, b⟩
end ND
namespace ND
open PySem PySem.Spec PyProof.Rows L2
/-! ### sorted(xs) of data that are alike -/
theorem each_vals : ∀ {bs : List (V × PyData)} {us : List Value}, Vals (bs.map (·.1)) us → PySem.W.EachIs (fun (u : Value) (b : V × PyData) => RelV b.1 u) us bs
  | [], _, r => by
    cases r
    exact .nil
  | b :: bs, _, r => by
    cases r with
    | cons h t => exact .cons h (each_vals t)
theorem vals_each : ∀ {us : List Value} {bs : List (V × PyData)}, PySem.W.EachIs (fun (u : Value) (b : V × PyData) => RelV b.1 u) us bs → Vals (bs.map (·.1)) us
  | _, _, .nil => .nil
  | _, _, .cons h t => .cons h (vals_each t)
section
variable {X : Cx} {pins : List (Addr × Obj)} {σ : L2.St} {H : Hp} {s : Shared}
theorem each_reads (I : Inv X pins σ H s) : ∀ {bs : List (V × PyData)} {us : List Value}, Vals (bs.map (·.1)) us → (∀ b ∈ bs, Dp X.K H b.1 b.2) → PySem.W.EachIs (fun (u : Value) (b : V × PyData) => ∃ as, Reads s.heap u b.2 as) us bs
  | [], _, r, _ => by
    cases r
    exact .nil
  | b :: bs, _, r, h => by
    cases r with
    | cons h1 t => exact .cons (Dp.reads I b.2 b.1 _ (h b List.mem_cons_self) h1) (each_reads I t fun c hc => h c (List.mem_cons_of_mem _ hc))
/-- the sorted list of values with their data -/
def srt (bs : List (V × PyData)) : List (V × PyData) := bs.mergeSort (PySem.W.dataLe false (·.2))
def rSortD (K : PySem.W.Frag) : List V → Hp → VK → Prop := fun vs H Q => ∃ (a : Addr) (bs : List (V × PyData)), vs = [.ref a] ∧ SqL K H a (bs.map (·.1)) ∧ (∀ b ∈ bs, Dp K H b.1 b.2) ∧ PySem.W.AllAlike (bs.map (·.2)) ∧ PySem.W.Sortable (bs.map (·.2)) ∧
  (∀ b ∈ bs, b.2.depth ≤ 50) ∧ ∀ p, H p = none → Q (.ref p) (upd H p (.lst ((srt bs).map (·.1))))
theorem cr_sortD (hu : X.A.units + 80 < cLine) : CallR X (.builtin "sorted") (rSortD X.K) := by
  intro pins s σ H vs us Q I r h
  obtain ⟨a, bs, rfl, hs, hd, hal, hk, hdp, q⟩ := h
  obtain ⟨its, rv, hl, hz⟩ := I.list hs
  rw [Vals.ref1 r]
  have hz' : bs.length ≤ sizeLine := by rw [List.length_map] at hz; exact hz
  refine PySem.W.sorted_data (enc := fun b : V × PyData => b.2) (R := fun (u : Value) (b : V × PyData) => RelV b.1 u) hl.isList (each_vals rv) (each_reads I rv hd) hal hk hz' (fun b hb => ?_) (fun out hlen hout => ?_)
  · have := hdp b hb
    show X.A.units + 2 + b.2.depth < cLine
    omega
  · obtain ⟨ep, he'⟩ := PyProof.Rows.sortedAll_at s.heap its out.toArray
    have hv := vals_each hout
    have hln : ((srt bs).map (·.1)).length ≤ sizeLine := by
      rw [List.length_map]
      unfold srt
      rw [List.length_mergeSort]
      exact hz'
    exact ⟨.ref _, upd H (s.heap.objs.size + 1) (.lst ((srt bs).map (·.1))), I.laid (t' := s.toks) (fun _ _ => PyProof.Rows.sortedAll_old) (Nat.le_succ _) ⟨hln, out, ep, hv, by simpa using he'⟩, rfl, q _ (I.hok.fresh (Nat.le_succ _))⟩
end
end ND
/-! what is known of the heap beside the draw: G is the part that stays -/
namespace ND
open PySem PySem.Spec PyProof.Rows L2
structure Wd (K : PySem.W.Frag) (d aw ac : Addr) (T : Nat) (G H : Hp) : Prop where
  dr : Draw K d aw ac T H
  sub : Same G H
  nd : G d = none
  nw : G aw = none
  cc : G ac ≠ none
def noFrz : HO → Bool
  | .frz _ (.dK _) => false
  | _ => true
structure Stp (d aw : Addr) (G H G' H' : Hp) : Prop where
  g : Same G G'
  k : Keep d aw H H'
  dm : ∀ b, H' b = none → H b = none
  o : ∀ b, G b = none → H b ≠ none → G' b = none
  nf : ∀ b o kvs, G' b = some (.frz o (.dK kvs)) → G b = some (.frz o (.dK kvs))
theorem Stp.refl {d aw : Addr} {G H : Hp} : Stp d aw G H G H := ⟨Same.refl _, Keep.refl, fun _ h => h, fun _ h _ => h, fun _ _ _ h => h⟩
theorem Stp.trans {d aw : Addr} {G H G1 H1 G2 H2 : Hp} (a : Stp d aw G H G1 H1) (b : Stp d aw G1 H1 G2 H2) : Stp d aw G H G2 H2 :=
  ⟨a.g.trans b.g, a.k.trans b.k, fun x h => a.dm x (b.dm x h), fun x h h1 => b.o x (a.o x h h1) fun z => h1 (a.dm x z), fun x o k h => a.nf x o k (b.nf x o k h)⟩
/-- the world from (G0, H0) to (G, H) -/
structure Wk (K : PySem.W.Frag) (d aw ac : Addr) (T : Nat) (G0 H0 G H : Hp) : Prop where
  w : Wd K d aw ac T G H
  s : Stp d aw G0 H0 G H
/-- a local object, that may still change -/
structure Lo (d aw : Addr) (H0 G H : Hp) (p : Addr) (o : HO) : Prop where
  h : H p = some o
  g : G p = none
  nd : p ≠ d
  nw : p ≠ aw
  n0 : H0 p = none
section
variable {K : PySem.W.Frag} {d aw ac p q : Addr} {T T' : Nat} {G0 H0 G H G1 H1 : Hp} {o o' x : HO}
theorem upd_none {H : Hp} {p b : Addr} {o : HO} (h : upd H p o b = none) : b ≠ p ∧ H b = none := by
  have hb : b ≠ p := fun e => by rw [e, upd_same] at h; cases h
  exact ⟨hb, by rw [upd_ne hb] at h; exact h⟩
theorem Wd.hd (W : Wd K d aw ac T G H) : ∃ o, H d = some o := by
  obtain ⟨ws, cs, r, t, hd, _⟩ := W.dr.ex
  exact ⟨_, hd⟩
theorem Wd.hw (W : Wd K d aw ac T G H) : ∃ o, H aw = some o := by
  obtain ⟨ws, cs, r, t, hd, hw, _⟩ := W.dr.ex
  exact ⟨_, hw⟩
theorem Wd.ned (W : Wd K d aw ac T G H) (np : H p = none) : p ≠ d := by
  obtain ⟨o, h⟩ := W.hd
  exact fun e => by rw [e, h] at np; cases np
theorem Wd.new_ (W : Wd K d aw ac T G H) (np : H p = none) : p ≠ aw := by
  obtain ⟨o, h⟩ := W.hw
  exact fun e => by rw [e, h] at np; cases np
theorem Wd.gn (W : Wd K d aw ac T G H) (np : H p = none) : G p = none := W.sub.free np
theorem Wd.ne_ac (W : Wd K d aw ac T G H) (gp : G p = none) : p ≠ ac := fun e => W.cc (e ▸ gp)
theorem Draw.upd' {d aw ac : Addr} (D : Draw K d aw ac T H) (h1 : p ≠ d) (h2 : p ≠ aw) (h3 : p ≠ ac) : Draw K d aw ac T (upd H p o) := by
  obtain ⟨⟨ws, cs, r, t, hd, hw, hc, z⟩, hne⟩ := D
  exact ⟨⟨ws, cs, r, t, by rw [upd_ne h1.symm]; exact hd, by rw [upd_ne h2.symm]; exact hw, by rw [upd_ne h3.symm]; exact hc, z⟩, hne⟩
theorem same_upd (s : Same G H) (gp : G p = none) : Same G (upd H p o) := fun b u e => by
  rw [upd_ne (ne_of_none e gp)]; exact s b u e
theorem same_both (s : Same G H) : Same (upd G p o) (upd H p o) := fun b u e => by
  by_cases hb : b = p
  · subst hb; rw [upd_same] at e ⊢; exact e
  · rw [upd_ne hb] at e ⊢; exact s b u e
theorem same_seal (s : Same G H) (hp : H p = some o) : Same (upd G p o) H := fun b u e => by
  by_cases hb : b = p
  · subst hb; rw [upd_same] at e; rw [hp]; exact e
  · rw [upd_ne hb] at e; exact s b u e
theorem same_add (gp : G p = none) : Same G (upd G p o) := fun b u e => by
  rw [upd_ne (ne_of_none e gp)]; exact e
theorem Wd.start (D : Draw K d aw ac T H) (cs : HO) (hc : H ac = some cs) (h1 : ac ≠ d) (h2 : ac ≠ aw) : Wd K d aw ac T (upd (fun _ => none) ac cs) H := by
  refine ⟨D, fun b u e => ?_, ?_, ?_, ?_⟩
  · by_cases hb : b = ac
    · subst hb; rw [upd_same] at e; rw [hc]; exact e
    · rw [upd_ne hb] at e; cases e
  · rw [upd_ne h1.symm]
  · rw [upd_ne h2.symm]
  · rw [upd_same]; intro z; cases z
theorem Wk.of (W : Wd K d aw ac T G H) : Wk K d aw ac T G H G H := ⟨W, Stp.refl⟩
theorem Wk.trans {G2 H2 : Hp} (a : Wk K d aw ac T G H G1 H1) (b : Wk K d aw ac T' G1 H1 G2 H2) : Wk K d aw ac T' G H G2 H2 := ⟨b.w, a.s.trans b.s⟩
theorem nf_back {b : Addr} {u : Obj} {kvs : List (Key × V)} (ho : noFrz o = true) (h : upd G p o b = some (.frz u (.dK kvs))) : G b = some (.frz u (.dK kvs)) := by
  by_cases hb : b = p
  · subst hb
    rw [upd_same] at h
    cases h
    cases ho
  · rw [upd_ne hb] at h
    exact h
/-- a new object that stays as it is -/
theorem Wk.new (a : Wk K d aw ac T G0 H0 G H) (np : H p = none) (ho : noFrz o = true := by rfl) : Wk K d aw ac T G0 H0 (upd G p o) (upd H p o) := by
  have gp := a.w.gn np
  refine ⟨⟨a.w.dr.upd' (a.w.ned np) (a.w.new_ np) (a.w.ne_ac gp), same_both a.w.sub, ?_, ?_, ?_⟩, ?_⟩
  · rw [upd_ne (a.w.ned np).symm]; exact a.w.nd
  · rw [upd_ne (a.w.new_ np).symm]; exact a.w.nw
  · rw [upd_ne (a.w.ne_ac gp).symm]; exact a.w.cc
  · refine ⟨fun b u e => ?_, fun b u h1 h2 e => ?_, fun b h => a.s.dm b (upd_none h).2, fun b h h1 => ?_, fun b u k h => a.s.nf b u k (nf_back ho h)⟩
    · rw [upd_ne (ne_of_none (a.s.g b u e) gp)]; exact a.s.g b u e
    · rw [upd_ne (ne_of_none (a.s.k b u h1 h2 e) np)]; exact a.s.k b u h1 h2 e
    · have hb : b ≠ p := fun z => h1 (a.s.dm b (z ▸ np))
      rw [upd_ne hb]; exact a.s.o b h h1
/-- a new object that may change -/
theorem Wk.tmp (a : Wk K d aw ac T G0 H0 G H) (np : H p = none) : Wk K d aw ac T G0 H0 G (upd H p o) := by
  have gp := a.w.gn np
  refine ⟨⟨a.w.dr.upd' (a.w.ned np) (a.w.new_ np) (a.w.ne_ac gp), same_upd a.w.sub gp, a.w.nd, a.w.nw, a.w.cc⟩, ?_⟩
  exact ⟨a.s.g, fun b u h1 h2 e => by rw [upd_ne (ne_of_none (a.s.k b u h1 h2 e) np)]; exact a.s.k b u h1 h2 e, fun b h => a.s.dm b (upd_none h).2, a.s.o, a.s.nf⟩
theorem Wk.lo (a : Wk K d aw ac T G0 H0 G H) (np : H p = none) : Lo d aw H0 G (upd H p o) p o :=
  ⟨upd_same, a.w.gn np, a.w.ned np, a.w.new_ np, a.s.dm p np⟩
theorem Lo.step {G2 H2 : Hp} (l : Lo d aw H0 G H p o) (s : Stp d aw G H G2 H2) : Lo d aw H0 G2 H2 p o :=
  ⟨s.k p o l.nd l.nw l.h, s.o p l.g (by rw [l.h]; intro z; cases z), l.nd, l.nw, l.n0⟩
theorem Lo.wk {G2 H2 : Hp} (l : Lo d aw H0 G H p o) (s : Wk K d aw ac T G H G2 H2) : Lo d aw H0 G2 H2 p o := l.step s.s
/-- a local object is changed -/
theorem Wk.mut (a : Wk K d aw ac T G0 H0 G H) (l : Lo d aw H0 G H p o) : Wk K d aw ac T G0 H0 G (upd H p o') := by
  refine ⟨⟨a.w.dr.upd' l.nd l.nw (a.w.ne_ac l.g), same_upd a.w.sub l.g, a.w.nd, a.w.nw, a.w.cc⟩, ?_⟩
  exact ⟨a.s.g, fun b u h1 h2 e => by rw [upd_ne (ne_of_none e l.n0)]; exact a.s.k b u h1 h2 e, fun b h => a.s.dm b (upd_none h).2, a.s.o, a.s.nf⟩
theorem Lo.put (l : Lo d aw H0 G H p o) : Lo d aw H0 G (upd H p o') p o' := ⟨upd_same, l.g, l.nd, l.nw, l.n0⟩
theorem Lo.oth (l : Lo d aw H0 G H p o) (h : p ≠ q) : Lo d aw H0 G (upd H q x) p o := ⟨by rw [upd_ne h]; exact l.h, l.g, l.nd, l.nw, l.n0⟩
theorem Lo.othN (l : Lo d aw H0 G H p o) (h : H q = none) : Lo d aw H0 G (upd H q x) p o := l.oth (ne_of_none l.h h)
theorem Lo.newN (l : Lo d aw H0 G H p o) (h : H q = none) : Lo d aw H0 (upd G q x) (upd H q x) p o :=
  ⟨by rw [upd_ne (ne_of_none l.h h)]; exact l.h, by rw [upd_ne (ne_of_none l.h h)]; exact l.g, l.nd, l.nw, l.n0⟩
/-- a local object is left as it is now -/
theorem Wk.seal (a : Wk K d aw ac T G0 H0 G H) (l : Lo d aw H0 G H p o) (ho : noFrz o = true := by rfl) : Wk K d aw ac T G0 H0 (upd G p o) H := by
  refine ⟨⟨a.w.dr, same_seal a.w.sub l.h, ?_, ?_, ?_⟩, ?_, a.s.k, a.s.dm, fun b h h1 => ?_, fun b u k h => a.s.nf b u k (nf_back ho h)⟩
  · rw [upd_ne l.nd.symm]; exact a.w.nd
  · rw [upd_ne l.nw.symm]; exact a.w.nw
  · rw [upd_ne (a.w.ne_ac l.g).symm]; exact a.w.cc
  · exact fun b u e => by rw [upd_ne (ne_of_none (a.s.g b u e) l.g)]; exact a.s.g b u e
  · rw [upd_ne fun z => h1 (by rw [z]; exact l.n0)]; exact a.s.o b h h1
theorem Lo.sealO (l : Lo d aw H0 G H p o) (h : p ≠ q) : Lo d aw H0 (upd G q x) H p o := ⟨l.h, by rw [upd_ne h]; exact l.g, l.nd, l.nw, l.n0⟩
/-- the draw goes on -/
theorem Wk.go {H2 : Hp} (a : Wk K d aw ac T G0 H0 G H) (D : Draw K d aw ac T' H2) (k : Keep d aw H H2) : Wk K d aw ac T' G H G H2 := by
  refine ⟨⟨D, fun b u e => k b u ?_ ?_ (a.w.sub b u e), a.w.nd, a.w.nw, a.w.cc⟩, Same.refl _, k, fun b h => ?_, fun _ h _ => h, fun _ _ _ h => h⟩
  · exact ne_of_none e a.w.nd
  · exact ne_of_none e a.w.nw
  · by_cases h1 : b = d
    · obtain ⟨ws, cs, r, t, hd, _⟩ := D.ex
      rw [h1, hd] at h; cases h
    · by_cases h2 : b = aw
      · obtain ⟨ws, cs, r, t, hd, hw, _⟩ := D.ex
        rw [h2, hw] at h; cases h
      · cases e : H b with
        | none => rfl
        | some u => rw [k b u h1 h2 e] at h; cases h
end
end ND
/-! own classes: made, their methods and properties -/
namespace ND
open PySem PySem.Spec PyProof.Rows L2
abbrev FnD (K : PySem.W.Frag) (x qual : Str) (st : Stmt) (dvs : List V) (f : Addr) (fd : FuncData) : Prop := FunD K x qual (defArgs st) (defBody st) (defScope st) dvs [] f fd
/-- a class whose objects' type is told -/
structure ClTy (K : PySem.W.Frag) (C : Addr) : Prop where
  cl : Cls K C
  ha : PySem.W.findIn K (.ref C) "__class__" = some (some (.builtin "object.__class__"))
  hn : PySem.W.specialIn K (.builtin "object.__class__") "__get__" = some (some (.builtin "getset_descriptor.__get__"))
  htk : PySem.W.takesIn K (.builtin "object.__class__") = some true
  hm : PySem.W.mroIn K C (.type "object") = some true
theorem ClTy.ty {K : PySem.W.Frag} {C a dx : Addr} {fs : List (Str × V)} {H : Hp} (c : ClTy K C) (e : H a = some (.ins C dx fs)) : TyX K H (.ref a) (.ref C) := .base (.ins e c.cl c.ha c.hn c.htk c.hm)
structure IFun (K : PySem.W.Frag) (C : Addr) (qual : Str) (st : Stmt) (dvs : List V) : Prop where
  ex : ∃ f fd, FnD K "__init__" qual st dvs f fd ∧ Mk K C f
structure MFun (K : PySem.W.Frag) (C : Addr) (m qual : Str) (st : Stmt) : Prop where
  ex : ∃ f fd, FnP K m qual st f fd ∧ Meth K C m f
structure PFun (K : PySem.W.Frag) (C : Addr) (m qual : Str) (st : Stmt) : Prop where
  ex : ∃ p f fd, FnP K m qual st f fd ∧ PropOf K C m p f
/-- their promises; ds: the defaults that fill up -/
structure IOk (P : Program) (w : World) (K : PySem.W.Frag) (mg : Str → Option Value) (base : Heap) (k : Nat) (C : Addr) (ps : List Str) (dvs : List V) (sp : Sp) : Prop where
  ex : ∃ f fd ds, Mk K C f ∧ Binds K fd ps ds ∧ Vals dvs ds ∧ FnOk P w K mg base (L2.CX P w) k f fd ps sp
structure MOk (P : Program) (w : World) (K : PySem.W.Frag) (mg : Str → Option Value) (base : Heap) (k : Nat) (C : Addr) (m : Str) (ps : List Str) (sp : Sp) : Prop where
  ex : ∃ f fd, Meth K C m f ∧ Binds K fd ps [] ∧ FnOk P w K mg base (L2.CX P w) k f fd ps sp
structure POk (P : Program) (w : World) (K : PySem.W.Frag) (mg : Str → Option Value) (base : Heap) (k : Nat) (C : Addr) (m : Str) (sp : Sp) : Prop where
  ex : ∃ p f fd, PropOf K C m p f ∧ Binds K fd ["self"] [] ∧ FnOk P w K mg base (L2.CX P w) k f fd ["self"] sp
section
variable {P : Program} {w : World} {K : PySem.W.Frag} {mg : Str → Option Value} {base : Heap} {C : Addr} {m qual : Str} {st : Stmt} {N ps : List Str} {k : Nat} {sp : Sp}
abbrev Body (P : Program) (w : World) (K : PySem.W.Frag) (mg : Str → Option Value) (base : Heap) (k : Nat) (N : List Str) (qual : Str) (st : Stmt) (sp : Sp) : Prop :=
  ∀ (f : Addr) (cdv : Value) (A : Around) (outer : List Env) (s : Shared) (H : Hp) (vs : List V) (Q : VK) (E : XK), Room k (A.deeper (envOfC qual (defScope st) s.heap.objs.size f cdv)) → sp vs H Q E →
      ∃ t, PSs (cxOf (L2.CX P w) P w K mg base N qual (defScope st) f cdv A outer s H E) (defBody st) t ∧ t { nx := fun _ H' => Q .non H', rt := Q } (start N vs) H
theorem PFun.ok (F : PFun K C m qual st) (S : FnScope N ["self"] (defScope st))
    (hb : ∀ (kV doc pm : Value) (an : Option Addr) (cdv ct : Value) (us : List Value), us.length = 1 → bindArgs (PySem.W.fnOf m qual (defArgs st) (defBody st) (defScope st) .none kV doc pm an cdv ct) ⟨us, []⟩ = pure ((["self"] : List Str).zip us))
    (len : ∀ vs H Q E, sp vs H Q E → vs.length = 1) (hbody : Body P w K mg base k N qual st sp) : POk P w K mg base (k + 1) C m sp := by
  obtain ⟨p, f, fd, F, M⟩ := F.ex
  exact ⟨p, f, fd, M, F.bindsN hb, F.ok S len fun cdv A outer s H vs Q E hr h => hbody f cdv A outer s H vs Q E hr h⟩
theorem MFun.ok (F : MFun K C m qual st) (S : FnScope N ps (defScope st))
    (hb : ∀ (kV doc pm : Value) (an : Option Addr) (cdv ct : Value) (us : List Value), us.length = ps.length → bindArgs (PySem.W.fnOf m qual (defArgs st) (defBody st) (defScope st) .none kV doc pm an cdv ct) ⟨us, []⟩ = pure (ps.zip us))
    (len : ∀ vs H Q E, sp vs H Q E → vs.length = ps.length) (hbody : Body P w K mg base k N qual st sp) : MOk P w K mg base (k + 1) C m ps sp := by
  obtain ⟨f, fd, F, M⟩ := F.ex
  exact ⟨f, fd, M, F.bindsN hb, F.ok S len fun cdv A outer s H vs Q E hr h => hbody f cdv A outer s H vs Q E hr h⟩
/-- __init__ without defaults -/
theorem IFun.ok (F : IFun K C qual st []) (S : FnScope N ps (defScope st))
    (hb : ∀ (kV doc pm : Value) (an : Option Addr) (cdv ct : Value) (us : List Value), us.length = ps.length → bindArgs (PySem.W.fnOf "__init__" qual (defArgs st) (defBody st) (defScope st) .none kV doc pm an cdv ct) ⟨us, []⟩ = pure (ps.zip us))
    (len : ∀ vs H Q E, sp vs H Q E → vs.length = ps.length) (hbody : Body P w K mg base k N qual st sp) : IOk P w K mg base (k + 1) C ps [] sp := by
  obtain ⟨f, fd, F, M⟩ := F.ex
  exact ⟨f, fd, [], M, F.bindsN hb, .nil, F.ok S len fun cdv A outer s H vs Q E hr h => hbody f cdv A outer s H vs Q E hr h⟩
end
section
variable {X : Cx} {k : Nat} {C : Addr} {ps : List Str} {dvs : List V} {sp : Sp} {E : XK} {x m : Str} {p pos apos : Pos} {e o : Expr} {es : List Expr} {t : TA} {ta : TE}
theorem pe_mk (G : IOk X.prog X.w X.K X.mg X.base k C ps dvs sp) (hr : Room (k + 1) X.A) (hg : Gl X x) (hm : X.mg x = some (.ref C)) (hx : Passes (L2.CX X.prog X.w) X E)
    (ha : PA X (e :: es) t) (hdb : (x == ("__debug__" : Str)) = false := by decide) (he : starEach (e :: es) X.env = (false, eval e X.env) :: starEach es X.env := by rfl) (hpl : (backTo pos (starEach es X.env)).any (·.1) = false := by rfl) :
    PE X (.Call (.Name x p) (e :: es) [] pos) (tMake C sp dvs E t) := by
  obtain ⟨f, fd, ds, M, hb, hd, F⟩ := G.ex
  exact pe_make M F hr hg hm hb hd hx ha hdb he hpl
theorem pe_pr (G : POk X.prog X.w X.K X.mg X.base k C m sp) (c : Cls X.K C) (hr : Room (k + 1) X.A) (hx : Passes (L2.CX X.prog X.w) X.nox E) (he : PE X e ta)
    (hab : attributeBase e m X.env (eval e X.env) = eval e X.env) : PE X (.Attribute e m pos) (tProp C sp [] E ta) := by
  obtain ⟨p, f, fd, M, hb, F⟩ := G.ex
  exact pe_prop he c M F hr hb .nil hx hab
end
end ND
/-! errors that are caught and kept -/
namespace ND
open PySem PySem.Spec PyProof.Rows L2
/-- an error's object that is kept -/
def XO (a C : Addr) (d : Option Addr) : HO := .ext fun h => ∃ (ob : Obj) (vs : Array Value), h.get? a = some ob ∧ Zc (.ref C) d ob ∧ ob.data = .fields vs
/-- the fields of an error -/
def XFs (G : Hp) (a : Option Addr) (fs : List (Str × V)) : Prop := match a with
  | none => fs = []
  | some d => G d = some (.xd fs)
theorem XFs.mono {G G' : Hp} {a : Option Addr} {fs : List (Str × V)} (s : Same G G') (h : XFs G a fs) : XFs G' a fs := by
  cases a with
  | none => exact h
  | some d => exact s _ _ h
theorem xo_ok {P : Program} {w : World} {H : Hp} {h : Heap} {a C : Addr} {d : Option Addr} {ob : Obj} {vs : Array Value} (e : h.get? a = some ob) (z : Zc (.ref C) d ob) (dd : ob.data = .fields vs) : ObjOk P w H h a (XO a C d) :=
  ⟨⟨ob, vs, e, z, dd⟩, ⟨ob, e⟩, fun _ _ ⟨o, v, q, r⟩ k => ⟨o, v, k o q, r⟩⟩
section
variable {X : Cx} {pins : List (Addr × Obj)} {σ : L2.St} {H : Hp} {s : Shared}
theorem xo_inst {a C : Addr} {d : Option Addr} {fs : List (Str × V)} (I : Inv X pins σ H s) (h : H a = some (XO a C d)) (hf : XFs H d fs) : ∃ ox od, PySem.W.InstAt s.heap a ox C od ∧ (∀ dd, d = some dd → ∃ (mA : Str → Option Value) (od' : Obj), od = some od' ∧ (∀ name, PySem.W.lookIn name od' = some (mA name)) ∧ ∀ f, RelO (fs.lookup f) (mA f)) := by
  obtain ⟨⟨ob, vs, hg, hz, hd⟩, _⟩ := (show ObjOk X.prog X.w H s.heap a (XO a C d) from I.hok a _ h)
  have nc : PySem.W.notCls ob = true := by unfold PySem.W.notCls; rw [hd] <;> rfl
  cases d with
  | none => exact ⟨ob, none, ⟨hg, hz.1, nc, by rw [hz.2]; trivial⟩, fun _ z => nomatch z⟩
  | some dd =>
    obtain ⟨mA, hns, hr⟩ := (show ObjOk X.prog X.w H s.heap dd (.xd fs) from I.hok dd _ hf)
    obtain ⟨od, ho, hl⟩ := lookIn_ns hns
    exact ⟨ob, some od, ⟨hg, hz.1, nc, by rw [hz.2]; exact ho⟩, fun _ _ => ⟨mA, od, rfl, hl, hr⟩⟩
/-- isinstance(e, c) of a kept error -/
def rIsK (K : PySem.W.Frag) : List V → Hp → VK → Prop := fun xs H Q => ∃ (a C : Addr) (d : Option Addr) (fs : List (Str × V)) (c : V) (u : Value) (b : Bool), xs = [.ref a, c] ∧ H a = some (XO a C d) ∧ XFs H d fs ∧ ExcK K C ∧ ClsV c u ∧ PySem.W.kitOne K (.ref C) u = some b ∧ Q (.bl b) H
theorem call_isk : CallR X (.builtin "isinstance") (rIsK X.K) := by
  intro pins s σ H xs us Q I r h
  obtain ⟨a, C, d, fs, c, u, b, rfl, hx, hf, T, k, e, q⟩ := h
  obtain ⟨u1, u2, rfl, r1, r2⟩ := vals2 r
  cases r1
  have e2 := k.eq r2
  subst e2
  obtain ⟨ox, od, J, _⟩ := xo_inst I hx hf
  exact PySem.W.kia_one (PySem.W.kitx_exc T.cl T.ga T.gg T.sb T.ha T.hn T.ht T.hm) I.kIn J e (fun z => nomatch z) fun tk => ⟨.bl b, H, I.tok tk, rfl, q⟩
/-- e.f, a kept error's field -/
def tXk (K : PySem.W.Frag) (f : Str) (te : TE) : TE := fun σ H Q => te σ H fun x H1 => ∃ (a C d : Addr) (fs : List (Str × V)) (v : V), x = .ref a ∧ H1 a = some (XO a C (some d)) ∧ H1 d = some (.xd fs) ∧ ExcK K C ∧ PySem.W.findIn K (.ref C) f = some none ∧ fs.lookup f = some v ∧ Q v H1
theorem pe_xk {e : Expr} {te : TE} {f : Str} {pos : Pos} (he : PE X e te) (hb : attributeBase e f X.env (eval e X.env) = eval e X.env := by rfl) : PE X (.Attribute e f pos) (tXk X.K f te) := by
  refine ⟨fun pins s σ H Q I h => ?_⟩
  refine attr_of hb (thn (he.run pins s σ H _ I h) fun u s1 hh => ?_)
  obtain ⟨x, H1, I1, rx, a, C, d, fs, v, ex, ha, hd, T, hno, hl, q⟩ := hh
  subst ex
  obtain rfl : u = Value.ref a := rx
  obtain ⟨ox, od, J, hm⟩ := xo_inst (d := some d) (fs := fs) I1 ha hd
  obtain ⟨mA, od', rfl, hk, hr⟩ := hm d rfl
  obtain ⟨u, hu, ru⟩ := RelO.some_of (v := v) (o := mA f) (by rw [← hl]; exact hr f)
  exact HandSPX.exc_get I1.kIn J T.ga T.gg T.sb (PySem.W.findObj_own T.hd hno rfl (by rw [hk, hu])) (handed_of ru) ⟨v, H1, I1.tok _, ru, q⟩
/-- an object that nobody tracked is tracked from now on -/
theorem Inv.adopt {a C : Addr} {d : Option Addr} {ob : Obj} {vs : Array Value} (I : Inv X pins σ H s) (na : H a = none) (n0 : X.s_0.heap.get? a = none) (ha : s.heap.get? a = some ob) (hz : Zc (.ref C) d ob) (hd : ob.data = .fields vs) (nL : a ≠ X.env.locals) (np : ∀ p ∈ X.pn ++ pins, p.1 ≠ a) :
    Inv X pins σ (upd H a (XO a C d)) s := by
  have keepO : ∀ b o, H b = some o → upd H a (XO a C d) b = some o := fun b o e => by rw [upd_ne (ne_of_none e na)]; exact e
  refine ⟨I.ok, I.os, I.bare, ⟨I.base.keep, I.base.slot, fun b o e n hx => ?_, I.base.there, fun b xs e => keepO _ _ (I.base.tups b xs e), fun b o u e => keepO _ _ (I.base.frzs b o u e), fun b ps e => ?_⟩, I.loc, I.cell, ?_, fun x c e => ?_, fun p hp => ?_, fun b u e => ?_, I.len⟩
  · have hb : b ≠ a := fun z => by rw [z, n0] at e; cases e
    rw [upd_ne hb]
    exact I.base.free b o e n hx
  · obtain ⟨more, z⟩ := I.base.tbls b ps e
    exact ⟨more, keepO _ _ z⟩
  · rw [upd_ne nL.symm]
    exact I.free
  · obtain ⟨v, o, ho, hdc⟩ := I.cell x c e
    have hc : c ≠ a := fun z => by
      rw [z, ha] at ho
      cases ho
      rw [hd] at hdc
      cases hdc
    rw [upd_ne hc]
    exact I.freeC x c e
  · obtain ⟨h1, h2, h3⟩ := I.pin p hp
    refine ⟨h1, ?_, h3⟩
    rw [upd_ne (np p hp)]
    exact h2
  · by_cases hb : b = a
    · subst hb
      rw [upd_same] at e
      cases e
      exact xo_ok ha hz hd
    · rw [upd_ne hb] at e
      exact (I.hok b u e).stay (fun _ _ _ q => q) (fun c q => keepO _ _ q) fun c xs q => keepO _ _ q
/-- what 'except x as n: suite' wishes, the error being kept: slot i is n's -/
def wKp (K : PySem.W.Frag) (c : Value) (i l : Nat) (ts : Addr → TS) (Wout : WX) (D : Ends) : WX := fun cls d σ H => σ.length = l → ∃ b, PySem.W.exmOne K cls c = some b ∧
  (b = true → ∃ C, cls = .ref C ∧ ∀ a, H a = none → ts a { nx := fun σ' H' => H' a = none → D.nx (σ'.set i none) (upd H' a (XO a C d)), rt := fun _ _ => False, bk := fun _ _ => False, ct := fun _ _ => False } (σ.set i (some (.ref a))) H) ∧ (b = false → Wout cls d σ H)
end
section
variable {X : Cx} {x n : Str} {c : Value} {i : Nat} {body suite : List Stmt} {b₀ : Stmt} {np pos pos' : Pos} {tb : WX → TS} {ts : Addr → TS} {Wout : WX}
theorem sky_none {B : Heap} {l : List Env} {a : Addr} {Z : Obj → Prop} {L : Addr} {h : Heap} (k : Sky B l a Z L h) : B.get? a = none := by
  rcases k with k | k | k
  · exact k.2.1
  · exact k.2.1
  · exact k.2.1
theorem ps_try_keep (hs : X.stack = X.env :: X.outer) (hf : X.env.frame = some X.env.locals) (hN : X.N.Nodup) (hi : X.N[i]? = some n) (hln : X.env.kindOf n = some .local) (hc : Names X x c) (tk : Takes X Wout) (hX : X.ex = [])
    (hb : ∀ (W : WX) (pn : List (Addr × Obj)) (xe : Value → Shared → Prop), Takes (X.tr pn xe) W → PassesOwn (model X.prog X.w) X.A X.env xe → PSs (X.tr pn xe) body (tb W))
    (hsu : ∀ (a : Addr) (ob : Obj) (pn : List (Addr × Obj)), PSs (X.suite a ((a, ob) :: pn)) (b₀ :: suite) (ts a)) :
    PS X (.Try body [.ExceptHandler (some (.Name x np)) (some n) (b₀ :: suite) pos'] [] [] pos) (fun D σ H => tb (wKp X.K c i X.N.length ts Wout D) D σ H) := by
  refine ⟨fun pins s σ H D I h => ?_⟩
  have okX := I.ok
  have frX : X.A.frames = some (X.env :: X.outer) := by rw [okX.frames, hs]
  have locX : Loc X.env.scope n := .inl hln
  refine wpAny_Try_except (wpAny_mono ((hb (wKp X.K c i X.N.length ts Wout D) (X.pn ++ pins) (fun e t1 => wpAny (model X.prog X.w) X.A (noteFrame e X.env) (fun _ t2 => wpAny (model X.prog X.w) X.A (setFlight e none) (fun _ t3 =>
    wpAny (model X.prog X.w) X.A (handleBy e X.env [.ExceptHandler (some (.Name x np)) (some n) (b₀ :: suite) pos']) (SP X pins D) X.xe t3) X.xe t2) X.xe t1) (fun u s' xx => ?_) PassesOwn.looking).run [] s σ H D (I.toTry _) h) (fun f s1 hsp => ?_) (fun e s1 he => he))
  · obtain ⟨a, B, sI, pins', σ', H', cls, d, rfl, J', nb, up, sky, na, os, ag, hw⟩ := xx
    have J : Inv X pins σ' H' sI := J'.ofTry okX
    obtain ⟨b, hb1, hyes, hno⟩ := hw J.len
    have Bn : B.get? a = none := sky_none sky
    have sky2 : Sky B (X.env :: X.outer) a (Zc cls d) X.env.locals s'.heap := by rw [← hs]; exact sky
    show wpAny (model X.prog X.w) X.A (noteFrame (.ref a) X.env) _ _ _
    refine Sky.land Zc.steady frX hf sky2 fun g3 fly3 up3 => ?_
    have J3 : Inv X pins σ' H' { s' with heap := g3 } := J.landed nb fly3.1 (up.trans up3) os ag
    obtain ⟨ob3, vs3, at3, z3, d3⟩ := fly3.there
    have offF : ∀ {h : Heap} {o : Obj} {vs : Array Value}, h.FunFrames B (X.env :: X.outer) → h.get? a = some o → o.data = .fields vs → a ∉ frs (X.env :: X.outer) := fun {h o vs} ff e dd hm => by
      obtain ⟨_, o', e', hnf⟩ := ff.mem hm
      rw [e] at e'
      cases e'
      exact hnf _ dd
    have nfr := offF fly3.2.2.1 at3 d3
    have nL : a ≠ X.env.locals := fun z => nfr (List.mem_filterMap.mpr ⟨X.env, List.mem_cons_self, by rw [hf, z]⟩)
    have nF : a ∉ X.fs := fun hm => by
      obtain ⟨e, he, q⟩ := List.mem_filterMap.mp hm
      exact nfr (List.mem_filterMap.mpr ⟨e, List.mem_cons_of_mem _ he, q⟩)
    have sIn : sI.heap.get? a = none := by
      cases e : sI.heap.get? a with
      | none => rfl
      | some o =>
        have := nb a o e (by rw [hs]; exact nfr)
        rw [Bn] at this
        cases this
    have s0n : X.s_0.heap.get? a = none := by
      cases e : X.s_0.heap.get? a with
      | none => rfl
      | some o =>
        obtain ⟨o', e'⟩ := J.base.there a o e (by rw [hX]; intro z; cases z)
        rw [sIn] at e'
        cases e'
    have npn : ∀ p ∈ X.pn ++ pins, p.1 ≠ a := fun p hp z => by
      have := (J.pin p hp).1
      rw [z, sIn] at this
      cases this
    have S3 := J3.suite at3 d3 na nL nF
    refine wpAny_handleBy_cons (codeAny_handlers_test ?_) (by intro q; cases q)
    have LT : PySem.W.Looks (model X.prog X.w) g3 (typeOf (.ref a)) cls := fun A Q E s k q => wpAny_typeOf_ref (k _ _ at3) (by rw [z3.1]; exact q)
    have LM := PySem.W.exm_one (M := model X.prog X.w) (J3.kIn) LT hb1
    have test : ∀ {Q : Value → Shared → Prop} {E : Value → Shared → Prop}, Q c { s' with heap := g3 } → wpAny (model X.prog X.w) (X.A.mark (some (.ref a))) (eval (.Name x np) X.env) Q E { s' with heap := g3 } := fun {Q E} q => by
      obtain ⟨hg, hdbg, hm | ⟨hm, hv, hnn⟩⟩ := hc
      · exact ld_glob (X := X.suite a ((a, ob3) :: (X.pn ++ pins))) S3 hg hm q hdbg
      · exact ld_blt (X := X.suite a ((a, ob3) :: (X.pn ++ pins))) S3 hg hm hv q hnn hdbg
    refine test (LM.here ?_)
    cases b with
    | true =>
      obtain ⟨C, rfl, hy⟩ := hyes rfl
      refine codeAny_handlers_suite_as (HandSPX.lands_againZ fly3 fun g4 fly4 up4 => ?_)
      have J4 : Inv X pins σ' H' { s' with heap := g4 } := J.landed nb fly4.1 ((up.trans up3).trans up4) os ag
      obtain ⟨ob4, vs4, at4, z4, d4⟩ := fly4.there
      have S4 := J4.suite at4 d4 na nL nF
      refine store_ok (X := X.suite a ((a, ob4) :: (X.pn ++ pins))) (v := .ref a) S4 hN hi locX rfl (fun s5 S5 => ?_) (.inr hln)
      refine wpAny_mono ((hsu a ob4 (X.pn ++ pins)).run [] s5 _ H' _ S5 (hy a na)) (fun f s6 hsp => ?_) (fun _ _ z => False.elim z)
      cases f with
      | next =>
        obtain ⟨σ6, H6, S6, q6⟩ := hsp
        have pa := S6.pin (a, ob4) (List.mem_append_left _ List.mem_cons_self)
        have J6 : Inv X ((a, ob4) :: pins) σ6 H6 s6 := (S6.unsuite okX).pins_of fun p hp => by
          rcases List.mem_cons.mp hp with rfl | hp
          · exact pa
          · exact (S6.unsuite okX).pin p (List.mem_append_right _ hp)
        refine gone_ok J6 hN hi hln fun s7 J7 => ?_
        have pa7 := J7.pin (a, ob4) (List.mem_append_right _ List.mem_cons_self)
        have J8 : Inv X pins (σ6.set i none) H6 s7 := J7.pins_of fun p hp => J7.pin p (List.mem_append_right _ (List.mem_cons_of_mem _ hp))
        exact ⟨_, _, Inv.adopt J8 pa7.2.1 s0n pa7.1 z4 d4 nL npn, q6 pa7.2.1⟩
      | brk =>
        obtain ⟨σ6, H6, S6, q6⟩ := hsp
        exact q6.elim
      | cont =>
        obtain ⟨σ6, H6, S6, q6⟩ := hsp
        exact q6.elim
      | ret u =>
        obtain ⟨v6, σ6, H6, S6, r6, q6⟩ := hsp
        exact q6.elim
    | false =>
      show wpAny _ X.A (handleBy (.ref a) X.env []) _ _ _
      refine wpAny_handleBy_nil ?_
      obtain ⟨k1, k2, k3, oe, vs, T, oT, ts', he, hz, hd, h1, hr⟩ := id fly3
      unfold PySem.passOn
      refine wpAny_bind (wpAny_field he hd h1 ?_)
      rw [if_neg (show ¬ ((Value.ref T == Value.none) = true) from by simp)]
      have fin : wpAny (model X.prog X.w) X.A (setFlight (.ref a) X.env.frame) (fun _ s4 => wpAny (model X.prog X.w) X.A (throw (.ref a) : Sem Flow) (SP X pins D) X.xe s4) X.xe { s' with heap := g3 } := by
        rw [hf]
        refine HandSPX.setFlight_upZ fly3 fun g4 fly4 up4 => wpAny_throw (tk _ _ ?_)
        exact ⟨a, B, sI, pins, σ', H', cls, d, rfl, J, nb, (up.trans up3).trans up4, .inr (.inr (by rw [hs]; exact fly4)), na, os, ag, hno rfl⟩
      first
        | exact wpAny_bind (wpAny_pure (wpAny_bind fin))
        | exact wpAny_bind fin
  · cases f with
    | next =>
      obtain ⟨σ', H', J', q⟩ := hsp
      exact wpAny_execs_nil ⟨σ', H', J'.ofTry okX, q⟩
    | brk =>
      obtain ⟨σ', H', J', q⟩ := hsp
      exact ⟨σ', H', J'.ofTry okX, q⟩
    | cont =>
      obtain ⟨σ', H', J', q⟩ := hsp
      exact ⟨σ', H', J'.ofTry okX, q⟩
    | ret u =>
      obtain ⟨v, σ', H', J', r, q⟩ := hsp
      exact ⟨v, σ', H', J'.ofTry okX, r, q⟩
end
/-! ### the def that catches -/
/-- what it makes of the lambda's reading -/
def TKeep (K : PySem.W.Frag) (CS : Addr) : (XK → Hp → VK → Prop) → Hp → VK → Prop := fun tl H Q =>
  tl (fun cls d H' => ∃ b, PySem.W.exmOne K cls (.ref CS) = some b ∧ (b = true → ∃ C, cls = .ref C ∧ ∀ a, H' a = none → Q (.ref a) (upd H' a (XO a C d))) ∧ (b = false → False)) H (fun _ H' => ∃ v : V, (some (some V.non) : Option (Option V)) = some (some v) ∧ Q v H')
theorem keep_gives {X : Cx} {x a k e n q : Str} {sg : Scope} {g CS : Addr} {cdg : Value} {p0 p1 p2 p3 p4 p5 p6 p7 p8 p9 p10 p11 p12 p13 : Pos} {j0 : Nat} (hge : sg.names.lookup e = some .globalImplicit) (hme : X.mg e = some (.ref CS)) (hde : (e == ("__debug__" : Str)) = false)
    (hnd : [a, k, n].Nodup) (hk : sg.names.lookup k = some .local) (hn : sg.names.lookup n = some .local) (dk : (k == ("__debug__" : Str)) = false := by decide) (ck : (k == ("__classdict__" : Str)) = false := by decide) (dn : (n == ("__debug__" : Str)) = false := by decide) (cn : (n == ("__classdict__" : Str)) = false := by decide) :
    LamX.GivesTo X [a, k, n] x sg g cdg [.Assign [.Name k p0] (.Constant .none j0 p1) p2, .Try [.Expr (.Call (.Name a p3) [] [] p4) p5] [.ExceptHandler (some (.Name e p6)) (some n) [.Assign [.Name k p7] (.Name n p8) p9] p10] [] [] p11, .Return (some (.Name k p12)) p13] a q (TKeep X.K CS) := by
  intro f c' s H Q tl act hc h
  have hgl : Gl (cxOf C8.CX0 X.prog X.w X.K X.mg X.base [a, k, n] x sg g cdg X.A X.stack s H C8.E0).nox e := hge
  refine ⟨_, pss_cons (ps_set (i := 1) hnd rfl (Or.inl hk) pe_non) (pss_cons (ps_try_keep (X := (cxOf C8.CX0 X.prog X.w X.K X.mg X.base [a, k, n] x sg g cdg X.A X.stack s H C8.E0).nox) (c := .ref CS) (i := 2)
      (tb := fun W D σ H => ∃ Ech : XK, (∀ cls d σ' H', Ech cls d H' → W cls d σ' H') ∧ σ[0]? = some (some (.ref f)) ∧ H c' = some (LamX.CodeO c' q) ∧ tl Ech H (fun _ H' => D.nx σ H'))
      rfl rfl hnd rfl hn ⟨hgl, hde, .inl hme⟩ LamX.takes0 rfl (fun W pn xe tk _ => ?_) (fun a' ob pn => pss_one (ps_set (i := 1) hnd rfl (Or.inl hk) (pe_var (i := 2) rfl (Or.inl hn) dn cn)))) (pss_one (ps_ret (pe_var (i := 1) rfl (Or.inl hk) dk ck)))), ?_⟩
  · refine ⟨fun pins s' σ H' D I h' => ?_⟩
    obtain ⟨Ech, hW, h1, h2, h3⟩ := h'
    have hp := act W pn xe Ech p3 p4 tk hW
    have hq := pss_one (ps_expr (pos := p5) hp)
    exact hq.run pins s' σ H' D I ⟨h1, h2, h3⟩
  · refine ⟨fun cls d H' => ∃ b, PySem.W.exmOne X.K cls (.ref CS) = some b ∧ (b = true → ∃ C, cls = .ref C ∧ ∀ a, H' a = none → Q (.ref a) (upd H' a (XO a C d))) ∧ (b = false → False), fun cls d σ' H' ⟨b, e1, e2, e3⟩ hl => ⟨b, e1, fun hb => ?_, fun hb => e3 hb⟩, rfl, hc, ?_⟩
    · obtain ⟨C, eC, hq⟩ := e2 hb
      refine ⟨C, eC, fun a' na => ?_⟩
      have hl3 : σ'.length = 3 := hl
      refine ⟨.ref a', ?_, fun hn' => ⟨.ref a', ?_, hq a' na⟩⟩
      · rw [List.getElem?_set_self (by omega)]
      · rw [List.getElem?_set_ne (by decide), List.getElem?_set_self (by rw [List.length_set]; omega)]
    · exact h
end ND
/-! a lambda handed to a def: what stays of the heap, told exactly -/
namespace ND
open PySem PySem.Spec PyProof.Rows L2 LamX
/-- all but the table at P stays -/
def ExtP (P : Addr) (H H' : Hp) : Prop := (∀ b o, b ≠ P → H b = some o → H' b = some o) ∧ ∃ qs, H' P = some (.tbl qs)
section
variable {X : Cx} {pins : List (Addr × Obj)} {σ : L2.St} {H : Hp} {s : Shared}
/-- where the lambda lies -/
structure LamAt (X : Cx) (H1 : Hp) (s' : Shared) (f c' : Addr) (ar : Arguments) (bd : Expr) (sc : Scope) (pm ctv : Value) : Prop where
  obj : s'.heap.get? f = some (PySem.W.kla_obj "<lambda>" (X.env.qual ++ "<lambda>") ar bd sc (cloFrom X.env.cells sc.names []) pm c' ctv)
  non : H1 f = none
  fr : f ∉ frs X.stack
  cod : H1 c' = some (CodeO c' (X.env.qual ++ "<lambda>"))
theorem lam_mk {T : List (Addr × Str)} {c P : Addr} {ar : Arguments} {bd : Expr} {sc : Scope} {pos : Pos} {E Q : Value → Shared → Prop} (I : Inv X pins σ H s) (B : TabB X.base X.mg c P) (hcode : X.env.code = .ref c)
    (hm : (P, X.env.qual ++ "<lambda>") ∈ T) (hu : ∀ p ∈ T, p.1 = P → p.2 = X.env.qual ++ "<lambda>") (hT : Tabs T H) (hdef : defaultsOf ar X.env = ([], [])) (hfree : ∀ y ∈ sc.names, y.2 = .free → ∃ c, X.env.cells.lookup y.1 = some c)
    (h : ∀ (f c' : Addr) (pm ctv : Value) (H1 : Hp) (s' : Shared), Inv X pins σ H1 s' → ExtP P H H1 → Tabs T H1 → LamAt X H1 s' f c' ar bd sc pm ctv → Q (.ref f) s') :
    wpAny (model X.prog X.w) X.A (eval (.Lambda ar bd sc pos) X.env) Q E s := by
  obtain ⟨qs, atP, tri, tells⟩ := hT _ hm
  have objP : s.heap.get? P = some { cls := .none, data := .fields qs } := I.hok P _ atP
  have bltP : s.heap.BuiltinsAt X.mg P := B.bm.keeps I.bk
  have above : ∀ f, s.heap.objs.size ≤ f → f ∉ frs X.stack := fun f hf z => by
    rcases List.mem_cons.mp (I.stkSub _ z) with e | e
    · have l1 := I.lt
      rw [← e] at l1
      exact Nat.lt_irrefl _ (Nat.lt_of_lt_of_le l1 hf)
    · exact I.nofs hf e
  refine PySem.W.kla_eval hdef ?_
  cases found : codeAmong pos qs.toList with
  | some cv =>
    obtain ⟨c', rfl, kno⟩ := tells pos cv found
    refine PySem.W.kla_makeFunctionHit (mg := X.mg) (c := c) (P := P) (ps := qs) (closure_ok hfree) I.ok.glob (I.mod.glob.keeps I.bk) hcode (B.code.keeps I.bk) objP tri found bltP fun ctv g tk grow size => ?_
    refine h g.objs.size c' ((X.mg "__name__").getD .none) ctv H _ (I.kept fun b o e => Heap.get?_push_of_some _ (grow b o e)) ⟨fun b o _ e => e, qs, atP⟩ hT ⟨Heap.get?_push_size _ rfl, I.hok.fresh size, above _ size, kno⟩
  | none =>
    refine PySem.W.kla_makeFunction (mg := X.mg) (c := c) (P := P) (ps := qs) (closure_ok hfree) I.ok.glob (I.mod.glob.keeps I.bk) hcode (B.code.keeps I.bk) objP tri found B.gP bltP fun c' ctv g tk grow ge lt rec tab => ?_
    obtain ⟨c2, oc, us, t, e2, hoc, hd, hv⟩ := rec
    cases e2
    have sz : s.heap.objs.size ≤ g.objs.size := Nat.le_trans ge (Nat.le_of_lt lt)
    have fresh : H c' = none := I.hok.fresh ge
    have cne : P ≠ c' := ne_of_none atP fresh
    generalize hmore : #[rawInt pos.line, rawInt pos.col, Value.ref c'] = more at tab
    have J := inv_table (t' := tk) (more := more) (q := X.env.qual ++ "<lambda>") (h' := g.push (PySem.W.kla_obj "<lambda>" (X.env.qual ++ "<lambda>") ar bd sc (cloFrom X.env.cells sc.names []) ((X.mg "__name__").getD .none) c' ctv)) I atP
      (fun b o hb e => Heap.get?_push_of_some _ (grow b o hb e)) (Heap.get?_push_of_some _ tab) ge ⟨oc, us, t, Heap.get?_push_of_some _ hoc, hd, hv⟩
    generalize hH1 : upd (upd H P (.tbl (qs ++ more))) c' (CodeO c' (X.env.qual ++ "<lambda>")) = H1 at J
    have k1 : ∀ b o, b ≠ P → H b = some o → H1 b = some o := fun b o hb e => by
      rw [← hH1, upd_ne (ne_of_none e fresh), upd_ne hb]
      exact e
    have tP : H1 P = some (.tbl (qs ++ more)) := by rw [← hH1, upd_ne cne, upd_same]
    have tc : H1 c' = some (CodeO c' (X.env.qual ++ "<lambda>")) := by rw [← hH1, upd_same]
    have spl : (qs ++ more).toList = qs.toList ++ [rawInt pos.line, rawInt pos.col, .ref c'] := by rw [← hmore]; simp
    have kc : ∀ {c0 : Addr} {z : Str}, H c0 = some (CodeO c0 z) → H1 c0 = some (CodeO c0 z) := fun {c0 z} e => k1 _ _ (fun y => by
      rw [y, atP] at e
      exact codeO_ne _ (Option.some.inj e).symm) e
    refine h g.objs.size c' ((X.mg "__name__").getD .none) ctv H1 _ J ⟨k1, _, tP⟩ (fun p hp => ?_) ⟨Heap.get?_push_size _ rfl, ?_, above _ sz, tc⟩
    · by_cases hb : p.1 = P
      · rw [hu p hp hb, hb]
        refine ⟨_, tP, by rw [spl]; exact PySem.TriplesOk_snoc _ _ _ _ tri, fun p' cv hcv => ?_⟩
        rw [spl] at hcv
        rcases among_app _ tri hcv with z | z
        · obtain ⟨c0, rfl, e2⟩ := tells p' cv z
          exact ⟨c0, rfl, kc e2⟩
        · exact ⟨c', z, tc⟩
      · obtain ⟨rs, a1, a2, a3⟩ := hT p hp
        refine ⟨rs, k1 _ _ hb a1, a2, fun p' cv hcv => ?_⟩
        obtain ⟨c0, rfl, e2⟩ := a3 p' cv hcv
        exact ⟨c0, rfl, kc e2⟩
    · have n2 : g.objs.size ≠ P := Nat.ne_of_gt (Nat.lt_of_lt_of_le (Heap.lt_size objP) sz)
      rw [← hH1, upd_ne (Nat.ne_of_gt lt), upd_ne n2]
      exact I.hok.fresh sz
/-- x(lambda: ..): what it reads -/
def tLamP (T : List (Addr × Str)) (P : Addr) (TT : (XK → Hp → VK → Prop) → Hp → VK → Prop) (t : XK → TE) : TE := fun σ H Q => Tabs T H ∧ ∀ H1, ExtP P H H1 → Tabs T H1 → TT (fun E H' Q' => t E σ H' Q') H1 Q
/-- the def that gets it -/
structure GetsL (K : PySem.W.Frag) (mg : Str → Option Value) (x a : Str) (Ng : List Str) (bg : List Stmt) (sg : Scope) (g : Addr) (cdg : Value) : Prop where
  m : mg x = some (.ref g)
  k : PySem.W.keepIn K (.ref g) = true
  f : ∃ (pg : Arguments) (dV kV doc pm ct oc : Value) (an od : Option Addr) (osl : Array (Option Value)), K.lookup g = some ⟨oc, od, .func (PySem.W.fnOf x x pg bg sg dV kV doc pm an cdg ct), osl⟩ ∧ L2.Binds K (PySem.W.fnOf x x pg bg sg dV kV doc pm an cdg ct) [a] []
  c : PySem.W.codeIn K cdg x = true
  s : FnScope Ng [a] sg
  n : Ng[0]? = some a
  v : Vis sg a
theorem pe_lamP {T : List (Addr × Str)} {TT : (XK → Hp → VK → Prop) → Hp → VK → Prop} {x a : Str} {g c P : Addr} {k : Nat} {bg : List Stmt} {sg : Scope} {cdv : Value} {Ng : List Str} {ar : Arguments} {bd : Expr} {sc : Scope} {t : XK → TE} {p lpos pos : Pos} (hg : Gl X x) (L0 : GetsL X.K X.mg x a Ng bg sg g cdv)
    (hG : GivesTo X Ng x sg g cdv bg a (X.env.qual ++ "<lambda>") TT)
    (TB : TabB X.base X.mg c P) (hcode : X.env.code = .ref c) (hmT : (P, X.env.qual ++ "<lambda>") ∈ T) (hu : ∀ p ∈ T, p.1 = P → p.2 = X.env.qual ++ "<lambda>") (hr : Room (k + 2) X.A) (L : LamS X.env.scope sc) (hdef : defaultsOf ar X.env = ([], []))
    (hbind : ∀ (q : Str) (cl : List (Str × Addr)) (pm cv ctv : Value), bindArgs (PySem.W.kla_fn "<lambda>" q ar bd sc cl pm cv ctv) ⟨[], []⟩ = pure [])
    (hbody : ∀ (A : Around) (outer : List Env) (s : Shared) (H : Hp) (E : XK) (f c' : Addr), Room k (A.deeper (lamEnv X sc s.heap.objs.size f c')) → PE (lamCx X A outer s H E sc f c') bd (t E))
    (hdb : (x == ("__debug__" : Str)) = false := by decide) (hd : (a == ("__debug__" : Str)) = false := by decide) (hcd : (a == ("__classdict__" : Str)) = false := by decide) :
    PE X (.Call (.Name x p) [.Lambda ar bd sc lpos] [] pos) (tLamP T P TT t) := by
  obtain ⟨hm, hk, ⟨pg, dV, kV, doc, pm, ct, oc, an, od, osl, lk, hb⟩, hcg, Sg, hNg, hva⟩ := L0
  refine ⟨fun pins s σ H Q I h => ?_⟩
  obtain ⟨hT, h⟩ := h
  refine wpAny_Call_Name_kw (ld_glob I hg hm (PySem.W.callWith_K (h₀ := X.base) I.ok.mod.kin hk ?_ (by rfl) (by rfl)) hdb)
  show wpAny _ _ (spliced ((false, eval (.Lambda ar bd sc lpos) X.env) :: backTo pos (starEach [] X.env))) _ _ s
  refine Calls.spliced_cons (lam_mk I TB hcode hmT hu hT hdef (L.has I.ok) fun f c' pm' ctv H1 s' I1 ext T1 la => Calls.spliced_nil ⟨I1.kIn, ?_⟩)
  have rc : codeAny (model X.prog X.w) X.A (.call (.ref g) ⟨[.ref f], []⟩) (CR C8.CX0 X.stack X.prog X.w H1 s' Q C8.E0) s' := run_ofS (N := Ng) (ps := [a]) (us := [.ref f]) (vs := [.ref f]) lk hcg Sg hr I1.env0 (hb s' [.ref f] I1.kIn rfl) (.cons rfl .nil) rfl fun hr' => by
    obtain ⟨t', ht', hq'⟩ := hG f c' s' H1 Q (fun E H' Q' => t E σ H' Q') (fun W pn xe E p1 p2 tk hW => pe_act (i := 0) I1 L la.obj la.non la.fr (hbind _ _ _ _ _) tk hW hr' (fun A outer s H hr2 => hbody A outer s H E f c' hr2) hNg hva hd hcd) la.cod (h H1 ext T1)
    exact ⟨t', ht'.nox, hq'⟩
  refine wpAny_call (codeAny_mono rc fun r s2 hq => ?_)
  match r, hq with
  | .error e, hq => exact (show False from hq).elim
  | .ok (.ret u), hq => exact I1.after hq
  | .ok .next, hq => exact hq.elim
  | .ok .brk, hq => exact hq.elim
  | .ok .cont, hq => exact hq.elim
end
end ND
/-! tuples whose objects have no dict of their own: their methods can be called -/
namespace ND
open PySem PySem.Spec PyProof.Rows L2
/-- a tuple without a dict -/
def GT (K : PySem.W.Frag) (G : Hp) (a : Addr) (vs : List V) : Prop := SqT K G a vs ∧ ∃ o : Obj, o.dict = none ∧ (G a = some (.frz o (.tup vs)) ∨ K.lookup a = some o)
theorem GT.mono {K : PySem.W.Frag} {G G' : Hp} {a : Addr} {vs : List V} (s : Same G G') (h : GT K G a vs) : GT K G' a vs := by
  obtain ⟨h1, o, h2, h3⟩ := h
  exact ⟨Evl.ex_t s h1, o, h2, h3.imp (s a _) fun z => z⟩
theorem GT.new {K : PySem.W.Frag} {G : Hp} {a : Addr} {vs : List V} {o : Obj} (h : G a = some (.frz o (.tup vs))) (ho : o.dict = none) : GT K G a vs := ⟨.inl (.inr ⟨o, h⟩), o, ho, .inl h⟩
def tupObj (its : List Value) : Obj := { cls := .type "tuple", data := .seq its.toArray }
section
variable {X : Cx} {pins : List (Addr × Obj)} {σ : L2.St} {H : Hp} {s : Shared}
theorem laidT {xs : List V} {its : List Value} (I : Inv X pins σ H s) (r : Vals xs its) (hz : xs.length ≤ sizeLine) :
    Inv X pins σ (upd H s.heap.objs.size (.frz (tupObj its) (.tup xs))) { s with heap := s.heap.push (tupObj its) } ∧ H s.heap.objs.size = none := by
  have hf := I.hok.fresh (Nat.le_refl s.heap.objs.size)
  refine ⟨I.laid (t' := s.toks) (fun c u e => Heap.get?_push_of_some _ e) (Nat.le_refl _) ?_, hf⟩
  have hg : (s.heap.push (tupObj its)).get? s.heap.objs.size = some (tupObj its) := Heap.get?_push_size _ rfl
  exact ⟨hg, hz, its, r, ⟨_, hg, rfl, _, rfl⟩⟩
def tTupF (t : TA) : TE := fun σ H Q => t σ H fun xs H1 => xs.length ≤ sizeLine ∧ ∀ p o, H1 p = none → o.dict = none → Q (.ref p) (upd H1 p (.frz o (.tup xs)))
theorem pe_tupF {es : List Expr} {t : TA} {pos : Pos} {x1} (h : PA X es t) : PE X (.Tuple es x1 pos) (tTupF t) := by
  constructor
  intro pins s σ H Q I hq
  refine wpAny_Tuple_spliced (thn (h.run pos pins s σ H _ I hq) fun us s1 hh => ?_)
  obtain ⟨xs, H1, I1, r, z, q⟩ := hh
  obtain ⟨J, hf⟩ := laidT I1 r z
  exact ⟨by rw [← r.length]; exact z, .ref _, _, J, rfl, q _ _ hf rfl⟩
def rTupOf (K : PySem.W.Frag) : List V → Hp → VK → Prop := fun xs H Q => ∃ p ys, xs = [.ref p] ∧ ((SqL K H p ys ∧ ∀ l o, H l = none → o.dict = none → Q (.ref l) (upd H l (.frz o (.tup ys)))) ∨ (SqT K H p ys ∧ Q (.ref p) H))
theorem call_tupF : CallR X (.type "tuple") (rTupOf X.K) := by
  intro pins s σ H xs us Q I r h
  obtain ⟨p, ys, rfl, h⟩ := h
  obtain ⟨u, rfl, rx⟩ := vals1 r
  cases rx
  rcases h with ⟨hs, q⟩ | ⟨hs, q⟩
  · obtain ⟨its, r', pl, hz⟩ := I.list hs
    have hl := r'.length
    refine call_tuple_list pl.isList (fun h' kp => ?_) (by simp only [List.size_toArray] <;> omega)
    obtain ⟨J, hf⟩ := laidT (I.kept (t' := s.toks) kp) r' hz
    exact ⟨.ref _, _, J, rfl, q _ _ hf rfl⟩
  · obtain ⟨its, _, pl, _⟩ := I.tuple hs
    exact call_tuple_same pl ⟨.ref _, H, I, rfl, q⟩
end
end ND
/-! t[::-1] of a tuple -/
namespace ND
open PySem PySem.Spec PyProof.Rows L2 HT
section
end
section
end
end ND
/-! plain data: what a def computes, without the heap -/
namespace ND
open PySem PySem.Spec PyProof.Rows L2
inductive D where
  | non
  | bl (b : Bool)
  | int (i : Int)
  | str (x : Str)
  | lst (xs : List D)
  | tup (xs : List D)
  | dct (kvs : List (Key × D))
  | ins (c : Str) (fs : List (Str × D))
  | exc (c : Str) (fs : List (Str × D))
  | drw
  deriving Inhabited
def tyNs : List String := ["NoneType", "bool", "int", "str", "list", "tuple", "dict"]
def errNames : List Str := ["PackError", "BadPack", "BadPlan", "BadFit", "TooMany", "NoPack", "Rolled", "NoCell", "BadState", "NoNight", "BadOrder", "BadChoice", "BadDeed", "BadSide", "Unlike", "BadRow", "NotPlain", "NotStill", "BadWorths", "BadDay", "BadNumber", "BadBounds", "BadShown", "NothingDone", "BadJournal", "BadText"]
def isaB (c c' : Str) : Bool := decide (c = c') || (decide (c' = "PackError") && decide (c ∈ errNames))
/-- what isinstance asks of the program's classes -/
structure ClsT (K : PySem.W.Frag) (cs xs : List Str) : Prop where
  ty : ∀ c ∈ cs, ClTy K (He.ga K c)
  xk : ∀ c ∈ xs, ExcK K (He.ga K c)
  bt : ∀ c ∈ cs ++ xs, ∀ n ∈ tyNs, PySem.W.kitOne K (.ref (He.ga K c)) (.type n) = some false
  tb : ∀ c ∈ cs ++ xs, ∀ n ∈ tyNs, PySem.W.kitOne K (.type n) (.ref (He.ga K c)) = some false
  oo : ∀ c ∈ cs ++ xs, ∀ c' ∈ cs ++ xs, PySem.W.kitOne K (.ref (He.ga K c)) (.ref (He.ga K c')) = some (isaB c c')
  xm : ∀ c ∈ xs, PySem.W.exmOne K (.ref (He.ga K c)) (.ref (He.ga K "PackError")) = some true
/-- the classes that the program has -/
def hasG (K : PySem.W.Frag) (c : Str) : Bool := match PySem.W.nsIn K mainGlobals c with
  | some (some (.ref _)) => true
  | _ => false
def allOwn : List Str := ["Pack", "Plan", "Drawn", "Sides", "Block", "Purse", "Read", "Desk"]
def ownCls (K : PySem.W.Frag) : List Str := allOwn.filter (hasG K)
def ownX (K : PySem.W.Frag) : List Str := errNames.filter (hasG K)
/-! the tables of the code objects that make lambdas -/
def codeOf (K : PySem.W.Frag) (x : Str) : Addr := match K.lookup (He.ga K x) with
  | some ⟨_, _, .func fd, _⟩ => (match fd.code with
    | .ref c => c
    | _ => 0)
  | _ => 0
def tabOf (K : PySem.W.Frag) (x : Str) : Addr := match K.lookup (codeOf K x) with
  | some ⟨_, _, .fields vs, _⟩ => (match vs.getD 11 .none with
    | .ref p => p
    | _ => 0)
  | _ => 0
def makers : List Str := ["_law_amounts_right", "_law_asked", "_law_due", "_law_first_errors", "_law_flow_right", "_law_flows_right", "_law_is_last_wrong", "_law_less_right", "_law_nested_sheet", "positions_of", "_law_read_right", "_law_refused", "_law_right", "_law_second_errors", "_law_worth_right", "law"]
def tbsOf (K : PySem.W.Frag) : List (Addr × Str) := (makers.filter (hasG K)).map fun x => (tabOf K x, x ++ ".<locals>." ++ "<lambda>")
/-- an error's object, as a value -/
def XAt (G : Hp) (b C : Addr) (fs : List (Str × V)) : Prop := ∃ d, G b = some (XO b C d) ∧ XFs G d fs
theorem XAt.mono {G G' : Hp} {b C : Addr} {fs : List (Str × V)} (s : Same G G') (h : XAt G b C fs) : XAt G' b C fs := by
  obtain ⟨d, h1, h2⟩ := h
  exact ⟨d, s _ _ h1, h2.mono s⟩
/-- a text that is plain -/
def SOk (x : Str) : Prop := x.length ≤ 100000 ∧ PyData.strOk x = true
/-- where a law runs: the draw at d; what may change of itself (vol), and what is known of it, n steps being left -/
structure Cfg (K : PySem.W.Frag) where
  d : Addr
  vol : Addr → Prop
  inv : Nat → Hp → Prop
  /-- what stands from the beginning on, and never changes -/
  fix : Addr → Option HO
  stab : ∀ n H H', inv n H → (∀ a, vol a → H' a = H a) → (∀ a φ, ¬ vol a → H a = some (.ext φ) → H' a = some (.ext φ)) → (∀ a o, fix a = some o → H' a = some o) → inv n H'
  trk : ∀ n H a, inv n H → vol a → H a ≠ none
  ct : ClsT K (ownCls K) (ownX K)
  /-- the dicts that are walked now -/
  lk : List Addr
  fixd : ∀ a kvs, fix a ≠ some (.dK kvs)
  tbo : ∀ n H, inv n H → LamX.Tabs (tbsOf K) H
  tbv : ∀ p ∈ tbsOf K, vol p.1
  tbx : ∀ n H H' p, p ∈ tbsOf K → inv n H → ExtP p.1 H H' → LamX.Tabs (tbsOf K) H' → inv n H'
  /-- the draw goes m steps on -/
  go : ∀ n m H, inv (n + m) H → ∃ aw ac T, Draw K d aw ac T H ∧ T + m + 20000 ≤ 2 ^ 40 ∧ vol d ∧ vol aw ∧ fix ac ≠ none ∧ ∀ H', Draw K d aw ac (T + m) H' → Keep d aw H H' → inv n H'
mutual
inductive Rq (K : PySem.W.Frag) (dr : Addr) (G : Hp) : V → D → Prop where
  | non : Rq K dr G .non .non
  | bl (b : Bool) : Rq K dr G (.bl b) (.bl b)
  | int (i : Int) : Rq K dr G (.int i) (.int i)
  | str (x : Str) (h : SOk x) : Rq K dr G (.str x) (.str x)
  | lst {a : Addr} {vs : List V} {xs : List D} (h : Rd G a (.lst vs)) (t : RqL K dr G vs xs) (l : xs.length ≤ 100000) : Rq K dr G (.ref a) (.lst xs)
  | tup {a : Addr} {vs : List V} {xs : List D} (h : GT K G a vs) (t : RqL K dr G vs xs) (l : xs.length ≤ 100000) : Rq K dr G (.ref a) (.tup xs)
  | dct {a : Addr} {kvs : List (Key × V)} {xs : List (Key × D)} (h : Rd G a (.dK kvs)) (e : kvs.map (·.1) = xs.map (·.1)) (t : RqL K dr G (kvs.map (·.2)) (xs.map (·.2))) (l : xs.length ≤ 100000) : Rq K dr G (.ref a) (.dct xs)
  | ins {a dx : Addr} {c : Str} {fs : List (Str × V)} {xs : List (Str × D)} (hc : c ∈ ownCls K) (h : G a = some (.ins (He.ga K c) dx fs)) (e : fs.map (·.1) = xs.map (·.1)) (t : RqL K dr G (fs.map (·.2)) (xs.map (·.2))) : Rq K dr G (.ref a) (.ins c xs)
  | exc {a : Addr} {c : Str} {fs : List (Str × V)} {xs : List (Str × D)} (hc : c ∈ ownX K) (h : XAt G a (He.ga K c) fs) (e : fs.map (·.1) = xs.map (·.1)) (t : RqL K dr G (fs.map (·.2)) (xs.map (·.2))) : Rq K dr G (.ref a) (.exc c xs)
  | drw : Rq K dr G (.ref dr) .drw
inductive RqL (K : PySem.W.Frag) (dr : Addr) (G : Hp) : List V → List D → Prop where
  | nil : RqL K dr G [] []
  | cons {v : V} {x : D} {vs : List V} {xs : List D} (h : Rq K dr G v x) (t : RqL K dr G vs xs) : RqL K dr G (v :: vs) (x :: xs)
end
abbrev Rep {K : PySem.W.Frag} (C : Cfg K) (G : Hp) : V → D → Prop := Rq K C.d G
abbrev RepL {K : PySem.W.Frag} (C : Cfg K) (G : Hp) : List V → List D → Prop := RqL K C.d G
theorem rd_mono {G G' : Hp} {a : Addr} {u : HO} (s : Same G G') (h : Rd G a u) : Rd G' a u := Evl.ex_rd s h
section
variable {K : PySem.W.Frag} {C : Cfg K} {G G' H : Hp}
mutual
theorem Rq.mono (s : Same G G') : ∀ {v : V} {x : D}, Rep C G v x → Rep C G' v x
  | _, _, .non => .non
  | _, _, .bl b => .bl b
  | _, _, .int n => .int n
  | _, _, .str z h => .str z h
  | _, _, .lst h t l => .lst (rd_mono s h) (RqL.mono s t) l
  | _, _, .tup h t l => .tup (h.mono s) (RqL.mono s t) l
  | _, _, .dct h e t l => .dct (rd_mono s h) e (RqL.mono s t) l
  | _, _, .ins hc h e t => .ins hc (s _ _ h) e (RqL.mono s t)
  | _, _, .exc hc h e t => .exc hc (h.mono s) e (RqL.mono s t)
  | _, _, .drw => .drw
theorem RqL.mono (s : Same G G') : ∀ {vs : List V} {xs : List D}, RepL C G vs xs → RepL C G' vs xs
  | _, _, .nil => .nil
  | _, _, .cons h t => .cons (Rq.mono s h) (RqL.mono s t)
end
theorem RqL.len : ∀ {vs : List V} {xs : List D}, RepL C G vs xs → vs.length = xs.length
  | _, _, .nil => rfl
  | _, _, .cons _ t => congrArg (· + 1) t.len
theorem RqL.at : ∀ {vs : List V} {xs : List D} {i : Nat} {v : V}, RepL C G vs xs → vs[i]? = some v → ∃ x, xs[i]? = some x ∧ Rep C G v x
  | _, _, 0, _, .cons h t, e => by
    cases e
    exact ⟨_, rfl, h⟩
  | _, _, i + 1, _, .cons h t, e => t.at (i := i) e
  | _, _, 0, _, .nil, e => nomatch e
  | _, _, i + 1, _, .nil, e => nomatch e
theorem RqL.at' : ∀ {vs : List V} {xs : List D} {i : Nat} {x : D}, RepL C G vs xs → xs[i]? = some x → ∃ v, vs[i]? = some v ∧ Rep C G v x
  | _, _, 0, _, .cons h t, e => by
    cases e
    exact ⟨_, rfl, h⟩
  | _, _, i + 1, _, .cons h t, e => t.at' (i := i) e
  | _, _, 0, _, .nil, e => nomatch e
  | _, _, i + 1, _, .nil, e => nomatch e
theorem RqL.app : ∀ {vs us : List V} {xs ys : List D}, RepL C G vs xs → RepL C G us ys → RepL C G (vs ++ us) (xs ++ ys)
  | _, _, _, _, .nil, s => s
  | _, _, _, _, .cons h t, s => .cons h (t.app s)
theorem RqL.set : ∀ {vs : List V} {xs : List D} {v : V} {x : D} (i : Nat), RepL C G vs xs → Rep C G v x → RepL C G (vs.set i v) (xs.set i x)
  | _, _, _, _, _, .nil, _ => .nil
  | _, _, _, _, 0, .cons _ t, h => .cons h t
  | _, _, _, _, i + 1, .cons g t, h => .cons g (t.set i h)
theorem RqL.take : ∀ {vs : List V} {xs : List D} (i : Nat), RepL C G vs xs → RepL C G (vs.take i) (xs.take i)
  | _, _, 0, _ => .nil
  | _, _, i + 1, .nil => .nil
  | _, _, i + 1, .cons h t => .cons h (t.take i)
theorem RqL.drop : ∀ {vs : List V} {xs : List D} (i : Nat), RepL C G vs xs → RepL C G (vs.drop i) (xs.drop i)
  | _, _, 0, t => t
  | _, _, i + 1, .nil => .nil
  | _, _, i + 1, .cons h t => t.drop i
theorem RqL.erase : ∀ {vs : List V} {xs : List D} (i : Nat), RepL C G vs xs → RepL C G (vs.eraseIdx i) (xs.eraseIdx i)
  | _, _, _, .nil => .nil
  | _, _, 0, .cons h t => t
  | _, _, i + 1, .cons h t => .cons h (t.erase i)
end
theorem nf_upd {G : Hp} {p : Addr} {o : HO} {l : List Addr} (h : ∀ a o kvs, G a = some (.frz o (.dK kvs)) → a ∈ l) (ho : noFrz o = true) : ∀ a o' kvs, upd G p o a = some (.frz o' (.dK kvs)) → a ∈ l := fun a o' kvs e => by
  by_cases ha : a = p
  · subst ha
    rw [upd_same] at e
    cases e
    cases ho
  · rw [upd_ne ha] at e
    exact h a o' kvs e
/-! ### the world -/
structure Wl {K : PySem.W.Frag} (C : Cfg K) (n : Nat) (G H : Hp) : Prop where
  sub : Same G H
  nv : ∀ a, C.vol a → G a = none
  fx : Same C.fix G
  nf : ∀ a o kvs, G a = some (.frz o (.dK kvs)) → a ∈ C.lk
  iv : C.inv n H
structure Ws {K : PySem.W.Frag} (C : Cfg K) (G0 H0 : Hp) (n : Nat) (G H : Hp) : Prop where
  w : Wl C n G H
  g : Same G0 G
  k : ∀ a o, ¬ C.vol a → H0 a = some o → H a = some o
  o : ∀ a, G0 a = none → H0 a ≠ none → G a = none
section
variable {K : PySem.W.Frag} {C : Cfg K} {n m : Nat} {G0 H0 G H G1 H1 : Hp} {p : Addr} {o o' : HO}
theorem Wl.nvol (w : Wl C n G H) (h : H p = none) : ¬ C.vol p := fun v => C.trk n H p w.iv v h
theorem Wl.gn (w : Wl C n G H) (h : H p = none) : G p = none := w.sub.free h
theorem Ws.dm (s : Ws C G0 H0 n G H) (h : H p = none) : H0 p = none := by
  cases e : H0 p with
  | none => rfl
  | some o =>
    rw [s.k p o (s.w.nvol h) e] at h
    cases h
theorem Ws.refl (w : Wl C n G H) : Ws C G H n G H := ⟨w, Same.refl _, fun _ _ _ h => h, fun _ h _ => h⟩
theorem Ws.trans (a : Ws C G0 H0 n G H) (b : Ws C G H m G1 H1) : Ws C G0 H0 m G1 H1 :=
  ⟨b.w, a.g.trans b.g, fun x o v h => b.k x o v (a.k x o v h), fun x h h1 => b.o x (a.o x h h1) fun z => h1 (a.dm z)⟩
/-- a new object that stays -/
theorem Ws.new (a : Ws C G0 H0 n G H) (np : H p = none) (ho : noFrz o = true := by rfl) : Ws C G0 H0 n (upd G p o) (upd H p o) := by
  have gp := a.w.gn np
  have nv := a.w.nvol np
  refine ⟨⟨same_both a.w.sub, fun x v => ?_, a.w.fx.trans (same_add gp), nf_upd a.w.nf ho, C.stab n H _ a.w.iv (fun x v => ?_) (fun x u _ h => ?_) ((a.w.fx.trans a.w.sub).trans (same_add np))⟩, fun x u h => ?_, fun x u v h => ?_, fun x h h1 => ?_⟩
  · rw [upd_ne (show x ≠ p from fun z => nv (z ▸ v))]; exact a.w.nv x v
  · rw [upd_ne (show x ≠ p from fun z => nv (z ▸ v))]
  · rw [upd_ne (ne_of_none h np)]; exact h
  · rw [upd_ne (ne_of_none (a.g x u h) gp)]; exact a.g x u h
  · rw [upd_ne (ne_of_none (a.k x u v h) np)]; exact a.k x u v h
  · rw [upd_ne (show x ≠ p from fun z => h1 (a.dm (z ▸ np)))]; exact a.o x h h1
/-- a new object that may change -/
theorem Ws.tmp (a : Ws C G0 H0 n G H) (np : H p = none) : Ws C G0 H0 n G (upd H p o) := by
  have gp := a.w.gn np
  have nv := a.w.nvol np
  refine ⟨⟨same_upd a.w.sub gp, a.w.nv, a.w.fx, a.w.nf, C.stab n H _ a.w.iv (fun x v => ?_) (fun x u _ h => ?_) ((a.w.fx.trans a.w.sub).trans (same_add np))⟩, a.g, fun x u v h => ?_, a.o⟩
  · rw [upd_ne (show x ≠ p from fun z => nv (z ▸ v))]
  · rw [upd_ne (ne_of_none h np)]; exact h
  · rw [upd_ne (ne_of_none (a.k x u v h) np)]; exact a.k x u v h
end
/-- an object of one's own -/
structure Own {K : PySem.W.Frag} (C : Cfg K) (H0 G H : Hp) (p : Addr) (o : HO) : Prop where
  h : H p = some o
  g : G p = none
  v : ¬ C.vol p
  n : H0 p = none
section
variable {K : PySem.W.Frag} {C : Cfg K} {n m : Nat} {G0 H0 G H G1 H1 : Hp} {p q : Addr} {o o' : HO}
theorem Own.step (l : Own C H0 G H p o) (s : Ws C G H n G1 H1) : Own C H0 G1 H1 p o :=
  ⟨s.k p o l.v l.h, s.o p l.g (by rw [l.h]; intro z; cases z), l.v, l.n⟩
theorem Own.oth (l : Own C H0 G H p o) (h : p ≠ q) : Own C H0 G (upd H q o') p o := ⟨by rw [upd_ne h]; exact l.h, l.g, l.v, l.n⟩
theorem Own.sealO (l : Own C H0 G H p o) (h : p ≠ q) : Own C H0 (upd G q o') H p o := ⟨l.h, by rw [upd_ne h]; exact l.g, l.v, l.n⟩
theorem Own.put (l : Own C H0 G H p o) : Own C H0 G (upd H p o') p o' := ⟨upd_same, l.g, l.v, l.n⟩
/-- it changes -/
theorem Ws.mut (a : Ws C G0 H0 n G H) (l : Own C H0 G H p o) (ho : ∀ φ, o ≠ .ext φ) : Ws C G0 H0 n G (upd H p o') := by
  refine ⟨⟨same_upd a.w.sub l.g, a.w.nv, a.w.fx, a.w.nf, C.stab n H _ a.w.iv (fun x v => ?_) (fun x φ v h => ?_) (a.w.fx.trans (same_upd a.w.sub l.g))⟩, a.g, fun x u v h => ?_, a.o⟩
  · rw [upd_ne (show x ≠ p from fun z => l.v (z ▸ v))]
  · rw [upd_ne (ne_of h l.h fun z => ho φ z.symm)]; exact h
  · rw [upd_ne (ne_of_none h l.n)]; exact a.k x u v h
/-- it stays as it is from now on -/
theorem Ws.seal (a : Ws C G0 H0 n G H) (l : Own C H0 G H p o) (ho : noFrz o = true) : Ws C G0 H0 n (upd G p o) H := by
  refine ⟨⟨same_seal a.w.sub l.h, fun x v => ?_, a.w.fx.trans (same_add l.g), nf_upd a.w.nf ho, a.w.iv⟩, fun x u h => ?_, a.k, fun x h h1 => ?_⟩
  · rw [upd_ne (show x ≠ p from fun z => l.v (z ▸ v))]; exact a.w.nv x v
  · rw [upd_ne (ne_of_none (a.g x u h) l.g)]; exact a.g x u h
  · rw [upd_ne (show x ≠ p from fun z => h1 (by rw [z]; exact l.n))]; exact a.o x h h1
end
/-! ### outcomes -/
inductive Out (α : Type) where
  | ok (a : α)
  | exc (c : Str) (fs : List (Str × D))
  | stuck
  | any (c : Nat) (P : D → Prop) (k : D → Out α)
namespace Out
variable {α β γ : Type}
def bind (o : Out α) (f : α → Out β) : Out β := match o with
  | .ok a => f a
  | .exc c fs => .exc c fs
  | .stuck => .stuck
  | .any c P k => .any c P fun d => (k d).bind f
/-- n: the steps that are left -/
def wp : Out α → Nat → (Nat → α → Prop) → (Nat → Str → List (Str × D) → Prop) → Prop
  | .ok a, n, Q, _ => Q n a
  | .exc c fs, n, _, E => E n c fs
  | .stuck, _, _, _ => False
  | .any c P k, n, Q, E => ∃ m, n = m + c ∧ ∀ d, P d → (k d).wp m Q E
theorem wp_mono {Q Q' : Nat → α → Prop} {E E' : Nat → Str → List (Str × D) → Prop} (hq : ∀ m a, Q m a → Q' m a) (he : ∀ m c fs, E m c fs → E' m c fs) : ∀ {o : Out α} {n : Nat}, o.wp n Q E → o.wp n Q' E'
  | .ok _, _, h => hq _ _ h
  | .exc _ _, _, h => he _ _ _ h
  | .stuck, _, h => h.elim
  | .any c P k, _, h => by
    obtain ⟨m, e, h⟩ := h
    exact ⟨m, e, fun d hd => wp_mono hq he (h d hd)⟩
theorem wp_bind {f : α → Out β} {Q : Nat → β → Prop} {E : Nat → Str → List (Str × D) → Prop} : ∀ {o : Out α} {n : Nat}, (o.bind f).wp n Q E → o.wp n (fun m a => (f a).wp m Q E) E
  | .ok _, _, h => h
  | .exc _ _, _, h => h
  | .stuck, _, h => h
  | .any c P k, _, h => by
    obtain ⟨m, e, h⟩ := h
    exact ⟨m, e, fun d hd => wp_bind (h d hd)⟩
theorem bind_wp {f : α → Out β} {Q : Nat → β → Prop} {E : Nat → Str → List (Str × D) → Prop} : ∀ {o : Out α} {n : Nat}, o.wp n (fun m a => (f a).wp m Q E) E → (o.bind f).wp n Q E
  | .ok _, _, h => h
  | .exc _ _, _, h => h
  | .stuck, _, h => h
  | .any c P k, _, h => by
    obtain ⟨m, e, h⟩ := h
    exact ⟨m, e, fun d hd => bind_wp (h d hd)⟩
@[simp] theorem ok_bind (a : α) (f : α → Out β) : (Out.ok a).bind f = f a := rfl
@[simp] theorem exc_bind (c : Str) (fs : List (Str × D)) (f : α → Out β) : (Out.exc c fs).bind f = .exc c fs := rfl
@[simp] theorem stuck_bind (f : α → Out β) : (Out.stuck : Out α).bind f = .stuck := rfl
@[simp] theorem any_bind (c : Nat) (P : D → Prop) (k : D → Out α) (f : α → Out β) : (Out.any c P k).bind f = .any c P fun d => (k d).bind f := rfl
theorem bind_assoc (f : α → Out β) (g : β → Out γ) : ∀ o : Out α, (o.bind f).bind g = o.bind fun a => (f a).bind g
  | .ok _ => rfl
  | .exc _ _ => rfl
  | .stuck => rfl
  | .any c P k => by
    show Out.any c P (fun d => ((k d).bind f).bind g) = Out.any c P fun d => (k d).bind fun a => (f a).bind g
    congr 1
    funext d
    exact bind_assoc f g (k d)
end Out
/-- an object's content -/
def ORep {K : PySem.W.Frag} (C : Cfg K) (G : Hp) : HO → D → Prop
  | .lst vs, .lst xs => xs.length ≤ 100000 ∧ RepL C G vs xs
  | .dK kvs, .dct xs => xs.length ≤ 100000 ∧ kvs.map (·.1) = xs.map (·.1) ∧ RepL C G (kvs.map (·.2)) (xs.map (·.2))
  | .ins a _ fs, .ins c xs => (c ∈ ownCls K ∧ a = He.ga K c) ∧ fs.map (·.1) = xs.map (·.1) ∧ RepL C G (fs.map (·.2)) (xs.map (·.2))
  | _, _ => False
/-- what is seen: it stays, or it stands now -/
def RepV {K : PySem.W.Frag} (C : Cfg K) (G H : Hp) (v : V) (d : D) : Prop := Rep C G v d ∨ ∃ p o, v = .ref p ∧ H p = some o ∧ ¬ C.vol p ∧ ORep C G o d
section
variable {K : PySem.W.Frag} {C : Cfg K} {n m : Nat} {G0 H0 G H G1 H1 : Hp} {p : Addr} {o : HO} {d : D} {v : V}
theorem ORep.mono (s : Same G G1) (h : ORep C G o d) : ORep C G1 o d := by
  cases o <;> cases d <;> first | exact h.elim | exact RqL.mono s h | exact ⟨h.1, RqL.mono s h.2⟩ | exact ⟨h.1, h.2.1, RqL.mono s h.2.2⟩
theorem ORep.nf (h : ORep C G o d) : noFrz o = true := by
  cases o with
  | frz a b => cases d <;> exact h.elim
  | _ => rfl
theorem ORep.rep (h : ORep C G o d) (hp : G p = some o) : Rep C G (.ref p) d := by
  cases o <;> cases d <;> first | exact h.elim | exact .lst (.inl hp) h.2 h.1 | exact .dct (.inl hp) h.2.1 h.2.2 h.1 | skip
  obtain ⟨⟨hc, rfl⟩, h1, h2⟩ := h
  exact .ins hc hp h1 h2
theorem RepV.step (h : RepV C G H v d) (s : Ws C G H n G1 H1) : RepV C G1 H1 v d := by
  rcases h with h | ⟨p, o, rfl, hp, nv, r⟩
  · exact .inl (h.mono s.g)
  · exact .inr ⟨p, o, rfl, s.k p o nv hp, nv, r.mono s.g⟩
theorem RepV.non (h : RepV C G H v .non) : v = .non := by
  rcases h with h | ⟨p, o, rfl, hp, nv, r⟩
  · cases h; rfl
  · cases o <;> exact r.elim
theorem RepV.bl {b : Bool} (h : RepV C G H v (.bl b)) : v = .bl b := by
  rcases h with h | ⟨p, o, rfl, hp, nv, r⟩
  · cases h; rfl
  · cases o <;> exact r.elim
theorem RepV.int {i : Int} (h : RepV C G H v (.int i)) : v = .int i := by
  rcases h with h | ⟨p, o, rfl, hp, nv, r⟩
  · cases h; rfl
  · cases o <;> exact r.elim
theorem RepV.str {x : Str} (h : RepV C G H v (.str x)) : v = .str x ∧ SOk x := by
  rcases h with h | ⟨p, o, rfl, hp, nv, r⟩
  · cases h with
    | str _ h => exact ⟨rfl, h⟩
  · cases o <;> exact r.elim
theorem RepV.lst {xs : List D} (s : Same G H) (h : RepV C G H v (.lst xs)) : ∃ a vs, v = .ref a ∧ Rd H a (.lst vs) ∧ RepL C G vs xs ∧ xs.length ≤ 100000 := by
  rcases h with h | ⟨p, o, rfl, hp, nv, r⟩
  · cases h with
    | lst h t l => exact ⟨_, _, rfl, rd_mono s h, t, l⟩
  · cases o <;> first | exact r.elim | exact ⟨_, _, rfl, .inl hp, r.2, r.1⟩
theorem RepV.tup {xs : List D} (s : Same G H) (h : RepV C G H v (.tup xs)) : ∃ a vs, v = .ref a ∧ SqT K H a vs ∧ RepL C G vs xs ∧ xs.length ≤ 100000 := by
  rcases h with h | ⟨p, o, rfl, hp, nv, r⟩
  · cases h with
    | tup h t l => exact ⟨_, _, rfl, Evl.ex_t s h.1, t, l⟩
  · cases o <;> exact r.elim
theorem RepV.dct {xs : List (Key × D)} (s : Same G H) (h : RepV C G H v (.dct xs)) : ∃ a kvs, v = .ref a ∧ Rd H a (.dK kvs) ∧ kvs.map (·.1) = xs.map (·.1) ∧ RepL C G (kvs.map (·.2)) (xs.map (·.2)) ∧ xs.length ≤ 100000 := by
  rcases h with h | ⟨p, o, rfl, hp, nv, r⟩
  · cases h with
    | dct h e t l => exact ⟨_, _, rfl, rd_mono s h, e, t, l⟩
  · cases o <;> first | exact r.elim | exact ⟨_, _, rfl, .inl hp, r.2.1, r.2.2, r.1⟩
theorem RepV.ins {c : Str} {xs : List (Str × D)} (s : Same G H) (h : RepV C G H v (.ins c xs)) : ∃ a dx fs, v = .ref a ∧ c ∈ ownCls K ∧ H a = some (.ins (He.ga K c) dx fs) ∧ fs.map (·.1) = xs.map (·.1) ∧ RepL C G (fs.map (·.2)) (xs.map (·.2)) := by
  rcases h with h | ⟨p, o, rfl, hp, nv, r⟩
  · cases h with
    | ins hc h e t => exact ⟨_, _, _, rfl, hc, s _ _ h, e, t⟩
  · cases o <;> first | exact r.elim | (obtain ⟨⟨hc, rfl⟩, h1, h2⟩ := r; exact ⟨_, _, _, rfl, hc, hp, h1, h2⟩)
end
end ND
/-! values of one's own at every depth: trees -/
namespace ND
open PySem PySem.Spec PyProof.Rows L2
/-- what of a value may still change: nothing; it and alike all in it; it and what is named -/
inductive Sh where
  | fz
  | al (s : Sh)
  | so (ks : List (Str × Sh))
def Sh.isFz : Sh → Bool
  | .fz => true
  | _ => false
def kidV : HO → List V
  | .lst vs => vs
  | .dK kvs => kvs.map (·.2)
  | .ins _ _ fs => fs.map (·.2)
  | _ => []
def kidD : D → List D
  | .lst xs => xs
  | .dct xs => xs.map (·.2)
  | .ins _ xs => xs.map (·.2)
  | _ => []
def shOf (f : Str) : List (Str × Sh) → Sh
  | [] => .fz
  | p :: r => if p.1 = f then p.2 else shOf f r
def shK (ks : List (Str × Sh)) : Key → Sh
  | .inl _ => .fz
  | .inr f => shOf f ks
/-- by place -/
def ixS : List (Str × Sh) → List V → List Sh
  | _, [] => []
  | [], _ :: vs => .fz :: ixS [] vs
  | p :: ks, _ :: vs => p.2 :: ixS ks vs
def shAt : List (Str × Sh) → Nat → Sh
  | [], _ => .fz
  | p :: _, 0 => p.2
  | _ :: ks, j + 1 => shAt ks j
theorem ixS_len : ∀ {ks : List (Str × Sh)} {vs : List V}, (ixS ks vs).length = vs.length
  | [], [] => rfl
  | _ :: _, [] => rfl
  | [], _ :: vs => congrArg (· + 1) (ixS_len (ks := []) (vs := vs))
  | _ :: ks, _ :: vs => congrArg (· + 1) (ixS_len (ks := ks) (vs := vs))
theorem ixS_at : ∀ {ks : List (Str × Sh)} {vs : List V} {j : Nat}, j < vs.length → (ixS ks vs)[j]? = some (shAt ks j)
  | _, [], _, h => absurd h (by simp)
  | [], _ :: vs, 0, _ => rfl
  | [], _ :: vs, j + 1, h => by
    show (ixS [] vs)[j]? = _
    rw [ixS_at (Nat.lt_of_succ_lt_succ h)]
    rfl
  | p :: ks, _ :: vs, 0, _ => rfl
  | p :: ks, _ :: vs, j + 1, h => by
    show (ixS ks vs)[j]? = _
    exact ixS_at (Nat.lt_of_succ_lt_succ h)
def kidS : Sh → HO → List Sh
  | .fz, o => (kidV o).map fun _ => .fz
  | .al s, o => (kidV o).map fun _ => s
  | .so ks, .dK kvs => kvs.map fun kv => shK ks kv.1
  | .so ks, .ins _ _ fs => fs.map fun x => shOf x.1 ks
  | .so ks, .lst vs => ixS ks vs
  | .so _, o => (kidV o).map fun _ => .fz
def Hdr (K : PySem.W.Frag) : HO → D → Prop
  | .lst _, .lst xs => xs.length ≤ 100000
  | .dK kvs, .dct xs => xs.length ≤ 100000 ∧ kvs.map (·.1) = xs.map (·.1)
  | .ins a _ fs, .ins c xs => (c ∈ ownCls K ∧ a = He.ga K c) ∧ fs.map (·.1) = xs.map (·.1)
  | _, _ => False
mutual
inductive Tr {K : PySem.W.Frag} (C : Cfg K) (H0 G H : Hp) : Sh → List Addr → V → D → Prop where
  | rep {v : V} {d : D} (h : Rep C G v d) : Tr C H0 G H .fz [] v d
  | nod {s : Sh} {p : Addr} {o : HO} {as : List Addr} {d : D} (hs : s.isFz = false) (l : Own C H0 G H p o) (h : Hdr K o d) (t : TrL C H0 G H (kidS s o) as (kidV o) (kidD d)) (np : p ∉ as) : Tr C H0 G H s (p :: as) (.ref p) d
inductive TrL {K : PySem.W.Frag} (C : Cfg K) (H0 G H : Hp) : List Sh → List Addr → List V → List D → Prop where
  | nil : TrL C H0 G H [] [] [] []
  | cons {s : Sh} {as : List Addr} {v : V} {x : D} {ss : List Sh} {bs : List Addr} {vs : List V} {xs : List D} (h : Tr C H0 G H s as v x) (t : TrL C H0 G H ss bs vs xs) (dj : ∀ a ∈ as, a ∉ bs) : TrL C H0 G H (s :: ss) (as ++ bs) (v :: vs) (x :: xs)
end
section
variable {K : PySem.W.Frag} {C : Cfg K} {n m : Nat} {G0 H0 G H G1 H1 : Hp} {p q : Addr} {o o' : HO} {d : D} {v : V} {s : Sh} {as : List Addr}
theorem orep_iff : ORep C G o d ↔ Hdr K o d ∧ RepL C G (kidV o) (kidD d) := by
  cases o <;> cases d <;> first | exact ⟨fun h => h.elim, fun h => h.1.elim⟩ | exact ⟨fun h => ⟨h.1, h.2⟩, fun h => ⟨h.1, h.2⟩⟩ | exact ⟨fun h => ⟨⟨h.1, h.2.1⟩, h.2.2⟩, fun h => ⟨h.1.1, h.1.2, h.2⟩⟩
theorem Hdr.nf (h : Hdr K o d) : noFrz o = true := by
  cases o with
  | frz a b => cases d <;> exact h.elim
  | _ => rfl
theorem Hdr.nx (h : Hdr K o d) : ∀ φ, o ≠ .ext φ := by
  rintro φ rfl
  cases d <;> exact h.elim
/-! trees stand when their own objects do -/
mutual
theorem Tr.gen {C' : Cfg K} {H0' G1 H1 : Hp} (a : ∀ {v : V} {d : D}, Rep C G v d → Rep C' G1 v d) : ∀ {s : Sh} {as : List Addr} {v : V} {d : D}, (∀ x ∈ as, ∀ o, Own C H0 G H x o → Own C' H0' G1 H1 x o) → Tr C H0 G H s as v d → Tr C' H0' G1 H1 s as v d
  | _, _, _, _, _, .rep h => .rep (a h)
  | _, _, _, _, hh, .nod hs l h t np => .nod hs (hh _ List.mem_cons_self _ l) h (TrL.gen a (fun x hx => hh x (List.mem_cons_of_mem _ hx)) t) np
theorem TrL.gen {C' : Cfg K} {H0' G1 H1 : Hp} (a : ∀ {v : V} {d : D}, Rep C G v d → Rep C' G1 v d) : ∀ {ss : List Sh} {as : List Addr} {vs : List V} {xs : List D}, (∀ x ∈ as, ∀ o, Own C H0 G H x o → Own C' H0' G1 H1 x o) → TrL C H0 G H ss as vs xs → TrL C' H0' G1 H1 ss as vs xs
  | _, _, _, _, _, .nil => .nil
  | _, _, _, _, hh, .cons h t dj => .cons (Tr.gen a (fun x hx => hh x (List.mem_append_left _ hx)) h) (TrL.gen a (fun x hx => hh x (List.mem_append_right _ hx)) t) dj
end
theorem Tr.xfer (a : Same G G1) (hg : ∀ x ∈ as, G x = none → H x ≠ none → G1 x = none) (hh : ∀ x ∈ as, ∀ o, ¬ C.vol x → H x = some o → H1 x = some o) (h : Tr C H0 G H s as v d) : Tr C H0 G1 H1 s as v d :=
  h.gen (fun z => z.mono a) fun x hx o l => ⟨hh x hx o l.v l.h, hg x hx l.g (by rw [l.h]; intro z; cases z), l.v, l.n⟩
theorem TrL.xfer {ss : List Sh} {vs : List V} {xs : List D} (a : Same G G1) (hg : ∀ x ∈ as, G x = none → H x ≠ none → G1 x = none) (hh : ∀ x ∈ as, ∀ o, ¬ C.vol x → H x = some o → H1 x = some o) (h : TrL C H0 G H ss as vs xs) : TrL C H0 G1 H1 ss as vs xs :=
  h.gen (fun z => z.mono a) fun x hx o l => ⟨hh x hx o l.v l.h, hg x hx l.g (by rw [l.h]; intro z; cases z), l.v, l.n⟩
theorem Tr.step (h : Tr C H0 G H s as v d) (z : Ws C G H n G1 H1) : Tr C H0 G1 H1 s as v d := h.xfer z.g (fun x _ hg hh => z.o x hg hh) (fun x _ o hv ho => z.k x o hv ho)
theorem TrL.step {ss : List Sh} {vs : List V} {xs : List D} (h : TrL C H0 G H ss as vs xs) (z : Ws C G H n G1 H1) : TrL C H0 G1 H1 ss as vs xs := h.xfer z.g (fun x _ hg hh => z.o x hg hh) (fun x _ o hv ho => z.k x o hv ho)
theorem Tr.oth (h : Tr C H0 G H s as v d) (hq : q ∉ as) : Tr C H0 G (upd H q o') s as v d := h.xfer (Same.refl _) (fun x _ hg _ => hg) (fun x hx o _ ho => by rw [upd_ne (show x ≠ q from fun z => hq (z ▸ hx))]; exact ho)
theorem TrL.oth {ss : List Sh} {vs : List V} {xs : List D} (h : TrL C H0 G H ss as vs xs) (hq : q ∉ as) : TrL C H0 G (upd H q o') ss as vs xs := h.xfer (Same.refl _) (fun x _ hg _ => hg) (fun x hx o _ ho => by rw [upd_ne (show x ≠ q from fun z => hq (z ▸ hx))]; exact ho)
theorem Tr.sealO (h : Tr C H0 G H s as v d) (hq : q ∉ as) (g : G q = none) : Tr C H0 (upd G q o') H s as v d := h.xfer (same_add g) (fun x hx hg _ => by rw [upd_ne (show x ≠ q from fun z => hq (z ▸ hx))]; exact hg) (fun x _ o _ ho => ho)
mutual
theorem Tr.own : ∀ {s : Sh} {as : List Addr} {v : V} {d : D}, Tr C H0 G H s as v d → ∀ x ∈ as, ∃ o, Own C H0 G H x o
  | _, _, _, _, .rep _, _, h => nomatch h
  | _, _, _, _, .nod _ l _ t _, x, h => by
    rcases List.mem_cons.mp h with rfl | h
    · exact ⟨_, l⟩
    · exact TrL.own t x h
theorem TrL.own : ∀ {ss : List Sh} {as : List Addr} {vs : List V} {xs : List D}, TrL C H0 G H ss as vs xs → ∀ x ∈ as, ∃ o, Own C H0 G H x o
  | _, _, _, _, .nil, _, h => nomatch h
  | _, _, _, _, .cons h t _, x, hx => by
    rcases List.mem_append.mp hx with hx | hx
    · exact Tr.own h x hx
    · exact TrL.own t x hx
end
/-! from now on it stays as it is -/
mutual
theorem Tr.frz0 : ∀ {s : Sh} {as : List Addr} {v : V} {d : D}, Tr C H0 G H s as v d → ∀ {Gc : Hp}, Ws C G0 H0 n Gc H → Same G Gc → (∀ x ∈ as, Gc x = none) → ∃ G', Ws C G0 H0 n G' H ∧ Same Gc G' ∧ Rep C G' v d ∧ ∀ x, x ∉ as → G' x = Gc x
  | _, _, _, _, .rep h, Gc, w, a, _ => ⟨Gc, w, Same.refl _, h.mono a, fun _ _ => rfl⟩
  | _, _, _, d, .nod (p := p) (o := o) (as := as) _ l h t np, Gc, w, a, hn => by
    obtain ⟨G1, w1, a1, r1, e1⟩ := TrL.frz0 t w a fun x hx => hn x (List.mem_cons_of_mem _ hx)
    have l1 : Own C H0 G1 H p o := ⟨l.h, by rw [e1 p np]; exact hn p List.mem_cons_self, l.v, l.n⟩
    refine ⟨upd G1 p o, w1.seal l1 h.nf, a1.trans (same_add l1.g), ?_, fun x hx => ?_⟩
    · exact (orep_iff.mpr ⟨h, RqL.mono (same_add l1.g) r1⟩).rep upd_same
    · rw [upd_ne (show x ≠ p from fun z => hx (z ▸ List.mem_cons_self))]
      exact e1 x fun z => hx (List.mem_cons_of_mem _ z)
theorem TrL.frz0 : ∀ {ss : List Sh} {as : List Addr} {vs : List V} {xs : List D}, TrL C H0 G H ss as vs xs → ∀ {Gc : Hp}, Ws C G0 H0 n Gc H → Same G Gc → (∀ x ∈ as, Gc x = none) → ∃ G', Ws C G0 H0 n G' H ∧ Same Gc G' ∧ RepL C G' vs xs ∧ ∀ x, x ∉ as → G' x = Gc x
  | _, _, _, _, .nil, Gc, w, a, _ => ⟨Gc, w, Same.refl _, .nil, fun _ _ => rfl⟩
  | _, _, _, _, .cons (as := as) (bs := bs) h t dj, Gc, w, a, hn => by
    obtain ⟨G1, w1, a1, r1, e1⟩ := Tr.frz0 h w a fun x hx => hn x (List.mem_append_left _ hx)
    obtain ⟨G2, w2, a2, r2, e2⟩ := TrL.frz0 t w1 (a.trans a1) fun x hx => by
      rw [e1 x fun z => dj x z hx]
      exact hn x (List.mem_append_right _ hx)
    refine ⟨G2, w2, a1.trans a2, .cons (r1.mono a2) r2, fun x hx => ?_⟩
    rw [e2 x fun z => hx (List.mem_append_right _ z), e1 x fun z => hx (List.mem_append_left _ z)]
end
theorem Tr.frz (h : Tr C H0 G H s as v d) (w : Ws C G0 H0 n G H) : ∃ G', Ws C G0 H0 n G' H ∧ Same G G' ∧ Rep C G' v d ∧ ∀ x, x ∉ as → G' x = G x := h.frz0 w (Same.refl _) fun x hx => (h.own x hx).choose_spec.g
/-- but one object, and what stays in it -/
theorem TrL.fz {vs : List V} {xs : List D} : ∀ {ss : List Sh} {as : List Addr} {vs : List V} {xs : List D}, TrL C H0 G H ss as vs xs → (∀ s ∈ ss, s = .fz) → as = [] ∧ RepL C G vs xs
  | _, _, _, _, .nil, _ => ⟨rfl, .nil⟩
  | _, _, _, _, .cons h t _, hs => by
    obtain ⟨rfl, r⟩ := TrL.fz (vs := vs) (xs := xs) t fun s hm => hs s (List.mem_cons_of_mem _ hm)
    have := hs _ List.mem_cons_self
    subst this
    cases h with
    | rep h => exact ⟨rfl, .cons h r⟩
    | nod hs _ _ _ _ => exact nomatch hs
theorem RqL.tr : ∀ {vs : List V} {xs : List D} {ss : List Sh}, RepL C G vs xs → ss.length = vs.length → (∀ s ∈ ss, s = .fz) → TrL C H0 G H ss [] vs xs
  | _, _, [], .nil, _, _ => .nil
  | _, _, s :: ss, .cons h t, hl, hs => by
    have := hs s List.mem_cons_self
    subst this
    exact TrL.cons (as := []) (bs := []) (.rep h) (t.tr (Nat.succ.inj hl) fun s hm => hs s (List.mem_cons_of_mem _ hm)) (fun _ z => nomatch z)
  | _, _, _ :: _, .nil, hl, _ => nomatch hl
  | _, _, [], .cons _ _, hl, _ => nomatch hl
theorem kidS_len : (kidS s o).length = (kidV o).length := by
  cases s <;> cases o <;> simp [kidS, kidV, ixS_len]
theorem Tr.one (h : Tr C H0 G H (.al .fz) as v d) : ∃ p o, v = .ref p ∧ as = [p] ∧ Own C H0 G H p o ∧ ORep C G o d := by
  cases h with
  | nod hs l h t np =>
    obtain ⟨rfl, r⟩ := TrL.fz (vs := []) (xs := []) t fun s hm => by
      obtain ⟨_, _, rfl⟩ := List.mem_map.mp hm
      rfl
    exact ⟨_, _, rfl, rfl, l, orep_iff.mpr ⟨h, r⟩⟩
theorem Own.tr (l : Own C H0 G H p o) (r : ORep C G o d) : Tr C H0 G H (.al .fz) [p] (.ref p) d := by
  obtain ⟨h, r⟩ := orep_iff.mp r
  exact .nod rfl l h (r.tr kidS_len fun s hm => by
    obtain ⟨_, _, rfl⟩ := List.mem_map.mp hm
    rfl) (fun z => nomatch z)
theorem Tr.mem (h : Tr C H0 G H s as v d) (hs : s.isFz = false) : ∃ p o bs, v = .ref p ∧ as = p :: bs ∧ Own C H0 G H p o ∧ Hdr K o d ∧ TrL C H0 G H (kidS s o) bs (kidV o) (kidD d) ∧ p ∉ bs := by
  cases h with
  | rep => exact nomatch hs
  | nod _ l h t np => exact ⟨_, _, _, rfl, rfl, l, h, t, np⟩
end
/-! ### ways into a value -/
inductive Way where
  | fld (f : Str)
  | key (k : Key)
  | ix (j : Nat)
def ixK (k : Key) : List (Key × D) → Option Nat
  | [] => none
  | p :: r => if p.1 = k then some 0 else (ixK k r).map (· + 1)
def ixF (f : Str) : List (Str × D) → Option Nat
  | [] => none
  | p :: r => if p.1 = f then some 0 else (ixF f r).map (· + 1)
/-- which of what is in it -/
def ixOf : Way → D → Option Nat
  | .ix j, .lst xs => if j < xs.length then some j else none
  | .key k, .dct kvs => ixK k kvs
  | .fld f, .ins _ fs => ixF f fs
  | _, _ => none
def kid (st : Way) (d : D) : Option D := (ixOf st d).bind fun j => (kidD d)[j]?
def setK (k : Key) (x : D) : List (Key × D) → List (Key × D)
  | [] => []
  | p :: r => if p.1 = k then (p.1, x) :: r else p :: setK k x r
def setF (f : Str) (x : D) : List (Str × D) → List (Str × D)
  | [] => []
  | p :: r => if p.1 = f then (p.1, x) :: r else p :: setF f x r
def putKid (st : Way) (x : D) (d : D) : D := match st, d with
  | .ix j, .lst xs => .lst (xs.set j x)
  | .key k, .dct kvs => .dct (setK k x kvs)
  | .fld f, .ins c fs => .ins c (setF f x fs)
  | _, _ => d
def subD : List Way → D → Option D
  | [], d => some d
  | st :: π, d => (kid st d).bind (subD π)
def putP : List Way → D → D → D
  | [], e, _ => e
  | st :: π, e, d => match kid st d with
    | some x => putKid st (putP π e x) d
    | none => d
def shS (st : Way) : Sh → Sh
  | .fz => .fz
  | .al s => s
  | .so ks => match st with
    | .fld f => shOf f ks
    | .key k => shK ks k
    | .ix j => shAt ks j
def shP : List Way → Sh → Sh
  | [], s => s
  | st :: π, s => shP π (shS st s)
theorem shP_fz : ∀ {π : List Way}, shP π .fz = .fz
  | [] => rfl
  | _ :: π => shP_fz (π := π)
theorem ixK_lt {k : Key} : ∀ {kvs : List (Key × D)} {j : Nat}, ixK k kvs = some j → ∃ x, kvs[j]? = some (k, x)
  | [], _, h => nomatch h
  | p :: r, j, h => by
    unfold ixK at h
    by_cases e : p.1 = k
    · rw [if_pos e] at h
      cases h
      exact ⟨p.2, by rw [← e]; rfl⟩
    · rw [if_neg e] at h
      obtain ⟨i, hi, rfl⟩ := Option.map_eq_some_iff.mp h
      obtain ⟨x, hx⟩ := ixK_lt hi
      exact ⟨x, hx⟩
theorem ixF_lt {f : Str} : ∀ {kvs : List (Str × D)} {j : Nat}, ixF f kvs = some j → ∃ x, kvs[j]? = some (f, x)
  | [], _, h => nomatch h
  | p :: r, j, h => by
    unfold ixF at h
    by_cases e : p.1 = f
    · rw [if_pos e] at h
      cases h
      exact ⟨p.2, by rw [← e]; rfl⟩
    · rw [if_neg e] at h
      obtain ⟨i, hi, rfl⟩ := Option.map_eq_some_iff.mp h
      obtain ⟨x, hx⟩ := ixF_lt hi
      exact ⟨x, hx⟩
theorem setK_ix {k : Key} {x : D} : ∀ {kvs : List (Key × D)} {j : Nat}, ixK k kvs = some j → (setK k x kvs).map (·.2) = (kvs.map (·.2)).set j x ∧ (setK k x kvs).map (·.1) = kvs.map (·.1)
  | [], _, h => nomatch h
  | p :: r, j, h => by
    unfold ixK at h
    unfold setK
    by_cases e : p.1 = k
    · rw [if_pos e] at h ⊢
      cases h
      exact ⟨rfl, rfl⟩
    · rw [if_neg e] at h ⊢
      obtain ⟨i, hi, rfl⟩ := Option.map_eq_some_iff.mp h
      obtain ⟨h1, h2⟩ := setK_ix (x := x) hi
      exact ⟨congrArg (p.2 :: ·) h1, congrArg (p.1 :: ·) h2⟩
theorem setF_ix {f : Str} {x : D} : ∀ {kvs : List (Str × D)} {j : Nat}, ixF f kvs = some j → (setF f x kvs).map (·.2) = (kvs.map (·.2)).set j x ∧ (setF f x kvs).map (·.1) = kvs.map (·.1)
  | [], _, h => nomatch h
  | p :: r, j, h => by
    unfold ixF at h
    unfold setF
    by_cases e : p.1 = f
    · rw [if_pos e] at h ⊢
      cases h
      exact ⟨rfl, rfl⟩
    · rw [if_neg e] at h ⊢
      obtain ⟨i, hi, rfl⟩ := Option.map_eq_some_iff.mp h
      obtain ⟨h1, h2⟩ := setF_ix (x := x) hi
      exact ⟨congrArg (p.2 :: ·) h1, congrArg (p.1 :: ·) h2⟩
theorem ix_lst {i j : Nat} {xs : List D} (h : ixOf (.ix i) (.lst xs) = some j) : i = j ∧ j < xs.length := by
  have h : (if i < xs.length then some i else none) = some j := h
  by_cases hl : i < xs.length
  · rw [if_pos hl] at h
    cases h
    exact ⟨rfl, hl⟩
  · rw [if_neg hl] at h
    cases h
theorem putKid_kids {st : Way} {x d : D} {j : Nat} (h : ixOf st d = some j) : kidD (putKid st x d) = (kidD d).set j x := by
  cases st <;> cases d <;> first | exact absurd (show (none : Option Nat) = some _ from h) (by intro z; cases z) | skip
  · exact (setF_ix h).1
  · exact (setK_ix h).1
  · obtain ⟨rfl, _⟩ := ix_lst h
    rfl
theorem Hdr.put {K : PySem.W.Frag} {o : HO} {st : Way} {x d : D} {j : Nat} (h : ixOf st d = some j) (hd : Hdr K o d) : Hdr K o (putKid st x d) := by
  cases st <;> cases d <;> first | exact absurd (show (none : Option Nat) = some _ from h) (by intro z; cases z) | skip
  · cases o <;> first | exact hd.elim | skip
    exact ⟨hd.1, hd.2.trans (setF_ix h).2.symm⟩
  · cases o <;> first | exact hd.elim | skip
    refine ⟨?_, hd.2.trans (setK_ix h).2.symm⟩
    have e := congrArg List.length (setK_ix (x := x) h).2
    rw [List.length_map, List.length_map] at e
    show (setK _ _ _).length ≤ 100000
    rw [e]
    exact hd.1
  · cases o <;> first | exact hd.elim | skip
    show (List.set _ _ _).length ≤ 100000
    rw [List.length_set]
    exact hd
section
variable {K : PySem.W.Frag} {C : Cfg K} {n m : Nat} {G0 H0 G H G1 H1 H' : Hp} {p q : Addr} {o o' : HO} {d e : D} {v u : V} {s : Sh} {as : List Addr}
/-- the j-th in it has the shape that its name has -/
theorem kidS_at {st : Way} {j : Nat} (hd : Hdr K o d) (hl : (kidV o).length = (kidD d).length) (h : ixOf st d = some j) : (kidS s o)[j]? = some (shS st s) := by
  cases s with
  | fz =>
    have : j < (kidV o).length := by
      rw [hl]
      cases st <;> cases d <;> first | exact absurd (show (none : Option Nat) = some _ from h) (by intro z; cases z) | skip
      · obtain ⟨x, hx⟩ := ixF_lt h
        have := (List.getElem?_eq_some_iff.mp hx).1
        show j < (List.map _ _).length
        rw [List.length_map]; exact this
      · obtain ⟨x, hx⟩ := ixK_lt h
        have := (List.getElem?_eq_some_iff.mp hx).1
        show j < (List.map _ _).length
        rw [List.length_map]; exact this
      · exact (ix_lst h).2
    show ((kidV o).map fun _ => Sh.fz)[j]? = _
    rw [List.getElem?_map, List.getElem?_eq_getElem this]
    rfl
  | al s =>
    have : j < (kidV o).length := by
      rw [hl]
      cases st <;> cases d <;> first | exact absurd (show (none : Option Nat) = some _ from h) (by intro z; cases z) | skip
      · obtain ⟨x, hx⟩ := ixF_lt h
        have := (List.getElem?_eq_some_iff.mp hx).1
        show j < (List.map _ _).length
        rw [List.length_map]; exact this
      · obtain ⟨x, hx⟩ := ixK_lt h
        have := (List.getElem?_eq_some_iff.mp hx).1
        show j < (List.map _ _).length
        rw [List.length_map]; exact this
      · exact (ix_lst h).2
    show ((kidV o).map fun _ => s)[j]? = _
    rw [List.getElem?_map, List.getElem?_eq_getElem this]
    rfl
  | so ks =>
    cases st <;> cases d <;> first | exact absurd (show (none : Option Nat) = some _ from h) (by intro z; cases z) | skip
    · rename_i f c fs
      cases o <;> first | exact hd.elim | skip
      rename_i a dx us
      obtain ⟨x, hx⟩ := ixF_lt h
      have e := congrArg (fun l => l[j]?) hd.2
      simp only [List.getElem?_map, hx] at e
      show (us.map fun x => shOf x.1 ks)[j]? = some (shOf f ks)
      obtain ⟨y, hy, e⟩ := Option.map_eq_some_iff.mp e
      rw [List.getElem?_map, hy]
      show some (shOf y.1 ks) = _
      rw [e]
    · rename_i k kvs
      cases o <;> first | exact hd.elim | skip
      rename_i us
      obtain ⟨x, hx⟩ := ixK_lt h
      have e := congrArg (fun l => l[j]?) hd.2
      simp only [List.getElem?_map, hx] at e
      show (us.map fun x => shK ks x.1)[j]? = some (shK ks k)
      obtain ⟨y, hy, e⟩ := Option.map_eq_some_iff.mp e
      rw [List.getElem?_map, hy]
      show some (shK ks y.1) = _
      rw [e]
    · rename_i i xs
      cases o <;> first | exact hd.elim | skip
      rename_i us
      have hj : j < xs.length := (ix_lst h).2
      have hl : us.length = xs.length := hl
      show (ixS ks us)[j]? = some (shAt ks i)
      rw [ixS_at (by omega), (ix_lst h).1]
theorem TrL.len : ∀ {ss : List Sh} {as : List Addr} {vs : List V} {xs : List D}, TrL C H0 G H ss as vs xs → vs.length = xs.length
  | _, _, _, _, .nil => rfl
  | _, _, _, _, .cons _ t _ => congrArg (· + 1) t.len
/-- one of them, and how it may be otherwise -/
theorem TrL.at : ∀ {ss : List Sh} {as : List Addr} {vs : List V} {xs : List D} {j : Nat} {s : Sh} {x : D}, TrL C H0 G H ss as vs xs → ss[j]? = some s → xs[j]? = some x →
    ∃ u cs, vs[j]? = some u ∧ Tr C H0 G H s cs u x ∧ (∀ a ∈ cs, a ∈ as) ∧ ∀ {H' : Hp} {ds : List Addr} {x' : D}, Tr C H0 G H' s ds u x' → (∀ a ∈ as, a ∉ cs → H' a = H a) → (∀ a ∈ ds, a ∈ cs ∨ a ∉ as) → ∃ as', TrL C H0 G H' ss as' vs (xs.set j x') ∧ ∀ a ∈ as', a ∈ as ∨ a ∈ ds
  | _, _, _, _, 0, _, _, .cons (as := as) (bs := bs) (v := v) h t dj, e1, e2 => by
    cases e1
    cases e2
    refine ⟨v, as, rfl, h, fun a ha => List.mem_append_left _ ha, fun {H' ds x'} h' hk hn => ⟨ds ++ bs, .cons h' ?_ fun a ha hb => ?_, fun a ha => ?_⟩⟩
    · refine t.xfer (Same.refl _) (fun x _ hg _ => hg) fun x hx o _ ho => ?_
      rw [hk x (List.mem_append_right _ hx) fun z => dj x z hx]
      exact ho
    · rcases hn a ha with h | h
      · exact dj a h hb
      · exact h (List.mem_append_right _ hb)
    · rcases List.mem_append.mp ha with h | h
      · exact .inr h
      · exact .inl (List.mem_append_right _ h)
  | _, _, _, _, j + 1, _, _, .cons (as := as) (bs := bs) (v := v) h t dj, e1, e2 => by
    obtain ⟨u, cs, hu, hc, hs, hk⟩ := t.at (j := j) e1 e2
    refine ⟨u, cs, hu, hc, fun a ha => List.mem_append_right _ (hs a ha), fun {H' ds x'} h' hk' hn => ?_⟩
    obtain ⟨as', t', ha'⟩ := hk h' (fun a ha hc => hk' a (List.mem_append_right _ ha) hc) fun a ha => (hn a ha).imp id fun z z' => z (List.mem_append_right _ z')
    refine ⟨as ++ as', .cons ?_ t' fun a ha hb => ?_, fun a ha => ?_⟩
    · refine h.xfer (Same.refl _) (fun x _ hg _ => hg) fun x hx o _ ho => ?_
      rw [hk' x (List.mem_append_left _ hx) fun z => dj x hx (hs x z)]
      exact ho
    · rcases ha' a hb with h | h
      · exact dj a ha h
      · rcases hn a h with z | z
        · exact dj a ha (hs a z)
        · exact z (List.mem_append_left _ ha)
    · rcases List.mem_append.mp ha with h | h
      · exact .inl (List.mem_append_left _ h)
      · exact (ha' a h).imp (fun z => List.mem_append_right _ z) id
/-- the way from a value into it, in the heap -/
inductive Rch {K : PySem.W.Frag} (C : Cfg K) (H : Hp) : V → D → List Way → V → D → Prop where
  | nil {v : V} {d : D} : Rch C H v d [] v d
  | cons {p : Addr} {o : HO} {d e e' : D} {st : Way} {π : List Way} {j : Nat} {u w : V} (nv : ¬ C.vol p) (h : H p = some o) (hd : Hdr K o d) (hi : ixOf st d = some j) (hu : (kidV o)[j]? = some u) (hx : (kidD d)[j]? = some e) (t : Rch C H u e π w e') : Rch C H (.ref p) d (st :: π) w e'
theorem Rch.sub : ∀ {π : List Way} {v u : V} {d e : D}, Rch C H v d π u e → subD π d = some e
  | _, _, _, _, _, .nil => rfl
  | _, _, _, _, _, .cons (st := st) (d := d) _ h hd hi hu hx t => by
    show (kid st d).bind _ = _
    unfold kid
    rw [hi]
    show ((kidD d)[_]?).bind _ = _
    rw [hx]
    exact t.sub
theorem Rch.step (s : Ws C G H n G1 H1) : ∀ {π : List Way} {v u : V} {d e : D}, Rch C H v d π u e → Rch C H1 v d π u e
  | _, _, _, _, _, .nil => .nil
  | _, _, _, _, _, .cons nv h hd hi hu hx t => .cons nv (s.k _ _ nv h) hd hi hu hx (t.step s)
theorem kid_ix {st : Way} {x : D} (h : kid st d = some x) : ∃ j, ixOf st d = some j ∧ (kidD d)[j]? = some x := by
  unfold kid at h
  cases hi : ixOf st d with
  | none => rw [hi] at h; cases h
  | some j => rw [hi] at h; exact ⟨j, rfl, h⟩
/-- what a way leads to, and how it may be otherwise -/
theorem Tr.at : ∀ {π : List Way} {s : Sh} {as : List Addr} {v : V} {d e : D}, Tr C H0 G H s as v d → subD π d = some e → (π ≠ [] → (shP π.dropLast s).isFz = false) →
    ∃ u cs, Tr C H0 G H (shP π s) cs u e ∧ Rch C H v d π u e ∧ (∀ a ∈ cs, a ∈ as) ∧ ((shP π s).isFz = false → ∀ {H' : Hp} {ds : List Addr} {e' : D}, Tr C H0 G H' (shP π s) ds u e' → (∀ a ∈ as, a ∉ cs → H' a = H a) → (∀ a ∈ ds, a ∈ cs ∨ a ∉ as) → ∃ as', Tr C H0 G H' s as' v (putP π e' d) ∧ ∀ a ∈ as', a ∈ as ∨ a ∈ ds)
  | [], s, as, v, d, e, h, he, _ => by
    cases he
    exact ⟨v, as, h, .nil, fun _ z => z, fun _ {H' ds e'} h' _ _ => ⟨ds, h', fun _ z => .inr z⟩⟩
  | st :: π, s, as, v, d, e, h, he, hf => by
    have hs : s.isFz = false := by
      cases hb : s.isFz with
      | false => rfl
      | true =>
        have : s = .fz := by cases s <;> first | rfl | cases hb
        subst this
        have := hf (fun z => nomatch z)
        cases π with
        | nil => exact this
        | cons x π => rw [show (st :: x :: π).dropLast = st :: (x :: π).dropLast from rfl] at this; rw [show shP (st :: (x :: π).dropLast) .fz = shP (x :: π).dropLast .fz from rfl, shP_fz] at this; exact this
    obtain ⟨p, o, bs, rfl, rfl, l, hd, t, np⟩ := h.mem hs
    obtain ⟨x, hx, he⟩ := Option.bind_eq_some_iff.mp (show (kid st d).bind (subD π) = some e from he)
    obtain ⟨j, hi, hxj⟩ := kid_ix hx
    have hks := kidS_at (s := s) hd t.len hi
    obtain ⟨u, cs, hu, hc, hsub, hk⟩ := t.at hks hxj
    obtain ⟨w, ds, hw, hr, hds, hk2⟩ := Tr.at (π := π) hc he (fun hne => by
      have := hf (fun z => nomatch z)
      cases π with
      | nil => exact absurd rfl hne
      | cons y π => exact this)
    have hk := @hk
    refine ⟨w, ds, hw, .cons l.v l.h hd hi hu hxj hr, fun a ha => List.mem_cons_of_mem _ (hsub a (hds a ha)), fun hnf {H' es e'} h' hkeep hnew => ?_⟩
    obtain ⟨cs', hc', hcs'⟩ := hk2 hnf h' (fun a ha hn => hkeep a (List.mem_cons_of_mem _ (hsub a ha)) hn) fun a ha => (hnew a ha).imp id fun z z' => z (List.mem_cons_of_mem _ (hsub a z'))
    have hp : p ∉ ds := fun z => np (hsub p (hds p z))
    have hpe : H' p = H p := hkeep p List.mem_cons_self hp
    obtain ⟨bs', t', hbs'⟩ := hk (x' := putP π e' x) hc' (fun a ha hn => hkeep a (List.mem_cons_of_mem _ ha) fun z => hn (hds a z)) fun a ha => by
      rcases hcs' a ha with h1 | h1
      · exact .inl h1
      · rcases hnew a h1 with h2 | h2
        · exact .inl (hds a h2)
        · exact .inr fun z => h2 (List.mem_cons_of_mem _ z)
    refine ⟨p :: bs', ?_, fun a ha => ?_⟩
    · rw [show putP (st :: π) e' d = putKid st (putP π e' x) d by show (match kid st d with | some x => putKid st (putP π e' x) d | none => d) = _; rw [hx]]
      refine .nod hs ⟨by rw [hpe]; exact l.h, l.g, l.v, l.n⟩ (hd.put hi) (by rw [putKid_kids hi]; exact t') fun z => ?_
      rcases hbs' p z with h1 | h1
      · exact np h1
      · rcases hcs' p h1 with h2 | h2
        · exact np (hsub p h2)
        · rcases hnew p h2 with h3 | h3
          · exact hp h3
          · exact h3 List.mem_cons_self
    · rcases List.mem_cons.mp ha with rfl | ha
      · exact .inl List.mem_cons_self
      · rcases hbs' a ha with h1 | h1
        · exact .inl (List.mem_cons_of_mem _ h1)
        · rcases hcs' a h1 with h2 | h2
          · exact .inl (List.mem_cons_of_mem _ (hsub a h2))
          · exact .inr h2
end
end ND
/-! what a reading does, by plain data: the judgements and the plain rules -/
namespace ND
open PySem PySem.Spec PyProof.Rows L2
inductive Md where
  | un
  | fr
  | ow (a : Option Addr)
  | lk
  | dp (a : Option Addr) (s : Sh)
  | lw (w : Way)
def Md.isOw : Md → Bool
  | .ow _ => true
  | _ => false
abbrev Rho := List D
section
variable {K : PySem.W.Frag}
/-- a dict that is walked now -/
def LkAt (C : Cfg K) (G : Hp) (a : Addr) (d : D) : Prop := ∃ o kvs xs, d = .dct xs ∧ G a = some (.frz o (.dK kvs)) ∧ kvs.map (·.1) = xs.map (·.1) ∧ RepL C G (kvs.map (·.2)) (xs.map (·.2)) ∧ xs.length ≤ 100000
/-- what stands one step on, in the heap; as a value -/
def ChV (G : Hp) (w : Way) (v : V) (a : Addr) : Prop := match w with
  | .key k => ∃ b kvs, v = .ref b ∧ Rd G b (.dK kvs) ∧ valV kvs k = some (.ref a)
  | .fld f => ∃ b C dx fs, v = .ref b ∧ G b = some (.ins C dx fs) ∧ fs.lookup f = some (.ref a)
  | .ix _ => False
def kidW (w : Way) (d : D) : Option D := match w, d with
  | .key k, .dct kvs => (kvs.find? fun kv => decide (kv.1 = k)).map (·.2)
  | .fld f, .ins _ fs => fs.lookup f
  | _, _ => none
theorem ChV.mono {G G' : Hp} {w : Way} {v : V} {a : Addr} (s : Same G G') (h : ChV G w v a) : ChV G' w v a := by
  cases w with
  | key k =>
    obtain ⟨b, kvs, h1, h2, h3⟩ := h
    exact ⟨b, kvs, h1, rd_mono s h2, h3⟩
  | fld f =>
    obtain ⟨b, C, dx, fs, h1, h2, h3⟩ := h
    exact ⟨b, C, dx, fs, h1, s _ _ h2, h3⟩
  | ix j => exact h.elim
def Slot (C : Cfg K) (H0 G H : Hp) (m : Md) (s : Option (Option V)) (d : D) : Prop := match m with
  | .un => True
  | .fr => ∃ v, s = some (some v) ∧ Rep C G v d
  | .ow a => ∃ p o, s = some (some (.ref p)) ∧ Own C H0 G H p o ∧ ORep C G o d ∧ ∀ q, a = some q → p = q
  | .lk => ∃ a, s = some (some (.ref a)) ∧ LkAt C G a d
  | .dp _ _ => True
  | .lw w => ∃ v a e, s = some (some v) ∧ Rep C G v d ∧ ChV G w v a ∧ kidW w d = some e ∧ LkAt C G a e
/-- the slot of one's own at every depth: it is alone of its kind -/
def DpOk (C : Cfg K) (H0 : Hp) (Γ : List Md) (G H : Hp) (σ : L2.St) (ρ : Rho) : Prop := ∀ i a s, Γ.getD i .un = .dp a s →
  (∃ v as, σ[i]? = some (some v) ∧ Tr C H0 G H s as v (ρ.getD i .non) ∧ s.isFz = false ∧ (∀ q, a = some q → v = .ref q) ∧ ∀ j p, (Γ.getD j .un).isOw = true → σ[j]? = some (some (.ref p)) → p ∉ as) ∧ ∀ j b s', Γ.getD j .un = .dp b s' → j = i
structure Er (C : Cfg K) (H0 : Hp) (Γ : List Md) (G H : Hp) (σ : L2.St) (ρ : Rho) : Prop where
  sl : ∀ i, Slot C H0 G H (Γ.getD i .un) σ[i]? (ρ.getD i .non)
  dj : ∀ i j p, i ≠ j → (Γ.getD i .un).isOw = true → (Γ.getD j .un).isOw = true → σ[i]? = some (some (.ref p)) → σ[j]? ≠ some (some (.ref p))
  lg : Γ.length ≤ σ.length
  lr : ρ.length = σ.length
  dp : DpOk C H0 Γ G H σ ρ
/-- what is wanted behind an expression -/
def PQ (C : Cfg K) (G H : Hp) (Q : VK) : Nat → D → Prop := fun m d => ∀ v G' H', Ws C G H m G' H' → Rep C G' v d → Q v H'
def PV_ (C : Cfg K) (G H : Hp) (Q : VK) : Nat → D → Prop := fun m d => ∀ v G' H', Ws C G H m G' H' → RepV C G' H' v d → Q v H'
def PN (C : Cfg K) (G H : Hp) (Q : VK) : Nat → D → Prop := fun m d => ∀ p o G' H', Ws C G H m G' H' → H p = none → G' p = none → H' p = some o → ORep C G' o d → Q (.ref p) H'
def PX (C : Cfg K) (G H : Hp) (E : XK) : Nat → Str → List (Str × D) → Prop := fun m c fs => ∀ a us G' H', c ∈ ownX K → Ws C G H m G' H' → XFs G' a us → us.map (·.1) = fs.map (·.1) → RepL C G' (us.map (·.2)) (fs.map (·.2)) → E (.ref (He.ga K c)) a H'
def SimE (C : Cfg K) (E : XK) (Γ : List Md) (t : TE) (φ : Rho → Out D) : Prop := ∀ H0 n G H σ ρ Q, Wl C n G H → Er C H0 Γ G H σ ρ → (φ ρ).wp n (PQ C G H Q) (PX C G H E) → t σ H Q
def SimV (C : Cfg K) (E : XK) (Γ : List Md) (t : TE) (φ : Rho → Out D) : Prop := ∀ H0 n G H σ ρ Q, Wl C n G H → Er C H0 Γ G H σ ρ → (φ ρ).wp n (PV_ C G H Q) (PX C G H E) → t σ H Q
def SimN (C : Cfg K) (E : XK) (Γ : List Md) (t : TE) (φ : Rho → Out D) : Prop := ∀ H0 n G H σ ρ Q, Wl C n G H → Er C H0 Γ G H σ ρ → (φ ρ).wp n (PN C G H Q) (PX C G H E) → t σ H Q
def SimT (C : Cfg K) (E : XK) (Γ : List Md) (t : TT) (φ : Rho → Out Bool) : Prop := ∀ H0 n G H σ ρ Q, Wl C n G H → Er C H0 Γ G H σ ρ → (φ ρ).wp n (fun m b => ∀ G' H', Ws C G H m G' H' → Q b H') (PX C G H E) → t σ H Q
def SimA (C : Cfg K) (E : XK) (Γ : List Md) (k : Nat) (t : TA) (φ : Rho → Out (List D)) : Prop := ∀ H0 n G H σ ρ Q, Wl C n G H → Er C H0 Γ G H σ ρ → (φ ρ).wp n (fun m ds => ∀ vs G' H', Ws C G H m G' H' → RepL C G' vs ds → ds.length = k → Q vs H') (PX C G H E) → t σ H Q
/-- arguments that are but seen -/
inductive RepVL (C : Cfg K) (G H : Hp) : List V → List D → Prop where
  | nil : RepVL C G H [] []
  | cons {v : V} {x : D} {vs : List V} {xs : List D} (h : RepV C G H v x) (t : RepVL C G H vs xs) : RepVL C G H (v :: vs) (x :: xs)
def SimB (C : Cfg K) (E : XK) (Γ : List Md) (k : Nat) (t : TA) (φ : Rho → Out (List D)) : Prop := ∀ H0 n G H σ ρ Q, Wl C n G H → Er C H0 Γ G H σ ρ → (φ ρ).wp n (fun m ds => ∀ vs G' H', Ws C G H m G' H' → RepVL C G' H' vs ds → ds.length = k → Q vs H') (PX C G H E) → t σ H Q
end
section
variable {K : PySem.W.Frag} {C : Cfg K} {E : XK} {Γ Γ' : List Md} {n m : Nat} {H0 G H G1 H1 G2 H2 : Hp} {σ : L2.St} {ρ : Rho} {Q : VK}
theorem Er.step (e : Er C H0 Γ G H σ ρ) (s : Ws C G H n G1 H1) : Er C H0 Γ G1 H1 σ ρ := by
  refine ⟨fun i => ?_, e.dj, e.lg, e.lr, fun i a s' h => ?_⟩
  rotate_left
  · obtain ⟨⟨v, as, h1, h2, h3⟩, h4⟩ := e.dp i a s' h
    exact ⟨⟨v, as, h1, h2.step s, h3⟩, h4⟩
  have h := e.sl i
  cases hm : Γ.getD i .un with
  | un => exact True.intro
  | fr =>
    rw [hm] at h
    obtain ⟨v, h1, h2⟩ := h
    exact ⟨v, h1, h2.mono s.g⟩
  | ow a =>
    rw [hm] at h
    obtain ⟨p, o, h1, h2, h3, h4⟩ := h
    exact ⟨p, o, h1, h2.step s, h3.mono s.g, h4⟩
  | lk =>
    rw [hm] at h
    obtain ⟨a, h1, o, kvs, xs, h2, h3, h4, h5, h6⟩ := h
    exact ⟨a, h1, o, kvs, xs, h2, s.g _ _ h3, h4, h5.mono s.g, h6⟩
  | dp a s' => exact True.intro
  | lw w =>
    rw [hm] at h
    obtain ⟨v, a, x, h1, h2, h3, h4, o, kvs, xs, h5, h6, h7, h8, h9⟩ := h
    exact ⟨v, a, x, h1, h2.mono s.g, h3.mono s.g, h4, o, kvs, xs, h5, s.g _ _ h6, h7, h8.mono s.g, h9⟩
theorem Er.fr (e : Er C H0 Γ G H σ ρ) {i : Nat} (hi : Γ[i]? = some .fr) : ∃ v, σ[i]? = some (some v) ∧ Rep C G v (ρ.getD i .non) := by
  have h := e.sl i
  rw [List.getD_eq_getElem?_getD, hi] at h
  exact h
theorem Er.ow (e : Er C H0 Γ G H σ ρ) {i : Nat} {a : Option Addr} (hi : Γ[i]? = some (.ow a)) : ∃ p o, σ[i]? = some (some (.ref p)) ∧ Own C H0 G H p o ∧ ORep C G o (ρ.getD i .non) ∧ ∀ q, a = some q → p = q := by
  have h := e.sl i
  rw [List.getD_eq_getElem?_getD, hi] at h
  exact h
theorem PQ.back {d : D} (s : Ws C G H n G1 H1) (h : PQ C G H Q m d) : PQ C G1 H1 Q m d := fun v G' H' s' => h v G' H' (s.trans s')
theorem PN.back {d : D} (s : Ws C G H n G1 H1) (h : PN C G H Q m d) : PN C G1 H1 Q m d := fun p o G' H' s' hp => h p o G' H' (s.trans s') (s.dm hp)
theorem PX.back {c : Str} {fs : List (Str × D)} (s : Ws C G H n G1 H1) (h : PX C G H E m c fs) : PX C G1 H1 E m c fs := fun a us G' H' hc s' => h a us G' H' hc (s.trans s')
/-- sealed: a new object that stays -/
theorem Ws.fresh (s : Ws C G H n G1 H1) {p : Addr} {o : HO} (np : H p = none) (gp : G1 p = none) (hp : H1 p = some o) (w : Wl C m G H) (ho : noFrz o = true) : Ws C G H n (upd G1 p o) H1 := by
  have nv : ¬ C.vol p := w.nvol np
  refine ⟨⟨same_seal s.w.sub hp, fun x v => ?_, s.w.fx.trans (same_add gp), nf_upd s.w.nf ho, s.w.iv⟩, fun x u h => ?_, s.k, fun x h h1 => ?_⟩
  · rw [upd_ne (show x ≠ p from fun z => nv (z ▸ v))]; exact s.w.nv x v
  · rw [upd_ne (ne_of_none (s.g x u h) gp)]; exact s.g x u h
  · rw [upd_ne (show x ≠ p from fun z => h1 (by rw [z]; exact np))]; exact s.o x h h1
theorem SimN.e {t : TE} {φ : Rho → Out D} (h : SimN C E Γ t φ) : SimE C E Γ t φ := fun H0 n G H σ ρ Q w e q =>
  h H0 n G H σ ρ Q w e (Out.wp_mono (fun m d k p o G' H' s np gp hp r => k (.ref p) (upd G' p o) H' (s.fresh np gp hp w r.nf) ((r.mono (same_add gp)).rep upd_same)) (fun _ _ _ z => z) q)
theorem SimE.v {t : TE} {φ : Rho → Out D} (h : SimE C E Γ t φ) : SimV C E Γ t φ := fun H0 n G H σ ρ Q w e q =>
  h H0 n G H σ ρ Q w e (Out.wp_mono (fun m d k v G' H' s r => k v G' H' s (.inl r)) (fun _ _ _ z => z) q)
theorem SimN.v {t : TE} {φ : Rho → Out D} (h : SimN C E Γ t φ) : SimV C E Γ t φ := h.e.v
/-! ### names and constants -/
def eVar (i : Nat) : Rho → Out D := fun ρ => .ok (ρ.getD i .non)
def eC (d : D) : Rho → Out D := fun _ => .ok d
theorem sm_var {i : Nat} (hi : Γ[i]? = some .fr) : SimE C E Γ (tVar i) (eVar i) := fun H0 n G H σ ρ Q w e q => by
  obtain ⟨v, h1, h2⟩ := e.fr hi
  exact ⟨v, h1, q v G H (Ws.refl w) h2⟩
theorem sm_own {i : Nat} {b : Option Addr} (hi : Γ[i]? = some (.ow b)) : SimV C E Γ (tVar i) (eVar i) := fun H0 n G H σ ρ Q w e q => by
  obtain ⟨p, o, h1, h2, h3, _⟩ := e.ow hi
  exact ⟨_, h1, q _ G H (Ws.refl w) (.inr ⟨p, o, rfl, h2.h, h2.v, h3⟩)⟩
theorem sm_non : SimE C E Γ (tC .non) (eC .non) := fun H0 n G H σ ρ Q w e q => q _ G H (Ws.refl w) .non
theorem sm_bl {b : Bool} : SimE C E Γ (tC (.bl b)) (eC (.bl b)) := fun H0 n G H σ ρ Q w e q => q _ G H (Ws.refl w) (.bl b)
theorem sm_int {b : Int} : SimE C E Γ (tC (.int b)) (eC (.int b)) := fun H0 n G H σ ρ Q w e q => q _ G H (Ws.refl w) (.int b)
theorem sm_str {b : Str} (h : SOk b := by exact ⟨by decide +kernel, by decide +kernel⟩) : SimE C E Γ (tC (.str b)) (eC (.str b)) := fun H0 n G H σ ρ Q w e q => q _ G H (Ws.refl w) (.str b h)
/-! ### operators -/
def eOp (f : D → D → Out D) (a b : Rho → Out D) : Rho → Out D := fun ρ => (a ρ).bind fun x => (b ρ).bind fun y => f x y
def eUn (f : D → Out D) (a : Rho → Out D) : Rho → Out D := fun ρ => (a ρ).bind f
/-- an operator's rule on what is seen -/
def SR (C : Cfg K) (E : XK) (r : R2) (f : D → D → Out D) : Prop := ∀ n G H x y dx dy Q, Wl C n G H → RepV C G H x dx → RepV C G H y dy → (f dx dy).wp n (PQ C G H Q) (PX C G H E) → r x y H Q
def SRN (C : Cfg K) (E : XK) (r : R2) (f : D → D → Out D) : Prop := ∀ n G H x y dx dy Q, Wl C n G H → RepV C G H x dx → RepV C G H y dy → (f dx dy).wp n (PN C G H Q) (PX C G H E) → r x y H Q
def SU (C : Cfg K) (E : XK) (r : V → Hp → VK → Prop) (f : D → Out D) : Prop := ∀ n G H x dx Q, Wl C n G H → RepV C G H x dx → (f dx).wp n (PQ C G H Q) (PX C G H E) → r x H Q
theorem sm_op {r : R2} {ta tb : TE} {f : D → D → Out D} {a b : Rho → Out D} (hr : SR C E r f) (ha : SimV C E Γ ta a) (hb : SimV C E Γ tb b) : SimE C E Γ (tOp r ta tb) (eOp f a b) := fun H0 n G H σ ρ Q w e q => by
  refine ha H0 n G H σ ρ _ w e (Out.wp_mono (fun m dx k v G1 H1 s1 r1 => ?_) (fun _ _ _ z => z) (Out.wp_bind q))
  refine hb H0 m G1 H1 σ ρ _ s1.w (e.step s1) (Out.wp_mono (fun m2 dy k2 u G2 H2 s2 r2 => ?_) (fun _ _ _ z => PX.back s1 z) (Out.wp_bind k))
  exact hr m2 G2 H2 v u dx dy Q s2.w (r1.step s2) r2 (Out.wp_mono (fun _ _ z => PQ.back (s1.trans s2) z) (fun _ _ _ z => PX.back (s1.trans s2) z) k2)
theorem sm_opN {r : R2} {ta tb : TE} {f : D → D → Out D} {a b : Rho → Out D} (hr : SRN C E r f) (ha : SimV C E Γ ta a) (hb : SimV C E Γ tb b) : SimN C E Γ (tOp r ta tb) (eOp f a b) := fun H0 n G H σ ρ Q w e q => by
  refine ha H0 n G H σ ρ _ w e (Out.wp_mono (fun m dx k v G1 H1 s1 r1 => ?_) (fun _ _ _ z => z) (Out.wp_bind q))
  refine hb H0 m G1 H1 σ ρ _ s1.w (e.step s1) (Out.wp_mono (fun m2 dy k2 u G2 H2 s2 r2 => ?_) (fun _ _ _ z => PX.back s1 z) (Out.wp_bind k))
  exact hr m2 G2 H2 v u dx dy Q s2.w (r1.step s2) r2 (Out.wp_mono (fun _ _ z => PN.back (s1.trans s2) z) (fun _ _ _ z => PX.back (s1.trans s2) z) k2)
theorem sm_un {r : V → Hp → VK → Prop} {ta : TE} {f : D → Out D} {a : Rho → Out D} (hr : SU C E r f) (ha : SimV C E Γ ta a) : SimE C E Γ (tUn r ta) (eUn f a) := fun H0 n G H σ ρ Q w e q => by
  refine ha H0 n G H σ ρ _ w e (Out.wp_mono (fun m dx k v G1 H1 s1 r1 => ?_) (fun _ _ _ z => z) (Out.wp_bind q))
  exact hr m G1 H1 v dx Q s1.w r1 (Out.wp_mono (fun _ _ z => PQ.back s1 z) (fun _ _ _ z => PX.back s1 z) k)
/-! ### tests -/
def cB (a : Rho → Out D) : Rho → Out Bool := fun ρ => (a ρ).bind fun x => match x with
  | .bl b => .ok b
  | _ => .stuck
def cNot (a : Rho → Out Bool) : Rho → Out Bool := fun ρ => (a ρ).bind fun b => .ok (!b)
def cAnd (a b : Rho → Out Bool) : Rho → Out Bool := fun ρ => (a ρ).bind fun x => bif x then b ρ else .ok false
def cOr (a b : Rho → Out Bool) : Rho → Out Bool := fun ρ => (a ρ).bind fun x => bif x then .ok true else b ρ
def eIf (c : Rho → Out Bool) (a b : Rho → Out D) : Rho → Out D := fun ρ => (c ρ).bind fun x => bif x then a ρ else b ρ
theorem st_B {t : TE} {a : Rho → Out D} (ha : SimV C E Γ t a) : SimT C E Γ (tB t) (cB a) := fun H0 n G H σ ρ Q w e q => by
  refine ha H0 n G H σ ρ _ w e (Out.wp_mono (fun m dx k v G1 H1 s1 r1 => ?_) (fun _ _ _ z => z) (Out.wp_bind q))
  cases dx <;> first | exact k.elim | skip
  exact ⟨_, r1.bl, k G1 H1 s1⟩
theorem st_test {t : TE} {a : Rho → Out D} (ha : SimV C E Γ t a) : SimT C E Γ (tTest t) (cB a) := st_B ha
theorem st_not {t : TT} {a : Rho → Out Bool} (ha : SimT C E Γ t a) : SimT C E Γ (tNot t) (cNot a) := fun H0 n G H σ ρ Q w e q =>
  ha H0 n G H σ ρ _ w e (Out.wp_mono (fun m b k G1 H1 s1 => k G1 H1 s1) (fun _ _ _ z => z) (Out.wp_bind q))
theorem st_and {t u : TT} {a b : Rho → Out Bool} (ha : SimT C E Γ t a) (hb : SimT C E Γ u b) : SimT C E Γ (tAnd t u) (cAnd a b) := fun H0 n G H σ ρ Q w e q => by
  refine ha H0 n G H σ ρ _ w e (Out.wp_mono (fun m x k G1 H1 s1 => ?_) (fun _ _ _ z => z) (Out.wp_bind q))
  cases x with
  | true => exact hb H0 m G1 H1 σ ρ Q s1.w (e.step s1) (Out.wp_mono (fun m2 y k2 G2 H2 s2 => k2 G2 H2 (s1.trans s2)) (fun _ _ _ z => PX.back s1 z) k)
  | false => exact k G1 H1 s1
theorem st_or {t u : TT} {a b : Rho → Out Bool} (ha : SimT C E Γ t a) (hb : SimT C E Γ u b) : SimT C E Γ (tOr t u) (cOr a b) := fun H0 n G H σ ρ Q w e q => by
  refine ha H0 n G H σ ρ _ w e (Out.wp_mono (fun m x k G1 H1 s1 => ?_) (fun _ _ _ z => z) (Out.wp_bind q))
  cases x with
  | false => exact hb H0 m G1 H1 σ ρ Q s1.w (e.step s1) (Out.wp_mono (fun m2 y k2 G2 H2 s2 => k2 G2 H2 (s1.trans s2)) (fun _ _ _ z => PX.back s1 z) k)
  | true => exact k G1 H1 s1
theorem sm_if {t : TT} {ta tb : TE} {c : Rho → Out Bool} {a b : Rho → Out D} (hc : SimT C E Γ t c) (ha : SimE C E Γ ta a) (hb : SimE C E Γ tb b) : SimE C E Γ (tIf t ta tb) (eIf c a b) := fun H0 n G H σ ρ Q w e q => by
  refine hc H0 n G H σ ρ _ w e (Out.wp_mono (fun m x k G1 H1 s1 => ?_) (fun _ _ _ z => z) (Out.wp_bind q))
  cases x with
  | true => exact ha H0 m G1 H1 σ ρ Q s1.w (e.step s1) (Out.wp_mono (fun _ _ z => PQ.back s1 z) (fun _ _ _ z => PX.back s1 z) k)
  | false => exact hb H0 m G1 H1 σ ρ Q s1.w (e.step s1) (Out.wp_mono (fun _ _ z => PQ.back s1 z) (fun _ _ _ z => PX.back s1 z) k)
theorem sm_ifN {t : TT} {ta tb : TE} {c : Rho → Out Bool} {a b : Rho → Out D} (hc : SimT C E Γ t c) (ha : SimN C E Γ ta a) (hb : SimN C E Γ tb b) : SimN C E Γ (tIf t ta tb) (eIf c a b) := fun H0 n G H σ ρ Q w e q => by
  refine hc H0 n G H σ ρ _ w e (Out.wp_mono (fun m x k G1 H1 s1 => ?_) (fun _ _ _ z => z) (Out.wp_bind q))
  cases x with
  | true => exact ha H0 m G1 H1 σ ρ Q s1.w (e.step s1) (Out.wp_mono (fun _ _ z => PN.back s1 z) (fun _ _ _ z => PX.back s1 z) k)
  | false => exact hb H0 m G1 H1 σ ρ Q s1.w (e.step s1) (Out.wp_mono (fun _ _ z => PN.back s1 z) (fun _ _ _ z => PX.back s1 z) k)
/-- and, or, not as values -/
def eAnd (a b : Rho → Out D) : Rho → Out D := fun ρ => (a ρ).bind fun x => match x with
  | .bl true => b ρ
  | .bl false => .ok (.bl false)
  | _ => .stuck
def eOr (a b : Rho → Out D) : Rho → Out D := fun ρ => (a ρ).bind fun x => match x with
  | .bl false => b ρ
  | .bl true => .ok (.bl true)
  | _ => .stuck
def eNot (a : Rho → Out D) : Rho → Out D := fun ρ => (a ρ).bind fun x => match x with
  | .bl b => .ok (.bl (!b))
  | _ => .stuck
theorem sm_and {ta tb : TE} {a b : Rho → Out D} (ha : SimV C E Γ ta a) (hb : SimE C E Γ tb b) : SimE C E Γ (tAndV ta tb) (eAnd a b) := fun H0 n G H σ ρ Q w e q => by
  refine ha H0 n G H σ ρ _ w e (Out.wp_mono (fun m x k v G1 H1 s1 r1 => ?_) (fun _ _ _ z => z) (Out.wp_bind q))
  cases x <;> first | exact k.elim | skip
  rename_i x
  refine ⟨x, r1.bl, ?_⟩
  cases x with
  | true => exact hb H0 m G1 H1 σ ρ Q s1.w (e.step s1) (Out.wp_mono (fun _ _ z => PQ.back s1 z) (fun _ _ _ z => PX.back s1 z) k)
  | false => exact k (.bl false) G1 H1 s1 (.bl false)
theorem sm_not {ta : TE} {a : Rho → Out D} (ha : SimV C E Γ ta a) : SimE C E Γ (tNotV ta) (eNot a) := fun H0 n G H σ ρ Q w e q => by
  refine ha H0 n G H σ ρ _ w e (Out.wp_mono (fun m x k v G1 H1 s1 r1 => ?_) (fun _ _ _ z => z) (Out.wp_bind q))
  cases x <;> first | exact k.elim | skip
  exact ⟨_, r1.bl, k _ G1 H1 s1 (.bl _)⟩
/-! ### arguments, displays -/
def aNil : Rho → Out (List D) := fun _ => .ok []
def aCons (a : Rho → Out D) (r : Rho → Out (List D)) : Rho → Out (List D) := fun ρ => (a ρ).bind fun x => (r ρ).bind fun xs => .ok (x :: xs)
theorem sa_nil : SimA C E Γ 0 tNil aNil := fun H0 n G H σ ρ Q w e q => q [] G H (Ws.refl w) .nil rfl
theorem sa_cons {k : Nat} {ta : TE} {tr : TA} {a : Rho → Out D} {r : Rho → Out (List D)} (ha : SimE C E Γ ta a) (hr : SimA C E Γ k tr r) : SimA C E Γ (k + 1) (tCons ta tr) (aCons a r) := fun H0 n G H σ ρ Q w e q => by
  refine ha H0 n G H σ ρ _ w e (Out.wp_mono (fun m x k1 v G1 H1 s1 r1 => ?_) (fun _ _ _ z => z) (Out.wp_bind q))
  refine hr H0 m G1 H1 σ ρ _ s1.w (e.step s1) (Out.wp_mono (fun m2 xs k2 vs G2 H2 s2 r2 hl => ?_) (fun _ _ _ z => PX.back s1 z) (Out.wp_bind k1))
  exact k2 (v :: vs) G2 H2 (s1.trans s2) (.cons (r1.mono s2.g) r2) (congrArg (· + 1) hl)
theorem RepVL.step {vs : List V} {xs : List D} (h : RepVL C G H vs xs) (s : Ws C G H n G1 H1) : RepVL C G1 H1 vs xs := by
  induction h with
  | nil => exact .nil
  | cons h _ ih => exact .cons (h.step s) ih
theorem sb_nil : SimB C E Γ 0 tNil aNil := fun H0 n G H σ ρ Q w e q => q [] G H (Ws.refl w) .nil rfl
theorem sb_cons {k : Nat} {ta : TE} {tr : TA} {a : Rho → Out D} {r : Rho → Out (List D)} (ha : SimV C E Γ ta a) (hr : SimB C E Γ k tr r) : SimB C E Γ (k + 1) (tCons ta tr) (aCons a r) := fun H0 n G H σ ρ Q w e q => by
  refine ha H0 n G H σ ρ _ w e (Out.wp_mono (fun m x k1 v G1 H1 s1 r1 => ?_) (fun _ _ _ z => z) (Out.wp_bind q))
  refine hr H0 m G1 H1 σ ρ _ s1.w (e.step s1) (Out.wp_mono (fun m2 xs k2 vs G2 H2 s2 r2 hl => ?_) (fun _ _ _ z => PX.back s1 z) (Out.wp_bind k1))
  exact k2 (v :: vs) G2 H2 (s1.trans s2) (.cons (r1.step s2) r2) (congrArg (· + 1) hl)
def eTup (a : Rho → Out (List D)) : Rho → Out D := fun ρ => (a ρ).bind fun xs => .ok (.tup xs)
def eLst (a : Rho → Out (List D)) : Rho → Out D := fun ρ => (a ρ).bind fun xs => .ok (.lst xs)
theorem small {k : Nat} (h : k ≤ 1000) : k ≤ sizeLine := Nat.le_trans h (by decide)
theorem sm_tup {k : Nat} {ta : TA} {a : Rho → Out (List D)} (ha : SimA C E Γ k ta a) (hk : k ≤ 1000 := by decide) : SimE C E Γ (tTupF ta) (eTup a) := fun H0 n G H σ ρ Q w e q => by
  refine ha H0 n G H σ ρ _ w e (Out.wp_mono (fun m x k1 vs G1 H1 s1 r1 hl => ?_) (fun _ _ _ z => z) (Out.wp_bind q))
  refine ⟨small (by rw [r1.len]; omega), fun p o np ho => ?_⟩
  exact k1 (.ref p) _ _ (s1.new np) (.tup (GT.new upd_same ho) (r1.mono (same_add (s1.w.gn np))) (by omega))
theorem sn_lst {k : Nat} {ta : TA} {a : Rho → Out (List D)} (ha : SimA C E Γ k ta a) (hk : k ≤ 1000 := by decide) : SimN C E Γ (tLst ta) (eLst a) := fun H0 n G H σ ρ Q w e q => by
  refine ha H0 n G H σ ρ _ w e (Out.wp_mono (fun m x k1 vs G1 H1 s1 r1 hl => ?_) (fun _ _ _ z => z) (Out.wp_bind q))
  refine ⟨small (by rw [r1.len]; omega), fun p np => ?_⟩
  exact k1 p (.lst vs) _ _ (s1.tmp np) (s1.dm np) (s1.w.gn np) upd_same ⟨by omega, r1⟩
/-! ### calls -/
/-- b: it walks dicts -/
def spF (K : PySem.W.Frag) (b : Bool) (k : Nat) (F : List D → Out D) : Sp := fun vs H Q E => ∃ (C : Cfg K) (n : Nat) (G : Hp) (ds : List D), (b = true → C.lk = []) ∧ Wl C n G H ∧ RepL C G vs ds ∧ ds.length = k ∧ (F ds).wp n (PQ C G H Q) (PX C G H E)
def eCall (F : List D → Out D) (a : Rho → Out (List D)) : Rho → Out D := fun ρ => (a ρ).bind F
theorem sm_call {b : Bool} {k : Nat} {ta : TA} {a : Rho → Out (List D)} {F : List D → Out D} (hb : b = true → C.lk = []) (ha : SimA C E Γ k ta a) : SimE C E Γ (tCall (spF K b k F) [] E ta) (eCall F a) := fun H0 n G H σ ρ Q w e q => by
  refine ha H0 n G H σ ρ _ w e (Out.wp_mono (fun m xs k1 vs G1 H1 s1 r1 hl => ?_) (fun _ _ _ z => z) (Out.wp_bind q))
  refine ⟨C, m, G1, xs, hb, s1.w, ?_, hl, Out.wp_mono (fun _ _ z => PQ.back s1 z) (fun _ _ _ z => PX.back s1 z) k1⟩
  rw [List.append_nil]
  exact r1
/-- a builtin's call, on what is seen -/
def SC (C : Cfg K) (E : XK) (k : Nat) (r : List V → Hp → VK → Prop) (f : List D → Out D) : Prop := ∀ n G H vs ds Q, Wl C n G H → RepVL C G H vs ds → ds.length = k → (f ds).wp n (PQ C G H Q) (PX C G H E) → r vs H Q
def SCN (C : Cfg K) (E : XK) (k : Nat) (r : List V → Hp → VK → Prop) (f : List D → Out D) : Prop := ∀ n G H vs ds Q, Wl C n G H → RepVL C G H vs ds → ds.length = k → (f ds).wp n (PN C G H Q) (PX C G H E) → r vs H Q
theorem sm_cb {k : Nat} {r : List V → Hp → VK → Prop} {ta : TA} {a : Rho → Out (List D)} {f : List D → Out D} (hr : SC C E k r f) (ha : SimB C E Γ k ta a) : SimE C E Γ (tCB r ta) (eCall f a) := fun H0 n G H σ ρ Q w e q => by
  refine ha H0 n G H σ ρ _ w e (Out.wp_mono (fun m xs k1 vs G1 H1 s1 r1 hl => ?_) (fun _ _ _ z => z) (Out.wp_bind q))
  exact hr m G1 H1 vs xs Q s1.w r1 hl (Out.wp_mono (fun _ _ z => PQ.back s1 z) (fun _ _ _ z => PX.back s1 z) k1)
theorem sn_cb {k : Nat} {r : List V → Hp → VK → Prop} {ta : TA} {a : Rho → Out (List D)} {f : List D → Out D} (hr : SCN C E k r f) (ha : SimB C E Γ k ta a) : SimN C E Γ (tCB r ta) (eCall f a) := fun H0 n G H σ ρ Q w e q => by
  refine ha H0 n G H σ ρ _ w e (Out.wp_mono (fun m xs k1 vs G1 H1 s1 r1 hl => ?_) (fun _ _ _ z => z) (Out.wp_bind q))
  exact hr m G1 H1 vs xs Q s1.w r1 hl (Out.wp_mono (fun _ _ z => PN.back s1 z) (fun _ _ _ z => PX.back s1 z) k1)
end
end ND
/-! statements, loops, comprehensions, defs -/
namespace ND
open PySem PySem.Spec PyProof.Rows L2
theorem getD_set {α : Type} (l : List α) (i j : Nat) (a x : α) : (l.set i a).getD j x = if i = j ∧ i < l.length then a else l.getD j x := by
  rw [List.getD_eq_getElem?_getD, List.getD_eq_getElem?_getD, List.getElem?_set]
  by_cases h : i = j
  · subst h
    by_cases h2 : i < l.length
    · simp [h2]
    · simp [h2, List.getElem?_eq_none (Nat.le_of_not_lt h2)]
  · simp [h]
section
variable {K : PySem.W.Frag} {C : Cfg K} {E : XK} {Γ Γ' Γ1 Γ2 Γn Γb Γc : List Md} {n m : Nat} {G0 H0 G H G1 H1 G2 H2 : Hp} {σ : L2.St} {ρ : Rho} {Q : VK} {p : Addr} {o o' : HO} {v : V} {d d' : D} {i : Nat}
/-! ### the slots -/
theorem getD_out {α : Type} {l : List α} {i : Nat} {x : α} (h : ¬ i < l.length) : l.getD i x = x := by
  rw [List.getD_eq_getElem?_getD, List.getElem?_eq_none (Nat.le_of_not_lt h)]
  rfl
/-- another slot is set: the one of one's own at every depth stays -/
theorem DpOk.set (h : DpOk C H0 Γ G H σ ρ) (lg : Γ.length ≤ σ.length) {m : Md} {y : Option V} (hm : ∀ a s, m ≠ .dp a s) (new : m.isOw = true → ∀ p, y = some (.ref p) → ∀ k a s, k ≠ i → Γ.getD k .un = .dp a s → ∀ v as, σ[k]? = some (some v) → Tr C H0 G H s as v (ρ.getD k .non) → p ∉ as) : DpOk C H0 (Γ.set i m) G H (σ.set i y) (ρ.set i d) := fun k a s hk => by
  rw [getD_set] at hk
  by_cases hl : i < Γ.length
  case neg =>
    rw [if_neg (fun z => hl z.2)] at hk
    have hki : k ≠ i := fun z => by rw [z, getD_out hl] at hk; cases hk
    obtain ⟨⟨v, as, h1, h2, hz, h3, h4⟩, h5⟩ := h k a s hk
    refine ⟨⟨v, as, by rw [List.getElem?_set_ne (Ne.symm hki)]; exact h1, by rw [getD_set, if_neg (fun z => hki z.1.symm)]; exact h2, hz, h3, fun j p hj hp => ?_⟩, fun j b s' hj => ?_⟩
    · rw [getD_set, if_neg (fun z => hl z.2)] at hj
      have hji : j ≠ i := fun z => by rw [z, getD_out hl] at hj; cases hj
      rw [List.getElem?_set_ne (Ne.symm hji)] at hp
      exact h4 j p hj hp
    · rw [getD_set, if_neg (fun z => hl z.2)] at hj
      exact h5 j b s' hj
  by_cases hki : i = k
  · rw [if_pos ⟨hki, hl⟩] at hk
    exact absurd hk (hm a s)
  rw [if_neg (fun z => hki z.1)] at hk
  obtain ⟨⟨v, as, h1, h2, hz, h3, h4⟩, h5⟩ := h k a s hk
  refine ⟨⟨v, as, by rw [List.getElem?_set_ne hki]; exact h1, by rw [getD_set, if_neg (fun z => hki z.1)]; exact h2, hz, h3, fun j p hj hp => ?_⟩, fun j b s' hj => ?_⟩
  · rw [getD_set] at hj
    by_cases hji : i = j
    · rw [if_pos ⟨hji, hl⟩] at hj
      subst hji
      rw [List.getElem?_set_self (Nat.lt_of_lt_of_le hl lg)] at hp
      exact new hj p (Option.some.inj hp) k a s (Ne.symm hki) hk v as h1 h2
    · rw [if_neg (fun z => hji z.1)] at hj
      rw [List.getElem?_set_ne hji] at hp
      exact h4 j p hj hp
  · rw [getD_set] at hj
    by_cases hji : i = j
    · rw [if_pos ⟨hji, hl⟩] at hj
      exact absurd hj (hm b s')
    · rw [if_neg (fun z => hji z.1)] at hj
      exact h5 j b s' hj
def noDp : List Md → Bool
  | [] => true
  | .dp _ _ :: _ => false
  | _ :: r => noDp r
theorem noDp_at : ∀ {Γ : List Md} {k : Nat} {a : Option Addr} {s : Sh}, noDp Γ = true → Γ.getD k .un ≠ .dp a s
  | [], k, _, _, _ => fun h => by cases k <;> cases h
  | m :: Γ, 0, _, _, h => fun z => by
    have z : m = _ := z
    subst z
    cases h
  | m :: Γ, k + 1, _, _, h => by
    have : noDp Γ = true := by cases m <;> first | exact h | cases h
    exact noDp_at (Γ := Γ) (k := k) this
def Md.isDp : Md → Bool
  | .dp _ _ => true
  | _ => false
theorem noDp_set : ∀ {Γ : List Md} {i : Nat} {m : Md}, noDp Γ = true → m.isDp = false → noDp (Γ.set i m) = true
  | [], _, _, h, _ => h
  | x :: Γ, 0, m, h, hm => by
    have : noDp Γ = true := by cases x <;> first | exact h | cases h
    cases m <;> first | exact this | cases hm
  | x :: Γ, i + 1, m, h, hm => by
    have : noDp Γ = true := by cases x <;> first | exact h | cases h
    have := noDp_set (i := i) this hm
    cases x <;> first | exact this | cases h
theorem Er.set (e : Er C H0 Γ G H σ ρ) (h : Rep C G v d) : Er C H0 (Γ.set i .fr) G H (σ.set i (some v)) (ρ.set i d) := by
  refine ⟨fun j => ?_, fun j k q hjk hj hk e1 e2 => ?_, by rw [List.length_set, List.length_set]; exact e.lg, by rw [List.length_set, List.length_set]; exact e.lr, e.dp.set e.lg (fun _ _ z => nomatch z) (fun z => nomatch z)⟩
  · rw [getD_set, getD_set]
    by_cases hij : i = j
    · subst hij
      by_cases hl : i < Γ.length
      · have h1 : i < σ.length := Nat.lt_of_lt_of_le hl e.lg
        have h2 : i < ρ.length := by rw [e.lr]; exact h1
        rw [if_pos ⟨rfl, hl⟩, if_pos ⟨rfl, h2⟩]
        exact ⟨v, List.getElem?_set_self h1, h⟩
      · rw [if_neg (fun z => hl z.2), List.getD_eq_getElem?_getD, List.getElem?_eq_none (Nat.le_of_not_lt hl)]
        exact True.intro
    · rw [if_neg (fun z => hij z.1), if_neg (fun z => hij z.1), List.getElem?_set_ne hij]
      exact e.sl j
  · rw [getD_set] at hj hk
    by_cases h1 : i = j ∧ i < Γ.length
    · rw [if_pos h1] at hj; cases hj
    · rw [if_neg h1] at hj
      by_cases h2 : i = k ∧ i < Γ.length
      · rw [if_pos h2] at hk; cases hk
      · rw [if_neg h2] at hk
        have nj : i ≠ j := fun z => by
          subst z
          rw [List.getD_eq_getElem?_getD, List.getElem?_eq_none (Nat.le_of_not_lt fun z => h1 ⟨rfl, z⟩)] at hj
          cases hj
        have nk : i ≠ k := fun z => by
          subst z
          rw [List.getD_eq_getElem?_getD, List.getElem?_eq_none (Nat.le_of_not_lt fun z => h2 ⟨rfl, z⟩)] at hk
          cases hk
        rw [List.getElem?_set_ne nj] at e1
        rw [List.getElem?_set_ne nk] at e2
        exact e.dj j k q hjk hj hk e1 e2
/-- a new object comes to a slot -/
theorem Er.setOw (e : Er C H0 Γ G H σ ρ) (l : Own C H0 G H p o) (r : ORep C G o d) (new : ∀ j q, (Γ.getD j .un).isOw = true → σ[j]? = some (some (.ref q)) → q ≠ p) (nd : noDp Γ = true) : Er C H0 (Γ.set i (.ow none)) G H (σ.set i (some (.ref p))) (ρ.set i d) := by
  refine ⟨fun j => ?_, fun j k q hjk hj hk e1 e2 => ?_, by rw [List.length_set, List.length_set]; exact e.lg, by rw [List.length_set, List.length_set]; exact e.lr, e.dp.set e.lg (fun _ _ z => nomatch z) (fun _ p _ k a s _ hk => absurd hk (noDp_at nd))⟩
  · rw [getD_set, getD_set]
    by_cases hij : i = j
    · subst hij
      by_cases hl : i < Γ.length
      · have h1 : i < σ.length := Nat.lt_of_lt_of_le hl e.lg
        have h2 : i < ρ.length := by rw [e.lr]; exact h1
        rw [if_pos ⟨rfl, hl⟩, if_pos ⟨rfl, h2⟩]
        exact ⟨p, o, List.getElem?_set_self h1, l, r, fun _ z => by cases z⟩
      · rw [if_neg (fun z => hl z.2), List.getD_eq_getElem?_getD, List.getElem?_eq_none (Nat.le_of_not_lt hl)]
        exact True.intro
    · rw [if_neg (fun z => hij z.1), if_neg (fun z => hij z.1), List.getElem?_set_ne hij]
      exact e.sl j
  · have old : ∀ x, ((Γ.set i (.ow none)).getD x .un).isOw = true → i ≠ x → (Γ.getD x .un).isOw = true := fun x hx hn => by
      rw [getD_set, if_neg (fun z => hn z.1)] at hx
      exact hx
    have ilt : ∀ x, ((Γ.set i (.ow none)).getD x .un).isOw = true → i = x → i < σ.length := fun x hx hn => by
      subst hn
      rw [getD_set] at hx
      by_cases hl : i < Γ.length
      · exact Nat.lt_of_lt_of_le hl e.lg
      · rw [if_neg (fun z => hl z.2), List.getD_eq_getElem?_getD, List.getElem?_eq_none (Nat.le_of_not_lt hl)] at hx
        cases hx
    by_cases nj : i = j
    · subst nj
      rw [List.getElem?_set_self (ilt i hj rfl)] at e1
      have nk : i ≠ k := hjk
      rw [List.getElem?_set_ne nk] at e2
      cases e1
      exact new k p (old k hk nk) e2 rfl
    · rw [List.getElem?_set_ne nj] at e1
      by_cases nk : i = k
      · subst nk
        rw [List.getElem?_set_self (ilt i hk rfl)] at e2
        cases e2
        exact new j p (old j hj nj) e1 rfl
      · rw [List.getElem?_set_ne nk] at e2
        exact e.dj j k q hjk (old j hj nj) (old k hk nk) e1 e2
/-- one's own object changes -/
theorem Er.mut {a : Option Addr} (e : Er C H0 Γ G H σ ρ) (hi : Γ[i]? = some (.ow a)) (hs : σ[i]? = some (some (.ref p))) (l : Own C H0 G H p o) (r : ORep C G o' d') (ha : ∀ q, a = some q → p = q) : Er C H0 Γ G (upd H p o') σ (ρ.set i d') := by
  have hil : i < Γ.length := (List.getElem?_eq_some_iff.mp hi).1
  have hiw : Γ.getD i .un = .ow a := by rw [List.getD_eq_getElem?_getD, hi]; rfl
  have hio : (Γ.getD i .un).isOw = true := by rw [hiw]; rfl
  refine ⟨fun j => ?_, e.dj, e.lg, by rw [List.length_set]; exact e.lr, fun k b s hk => ?_⟩
  rotate_left
  · obtain ⟨⟨v, as, h1, h2, hz, h3, h4⟩, h5⟩ := e.dp k b s hk
    have hki : i ≠ k := fun z => by rw [z, hk] at hio; cases hio
    exact ⟨⟨v, as, h1, by rw [getD_set, if_neg (fun z => hki z.1)]; exact h2.oth (h4 i p hio hs), hz, h3, h4⟩, h5⟩
  have hj := e.sl j
  by_cases hij : i = j
  · subst hij
    have h2 : i < ρ.length := by rw [e.lr]; exact Nat.lt_of_lt_of_le hil e.lg
    rw [getD_set, if_pos ⟨rfl, h2⟩, hiw]
    exact ⟨p, o', hs, l.put, r, ha⟩
  · rw [getD_set, if_neg (fun z => hij z.1)]
    cases hm : Γ.getD j .un with
    | un => exact True.intro
    | fr =>
      rw [hm] at hj
      exact hj
    | ow b =>
      rw [hm] at hj
      obtain ⟨q, u, h1, h2, h3, h4⟩ := hj
      have hne : q ≠ p := fun z => by
        subst z
        exact e.dj i j q hij hio (by rw [hm]; rfl) hs h1
      exact ⟨q, u, h1, h2.oth hne, h3, h4⟩
    | dp b s => exact True.intro
    | lw w =>
      rw [hm] at hj
      exact hj
    | lk =>
      rw [hm] at hj
      exact hj
/-- it stays as it is from now on -/
theorem Er.frz {a : Option Addr} (e : Er C H0 Γ G H σ ρ) (hi : Γ[i]? = some (.ow a)) (s : Ws C G0 H0 n G H) : ∃ G', Ws C G0 H0 n G' H ∧ Same G G' ∧ Er C H0 (Γ.set i .fr) G' H σ ρ := by
  have hil : i < Γ.length := (List.getElem?_eq_some_iff.mp hi).1
  have hiw : Γ.getD i .un = .ow a := by rw [List.getD_eq_getElem?_getD, hi]; rfl
  have hio : (Γ.getD i .un).isOw = true := by rw [hiw]; rfl
  obtain ⟨p, o, h1, h2, h3, _⟩ := e.ow hi
  refine ⟨upd G p o, s.seal h2 h3.nf, same_add h2.g, fun j => ?_, fun j k q hjk hj hk => ?_, by rw [List.length_set]; exact e.lg, e.lr, fun k b s' hk => ?_⟩
  rotate_right
  · rw [getD_set] at hk
    by_cases hki : i = k
    · rw [if_pos ⟨hki, hil⟩] at hk; cases hk
    rw [if_neg (fun z => hki z.1)] at hk
    obtain ⟨⟨v, as, g1, g2, gz, g3, g4⟩, g5⟩ := e.dp k b s' hk
    refine ⟨⟨v, as, g1, g2.sealO (g4 i p hio h1) h2.g, gz, g3, fun j q hj hq => ?_⟩, fun j b' s2 hj => ?_⟩
    · rw [getD_set] at hj
      by_cases hji : i = j ∧ i < Γ.length
      · rw [if_pos hji] at hj; cases hj
      · rw [if_neg hji] at hj; exact g4 j q hj hq
    · rw [getD_set] at hj
      by_cases hji : i = j ∧ i < Γ.length
      · rw [if_pos hji] at hj; cases hj
      · rw [if_neg hji] at hj; exact g5 j b' s2 hj
  · have hj := e.sl j
    rw [getD_set]
    by_cases hij : i = j
    · subst hij
      rw [if_pos ⟨rfl, hil⟩]
      exact ⟨_, h1, (h3.mono (same_add h2.g)).rep upd_same⟩
    · rw [if_neg (fun z => hij z.1)]
      cases hm : Γ.getD j .un with
      | un => exact True.intro
      | fr =>
        rw [hm] at hj
        obtain ⟨v, a, b⟩ := hj
        exact ⟨v, a, b.mono (same_add h2.g)⟩
      | ow b' =>
        rw [hm] at hj
        obtain ⟨q, u, a, b, c, c2⟩ := hj
        have hne : q ≠ p := fun z => by
          subst z
          exact e.dj i j q hij hio (by rw [hm]; rfl) h1 a
        exact ⟨q, u, a, b.sealO hne, c.mono (same_add h2.g), c2⟩
      | lk =>
        rw [hm] at hj
        obtain ⟨b, g1, o', kvs, xs, g2, g3, g4, g5, g6⟩ := hj
        exact ⟨b, g1, o', kvs, xs, g2, same_add h2.g _ _ g3, g4, g5.mono (same_add h2.g), g6⟩
      | dp b s => exact True.intro
      | lw w =>
        rw [hm] at hj
        obtain ⟨v, b, x, g1, g2, g3, g4, o', kvs, xs, g5, g6, g7, g8, g9⟩ := hj
        exact ⟨v, b, x, g1, g2.mono (same_add h2.g), g3.mono (same_add h2.g), g4, o', kvs, xs, g5, (same_add h2.g) _ _ g6, g7, g8.mono (same_add h2.g), g9⟩
  · rw [getD_set] at hj hk
    have a : (Γ.getD j .un).isOw = true := by
      by_cases z : i = j ∧ i < Γ.length
      · rw [if_pos z] at hj; cases hj
      · rw [if_neg z] at hj; exact hj
    have b : (Γ.getD k .un).isOw = true := by
      by_cases z : i = k ∧ i < Γ.length
      · rw [if_pos z] at hk; cases hk
      · rw [if_neg z] at hk; exact hk
    exact e.dj j k q hjk a b
theorem Er.drop (e : Er C H0 Γ G H σ ρ) : Er C H0 (Γ.set i .un) G H σ ρ := by
  have back : ∀ x, ((Γ.set i .un).getD x .un).isOw = true → (Γ.getD x .un).isOw = true := fun x hx => by
    rw [getD_set] at hx
    by_cases z : i = x ∧ i < Γ.length
    · rw [if_pos z] at hx; cases hx
    · rw [if_neg z] at hx; exact hx
  refine ⟨fun j => ?_, fun j k q hjk hj hk => e.dj j k q hjk (back j hj) (back k hk), by rw [List.length_set]; exact e.lg, e.lr, fun k b s hk => ?_⟩
  rotate_left
  · have bk : ∀ x b s, (Γ.set i .un).getD x .un = .dp b s → Γ.getD x .un = .dp b s := fun x b s hx => by
      rw [getD_set] at hx
      by_cases z : i = x ∧ i < Γ.length
      · rw [if_pos z] at hx; cases hx
      · rw [if_neg z] at hx; exact hx
    obtain ⟨⟨v, as, h1, h2, hz, h3, h4⟩, h5⟩ := e.dp k b s (bk k b s hk)
    exact ⟨⟨v, as, h1, h2, hz, h3, fun j p hj hp => h4 j p (back j hj) hp⟩, fun j b' s' hj => h5 j b' s' (bk j b' s' hj)⟩
  rw [getD_set]
  by_cases z : i = j ∧ i < Γ.length
  · rw [if_pos z]; exact True.intro
  · rw [if_neg z]; exact e.sl j
/-- one's own: at every depth -/
theorem Er.deep {a : Option Addr} (e : Er C H0 Γ G H σ ρ) (hi : Γ[i]? = some (.ow a)) (nd : noDp Γ = true) {s : Sh} (hs : s.isFz = false) (hk : ∀ o, ∀ x ∈ kidS s o, x = .fz) : Er C H0 (Γ.set i (.dp a s)) G H σ ρ := by
  have hil : i < Γ.length := (List.getElem?_eq_some_iff.mp hi).1
  have hiw : Γ.getD i .un = .ow a := by rw [List.getD_eq_getElem?_getD, hi]; rfl
  have hio : (Γ.getD i .un).isOw = true := by rw [hiw]; rfl
  have back : ∀ x, ((Γ.set i (.dp a s)).getD x .un).isOw = true → x ≠ i ∧ (Γ.getD x .un).isOw = true := fun x hx => by
    rw [getD_set] at hx
    by_cases z : i = x ∧ i < Γ.length
    · rw [if_pos z] at hx; cases hx
    · rw [if_neg z] at hx; exact ⟨fun y => z ⟨y.symm, hil⟩, hx⟩
  have dpi : ∀ k b s', (Γ.set i (.dp a s)).getD k .un = .dp b s' → k = i ∧ b = a ∧ s' = s := fun k b s' hk => by
    rw [getD_set] at hk
    by_cases z : i = k ∧ i < Γ.length
    · rw [if_pos z] at hk
      injection hk with h1 h2
      exact ⟨z.1.symm, h1.symm, h2.symm⟩
    · rw [if_neg z] at hk
      exact absurd hk (noDp_at nd)
  refine ⟨fun j => ?_, fun j k q hjk hj hk => e.dj j k q hjk (back j hj).2 (back k hk).2, by rw [List.length_set]; exact e.lg, e.lr, fun k b s' hkk => ?_⟩
  · rw [getD_set]
    by_cases z : i = j ∧ i < Γ.length
    · rw [if_pos z]; exact True.intro
    · rw [if_neg z]; exact e.sl j
  · obtain ⟨rfl, rfl, rfl⟩ := dpi k b s' hkk
    obtain ⟨p, o, h1, h2, h3, h4⟩ := e.ow hi
    obtain ⟨hd, r⟩ := orep_iff.mp h3
    refine ⟨⟨_, [p], h1, .nod hs h2 hd (r.tr kidS_len (hk o)) (fun z => nomatch z), hs, fun q z => by rw [h4 q z], fun j q hj hq z => ?_⟩, fun j b' s2 hj => (dpi j b' s2 hj).1⟩
    rw [List.mem_singleton] at z
    subst z
    exact e.dj j k q (back j hj).1 (back j hj).2 hio hq h1
theorem Er.dpAt {a : Option Addr} {s : Sh} (e : Er C H0 Γ G H σ ρ) (hi : Γ[i]? = some (.dp a s)) : ∃ v as, σ[i]? = some (some v) ∧ Tr C H0 G H s as v (ρ.getD i .non) ∧ s.isFz = false ∧ (∀ q, a = some q → v = .ref q) ∧ ∀ j p, (Γ.getD j .un).isOw = true → σ[j]? = some (some (.ref p)) → p ∉ as :=
  (e.dp i a s (by rw [List.getD_eq_getElem?_getD, hi]; rfl)).1
theorem Er.flat {a : Option Addr} {s : Sh} (e : Er C H0 Γ G H σ ρ) (hi : Γ[i]? = some (.dp a s)) (w : Ws C G0 H0 n G H) : ∃ G', Ws C G0 H0 n G' H ∧ Same G G' ∧ Er C H0 (Γ.set i (.ow a)) G' H σ ρ := by
  have hil : i < Γ.length := (List.getElem?_eq_some_iff.mp hi).1
  have hiw : Γ.getD i .un = .dp a s := by rw [List.getD_eq_getElem?_getD, hi]; rfl
  obtain ⟨v, as, h1, h2, hz, h3, h4⟩ := e.dpAt hi
  have uq := (e.dp i a s hiw).2
  obtain ⟨p, o, bs, rfl, rfl, l, hd, t, np⟩ := h2.mem hz
  obtain ⟨G1, w1, a1, r1, e1⟩ := t.frz0 w (Same.refl _) fun x hx => (t.own x hx).choose_spec.g
  have l1 : Own C H0 G1 H p o := ⟨l.h, by rw [e1 p np]; exact l.g, l.v, l.n⟩
  have bk : ∀ x, ((Γ.set i (.ow a)).getD x .un).isOw = true → x ≠ i → (Γ.getD x .un).isOw = true := fun x hx hne => by
    rw [getD_set, if_neg (fun z => hne z.1.symm)] at hx
    exact hx
  refine ⟨G1, w1, a1, fun j => ?_, fun j k q hjk hj hk hjq hkq => ?_, by rw [List.length_set]; exact e.lg, e.lr, fun k b s' hk => ?_⟩
  · rw [getD_set]
    by_cases hij : i = j
    · subst hij
      rw [if_pos ⟨rfl, hil⟩]
      refine ⟨p, o, h1, l1, orep_iff.mpr ⟨hd, r1⟩, fun q hq => ?_⟩
      have := h3 q hq
      injection this
    · rw [if_neg (fun z => hij z.1)]
      have hj := e.sl j
      cases hm : Γ.getD j .un with
      | un => exact True.intro
      | fr =>
        rw [hm] at hj
        obtain ⟨v, x, y⟩ := hj
        exact ⟨v, x, y.mono a1⟩
      | ow b' =>
        rw [hm] at hj
        obtain ⟨q, u, x, b, c, c2⟩ := hj
        have hnq := h4 j q (by rw [hm]; rfl) x
        refine ⟨q, u, x, ⟨b.h, ?_, b.v, b.n⟩, c.mono a1, c2⟩
        rw [e1 q fun z => hnq (List.mem_cons_of_mem _ z)]
        exact b.g
      | lk =>
        rw [hm] at hj
        obtain ⟨b, g1, o', kvs, xs, g2, g3, g4, g5, g6⟩ := hj
        exact ⟨b, g1, o', kvs, xs, g2, a1 _ _ g3, g4, g5.mono a1, g6⟩
      | dp b s => exact True.intro
      | lw w =>
        rw [hm] at hj
        obtain ⟨v, b, x, g1, g2, g3, g4, o', kvs, xs, g5, g6, g7, g8, g9⟩ := hj
        exact ⟨v, b, x, g1, g2.mono a1, g3.mono a1, g4, o', kvs, xs, g5, a1 _ _ g6, g7, g8.mono a1, g9⟩
  · by_cases hji : j = i
    · subst hji
      rw [h1] at hjq
      cases hjq
      exact h4 k p (bk k hk (Ne.symm hjk)) hkq List.mem_cons_self
    · by_cases hki : k = i
      · subst hki
        rw [h1] at hkq
        cases hkq
        exact h4 j p (bk j hj hji) hjq List.mem_cons_self
      · exact e.dj j k q hjk (bk j hj hji) (bk k hk hki) hjq hkq
  · rw [getD_set] at hk
    by_cases z : i = k ∧ i < Γ.length
    · rw [if_pos z] at hk; cases hk
    · rw [if_neg z] at hk
      exact absurd (uq k b s' hk) fun y => z ⟨y.symm, hil⟩
/-- slots are frozen, forgotten -/
inductive Go : List Md → List Md → Prop where
  | refl {Γ : List Md} : Go Γ Γ
  | frz {Γ Γ' : List Md} {a : Option Addr} (i : Nat) (hi : Γ[i]? = some (.ow a)) (t : Go (Γ.set i .fr) Γ') : Go Γ Γ'
  | drop {Γ Γ' : List Md} (i : Nat) (t : Go (Γ.set i .un) Γ') : Go Γ Γ'
  | deep {Γ Γ' : List Md} {a : Option Addr} (i : Nat) (s : Sh) (hi : Γ[i]? = some (.ow a)) (nd : noDp Γ = true) (hs : s.isFz = false) (hk : ∀ o, ∀ x ∈ kidS s o, x = .fz) (t : Go (Γ.set i (.dp a s)) Γ') : Go Γ Γ'
  | flat {Γ Γ' : List Md} {a : Option Addr} {s : Sh} (i : Nat) (hi : Γ[i]? = some (.dp a s)) (t : Go (Γ.set i (.ow a)) Γ') : Go Γ Γ'
theorem Er.go {Γ Γ' : List Md} (g : Go Γ Γ') : ∀ {G : Hp}, Er C H0 Γ G H σ ρ → Ws C G0 H0 n G H → ∃ G', Ws C G0 H0 n G' H ∧ Same G G' ∧ Er C H0 Γ' G' H σ ρ := by
  induction g with
  | refl => exact fun e s => ⟨_, s, Same.refl _, e⟩
  | frz i hi _ ih =>
    intro G e s
    obtain ⟨G1, s1, a1, e1⟩ := e.frz hi s
    obtain ⟨G2, s2, a2, e2⟩ := ih e1 s1
    exact ⟨G2, s2, a1.trans a2, e2⟩
  | drop i _ ih => exact fun e s => ih e.drop s
  | deep i s hi nd hs hk _ ih => exact fun e w => ih (e.deep hi nd hs hk) w
  | flat i hi _ ih =>
    intro G e s
    obtain ⟨G1, s1, a1, e1⟩ := e.flat hi s
    obtain ⟨G2, s2, a2, e2⟩ := ih e1 s1
    exact ⟨G2, s2, a1.trans a2, e2⟩
end
/-! ### statements -/
inductive Res where
  | nx (ρ : Rho)
  | rt (d : D)
  | bk (ρ : Rho)
  | ct (ρ : Rho)
section
variable {K : PySem.W.Frag}
/-- what is returned: it stays, or it is the caller's own -/
inductive RM where
  | fr
  | nw
  | tr (s : Sh)
def RRel (rm : RM) (C : Cfg K) (H0 G H : Hp) (v : V) (d : D) : Prop := match rm with
  | .fr => Rep C G v d
  | .nw => ∃ p o, v = .ref p ∧ H0 p = none ∧ G p = none ∧ H p = some o ∧ ORep C G o d
  | .tr s => ∃ as, Tr C H0 G H s as v d
def SQ (rm : RM) (C : Cfg K) (G0 H0 Gs : Hp) (D : Ends) (Γn Γb Γc : List Md) : Nat → Res → Prop := fun m r => match r with
  | .nx ρ => ∀ σ G H, Ws C G0 H0 m G H → Same Gs G → Er C H0 Γn G H σ ρ → D.nx σ H
  | .rt d => ∀ v G H, Ws C G0 H0 m G H → Same Gs G → RRel rm C H0 G H v d → D.rt v H
  | .bk ρ => ∀ σ G H, Ws C G0 H0 m G H → Same Gs G → Er C H0 Γb G H σ ρ → D.bk σ H
  | .ct ρ => ∀ σ G H, Ws C G0 H0 m G H → Same Gs G → Er C H0 Γc G H σ ρ → D.ct σ H
def SimS (rm : RM) (C : Cfg K) (E : XK) (Γ : List Md) (t : TS) (ψ : Rho → Out Res) (Γn Γb Γc : List Md) : Prop := ∀ G0 H0 n G H σ ρ D, Ws C G0 H0 n G H → Er C H0 Γ G H σ ρ → (ψ ρ).wp n (SQ rm C G0 H0 G D Γn Γb Γc) (PX C G0 H0 E) → t D σ H
/-- but for the slots is -/
def Tch (is : List Nat) (σ σ' : L2.St) : Prop := σ'.length = σ.length ∧ ∀ j, j ∉ is → σ'[j]? = σ[j]?
/-- what a walk brings: a thing that stays, or (pr) a pair that is made just for the turn -/
def RepJ (pr : Bool) (C : Cfg K) (G : Hp) (v : V) (d : D) : Prop := Rep C G v d ∨ (pr = true ∧ ∃ a vs xs, v = .ref a ∧ d = .tup xs ∧ SqT K G a vs ∧ RepL C G vs xs)
/-- a target -/
def SimG (pr : Bool) (C : Cfg K) (Γ : List Md) (is : List Nat) (g : TG) (γ : D → Rho → Option Rho) (Γ' : List Md) : Prop := ∀ H0 n G H σ ρ v d ρ' Q, Wl C n G H → Er C H0 Γ G H σ ρ → RepJ pr C G v d → γ d ρ = some ρ' → (∀ σ', Tch is σ σ' → Er C H0 Γ' G H σ' ρ' → Q σ' H) → g v σ H Q
def SimGs (C : Cfg K) (Γ : List Md) (is : List Nat) (g : TGs) (γ : List D → Rho → Option Rho) (Γ' : List Md) : Prop := ∀ H0 n G H σ ρ vs ds ρ' Q, Wl C n G H → Er C H0 Γ G H σ ρ → RepL C G vs ds → γ ds ρ = some ρ' → (∀ σ', Tch is σ σ' → Er C H0 Γ' G H σ' ρ' → Q σ' H) → g vs σ H Q
end
section
variable {rm : RM} {pr : Bool} {K : PySem.W.Frag} {C : Cfg K} {E : XK} {Γ Γ' Γ1 Γ2 Γn Γb Γc : List Md} {n m : Nat} {G0 H0 G H G1 H1 G2 H2 : Hp} {σ : L2.St} {ρ : Rho} {Q : VK} {i : Nat}
theorem PX.stm {c : Str} {fs : List (Str × D)} (s : Ws C G0 H0 n G H) (h : PX C G0 H0 E m c fs) : PX C G H E m c fs := PX.back s h
theorem SQ.up {Gs Gt : Hp} {D : Ends} {r : Res} (a : Same Gs Gt) (k : SQ rm C G0 H0 Gs D Γn Γb Γc m r) : SQ rm C G0 H0 Gt D Γn Γb Γc m r := by
  cases r with
  | nx ρ' => exact fun σ G H s b e => k σ G H s (a.trans b) e
  | rt d => exact fun v G H s b e => k v G H s (a.trans b) e
  | bk ρ' => exact fun σ G H s b e => k σ G H s (a.trans b) e
  | ct ρ' => exact fun σ G H s b e => k σ G H s (a.trans b) e
theorem ss_go {t : TS} {ψ : Rho → Out Res} (g : Go Γ Γ1) (h : SimS rm C E Γ1 t ψ Γn Γb Γc) : SimS rm C E Γ t ψ Γn Γb Γc := fun G0 H0 n G H σ ρ D s e q => by
  obtain ⟨G', s', a', e'⟩ := e.go g s
  exact h G0 H0 n G' H σ ρ D s' e' (Out.wp_mono (fun m r k => SQ.up a' k) (fun _ _ _ z => z) q)
theorem ss_then {t : TS} {ψ : Rho → Out Res} (h : SimS rm C E Γ t ψ Γn Γb Γc) (g : Go Γn Γ1) : SimS rm C E Γ t ψ Γ1 Γb Γc := fun G0 H0 n G H σ ρ D s e q => by
  refine h G0 H0 n G H σ ρ D s e (Out.wp_mono (fun m r k => ?_) (fun _ _ _ z => z) q)
  cases r with
  | nx ρ' =>
    intro σ' G' H' s' a' e'
    obtain ⟨G2, s2, a2, e2⟩ := e'.go g s'
    exact k σ' G2 H' s2 (a'.trans a2) e2
  | rt d => exact k
  | bk ρ' => exact k
  | ct ρ' => exact k
def sNext : Rho → Out Res := fun ρ => .ok (.nx ρ)
def sSeq (a b : Rho → Out Res) : Rho → Out Res := fun ρ => (a ρ).bind fun r => match r with
  | .nx ρ' => b ρ'
  | r => .ok r
theorem ss_next : SimS rm C E Γ tNext sNext Γ Γb Γc := fun G0 H0 n G H σ ρ D s e q => q σ G H s (Same.refl _) e
theorem ss_seq {t u : TS} {a b : Rho → Out Res} (h1 : SimS rm C E Γ t a Γ1 Γb Γc) (h2 : SimS rm C E Γ1 u b Γn Γb Γc) : SimS rm C E Γ (tSeq t u) (sSeq a b) Γn Γb Γc := fun G0 H0 n G H σ ρ D s e q => by
  refine h1 G0 H0 n G H σ ρ { D with nx := u D } s e (Out.wp_mono (fun m r k => ?_) (fun _ _ _ z => z) (Out.wp_bind q))
  cases r with
  | nx ρ' => exact fun σ' G' H' s' a' e' => h2 G0 H0 m G' H' σ' ρ' D s' e' (Out.wp_mono (fun _ _ z => SQ.up a' z) (fun _ _ _ z => z) k)
  | rt d => exact k
  | bk ρ' => exact k
  | ct ρ' => exact k
def sRet (a : Rho → Out D) : Rho → Out Res := fun ρ => (a ρ).bind fun d => .ok (.rt d)
def sRetN : Rho → Out Res := fun _ => .ok (.rt .non)
def sDrop (a : Rho → Out D) : Rho → Out Res := fun ρ => (a ρ).bind fun _ => .ok (.nx ρ)
def sIf (c : Rho → Out Bool) (a b : Rho → Out Res) : Rho → Out Res := fun ρ => (c ρ).bind fun x => bif x then a ρ else b ρ
theorem ss_ret {te : TE} {a : Rho → Out D} (h : SimE C E Γ te a) : SimS .fr C E Γ (tRet te) (sRet a) Γn Γb Γc := fun G0 H0 n G H σ ρ D s e q =>
  h H0 n G H σ ρ D.rt s.w e (Out.wp_mono (fun m d k v G' H' s' r => k v G' H' (s.trans s') s'.g r) (fun _ _ _ z => PX.stm s z) (Out.wp_bind q))
theorem ss_if {tc : TT} {t u : TS} {c : Rho → Out Bool} {a b : Rho → Out Res} (hc : SimT C E Γ tc c) (h1 : SimS rm C E Γ t a Γn Γb Γc) (h2 : SimS rm C E Γ u b Γn Γb Γc) : SimS rm C E Γ (tIfS tc t u) (sIf c a b) Γn Γb Γc := fun G0 H0 n G H σ ρ D s e q => by
  refine hc H0 n G H σ ρ _ s.w e (Out.wp_mono (fun m x k G1 H1 s1 => ?_) (fun _ _ _ z => PX.stm s z) (Out.wp_bind q))
  cases x with
  | true => exact h1 G0 H0 m G1 H1 σ ρ D (s.trans s1) (e.step s1) (Out.wp_mono (fun _ _ z => SQ.up s1.g z) (fun _ _ _ z => z) k)
  | false => exact h2 G0 H0 m G1 H1 σ ρ D (s.trans s1) (e.step s1) (Out.wp_mono (fun _ _ z => SQ.up s1.g z) (fun _ _ _ z => z) k)
def sNever : Rho → Out Res := fun _ => .stuck
/-! ### targets, assignments -/
def gN (i : Nat) : D → Rho → Option Rho := fun d ρ => some (ρ.set i d)
def gsNil : List D → Rho → Option Rho := fun ds ρ => match ds with
  | [] => some ρ
  | _ => none
def gsCons (g : D → Rho → Option Rho) (r : List D → Rho → Option Rho) : List D → Rho → Option Rho := fun ds ρ => match ds with
  | d :: ds => (g d ρ).bind fun ρ' => r ds ρ'
  | [] => none
def gT (r : List D → Rho → Option Rho) : D → Rho → Option Rho := fun d ρ => match d with
  | .tup ds => r ds ρ
  | _ => none
theorem sg_name : SimG false C Γ [i] (gName i) (gN i) (Γ.set i .fr) := fun H0 n G H σ ρ v d ρ' Q w e r h q => by
  cases h
  have r := r.resolve_right fun z => Bool.noConfusion z.1
  refine q _ ⟨List.length_set .., fun j hj => ?_⟩ (e.set r)
  exact List.getElem?_set_ne fun z => hj (by simp [z])
theorem sgs_nil : SimGs C Γ [] gNil gsNil Γ := fun H0 n G H σ ρ vs ds ρ' Q w e r h q => by
  cases r with
  | nil =>
    cases h
    exact ⟨rfl, q _ ⟨rfl, fun _ _ => rfl⟩ e⟩
  | cons _ _ => cases h
theorem sgs_cons {g : TG} {gs : TGs} {γ : D → Rho → Option Rho} {r : List D → Rho → Option Rho} {is js : List Nat} (h1 : SimG false C Γ is g γ Γ1) (h2 : SimGs C Γ1 js gs r Γ2) : SimGs C Γ (is ++ js) (gCons g gs) (gsCons γ r) Γ2 := fun H0 n G H σ ρ vs ds ρ' Q w e rr h q => by
  cases rr with
  | nil => cases h
  | cons hv ht =>
    have h' : (γ _ ρ).bind _ = some ρ' := h
    obtain ⟨ρ1, e1, e2⟩ := Option.bind_eq_some_iff.mp h'
    exact ⟨_, _, rfl, h1 H0 n G H σ ρ _ _ ρ1 _ w e (.inl hv) e1 fun σ1 t1 er1 => h2 H0 n G H σ1 ρ1 _ _ ρ' Q w er1 ht e2 fun σ2 t2 er2 => q σ2 ⟨t2.1.trans t1.1, fun j hj => (t2.2 j fun z => hj (List.mem_append_right _ z)).trans (t1.2 j fun z => hj (List.mem_append_left _ z))⟩ er2⟩
theorem sg_tup {k : Nat} {gs : TGs} {r : List D → Rho → Option Rho} {is : List Nat} (h : SimGs C Γ is gs r Γ1) (hk : ∀ ds ρ ρ', r ds ρ = some ρ' → ds.length = k) : SimG pr C Γ is (gTup K k gs) (gT r) Γ1 := fun H0 n G H σ ρ v d ρ' Q w e rr hh q => by
  rcases rr with rr | ⟨_, a, vs, xs, rfl, rfl, hs, ht⟩
  · cases rr <;> first | cases hh | skip
    rename_i a vs xs hs ht hl
    exact ⟨a, vs, rfl, Evl.ex_t w.sub hs.1, by rw [ht.len]; exact hk _ _ _ hh, h H0 n G H σ ρ _ _ ρ' Q w e ht hh q⟩
  · exact ⟨a, vs, rfl, Evl.ex_t w.sub hs, by rw [ht.len]; exact hk _ _ _ hh, h H0 n G H σ ρ _ _ ρ' Q w e ht hh q⟩
theorem gs_len0 : ∀ ds ρ ρ', gsNil ds ρ = some ρ' → ds.length = 0 := fun ds ρ ρ' h => by
  cases ds with
  | nil => rfl
  | cons _ _ => cases h
theorem gs_len {k : Nat} {g : D → Rho → Option Rho} {r : List D → Rho → Option Rho} (hr : ∀ ds ρ ρ', r ds ρ = some ρ' → ds.length = k) : ∀ ds ρ ρ', gsCons g r ds ρ = some ρ' → ds.length = k + 1 := fun ds ρ ρ' h => by
  cases ds with
  | nil => cases h
  | cons d ds =>
    have h' : (g d ρ).bind _ = some ρ' := h
    obtain ⟨ρ1, e1, e2⟩ := Option.bind_eq_some_iff.mp h'
    exact congrArg (· + 1) (hr ds ρ1 ρ' e2)
/-- x = a new object -/
def sSet (i : Nat) (a : Rho → Out D) : Rho → Out Res := fun ρ => (a ρ).bind fun d => .ok (.nx (ρ.set i d))
theorem ss_new {te : TE} {a : Rho → Out D} (h : SimN C E Γ te a) (nd : noDp Γ = true := by rfl) : SimS rm C E Γ (tAsg te (gName i)) (sSet i a) (Γ.set i (.ow none)) Γb Γc := fun G0 H0 n G H σ ρ D s e q => by
  refine h H0 n G H σ ρ _ s.w e (Out.wp_mono (fun m d k p o G' H' s' np gp hp r => ?_) (fun _ _ _ z => PX.stm s z) (Out.wp_bind q))
  refine k _ G' H' (s.trans s') s'.g ((e.step s').setOw ⟨hp, gp, s.w.nvol np, s.dm np⟩ r (fun j q hj hq z => ?_) nd)
  subst z
  have hs := e.sl j
  cases hm : Γ.getD j .un with
  | un => rw [hm] at hj; cases hj
  | fr => rw [hm] at hj; cases hj
  | lk => rw [hm] at hj; cases hj
  | dp b s => rw [hm] at hj; cases hj
  | lw w => rw [hm] at hj; cases hj
  | ow b =>
  rw [hm] at hs
  obtain ⟨p', o', a1, a2, a3, _⟩ := hs
  rw [hq] at a1
  cases a1
  rw [a2.h] at np
  cases np
theorem ss_set {te : TE} {a : Rho → Out D} (h : SimE C E Γ te a) : SimS rm C E Γ (tAsg te (gName i)) (sSet i a) (Γ.set i .fr) Γb Γc := fun G0 H0 n G H σ ρ D s e q =>
  h H0 n G H σ ρ _ s.w e (Out.wp_mono (fun m d k => fun v G' H' s' r => k _ G' H' (s.trans s') s'.g ((e.step s').set r)) (fun _ _ _ z => PX.stm s z) (Out.wp_bind q))
/-! ### walks -/
def WalkD (pr : Bool) (C : Cfg K) (J : It) (G : Hp) (ds : List D) : Prop := ds.length ≤ 100000 ∧ ∃ (Gp : Hp → Prop) (Y : Nat → Hp → V → Hp → Prop), Walk J ds.length Gp Y ∧ (∀ H', Same G H' → Gp H') ∧
  ∀ i d n G1 H1 x H2, ds[i]? = some d → Same G G1 → Wl C n G1 H1 → Y i H1 x H2 → ∃ G2, Ws C G1 H1 n G2 H2 ∧ RepJ pr C G2 x d
def SimI (pr : Bool) (C : Cfg K) (E : XK) (Γ : List Md) (wi : TI) (φ : Rho → Out (List D)) : Prop := ∀ H0 n G H σ ρ R, Wl C n G H → Er C H0 Γ G H σ ρ → (φ ρ).wp n (fun m ds => ∀ J G' H', Ws C G H m G' H' → WalkD pr C J G' ds → R J H') (PX C G H E) → wi σ H R
def forD (γ : D → Rho → Option Rho) (b : Rho → Out Res) : List D → Rho → Out Res
  | [], ρ => .ok (.nx ρ)
  | x :: xs, ρ => match γ x ρ with
    | none => .stuck
    | some ρ1 => (b ρ1).bind fun r => match r with
      | .nx ρ2 => forD γ b xs ρ2
      | .ct ρ2 => forD γ b xs ρ2
      | .bk ρ2 => .ok (.nx ρ2)
      | .rt d => .ok (.rt d)
def sFor (φ : Rho → Out (List D)) (γ : D → Rho → Option Rho) (b : Rho → Out Res) : Rho → Out Res := fun ρ => (φ ρ).bind fun ds => forD γ b ds ρ
theorem ss_for {wi : TI} {g : TG} {tb : TS} {φ : Rho → Out (List D)} {γ : D → Rho → Option Rho} {b : Rho → Out Res} (hi : SimI pr C E Γ wi φ) {is : List Nat} (hg : SimG pr C Γ is g γ Γ1) (hb : SimS rm C E Γ1 tb b Γ Γ Γ) : SimS rm C E Γ (tFor wi g tb) (sFor φ γ b) Γ Γb Γc := fun G0 H0 n G H σ ρ D s e q => by
  refine hi H0 n G H σ ρ _ s.w e (Out.wp_mono (fun m ds k J Gi Hi si wd => ?_) (fun _ _ _ z => PX.stm s z) (Out.wp_bind q))
  obtain ⟨hl, Gp, Y, wk, hGp, hY⟩ := wd
  refine for_it wk (fun i σ' H' => ∃ m' G' ρ', Ws C G0 H0 m' G' H' ∧ Same Gi G' ∧ Er C H0 Γ G' H' σ' ρ' ∧ (forD γ b (ds.drop i) ρ').wp m' (SQ rm C G0 H0 G D Γ Γb Γc) (PX C G0 H0 E)) ⟨m, Gi, ρ, s.trans si, Same.refl _, e.step si, by rw [List.drop_zero]; exact k⟩ ?_ ?_ ?_
  · rintro i σ' H' _ ⟨m', G', ρ', s', a', e', _⟩
    exact hGp H' (a'.trans s'.w.sub)
  · rintro i x σ' H' H'' hi ⟨m', G', ρ', s', a', e', k'⟩ y
    obtain ⟨d, hd⟩ : ∃ d, ds[i]? = some d := ⟨_, List.getElem?_eq_getElem hi⟩
    obtain ⟨G2, s2, r2⟩ := hY i d m' G' H' x H'' hd a' s'.w y
    have hdr : ds.drop i = d :: ds.drop (i + 1) := by
      rw [List.drop_eq_getElem_cons hi]
      congr 1
      exact Option.some.inj ((List.getElem?_eq_getElem hi).symm.trans hd)
    rw [hdr] at k'
    unfold forD at k'
    cases hh : γ d ρ' with
    | none =>
      simp only [hh] at k'
      exact k'.elim
    | some ρ1 =>
      simp only [hh] at k'
      refine hg H0 m' G2 H'' σ' ρ' x d ρ1 _ s2.w (e'.step s2) r2 hh fun σ1 _ e1 => ?_
      have a2 : Same Gi G2 := a'.trans s2.g
      refine hb G0 H0 m' G2 H'' σ1 ρ1 _ (s'.trans s2) e1 (Out.wp_mono (fun m3 r k3 => ?_) (fun _ _ _ z => z) (Out.wp_bind k'))
      cases r with
      | nx ρ3 => exact fun σ3 G3 H3 s3 a3 e3 => ⟨m3, G3, ρ3, s3, a2.trans a3, e3, k3⟩
      | ct ρ3 => exact fun σ3 G3 H3 s3 a3 e3 => ⟨m3, G3, ρ3, s3, a2.trans a3, e3, k3⟩
      | bk ρ3 => exact fun σ3 G3 H3 s3 a3 e3 => k3 σ3 G3 H3 s3 (si.g.trans (a2.trans a3)) e3
      | rt d3 => exact fun v G3 H3 s3 a3 r3 => k3 v G3 H3 s3 (si.g.trans (a2.trans a3)) r3
  · rintro σ' H' ⟨m', G', ρ', s', a', e', k'⟩
    rw [List.drop_length] at k'
    exact k' σ' G' H' s' (si.g.trans a') e'
end
end ND
/-! comprehensions, walks, defs -/
namespace ND
open PySem PySem.Spec PyProof.Rows L2
def Out.nox {α : Type} : Out α → Out α
  | .ok a => .ok a
  | .exc _ _ => .stuck
  | .stuck => .stuck
  | .any c P k => .any c P fun d => (k d).nox
@[simp] theorem Out.nox_ok {α : Type} (a : α) : (Out.ok a).nox = .ok a := rfl
@[simp] theorem Out.nox_any {α : Type} (c : Nat) (P : D → Prop) (k : D → Out α) : (Out.any c P k).nox = .any c P fun d => (k d).nox := rfl
theorem Out.nox_wp {α : Type} {Q : Nat → α → Prop} {E E' : Nat → Str → List (Str × D) → Prop} : ∀ {o : Out α} {n : Nat}, o.nox.wp n Q E → o.wp n Q E'
  | .ok _, _, h => h
  | .exc _ _, _, h => h.elim
  | .stuck, _, h => h
  | .any c P k, _, h => by
    obtain ⟨m, e, h⟩ := h
    exact ⟨m, e, fun d hd => Out.nox_wp (h d hd)⟩
def wipeM (Γ : List Md) : List Nat → List Md
  | [] => Γ
  | v :: vs => (wipeM Γ vs).set v .un
section
variable {pr : Bool} {K : PySem.W.Frag} {C : Cfg K} {E : XK} {Γ Γ' Γ1 Γ2 Γn Γb Γc : List Md} {n m : Nat} {G0 H0 G H G1 H1 G2 H2 : Hp} {σ : L2.St} {ρ : Rho} {Q : VK} {i : Nat}
theorem Er.none (e : Er C H0 Γ G H σ ρ) : Er C H0 (Γ.set i .un) G H (σ.set i none) ρ := by
  have back : ∀ x, ((Γ.set i .un).getD x .un).isOw = true → (Γ.getD x .un).isOw = true ∧ i ≠ x := fun x hx => by
    rw [getD_set] at hx
    by_cases z : i = x ∧ i < Γ.length
    · rw [if_pos z] at hx; cases hx
    · rw [if_neg z] at hx
      refine ⟨hx, fun zz => ?_⟩
      subst zz
      rw [List.getD_eq_getElem?_getD, List.getElem?_eq_none (Nat.le_of_not_lt fun y => z ⟨rfl, y⟩)] at hx
      cases hx
  refine ⟨fun j => ?_, fun j k q hjk hj hk e1 e2 => ?_, by rw [List.length_set, List.length_set]; exact e.lg, by rw [List.length_set]; exact e.lr, ?_⟩
  rotate_right
  · have := e.dp.set (i := i) (m := .un) (y := Option.none) (d := ρ.getD i .non) e.lg (fun _ _ z => nomatch z) (fun z => nomatch z)
    have hs : ρ.set i (ρ.getD i .non) = ρ := by
      refine List.ext_getElem? fun j => ?_
      by_cases hj : i = j
      · subst hj
        by_cases hl : i < ρ.length
        · rw [List.getElem?_set_self hl, List.getD_eq_getElem?_getD, List.getElem?_eq_getElem hl]
          rfl
        · rw [List.getElem?_eq_none (by rw [List.length_set]; omega), List.getElem?_eq_none (by omega)]
      · rw [List.getElem?_set_ne hj]
    rw [hs] at this
    exact this
  · rw [getD_set]
    by_cases z : i = j ∧ i < Γ.length
    · rw [if_pos z]; exact True.intro
    · rw [if_neg z]
      by_cases zz : i = j
      · subst zz
        rw [List.getD_eq_getElem?_getD, List.getElem?_eq_none (Nat.le_of_not_lt fun y => z ⟨rfl, y⟩)]
        exact True.intro
      · rw [List.getElem?_set_ne zz]
        exact e.sl j
  · rw [List.getElem?_set_ne (back j hj).2] at e1
    rw [List.getElem?_set_ne (back k hk).2] at e2
    exact e.dj j k q hjk (back j hj).1 (back k hk).1 e1 e2
theorem Er.wipe (e : Er C H0 Γ G H σ ρ) : ∀ vs : List Nat, Er C H0 (wipeM Γ vs) G H (L2.wipe σ vs) ρ
  | [] => e
  | v :: vs => (Er.wipe e vs).none
theorem wipe_at {σ : L2.St} {j : Nat} : ∀ {vs : List Nat}, j ∈ vs → j < σ.length → (L2.wipe σ vs)[j]? = some none
  | v :: vs, h, hl => by
    unfold L2.wipe
    by_cases e : v = j
    · subst e
      rw [List.getElem?_set_self (by rw [wipe_length]; exact hl)]
    · rw [List.getElem?_set_ne e]
      rcases List.mem_cons.mp h with h | h
      · exact absurd h.symm e
      · exact wipe_at h hl
theorem Tch.wipe {is vs : List Nat} {σ σ' : L2.St} (t : Tch is (L2.wipe σ vs) σ') (h : ∀ i ∈ is, i ∈ vs) : L2.wipe σ' vs = L2.wipe σ vs := by
  have hl : σ'.length = σ.length := t.1.trans (wipe_length σ vs)
  refine List.ext_getElem? fun j => ?_
  by_cases hj : j ∈ vs
  · by_cases hjl : j < σ.length
    · rw [wipe_at hj (by rw [hl]; exact hjl), wipe_at hj hjl]
    · rw [List.getElem?_eq_none (by rw [wipe_length, hl]; exact Nat.le_of_not_lt hjl), List.getElem?_eq_none (by rw [wipe_length]; exact Nat.le_of_not_lt hjl)]
  · rw [wipe_out hj]
    exact t.2 j fun z => hj (h j z)
/-! ### comprehensions -/
def lcD (γ : D → Rho → Option Rho) (c : Rho → Out Bool) (b : Rho → Out D) (ρ : Rho) : List D → Out (List D)
  | [] => .ok []
  | x :: xs => match γ x ρ with
    | none => .stuck
    | some ρ1 => (c ρ1).nox.bind fun t => bif t then (b ρ1).nox.bind fun y => (lcD γ c b ρ xs).bind fun ys => .ok (y :: ys) else lcD γ c b ρ xs
def eLc (φ : Rho → Out (List D)) (γ : D → Rho → Option Rho) (c : Rho → Out Bool) (b : Rho → Out D) : Rho → Out D := fun ρ => (φ ρ).bind fun ds => (lcD γ c b ρ ds).bind fun ys => .ok (.lst ys)
theorem sn_lc {wi : TI} {g : TG} {tt : TT} {te : TE} {vs is : List Nat} {φ : Rho → Out (List D)} {γ : D → Rho → Option Rho} {c : Rho → Out Bool} {b : Rho → Out D} (hi : SimI pr C E Γ wi φ) (hv : ∀ i ∈ is, i ∈ vs) (hg : SimG pr C (wipeM Γ vs) is g γ Γ1)
    (hc : SimT C E0 Γ1 tt c) (hb : SimE C E0 Γ1 te b) : SimN C E Γ (tLc wi g tt te vs) (eLc φ γ c b) := fun H0 n G H σ ρ Q w e q => by
  refine hi H0 n G H σ ρ _ w e (Out.wp_mono (fun m ds k J Gi Hi si wd => ?_) (fun _ _ _ z => z) (Out.wp_bind q))
  obtain ⟨hl, Gp, Y, wk, hGp, hY⟩ := wd
  intro Dl nD
  have nvD := si.w.nvol nD
  have gD := si.w.gn nD
  refine lc_it wk (fun i H' => ∃ m' G' acc us, Ws C Gi Hi m' G' H' ∧ G' Dl = none ∧ H' Dl = some (.lst us) ∧ RepL C G' us acc ∧ acc.length ≤ i ∧ (lcD γ c b ρ (ds.drop i)).wp m' (fun m2 ys => PN C G H Q m2 (.lst (acc ++ ys))) (PX C G H E)) ?_ ?_ ?_ ?_
  · refine ⟨m, Gi, [], [], (Ws.refl si.w).tmp nD, gD, upd_same, .nil, Nat.le_refl _, ?_⟩
    rw [List.drop_zero]
    exact Out.wp_mono (fun _ _ z => z) (fun _ _ _ z => z) (Out.wp_bind k)
  · rintro i H' _ ⟨m', G', acc, us, s', gD', hD', r', _⟩
    exact hGp H' (s'.g.trans s'.w.sub)
  · rintro i x H' H'' hi' ⟨m', G', acc, us, s', gD', hD', r', la, k'⟩ y
    obtain ⟨d, hd⟩ : ∃ d, ds[i]? = some d := ⟨_, List.getElem?_eq_getElem hi'⟩
    obtain ⟨G2, s2, r2⟩ := hY i d m' G' H' x H'' hd s'.g s'.w y
    have hdr : ds.drop i = d :: ds.drop (i + 1) := by
      rw [List.drop_eq_getElem_cons hi']
      congr 1
      exact Option.some.inj ((List.getElem?_eq_getElem hi').symm.trans hd)
    rw [hdr] at k'
    unfold lcD at k'
    have hDn : H' Dl ≠ none := by rw [hD']; intro z; cases z
    -- Dl is nobody's: the slots do not know of it
    cases hh : γ d ρ with
    | none =>
      simp only [hh] at k'
      exact k'.elim
    | some ρ1 =>
      simp only [hh] at k'
      have eW : Er C H0 (wipeM Γ vs) G2 H'' (L2.wipe σ vs) ρ := ((e.wipe vs).step si |>.step s').step s2
      refine hg H0 m' G2 H'' _ ρ x d ρ1 _ s2.w eW r2 hh fun σ1 t1 e1 => ⟨t1.wipe hv, ?_⟩
      refine hc H0 m' G2 H'' σ1 ρ1 _ s2.w e1 (Out.wp_mono (fun m3 t k3 G3 H3 s3 => ?_) (fun _ _ _ z => z) (Out.nox_wp (Out.wp_bind k')))
      have s03 := (s'.trans s2).trans s3
      have hD3 : H3 Dl = some (.lst us) := s3.k Dl _ nvD (s2.k Dl _ nvD hD')
      have gD3 : G3 Dl = none := s3.o Dl (s2.o Dl gD' hDn) (by rw [s2.k Dl _ nvD hD']; intro z; cases z)
      cases t with
      | false => exact ⟨m3, G3, acc, us, s03, gD3, hD3, r'.mono (s2.g.trans s3.g), by omega, k3⟩
      | true =>
        refine hb H0 m3 G3 H3 σ1 ρ1 _ s3.w (e1.step s3) (Out.wp_mono (fun m4 yd k4 yv G4 H4 s4 r4 => ?_) (fun _ _ _ z => z) (Out.nox_wp (Out.wp_bind k3)))
        have hD4 : H4 Dl = some (.lst us) := s4.k Dl _ nvD hD3
        have gD4 : G4 Dl = none := s4.o Dl gD3 (by rw [hD3]; intro z; cases z)
        have s04 := s03.trans s4
        have hus := r'.len
        refine ⟨us, hD4, Nat.lt_of_lt_of_le (show us.length < 100000 by omega) (by decide), m4, G4, acc ++ [yd], us ++ [yv], ?_, gD4, upd_same, (r'.mono (s2.g.trans (s3.g.trans s4.g))).app (.cons r4 .nil), ?_, ?_⟩
        · exact s04.mut ⟨hD4, gD4, nvD, nD⟩ (by intro φ z; cases z)
        · rw [List.length_append]
          show acc.length + 1 ≤ i + 1
          omega
        · refine Out.wp_mono (fun m5 ys k5 => ?_) (fun _ _ _ z => z) (Out.wp_bind k4)
          rw [List.append_assoc]
          exact k5
  · rintro H' ⟨m', G', acc, us, s', gD', hD', r', la, k'⟩
    rw [List.drop_length] at k'
    have k2 : PN C G H Q m' (.lst (acc ++ [])) := k'
    rw [List.append_nil] at k2
    exact k2 Dl (.lst us) G' H' (si.trans s') (si.dm nD) gD' hD' ⟨by omega, r'⟩
/-! ### what is walked -/
def itemsL : D → Out (List D)
  | .lst xs => .ok xs
  | _ => .stuck
def itemsT : D → Out (List D)
  | .tup xs => .ok xs
  | _ => .stuck
def itemsQ : D → Out (List D)
  | .lst xs => .ok xs
  | .tup xs => .ok xs
  | _ => .stuck
def iOf (f : D → Out (List D)) (a : Rho → Out D) : Rho → Out (List D) := fun ρ => (a ρ).bind f
theorem WalkD.of {J : It} {k : Nat} {Gp : Hp → Prop} {Y : Nat → Hp → V → Hp → Prop} {ds : List D} (w : Walk J k Gp Y) (hk : k = ds.length) (l : ds.length ≤ 100000) (hG : ∀ H', Same G H' → Gp H')
    (hY : ∀ i d n G1 H1 x H2, ds[i]? = some d → Same G G1 → Wl C n G1 H1 → Y i H1 x H2 → ∃ G2, Ws C G1 H1 n G2 H2 ∧ RepJ pr C G2 x d) : WalkD pr C J G ds := ⟨l, Gp, Y, hk ▸ w, hG, hY⟩
theorem walkD_list {a : Addr} {vs : List V} {ds : List D} (h : SqL K G a vs) (r : RepL C G vs ds) (l : ds.length ≤ 100000) : WalkD false C (Itl K a) G ds := by
  refine WalkD.of (walk_list (xs := vs)) r.len l (fun H' s => s.seq h) ?_
  · rintro i d n G1 H1 x H2 hd s w ⟨rfl, hx⟩
    obtain ⟨v, hv, rv⟩ := r.at' hd
    rw [hx] at hv
    cases hv
    exact ⟨G1, Ws.refl w, .inl (rv.mono s)⟩
theorem walkD_tup {a : Addr} {vs : List V} {ds : List D} (h : SqT K G a vs) (r : RepL C G vs ds) (l : ds.length ≤ 100000) : WalkD false C (Itt K a) G ds := by
  refine WalkD.of (walk_tup (xs := vs)) r.len l (fun H' s => Evl.ex_t s h) ?_
  · rintro i d n G1 H1 x H2 hd s w ⟨rfl, hx⟩
    obtain ⟨v, hv, rv⟩ := r.at' hd
    rw [hx] at hv
    cases hv
    exact ⟨G1, Ws.refl w, .inl (rv.mono s)⟩
theorem si_list {t : TE} {a : Rho → Out D} (ha : SimE C E Γ t a) : SimI false C E Γ (iList K t) (iOf itemsL a) := fun H0 n G H σ ρ R w e q => by
  refine ha H0 n G H σ ρ _ w e (Out.wp_mono (fun m d k v G1 H1 s1 r1 => ?_) (fun _ _ _ z => z) (Out.wp_bind q))
  cases r1 <;> first | exact k.elim | skip
  rename_i h t l
  exact ⟨_, rfl, ⟨_, .inl (rd_mono s1.w.sub h)⟩, k _ G1 H1 s1 (walkD_list (.inl h) t l)⟩
theorem si_tup {t : TE} {a : Rho → Out D} (ha : SimE C E Γ t a) : SimI false C E Γ (iTup K t) (iOf itemsT a) := fun H0 n G H σ ρ R w e q => by
  refine ha H0 n G H σ ρ _ w e (Out.wp_mono (fun m d k v G1 H1 s1 r1 => ?_) (fun _ _ _ z => z) (Out.wp_bind q))
  cases r1 <;> first | exact k.elim | skip
  rename_i h t l
  exact ⟨_, rfl, ⟨_, Evl.ex_t s1.w.sub h.1⟩, k _ G1 H1 s1 (walkD_tup h.1 t l)⟩
/-- range(n), range(a, b) -/
def rangeD (lo : Int) (n : Nat) : List D := (List.range n).map fun i => D.int (lo + (i : Nat))
def iRg1 (a : Rho → Out (List D)) : Rho → Out (List D) := fun ρ => (a ρ).bind fun ds => match ds with
  | [.int j] => if j ≤ 100000 ∧ -100000 ≤ j then .ok (rangeD 0 j.toNat) else .stuck
  | _ => .stuck
theorem rangeD_at {lo : Int} {k i : Nat} {a : D} (h : (rangeD lo k)[i]? = some a) : a = .int (lo + (i : Nat)) := by
  unfold rangeD at h
  rw [List.getElem?_map] at h
  obtain ⟨j, hj, rfl⟩ := Option.map_eq_some_iff.mp h
  have hi : i < k := by simpa using (List.getElem?_eq_some_iff.mp hj).1
  rw [List.getElem?_range hi] at hj
  cases hj
  rfl
theorem walkD_range {lo : Int} {n : Nat} (l : n ≤ 100000) : WalkD false C (Itr lo n) G (rangeD lo n) := by
  have hl : (rangeD lo n).length = n := by unfold rangeD; rw [List.length_map, List.length_range]
  refine WalkD.of walk_range hl.symm (by rw [hl]; exact l) (fun _ _ => True.intro) ?_
  · rintro i d n' G1 H1 x H2 hd s w ⟨rfl, rfl⟩
    rw [rangeD_at hd]
    exact ⟨G1, Ws.refl w, .inl (.int _)⟩
theorem si_range1 {t : TA} {a : Rho → Out (List D)} (ha : SimB C E Γ 1 t a) : SimI false C E Γ (iRng1 t) (iRg1 a) := fun H0 n G H σ ρ R w e q => by
  refine ha H0 n G H σ ρ _ w e (Out.wp_mono (fun m ds k vs G1 H1 s1 r1 hl => ?_) (fun _ _ _ z => z) (Out.wp_bind q))
  match ds, hl, vs, r1 with
  | [d], _, [v], .cons h1 .nil =>
    cases d <;> first | exact k.elim | skip
    rename_i j _
    cases h1.int
    by_cases hj : j ≤ 100000 ∧ -100000 ≤ j
    · simp only [hj, and_self, if_true] at k
      exact ⟨j, rfl, by omega, by omega, k _ G1 H1 s1 (walkD_range (by omega))⟩
    · simp only [hj, if_false] at k
      exact k.elim
theorem sok_sign {z : Str} {i c : Nat} (h : SOk z) (hc : z.cps[i]? = some c) : SOk ⟨#[c]⟩ := by
  refine ⟨by show 1 ≤ 100000; decide, ?_⟩
  have h2 := h.2
  unfold PyData.strOk at h2 ⊢
  rw [Array.all_eq_true] at h2 ⊢
  obtain ⟨hi, e⟩ := Array.getElem?_eq_some_iff.mp hc
  have := h2 i hi
  rw [e] at this
  intro j hj
  have : j = 0 := by simpa using hj
  subst this
  assumption
/-- the signs of a text -/
def signs (z : Str) : List D := z.cps.toList.map fun c => D.str ⟨#[c]⟩
def itemsS : D → Out (List D)
  | .str z => .ok (signs z)
  | _ => .stuck
theorem si_str {t : TE} {a : Rho → Out D} (ha : SimE C E Γ t a) : SimI false C E Γ (iStr t) (iOf itemsS a) := fun H0 n G H σ ρ R w e q => by
  refine ha H0 n G H σ ρ _ w e (Out.wp_mono (fun m d k v G1 H1 s1 r1 => ?_) (fun _ _ _ z => z) (Out.wp_bind q))
  cases r1 <;> first | exact k.elim | skip
  rename_i z hz
  have hl : (signs z).length = z.cps.size := by unfold signs; rw [List.length_map, Array.length_toList]
  refine ⟨z, rfl, k _ G1 H1 s1 (WalkD.of walk_str hl.symm (by rw [hl]; exact hz.1) (fun _ _ => True.intro) ?_)⟩
  · rintro i d n' G1 H1 x H2 hd s w ⟨rfl, c, hc, rfl⟩
    unfold signs at hd
    rw [List.getElem?_map, Array.getElem?_toList, hc] at hd
    cases hd
    exact ⟨G1, Ws.refl w, .inl <| .str _ (sok_sign hz hc)⟩
/-! ### a def -/
def fnD (N : Nat) (ψ : Rho → Out Res) : List D → Out D := fun ds => (ψ (ds ++ List.replicate (N - ds.length) .non)).bind fun r => match r with
  | .rt d => .ok d
  | .nx _ => .ok .non
  | _ => .stuck
def fr0 (k N : Nat) : List Md := List.replicate k .fr ++ List.replicate (N - k) .un
theorem Er.start {vs : List V} {ds : List D} {N : List Str} (r : RepL C G vs ds) (hl : ds.length ≤ N.length) : Er C H (fr0 ds.length N.length) G H (L2.start N vs) (ds ++ List.replicate (N.length - ds.length) .non) := by
  have hvl := r.len
  refine ⟨fun i => ?_, fun i j p hij hi hj => ?_, ?_, ?_, fun i a s hi => ?_⟩
  rotate_right
  · unfold fr0 at hi
    rw [List.getD_eq_getElem?_getD] at hi
    by_cases h : i < ds.length
    · rw [List.getElem?_append_left (by rw [List.length_replicate]; exact h), List.getElem?_replicate, if_pos h] at hi
      cases hi
    · rw [List.getElem?_append_right (by rw [List.length_replicate]; omega), List.getElem?_replicate] at hi
      split at hi <;> cases hi
  · unfold fr0
    rw [List.getD_eq_getElem?_getD]
    by_cases hi : i < ds.length
    · rw [List.getElem?_append_left (by rw [List.length_replicate]; exact hi), List.getElem?_replicate, if_pos hi]
      obtain ⟨v, hv, rv⟩ := r.at' (List.getElem?_eq_getElem hi)
      refine ⟨v, ?_, ?_⟩
      · unfold L2.start
        rw [List.getElem?_append_left (by rw [List.length_map, hvl]; exact hi), List.getElem?_map, hv]
        rfl
      · rw [List.getD_eq_getElem?_getD, List.getElem?_append_left hi, List.getElem?_eq_getElem hi]
        exact rv
    · rw [List.getElem?_append_right (by rw [List.length_replicate]; omega), List.getElem?_replicate]
      split <;> exact True.intro
  · unfold fr0 at hi
    rw [List.getD_eq_getElem?_getD] at hi
    by_cases h : i < ds.length
    · rw [List.getElem?_append_left (by rw [List.length_replicate]; exact h), List.getElem?_replicate, if_pos h] at hi
      cases hi
    · rw [List.getElem?_append_right (by rw [List.length_replicate]; omega), List.getElem?_replicate] at hi
      split at hi <;> cases hi
  · unfold fr0 L2.start
    rw [List.length_append, List.length_replicate, List.length_replicate, List.length_append, List.length_map, List.length_replicate, hvl]
    omega
  · unfold L2.start
    rw [List.length_append, List.length_replicate, List.length_append, List.length_map, List.length_replicate, hvl]
end
section
variable {P : Program} {w : World} {K : PySem.W.Frag} {mg : Str → Option Value} {base : Heap}
theorem body_sim {sp : Sp} {N : List Str} {k : Nat} {ψ : Rho → Out Res} {t : TS} {Γn Γb Γc : List Md} {C : Cfg K} {n : Nat} {G H : Hp} {vs : List V} {ds : List D} {Q : VK} {E : XK} (hS : SimS .fr C E (fr0 k N.length) t ψ Γn Γb Γc) (hk : k ≤ N.length)
    (wl : Wl C n G H) (r : RepL C G vs ds) (hl : ds.length = k) (q : (fnD N.length ψ ds).wp n (PQ C G H Q) (PX C G H E)) : t { nx := fun _ H' => Q .non H', rt := Q } (start N vs) H := by
  subst hl
  refine hS G H n G H _ _ _ (Ws.refl wl) (Er.start r hk) (Out.wp_mono (fun m rr kk => ?_) (fun _ _ _ z => z) (Out.wp_bind q))
  cases rr with
  | nx ρ => exact fun σ G' H' s' _ e' => kk .non G' H' s' .non
  | rt d => exact fun v G' H' s' _ rv => kk v G' H' s' rv
  | bk ρ => exact kk.elim
  | ct ρ => exact kk.elim
theorem GFun.sim {x : Str} {st : Stmt} {N ps : List Str} {k : Nat} {ψ : Rho → Out Res} (F : GFun K mg x st) (S : FnScope N ps (defScope st))
    (hb : ∀ (kV doc pm : Value) (an : Option Addr) (cdv ct : Value) (us : List Value), us.length = ps.length → bindArgs (PySem.W.fnOf x x (defArgs st) (defBody st) (defScope st) .none kV doc pm an cdv ct) ⟨us, []⟩ = pure (ps.zip us))
    {b : Bool} (hbody : ∀ (f : Addr) (cdv : Value) (A : Around) (outer : List Env) (s : Shared) (H : Hp) (E : XK) (C : Cfg K), (b = true → C.lk = []) → Room k (A.deeper (envOfC x (defScope st) s.heap.objs.size f cdv)) →
      ∃ t, PSs (cxOf (L2.CX P w) P w K mg base N x (defScope st) f cdv A outer s H E) (defBody st) t ∧ ∃ Γn Γb Γc, SimS .fr C E (fr0 ps.length N.length) t ψ Γn Γb Γc) (hk : ps.length ≤ N.length := by decide) :
    GOk P w K mg base (k + 1) x ps (spF K b ps.length (fnD N.length ψ)) := by
  refine GFun.ok (k := k) F S hb (fun vs H Q E h => ?_) (fun f cdv A outer s H vs Q E hr h => ?_)
  · obtain ⟨C, n, G, ds, _, _, r, hl, _⟩ := h
    rw [r.len]
    exact hl
  · obtain ⟨C, n, G, ds, hbk, wl, r, hl, q⟩ := h
    obtain ⟨t, ht, Γn, Γb, Γc, hS⟩ := hbody f cdv A outer s H E C hbk hr
    exact ⟨t, ht, body_sim (sp := spF K b ps.length (fnD N.length ψ)) hS hk wl r hl q⟩
end
end ND
/-! plain facts of names -/
namespace ND
open PySem PySem.Spec PyProof.Rows L2
def letters : Str := "abcdefghijklmnopqrstuvwxyz"
def NameOk (z : Str) : Prop := 1 ≤ z.length ∧ z.length ≤ 6 ∧ ∀ c ∈ z.cps.toList, c ∈ letters.cps.toList
instance (z : Str) : Decidable (NameOk z) := inferInstanceAs (Decidable (_ ∧ _ ∧ _))
def sgn (c : Nat) : Str := ⟨#[c]⟩
theorem len_toList (z : Str) : z.length = z.cps.toList.length := by rw [Array.length_toList]; rfl
theorem nodup_le {α : Type} [DecidableEq α] : ∀ {xs ys : List α}, xs.Nodup → (∀ x ∈ xs, x ∈ ys) → xs.length ≤ ys.length
  | [], _, _, _ => Nat.zero_le _
  | x :: xs, ys, h, hs => by
    have hx := hs x List.mem_cons_self
    have h1 := List.nodup_cons.mp h
    have := nodup_le (xs := xs) (ys := ys.erase x) h1.2 fun z hz => (List.mem_erase_of_ne (show z ≠ x from fun e => h1.1 (e ▸ hz))).mpr (hs z (List.mem_cons_of_mem _ hz))
    rw [List.length_erase_of_mem hx] at this
    have : 0 < ys.length := List.length_pos_of_mem hx
    rw [List.length_cons]
    omega
def tenW : List Str := ["a", "b", "x", "use", "night", "pack", "cost", "roll", "zzzzzz", "best"]
theorem tenW_ok : ∀ z ∈ tenW, NameOk z := by decide +kernel
theorem joinL_nil : ∀ cs : List Nat, TL.joinL [] (cs.map fun c => [c]) = cs
  | [] => rfl
  | [c] => rfl
  | c :: e :: r => by
    show c :: TL.joinL [] ((e :: r).map fun c => [c]) = _
    rw [joinL_nil (e :: r)]
theorem join_signs (cs : List Nat) : Txt.join "" (cs.map sgn) = ⟨cs.toArray⟩ := by
  have h := TL.tl_join "" (cs.map sgn)
  rw [← TL.join_eq] at h
  have h2 : (cs.map sgn).map TL.tl = cs.map fun c => [c] := by
    rw [List.map_map]
    rfl
  rw [h2] at h
  have h3 : TL.tl ("" : Str) = [] := by decide +kernel
  rw [h3, joinL_nil] at h
  have h4 : (Txt.join "" (cs.map sgn)).cps.toList = cs := h
  cases e : Txt.join "" (cs.map sgn) with
  | mk a =>
    rw [e] at h4
    rw [← h4]
theorem name_of {cs : List Nat} (h1 : 1 ≤ cs.length) (h2 : cs.length ≤ 6) (h : ∀ c ∈ cs, c ∈ letters.cps.toList) : NameOk ⟨cs.toArray⟩ :=
  ⟨by rw [len_toList]; exact h1, by rw [len_toList]; exact h2, h⟩
def near1 (z : Str) (c : Nat) : Str := cutS z none (some 5) ++ sgn c
theorem app_toList (a b : Str) : (a ++ b).cps.toList = a.cps.toList ++ b.cps.toList := by
  show (a.cps ++ b.cps).toList = _
  rw [Array.toList_append]
theorem cut5 (z : Str) : (cutS z none (some 5)).cps.toList = z.cps.toList.take 5 := by
  have hl := len_toList z
  have e1 : HT.sIx z.length 0 none = 0 := rfl
  have e2 : HT.sIx z.length z.length (some 5) = min 5 z.length := rfl
  show ((z.cps.toList.drop (HT.sIx z.length 0 none)).take (HT.sIx z.length z.length (some 5) - HT.sIx z.length 0 none)) = _
  rw [e1, e2, List.drop_zero, Nat.sub_zero, hl, ← List.take_take, List.take_length]
theorem near1_list (z : Str) (c : Nat) : (near1 z c).cps.toList = z.cps.toList.take 5 ++ [c] := by
  unfold near1
  rw [app_toList, cut5]
  rfl
theorem near1_ok {z : Str} {c : Nat} (h : NameOk z) (hc : c ∈ letters.cps.toList) : NameOk (near1 z c) := by
  have hl : (near1 z c).length = min 5 z.length + 1 := by
    rw [len_toList, near1_list, List.length_append, List.length_take, ← len_toList]
    rfl
  refine ⟨by omega, by omega, fun e he => ?_⟩
  rw [near1_list] at he
  rcases List.mem_append.mp he with h1 | h1
  · exact h.2.2 e (List.mem_of_mem_take h1)
  · rw [List.mem_singleton.mp h1]; exact hc
theorem near1_inj {z : Str} {c e : Nat} (h : near1 z c = near1 z e) : c = e := by
  have := congrArg (fun x : Str => x.cps.toList) h
  simp only [near1_list] at this
  have := List.append_cancel_left this
  cases this
  rfl
theorem letters_nd : letters.cps.toList.Nodup := by decide +kernel
theorem letters_len : letters.cps.toList.length = 26 := by decide +kernel
def nears (z : Str) : List Str := z :: letters.cps.toList.map (near1 z)
theorem nears_ok {z y : Str} (h : NameOk z) (hy : y ∈ nears z) : NameOk y := by
  rcases List.mem_cons.mp hy with rfl | h1
  · exact h
  · obtain ⟨c, hc, rfl⟩ := List.mem_map.mp h1
    exact near1_ok h hc
theorem nears_new {z : Str} {fs : List Str} (h : fs.length < 26) : ∃ y ∈ nears z, y ∉ fs := by
  apply Classical.byContradiction
  intro hn
  have h1 : (letters.cps.toList.map (near1 z)).Nodup := by
    unfold List.Nodup
    rw [List.pairwise_map]
    exact letters_nd.imp fun h e => h (near1_inj e)
  have h2 := nodup_le (ys := fs) h1 fun y hy => Classical.byContradiction fun hy2 => hn ⟨y, List.mem_cons_of_mem _ hy, hy2⟩
  rw [List.length_map, letters_len] at h2
  omega
theorem inV_strs {x : Str} : ∀ {xs : List Str}, inV (.str x) (xs.map V.str) = decide (x ∈ xs)
  | [] => rfl
  | y :: ys => by
    show ((y == x) || inV (.str x) (ys.map V.str)) = _
    rw [inV_strs (xs := ys)]
    by_cases h : y = x
    · subst h; simp
    · have h' : ¬ x = y := fun e => h e.symm
      simp [h, h']
theorem flat_strs : ∀ xs : List Str, (xs.map V.str).all flatV = true
  | [] => rfl
  | x :: xs => flat_strs xs
end ND
/-! rules whose readings name K: for the bodies of comprehensions -/
namespace ND
open PySem PySem.Spec PyProof.Rows L2
section
variable {X : Cx} (K : PySem.W.Frag) (hK : X.K = K)
include hK
theorem op_notIn_seqK : OpR X (compareOp .NotIn) (rIn K true) := hK ▸ op_notIn_seq
theorem ix_seqK : IxR X (rIx K) := hK ▸ ix_seq
theorem pg_tupK {es : List Expr} {k : Nat} {t : TGs} {pos : Pos} (n : Nat) (hc : X.calm = true) (h : PGs X es t) (hn : (assignEach es X.env).length = n := by rfl) (hst : (assignEach es X.env).findIdx? (·.1) = none := by rfl) : PG X (.Tuple es k pos) (gTup K n t) := hK ▸ pg_tup hc h hn hst
end
end ND
/-! sets of objects that are hashed and compared by value: for ANY such kind (own generalisation) -/
namespace ND
open PySem PySem.Spec PyProof.Rows L2
/-- a kind of keys that lie in the heap -/
structure KD (P : Program) (w : World) (α : Type) where
  dec : DecidableEq α
  lies : Heap → α → Addr → Prop
  hash : α → Int
  eqb : ∀ {A : Around} {E : Value → Shared → Prop} {s : Shared} {x y : α} {a b : Addr} {Q : Bool → Shared → Prop}, A.units < cLine → lies s.heap x a → lies s.heap y b → Q (decide (x = y)) s → wpAny (model P w) A (eqBool (.ref a) (.ref b)) Q E s
  quiet : ∀ {A : Around} {E : Value → Shared → Prop} {s : Shared} {x : α} {a : Addr} {Q : Bool → Shared → Prop}, lies s.heap x a → Q true s → wpAny (model P w) A (eqIsQuiet 8 (.ref a)) Q E s
  ofc : ∀ {A : Around} {E : Value → Shared → Prop} {s : Shared} {x : α} {a : Addr} {Q : Bool → Shared → Prop}, lies s.heap x a → Q false s → wpAny (model P w) A (ofAClassStatement 8 (.ref a)) Q E s
  hby : ∀ {A : Around} {E : Value → Shared → Prop} {s : Shared} {x : α} {a : Addr} {Q : Bool → Shared → Prop}, lies s.heap x a → (∀ b, Q b s) → wpAny (model P w) A (hashByValue 8 (.ref a)) Q E s
  pyh : ∀ {A : Around} {E : Value → Shared → Prop} {s : Shared} {x : α} {a : Addr} {Q : Int → Shared → Prop}, A.units < cLine → lies s.heap x a → (∀ n, Q (hash x) { s with toks := s.toks + n }) → wpAny (model P w) A (pyHash (.ref a)) Q E s
  keep : ∀ {h h' : Heap} {x : α} {a : Addr}, lies h x a → (∀ c o, h.get? c = some o → (∀ es ep t, o.data ≠ .set es ep t) → h'.get? c = some o) → lies h' x a
section
variable {P : Program} {w : World} {α : Type} {D : KD P w α} {A : Around} {E : Value → Shared → Prop} {s : Shared}
/-- nobody sees a search among them -/
theorem KD.unseen {k : α} {b : Addr} {Q : Bool → Shared → Prop} (hk : D.lies s.heap k b) {ys : List Value} (hy : ∀ y ∈ ys, ∃ k' c, y = Value.ref c ∧ D.lies s.heap k' c) (q : Q false s) : wpAny (model P w) A (searchCouldBeSeen (.ref b) ys) Q E s := by
  unfold searchCouldBeSeen
  refine wpAny_bind (wpAny_forIn_list _ (fun rest r s' => (r.1 = none ∧ s' = s) ∧ ∀ y ∈ rest, ∃ k' c, y = Value.ref c ∧ D.lies s.heap k' c) _ ?_ ?_ _ _ ⟨⟨rfl, rfl⟩, hy⟩)
  · rintro v rest r s' ⟨⟨hr, rfl⟩, hall⟩
    obtain ⟨k', c, rfl, hc⟩ := hall v List.mem_cons_self
    have more : ∀ y ∈ rest, ∃ k' c, y = Value.ref c ∧ D.lies s'.heap k' c := fun u hu => hall u (List.mem_cons_of_mem _ hu)
    dsimp only
    by_cases same : (b == c || (carriedByValue (.ref b) && carriedByValue (.ref c))) = true
    · exact wp_if_pos same (wpAny_pure ⟨⟨rfl, rfl⟩, more⟩)
    · refine wp_if_neg same (wpAny_bind (D.quiet hk ?_))
      simp only [Bool.not_true, Bool.false_eq_true, if_false]
      refine wpAny_bind (D.quiet hc ?_)
      simp only [Bool.not_true, Bool.false_eq_true, if_false]
      refine wpAny_bind (D.ofc hk ?_)
      simp only [Bool.false_eq_true, if_false]
      refine wpAny_bind (D.ofc hc ?_)
      simp only [Bool.false_eq_true, if_false]
      exact wpAny_pure ⟨⟨rfl, rfl⟩, more⟩
  · rintro ⟨r1, r2⟩ s' ⟨⟨hr, rfl⟩, _⟩
    obtain rfl : r1 = none := hr
    exact wpAny_pure q
/-- the entries of a set that holds L -/
def KD.ent (D : KD P w α) (L : List (Addr × α)) : List (Int × Value) := L.map fun p => (D.hash p.2, Value.ref p.1)
structure KD.Has (D : KD P w α) (h : Heap) (a : Addr) (L : List (Addr × α)) (es : Array (Int × Value)) (ep : Nat) (t : SetTable) : Prop where
  ob : ∃ o, h.get? a = some o ∧ o.ExactSet ∧ o.data = .set es ep t
  rows : es.toList = D.ent L
  tab : TabOk t (L.map fun p => D.hash p.2)
  nd : (L.map (·.2)).Nodup
  tup : ∀ p ∈ L, D.lies h p.2 p.1
  led : w.params.followText "set-order" = true ∨ t.led = true
  room : L.length * 5 < t.mask * 3
  few : L.length < 64
variable {a : Addr} {L : List (Addr × α)} {es : Array (Int × Value)} {ep : Nat} {t : SetTable}
theorem KD.ent_len (D : KD P w α) (L : List (Addr × α)) (h : es.toList = D.ent L) : es.size = L.length := by
  rw [← Array.length_toList, h]; exact List.length_map ..
theorem KD.Has.fits (R : D.Has s.heap a L es ep t) : t.fits es.size = true := by
  have h1 : t.place.size = L.length := by rw [R.tab.sz]; exact List.length_map ..
  have h2 := KD.ent_len D L R.rows
  have h3 := R.room
  unfold SetTable.fits SetTable.fill
  rw [R.tab.dm, Bool.and_eq_true, beq_iff_eq, decide_eq_true_eq]
  exact ⟨by omega, by show t.place.size + 0 ≤ t.mask; omega⟩
theorem KD.Has.entry (R : D.Has s.heap a L es ep t) {i : Nat} {p : Addr × α} (h : L[i]? = some p) : es[i]? = some (D.hash p.2, Value.ref p.1) := by
  rw [← Array.getElem?_toList, R.rows, KD.ent, List.getElem?_map, h]; rfl
theorem KD.Has.whole (R : D.Has s.heap a L es ep t) : ¬ t.gaveWay = true := by
  unfold SetTable.gaveWay
  rw [mask_odd R.tab.mok]; decide
/-- the place on the way of a hash -/
abbrev prb (t : SetTable) (h : Int) (c : Nat) : SetTable.Probe := nth t.mask (runAt t.mask (SetTable.bits h % (t.mask + 1)) (SetTable.bits h)) c
theorem prb_dummy (t : SetTable) (h : Int) (c : Nat) : (prb t h c).dummy = none := by
  have key : ∀ (n : Nat) (p : SetTable.Probe), p.dummy = none → (nth t.mask p n).dummy = none := fun n => by
    induction n with
    | zero => exact fun p hp => hp
    | succ n ih =>
      intro p hp
      refine ih (adv t.mask p) ?_
      unfold adv
      split <;> exact hp
  exact key c _ rfl
theorem prb_add (t : SetTable) (h : Int) (c q : Nat) : nth t.mask (prb t h c) q = prb t h (c + q) := (nth_add t.mask c _ q).symm
theorem prb_j (t : SetTable) (h : Int) (c q : Nat) : (nth t.mask (prb t h c) q).j = way t.mask h (c + q) := congrArg SetTable.Probe.j (prb_add t h c q)
/-- looking from the c-th step on -/
theorem KD.Has.look (R : D.Has s.heap a L es ep t) {x : Addr} {k : α} (hx : D.lies s.heap k x) (hu : A.units < cLine) {K : Nat} (far : K < 10 * SetTable.turns t.mask)
    (free : way t.mask (D.hash k) K ∉ t.place.toList) (held : ∀ c, c < K → way t.mask (D.hash k) c ∈ t.place.toList) {Q : SetFound → Shared → Prop}
    (yes : k ∈ L.map (·.2) → Q (.there none) s) (no : k ∉ L.map (·.2) → Q (.free (way t.mask (D.hash k) K) false) s) :
    ∀ (f c : Nat) (st : Option SetTable.Probe), st.getD (t.probeStart (D.hash k)) = prb t (D.hash k) c → c ≤ K → K - c < f →
      (∀ (i : Nat) p, L[i]? = some p → p.2 = k → ∃ c', c ≤ c' ∧ c' < K ∧ t.place.toList[i]? = some (way t.mask (D.hash k) c')) →
      wpAny (model P w) A (setSearchFrom a (.ref x) (D.hash k) true f st) Q E s
  | 0, _, _, _, _, hf, _ => absurd hf (Nat.not_lt_zero _)
  | f + 1, c, st, hst, hc, hf, ahead => by
    obtain ⟨o, ho, hex, hd⟩ := R.ob
    have spec := go_spec t R.tab.ris R.tab.dm (fun i => (es[i]?.map (·.1)).getD 0) (D.hash k) (10 * SetTable.turns t.mask) (K - c) _ (prb_dummy t (D.hash k) c) (by omega)
      (fun q hq => by rw [prb_j]; exact held (c + q) (by omega)) (by rw [prb_j, Nat.add_sub_cancel' hc]; exact free)
    have hashOf : ∀ (i : Nat) p, L[i]? = some p → (es[i]?.map (·.1)).getD 0 = D.hash p.2 := fun i p hp => by rw [R.entry hp]; rfl
    rw [setSearchFrom_succ]
    refine wpAny_bind (wpAny_setState_of ho hd R.fits ?_); dsimp only
    refine wp_if_neg R.whole ?_; try refine wpAny_bind (wpAny_pure ?_)
    rcases spec with ⟨q, i, hq, hi, hh, skip, pr⟩ | ⟨skip, pr⟩
    · rw [prb_j] at hi
      have pr' : t.probe (fun i => (es[i]?.map (·.1)).getD 0) (D.hash k) (st.getD (t.probeStart (D.hash k))) = some (.candidate (way t.mask (D.hash k) (c + q)) i (prb t (D.hash k) (c + (q + 1)))) := by
        rw [hst, ← prb_j, ← prb_add]; exact pr
      rw [pr']; dsimp only
      have hil : i < L.length := by
        have h1 : i < t.place.size := by rw [← Array.length_toList]; exact (List.getElem?_eq_some_iff.mp hi).1
        have h2 : t.place.size = L.length := by rw [R.tab.sz]; exact List.length_map ..
        omega
      obtain ⟨p, hp⟩ : ∃ p, L[i]? = some p := ⟨_, List.getElem?_eq_getElem hil⟩
      have mem : p ∈ L := List.mem_of_getElem? hp
      have rest : wpAny (model P w) A (searchRest a (.ref x) (D.hash k) true f es t (way t.mask (D.hash k) (c + q)) i (prb t (D.hash k) (c + (q + 1)))) Q E s := by
        unfold searchRest
        rw [R.entry hp]; dsimp only
        refine wpAny_bind (wpAny_holding (D.eqb hu (R.tup p mem) hx (wpAny_bind (wpAny_setState_of ho hd R.fits ?_)))); dsimp only
        by_cases hkk : p.2 = k
        · exact wp_if_pos (by simp [hkk]) (wpAny_pure (yes (List.mem_map.mpr ⟨p, mem, hkk⟩)))
        · refine wp_if_neg (by simp [hkk]) ?_; try refine wpAny_bind (wpAny_pure ?_)
          have live : t.slot (way t.mask (D.hash k) (c + q)) = .live i := slot_live R.tab.ris hi
          rw [sameMem]; dsimp only
          simp only [if_true, live, R.entry hp]
          refine wpAny_bind (wpAny_isSame_ref_self (wpAny_bind (wpAny_pure ?_))); simp only [if_true]
          refine wp_if_neg (by simp [hkk]) (KD.Has.look R hx hu far free held yes no f (c + (q + 1)) _ rfl (by omega) (by omega) fun i0 p0 h0 e0 => ?_)
          obtain ⟨c', l1, l2, l3⟩ := ahead i0 p0 h0 e0
          refine ⟨c', ?_, l2, l3⟩
          apply Classical.byContradiction
          intro hlt
          by_cases hc' : c' = c + q
          · have lv := slot_live R.tab.ris (hc' ▸ l3)
            rw [live] at lv
            cases lv
            rw [hp] at h0
            cases h0
            exact hkk e0
          · refine skip (c' - c) i0 (by omega) (by rw [prb_j, Nat.add_sub_cancel' l1]; exact l3) ?_
            exact (hashOf i0 p0 h0).trans (congrArg D.hash e0)
      by_cases hl : t.led = true
      · refine wp_if_neg (by simp [hl]) ?_; try refine wpAny_bind (wpAny_pure ?_)
        exact rest
      · refine wp_if_pos (by simp [hl]) (wpAny_bind (KD.unseen hx (fun y hy => ?_) ?_))
        · obtain ⟨e, he, rfl⟩ := List.mem_map.mp hy
          have he2 : e ∈ es.toList := by
            have : e ∈ es ∧ e.1 = D.hash k := by simpa using he
            simpa using this.1
          rw [R.rows] at he2
          obtain ⟨p2, hp2, rfl⟩ := List.mem_map.mp he2
          exact ⟨p2.2, p2.1, rfl, R.tup p2 hp2⟩
        · refine wp_if_neg (by decide) ?_; try refine wpAny_bind (wpAny_pure ?_)
          exact rest
    · have pr' : t.probe (fun i => (es[i]?.map (·.1)).getD 0) (D.hash k) (st.getD (t.probeStart (D.hash k))) = some (.empty (way t.mask (D.hash k) K) none) := by
        have e2 : way t.mask (D.hash k) K = (nth t.mask (prb t (D.hash k) c) (K - c)).j := by rw [prb_j, Nat.add_sub_cancel' hc]
        rw [hst, e2]; exact pr
      rw [pr']; dsimp only
      refine wpAny_pure (no fun hm => ?_)
      obtain ⟨p0, h0, e0⟩ := List.mem_map.mp hm
      obtain ⟨i0, hi0⟩ := List.mem_iff_getElem?.mp h0
      obtain ⟨c', l1, l2, l3⟩ := ahead i0 p0 hi0 e0
      exact skip (c' - c) i0 (by omega) (by rw [prb_j, Nat.add_sub_cancel' l1]; exact l3) ((hashOf i0 p0 hi0).trans (congrArg D.hash e0))
/-- looking, as adding asks -/
theorem KD.Has.look0 (R : D.Has s.heap a L es ep t) {x : Addr} {k : α} (hx : D.lies s.heap k x) (hu : A.units < cLine) {Q : SetFound → Shared → Prop} (yes : k ∈ L.map (·.2) → Q (.there none) s)
    (no : ∀ K, k ∉ L.map (·.2) → way t.mask (D.hash k) K ∉ t.place.toList → (∀ c, c < K → way t.mask (D.hash k) c ∈ t.place.toList) → Q (.free (way t.mask (D.hash k) K) false) s) :
    wpAny (model P w) A (setSearch a (.ref x) (D.hash k) true) Q E s := by
  have hroom := R.room
  obtain ⟨K, far, free, held⟩ := R.tab.first (by rw [List.length_map]; omega) (D.hash k)
  have hbig : 10 * SetTable.turns t.mask ≤ 1420 := by
    unfold SetTable.turns
    rcases R.tab.mok with e | e | e <;> omega
  unfold setSearch
  refine R.look hx hu far free held yes (fun hn => no K hn free held) 100000 0 none rfl (Nat.zero_le _) (by omega) fun i p hp e => ?_
  have hi : (L.map fun p => D.hash p.2)[i]? = some (D.hash k) := by rw [List.getElem?_map, hp, ← e]; rfl
  have h2 : t.place.size = L.length := by rw [R.tab.sz]; exact List.length_map ..
  have hj := List.getElem?_eq_getElem (l := t.place.toList) (i := i) (by rw [Array.length_toList, h2]; exact (List.getElem?_eq_some_iff.mp hp).1)
  obtain ⟨c, hc, e'⟩ := R.tab.before free hi hj
  exact ⟨c, Nat.zero_le _, hc, by rw [hj, e']⟩
end
end ND
/-! adding to such a set -/
namespace ND
open PySem PySem.Spec PyProof.Rows L2
section
variable {P : Program} {w : World} {α : Type} {D : KD P w α} {A : Around} {E : Value → Shared → Prop} {s : Shared}
theorem KD.stays {h h' : Heap} {k : α} {a b : Addr} {o : Obj} {es : Array (Int × Value)} {ep : Nat} {t : SetTable} (hb : D.lies h k b) (ho : h.get? a = some o) (hd : o.data = .set es ep t) (hs : Heap.SameBut a h h') : D.lies h' k b := by
  refine D.keep hb fun c o' hc ns => ?_
  have hne : c ≠ a := fun e => by
    subst e
    rw [ho] at hc
    cases hc
    exact ns _ _ _ hd
  rw [hs.2 c hne]; exact hc
theorem KD.ent_at {L : List (Addr × α)} {es : Array (Int × Value)} (hr : es.toList = D.ent L) {i : Nat} {p : Addr × α} (h : L[i]? = some p) : es[i]? = some (D.hash p.2, Value.ref p.1) := by
  rw [← Array.getElem?_toList, hr, KD.ent, List.getElem?_map, h]; rfl
theorem pick_range {β : Type} (L : List β) : ∀ n, n ≤ L.length → (List.range n).filterMap (fun i => L[i]?) = L.take n
  | 0, _ => rfl
  | n + 1, hn => by
    have hlt : n < L.length := hn
    rw [List.range_succ, List.filterMap_append, pick_range L n (Nat.le_of_lt hlt), List.take_add_one]
    rw [List.getElem?_eq_getElem hlt]
    simp [hlt]
theorem KD.reorder (D : KD P w α) (L : List (Addr × α)) (es : Array (Int × Value)) (hr : es.toList = D.ent L) : ∀ l : List Nat, (∀ i ∈ l, i < L.length) →
    l.filterMap (fun i => es[i]?) = D.ent (l.filterMap fun i => L[i]?) ∧ (l.filterMap fun i => L[i]?).map (fun p => D.hash p.2) = l.map fun i => (es.map (·.1)).getD i 0
  | [], _ => ⟨rfl, rfl⟩
  | i :: l, hl => by
    have hi := hl i List.mem_cons_self
    obtain ⟨e1, e2⟩ := KD.reorder D L es hr l fun j hj => hl j (List.mem_cons_of_mem _ hj)
    have hg : L[i]? = some L[i] := List.getElem?_eq_getElem hi
    have he := KD.ent_at hr hg
    have h5 : (es.map (·.1)).getD i 0 = D.hash (L[i]).2 := by
      have : (es.map (·.1))[i]? = some (D.hash (L[i]).2) := by rw [Array.getElem?_map, he]; rfl
      simp [Array.getD_eq_getD_getElem?, this]
    constructor
    · rw [List.filterMap_cons_some he, List.filterMap_cons_some hg, e1]; rfl
    · rw [List.filterMap_cons_some hg, List.map_cons, List.map_cons, e2, h5]
variable {a : Addr} {L : List (Addr × α)} {es : Array (Int × Value)} {ep : Nat} {t : SetTable}
/-- the table is laid anew -/
theorem KD.relay {o : Obj} (ho : s.heap.get? a = some o) (hex : o.ExactSet) (hd : o.data = .set es ep t) (rows : es.toList = D.ent L) (hsz : t.place.size = es.size) (hdm : t.dummies = #[]) (hfl : es.size ≤ t.mask)
    (nd : (L.map (·.2)).Nodup) (tup : ∀ p ∈ L, D.lies s.heap p.2 p.1) (ld : w.params.followText "set-order" = true ∨ t.led = true) (few : L.length < 64) {wanted M : Nat}
    (hw : SetTable.sizeAbove wanted - 1 = M) (hM : MaskOk M) (hw2 : SetTable.sizeAbove wanted ≤ 128) (hn : L.length * 5 < M * 3) {Q : Unit → Shared → Prop}
    (q : ∀ h' L' es' ep' t', Heap.SameBut a s.heap h' → D.Has h' a L' es' ep' t' → L'.Perm L → Q () { s with heap := h' }) : wpAny (model P w) A (setRelay a wanted) Q E s := by
  have hsl := KD.ent_len D L rows
  have hfits : t.fits es.size = true := by
    unfold SetTable.fits SetTable.fill
    rw [hdm, Bool.and_eq_true, beq_iff_eq, decide_eq_true_eq]
    exact ⟨hsz, by show t.place.size + 0 ≤ t.mask; omega⟩
  obtain ⟨t', order, e, hp, tab, em, el, epl, ed⟩ := relaid_ok t (hs := es.map (·.1)) (wanted := wanted) hw hM (by rw [Array.size_map, hsl]; omega)
  rw [Array.size_map, hsl] at hp
  obtain ⟨r1, r3⟩ := KD.reorder D L es rows order.toList fun i hi => List.mem_range.mp (hp.mem_iff.mp hi)
  have r2 : (order.toList.filterMap fun i => L[i]?).Perm L := by
    have h1 := hp.filterMap (fun i => L[i]?)
    rw [pick_range L L.length (Nat.le_refl _), List.take_length] at h1
    exact h1
  rw [← r3] at tab
  have r0 : (order.filterMap (es[·]?)).toList = D.ent (order.toList.filterMap fun i => L[i]?) := by
    first | (rw [Array.toList_filterMap]; exact r1) | simpa using r1
  generalize (order.toList.filterMap fun i => L[i]?) = L2 at r0 r2 tab
  have hs2 : (order.filterMap (es[·]?)).size = es.size := by rw [KD.ent_len D L2 r0, r2.length_eq, hsl]
  rw [setRelay_eq]
  refine wpAny_bind (wpAny_setState_of ho hd hfits ?_); dsimp only
  refine wp_if_neg (by rw [sizeLine_eq]; omega) ?_; try refine wpAny_bind (wpAny_pure ?_)
  rw [e]; dsimp only
  refine wpAny_bind (wp_if_neg (by rw [hs2]; simp) ?_); try refine wpAny_bind (wpAny_pure ?_)
  refine wpAny_pure ?_; dsimp only
  refine wpAny_storeSet_of ho hd ?_ (by rw [hs2, hsl, sizeLine_eq]; omega)
  have sb : Heap.SameBut a s.heap (s.heap.update a (Obj.putSet (order.filterMap (es[·]?)) t')) := Heap.SameBut.update ..
  refine q _ L2 _ (ep + 1) t' sb ⟨⟨_, store_at ho hd, ⟨hex.1, hex.2.1, hex.2.2⟩, rfl⟩, r0, tab, (r2.map (·.2)).nodup_iff.mpr nd, fun p hpm => KD.stays (tup p (r2.mem_iff.mp hpm)) ho hd sb, by rw [el]; exact ld, ?_, by rw [r2.length_eq]; exact few⟩ r2
  rw [r2.length_eq, em]; exact hn
/-- one more -/
theorem KD.Has.add (R : D.Has s.heap a L es ep t) {x : Addr} {k : α} (hx : D.lies s.heap k x) (hu : A.units < cLine) (hfew : L.length + 1 < 64) {Q : Bool → Shared → Prop}
    (q : ∀ b h' L' es' ep' t', Heap.SameBut a s.heap h' → D.Has h' a L' es' ep' t' → (k ∈ L.map (·.2) → L' = L) → (k ∉ L.map (·.2) → L'.Perm ((x, k) :: L)) → Q b { s with heap := h' }) :
    wpAny (model P w) A (setAddHashed a (.ref x) (D.hash k)) Q E s := by
  obtain ⟨o, ho, hex, hd⟩ := R.ob
  have hsl := KD.ent_len D L R.rows
  have hroom := R.room
  unfold setAddHashed
  refine wpAny_holding ?_
  rw [show (100000 : Nat) = 99999 + 1 from rfl]; rw [setAddHashedIn_succ]
  refine wpAny_bind (wpAny_setState_of ho hd R.fits ?_); dsimp only
  refine wp_if_neg (by simp [byScan, Value.scannable]) ?_; try refine wpAny_bind (wpAny_pure ?_)
  refine wpAny_bind (R.look0 hx hu (fun hm => ?_) fun K hm hK hb => ?_)
  · dsimp only
    exact wpAny_pure (q false s.heap L es ep t (Heap.SameBut.refl a s.heap) R (fun _ => rfl) fun z => absurd hm z)
  · dsimp only
    refine wpAny_bind (wpAny_setState_of ho hd R.fits ?_); dsimp only
    obtain ⟨q1, q2, q3, q4, q5, q6, q7, q8, q9⟩ := R.tab.put hK hb
    generalize hpt : t.put (way t.mask (D.hash k) K) = pt at q1 q3 q4 q5 q6 q7 q8 q9 ⊢
    obtain ⟨t0, p⟩ := pt
    dsimp only at q1 q3 q4 q5 q6 q7 q8 q9 ⊢
    subst q1
    have onward : ∀ b : Bool, ∃ t1 : SetTable, (if b = true then t0 else { t0 with plain := false }) = t1 ∧ TabOk t1 ((L.map fun p => D.hash p.2).take (SetTable.below t.place (way t.mask (D.hash k) K)) ++ D.hash k :: (L.map fun p => D.hash p.2).drop (SetTable.below t.place (way t.mask (D.hash k) K))) ∧ t1.mask = t.mask ∧ t1.led = t.led ∧ t1.fill = (L.map fun p => D.hash p.2).length + 1 := fun b => by
      cases b
      · exact ⟨_, rfl, ⟨q3.ris, q3.dm, q3.sz, q3.mok, q3.bd, q3.reach⟩, q4, q5, q9⟩
      · exact ⟨_, rfl, q3, q4, q5, q9⟩
    suffices fin : ∀ b : Bool, wpAny (model P w) A (do
        storeSet a (SetTable.insertAt es (SetTable.below t.place (way t.mask (D.hash k) K)) (D.hash k, Value.ref x)) (if b = true then t0 else { t0 with plain := false })
        if (!false && (if b = true then t0 else { t0 with plain := false }).tooFull) = true then do
          setRelay a (SetTable.grown (es.size + 1)); pure true
        else pure true) Q E s by
      by_cases hpl : t0.plain = true
      · exact wp_if_pos hpl (wpAny_bind (D.hby hx fin))
      · exact wp_if_neg hpl (wpAny_bind (wpAny_pure (fin true)))
    intro b
    obtain ⟨t1, et1, q3, q4, q5, q9⟩ := onward b
    rw [et1]
    generalize hpp : SetTable.below t.place (way t.mask (D.hash k) K) = p at q2 q3 ⊢
    have pm := put_perm L p (x, k)
    obtain ⟨L1, eL1⟩ : ∃ L1, L1 = L.take p ++ (x, k) :: L.drop p := ⟨_, rfl⟩
    rw [← eL1] at pm
    have hlen : L1.length = L.length + 1 := pm.length_eq
    have rows1 : (SetTable.insertAt es p (D.hash k, Value.ref x)).toList = D.ent L1 := by
      rw [SetTable.toList_insertAt, R.rows, eL1]
      unfold KD.ent
      rw [List.map_append, List.map_cons, List.map_take, List.map_drop]
    have tab1 : TabOk t1 (L1.map fun p => D.hash p.2) := by
      rw [eL1, List.map_append, List.map_cons, List.map_take, List.map_drop]; exact q3
    have nd1 : (L1.map (·.2)).Nodup := (pm.map (·.2)).nodup_iff.mpr (List.nodup_cons.mpr ⟨hm, R.nd⟩)
    have hes := KD.ent_len D L1 rows1
    generalize SetTable.insertAt es p (D.hash k, Value.ref x) = es1 at rows1 hes ⊢
    refine wpAny_bind (wpAny_storeSet_of ho hd ?_ (by rw [hes, hlen, sizeLine_eq]; omega))
    have sb : Heap.SameBut a s.heap (s.heap.update a (Obj.putSet es1 t1)) := Heap.SameBut.update ..
    have ho1 := store_at (es' := es1) (t' := t1) ho hd
    generalize s.heap.update a (Obj.putSet es1 t1) = h1 at sb ho1 ⊢
    have tup1 : ∀ p ∈ L1, D.lies h1 p.2 p.1 := fun p hp => by
      rcases List.mem_cons.mp (pm.mem_iff.mp hp) with rfl | hp'
      · exact KD.stays hx ho hd sb
      · exact KD.stays (R.tup p hp') ho hd sb
    have ld1 : w.params.followText "set-order" = true ∨ t1.led = true := q5 ▸ R.led
    have fill1 : t1.tooFull = decide ((L.length + 1) * 5 ≥ t1.mask * 3) := by unfold SetTable.tooFull; rw [q9, List.length_map]
    by_cases hf : t1.tooFull = true
    · first
        | (refine wpAny_bind ?_; refine wp_if_pos (by simp [hf]) ?_)
        | (refine wp_if_pos (by simp [hf]) ?_; refine wpAny_bind ?_)
      have hfull : (L.length + 1) * 5 ≥ t1.mask * 3 := of_decide_eq_true (fill1 ▸ hf)
      rw [hsl]
      have two : (t.mask = 7 ∧ L.length = 4) ∨ (t.mask = 31 ∧ L.length = 18) := by
        rw [q4] at hfull
        rcases R.tab.mok with e | e | e
        · exact .inl ⟨e, by omega⟩
        · exact .inr ⟨e, by omega⟩
        · omega
      have sz1 : t1.place.size = es1.size := by rw [tab1.sz, List.length_map, hes]
      have go : ∀ M, SetTable.sizeAbove (SetTable.grown (L.length + 1)) - 1 = M → MaskOk M → SetTable.sizeAbove (SetTable.grown (L.length + 1)) ≤ 128 → (L.length + 1) * 5 < M * 3 →
          wpAny (model P w) A (setRelay a (SetTable.grown (L.length + 1))) (fun _ s' => wpAny (model P w) A (pure true) Q E s') E { s with heap := h1 } := fun M g1 g2 g3 g4 =>
        KD.relay (s := { s with heap := h1 }) ho1 ⟨hex.1, hex.2.1, hex.2.2⟩ rfl rows1 sz1 tab1.dm (by rw [hes, hlen, q4]; rcases two with ⟨e, e2⟩ | ⟨e, e2⟩ <;> omega) nd1 tup1 ld1 (by rw [hlen]; exact hfew) g1 g2 g3 (by rw [hlen]; exact g4)
          fun h2 L2 es2 ep2 t2 sb2 R2 pm2 => wpAny_pure (q true h2 L2 es2 ep2 t2 (sb.trans sb2) R2 (fun z => absurd z hm) fun _ => pm2.trans pm)
      rcases two with ⟨_, e2⟩ | ⟨_, e2⟩
      · exact go 31 (by rw [e2, size_20]) (.inr (.inl rfl)) (by rw [e2, size_20]; decide) (by omega)
      · exact go 127 (by rw [e2, size_76]) (.inr (.inr rfl)) (by rw [e2, size_76]; decide) (by omega)
    · first
        | refine wp_if_neg (by simp [hf]) ?_
        | (refine wpAny_bind ?_; refine wp_if_neg (by simp [hf]) ?_; refine wpAny_pure ?_)
      refine wpAny_pure (q true h1 L1 es1 (ep + 1) t1 sb ⟨⟨_, ho1, ⟨hex.1, hex.2.1, hex.2.2⟩, rfl⟩, rows1, tab1, nd1, tup1, ld1, ?_, by rw [hlen]; exact hfew⟩ (fun z => absurd z hm) fun _ => pm)
      rw [fill1] at hf
      have := mt decide_eq_true hf
      omega
end
end ND
/-! set(xs) of such objects -/
namespace ND
open PySem PySem.Spec PyProof.Rows L2
/-- what came in by the first i of ks -/
structure Came {α : Type} (ks : List (Addr × α)) (i : Nat) (L : List (Addr × α)) : Prop where
  inn : ∀ p ∈ L, p ∈ ks.take i
  all : ∀ p ∈ ks.take i, p.2 ∈ L.map (·.2)
  few : L.length ≤ i
section
variable {α : Type} {ks L L' : List (Addr × α)} {i : Nat} {x : Addr × α}
theorem Came.nil (ks : List (Addr × α)) : Came ks 0 [] := ⟨(fun p h => nomatch h), (fun p h => by simp at h), Nat.le_refl _⟩
theorem take1 {β : Type} {l : List β} {i : Nat} {x : β} (h : l[i]? = some x) : l.take (i + 1) = l.take i ++ [x] := by
  rw [List.take_add_one, h]; rfl
theorem Came.was (g : Came ks i L) (h : ks[i]? = some x) (hm : x.2 ∈ L.map (·.2)) : Came ks (i + 1) L := by
  refine ⟨fun p hp => by rw [take1 h]; exact List.mem_append_left _ (g.inn p hp), fun p hp => ?_, Nat.le_succ_of_le g.few⟩
  rw [take1 h] at hp
  rcases List.mem_append.mp hp with z | z
  · exact g.all p z
  · exact List.mem_singleton.mp z ▸ hm
theorem Came.one (g : Came ks i L) (h : ks[i]? = some x) (pm : L'.Perm (x :: L)) : Came ks (i + 1) L' := by
  refine ⟨fun p hp => ?_, fun p hp => ?_, by rw [pm.length_eq]; exact Nat.succ_le_succ g.few⟩
  · rw [take1 h]
    rcases List.mem_cons.mp (pm.mem_iff.mp hp) with rfl | z
    · exact List.mem_append_right _ List.mem_cons_self
    · exact List.mem_append_left _ (g.inn p z)
  · rw [(pm.map (·.2)).mem_iff, List.map_cons]
    rw [take1 h] at hp
    rcases List.mem_append.mp hp with z | z
    · exact List.mem_cons_of_mem _ (g.all p z)
    · exact List.mem_singleton.mp z ▸ List.mem_cons_self
end
section
variable {P : Program} {w : World} {α : Type} {D : KD P w α} {A : Around} {E : Value → Shared → Prop} {s : Shared}
theorem KD.kept {h h' : Heap} {k : α} {b : Addr} (x : D.lies h k b) (hk : ∀ c o, h.get? c = some o → h'.get? c = some o) : D.lies h' k b := D.keep x fun c o e _ => hk c o e
theorem KD.Has.kept {h h' : Heap} {a : Addr} {L : List (Addr × α)} {es : Array (Int × Value)} {ep : Nat} {t : SetTable} (R : D.Has h a L es ep t) (ha : ∀ o, h.get? a = some o → h'.get? a = some o) (ht : ∀ p ∈ L, D.lies h' p.2 p.1) : D.Has h' a L es ep t := by
  obtain ⟨o, ho, r⟩ := R.ob
  exact { R with ob := ⟨o, ha o ho, r⟩, tup := ht }
abbrev set0 (w : World) : Obj := { cls := .type "set", dict := none, data := .set #[] 0 (.fresh 0 0 (!w.params.followText "set-order")) }
theorem KD.Has.empty {h : Heap} {a : Addr} (ho : h.get? a = some (set0 w)) : D.Has h a [] #[] 0 (.fresh 0 0 (!w.params.followText "set-order")) where
  ob := ⟨_, ho, ⟨rfl, rfl, rfl⟩, rfl⟩
  rows := rfl
  tab := ⟨List.Pairwise.nil, rfl, rfl, .inl rfl, (fun x hx => nomatch hx), fun i h j hi => by simp at hi⟩
  nd := List.nodup_nil
  tup := fun p hp => nomatch hp
  led := by
    show w.params.followText "set-order" = true ∨ (!w.params.followText "set-order") = true
    cases w.params.followText "set-order" <;> simp
  room := show 0 * 5 < 7 * 3 by decide
  few := show 0 < 64 by decide
/-- the loop of set.update -/
theorem KD.loop (D : KD P w α) {I : Addr} {fp wr : List Addr} {G : Array GenState → Array GenState → Prop} {n : Nat} {Pv : Nat → Value → Prop} {St : Nat → Shared → Prop} {R : Result → Shared → Prop}
    (W : WalksS P w A.in1 I fp wr G n Pv St) (S : Addr) (hSf : S ∉ fp) (ks : List (Addr × α)) (hn : n = ks.length) (hfew : ks.length < 64) (hval : ∀ i v, Pv i v → ∃ p, ks[i]? = some p ∧ v = .ref p.1)
    (h0 : Heap) (hk : ∀ p ∈ ks, D.lies h0 p.2 p.1) (hS0 : h0.get? S = none) (hw0 : ∀ b ∈ wr, h0.get? b = none) (hu : A.in1.units < cLine) :
    ∀ (k i : Nat) (s : Shared), n - i = k → i ≤ n → St i s → (∀ b o, h0.get? b = some o → s.heap.get? b = some o) → (∃ L es ep t, D.Has s.heap S L es ep t ∧ Came ks i L) →
      (∀ s' L es ep t, Moved (S :: wr) G s s' → D.Has s'.heap S L es ep t → Came ks n L → (∀ b o, h0.get? b = some o → s'.heap.get? b = some o) → R (.ok (.ret .none)) s') →
      codeAny (model P w) A (.builtin "set.update.loop" ⟨[.ref S, .ref I], []⟩) R s
  | 0, i, s, hk', hi, hst, hkp, ⟨L, es, ep, t, hS, g⟩, hR => by
    obtain rfl : i = n := by omega
    refine codeAny_builtin F.entry_set_update_loop ?_
    rw [Around.under_plainId F.plain_set_update_loop _]; show wpAny _ A.in1 (pyNext (.ref I) >>= _) _ _ s
    refine wpAny_bind (W.done s _ _ hst fun s' hm => ?_); show wpAny _ A.in1 (ret Value.none) _ _ s'
    have hkp' : ∀ b o, h0.get? b = some o → s'.heap.get? b = some o := fun b o e => hm.heap b o (fun hb => by rw [hw0 b hb] at e; cases e) (hkp b o e)
    exact wpAny_pure (hR s' L es ep t (hm.mono fun b hb => List.mem_cons_of_mem _ hb) (hS.kept (fun o e => hm.heap S o (fun h => hSf (W.sub _ h)) e) fun p hp => KD.kept (hk p (List.mem_of_mem_take (g.inn p hp))) hkp') g hkp')
  | k + 1, i, s, hk', hi, hst, hkp, ⟨L, es, ep, t, hS, g⟩, hR => by
    have hlt : i < n := by omega
    refine codeAny_builtin F.entry_set_update_loop ?_
    rw [Around.under_plainId F.plain_set_update_loop _]; show wpAny _ A.in1 (pyNext (.ref I) >>= _) _ _ s
    refine wpAny_bind (W.item i s _ _ hlt hst fun v s' hP hst' hm => ?_)
    obtain ⟨p, hp, rfl⟩ := hval i v hP
    have hkp' : ∀ b o, h0.get? b = some o → s'.heap.get? b = some o := fun b o e => hm.heap b o (fun hb => by rw [hw0 b hb] at e; cases e) (hkp b o e)
    have hS' : D.Has s'.heap S L es ep t := hS.kept (fun o e => hm.heap S o (fun h => hSf (W.sub _ h)) e) fun q hq => KD.kept (hk q (List.mem_of_mem_take (g.inn q hq))) hkp'
    have hx : D.lies s'.heap p.2 p.1 := KD.kept (hk p (List.mem_of_getElem? hp)) hkp'
    show wpAny _ A.in1 (holding [Value.ref p.1] (setAdd S (.ref p.1)) >>= _) _ _ s'
    refine wpAny_bind (wpAny_holding ?_)
    unfold setAdd
    refine wpAny_holding (wpAny_bind (D.pyh hu hx fun tk => ?_))
    refine KD.Has.add (s := { s' with toks := s'.toks + tk }) hS' hx hu (by have := g.few; omega) fun b h' L' es' ep' t' hsb hS2 c1 c2 => ?_
    have g' : Came ks (i + 1) L' := by
      rcases Classical.em (p.2 ∈ L.map (·.2)) with c | c
      · rw [c1 c]; exact g.was hp c
      · exact g.one hp (c2 c)
    have hkp2 : ∀ b o, h0.get? b = some o → h'.get? b = some o := fun b o e => (hsb.2 b (fun z => by rw [z, hS0] at e; cases e)).trans (hkp' b o e)
    refine wpAny_pure ⟨plainId_quiet F.plain_set_update_loop _, KD.loop D W S hSf ks hn hfew hval h0 hk hS0 hw0 hu k (i + 1) _ (by omega) hlt (W.frame _ s' _ _ hst' (Nat.le_add_right _ _) fun b hb o e => ?_) hkp2 ⟨L', es', ep', t', hS2, g'⟩ fun s'' L2 es2 ep2 t2 hm'' hS'' g'' hkp'' => ?_⟩
    · rw [hsb.2 b fun h => hSf (h ▸ hb)]; exact e
    · refine hR s'' L2 es2 ep2 t2 (Moved.trans W.gtrans ((hm.mono fun b hb => List.mem_cons_of_mem _ hb).then_heap (Nat.le_add_right _ _) fun b o hb e => ?_) hm'') hS'' g'' hkp''
      rw [hsb.2 b fun h => hb (h ▸ List.mem_cons_self)]; exact e
theorem KD.call_list (D : KD P w α) {l : Addr} {items : Array Value} (ks : List (Addr × α)) {Q : Value → Shared → Prop} (hh : A.handled = none) (hl : s.heap.IsList l items) (hit : items.toList = ks.map fun p => Value.ref p.1)
    (hk : ∀ p ∈ ks, D.lies s.heap p.2 p.1) (hfew : ks.length < 64) (hu : A.units + 3 < cLine)
    (q : ∀ (h' : Heap) (tk : Nat) L es ep t, D.Has h' s.heap.objs.size L es ep t → Came ks ks.length L → (∀ b o, s.heap.get? b = some o → h'.get? b = some o) → Q (.ref s.heap.objs.size) { s with heap := h', toks := tk }) :
    wpAny (model P w) A (call (.type "set") [.ref l]) Q E s := by
  have hisz : items.size = ks.length := by rw [← Array.length_toList, hit]; exact List.length_map ..
  obtain ⟨c, tl, hmro⟩ := F.called_set.mro
  have hmade := F.called_set.made; have hsub := F.called_set.sub
  refine wpAny_call (codeAny_of_tree ?_); show wpAny _ _ (callAny (.type "set") _) _ _ _
  refine wpAny_pure ⟨Code.quiet_builtin _ (by decide +kernel), codeAny_builtin F.entry_type_call ?_⟩; rw [Around.under_plain (weight_type_call_type "set" [.ref l] []) rfl]
  have h1 := F.called_set.notType; have h2 := F.called_set.canCreate; have hct := F.typeCall_set_1 (.ref l)
  repeat (any_goals (first | assumption | wp_step))
  refine codeAny_mono (code_set_led1 (.ref l) (E := E) (Q₁ := fun obj s₁ => obj = .ref s.heap.objs.size ∧ s₁ = { s with heap := s.heap.push (set0 w) }) ⟨rfl, rfl⟩) fun r s₁ hr => ?_
  match r, hr with
  | .error e, hr => exact hr
  | .ok (.ret obj), hr =>
    obtain ⟨rfl, rfl⟩ := hr
    have hS : (s.heap.push (set0 w)).get? s.heap.objs.size = some (set0 w) := Heap.get?_push_size _ rfl
    have hT : Shared.TypeIs { s with heap := s.heap.push (set0 w) } (.ref s.heap.objs.size) "set" := ⟨_, hS, rfl⟩
    have hli := F.called_set.init.lookup; have hbi := F.called_set.init.bind (.ref s.heap.objs.size)
    repeat (any_goals (first | assumption | wp_step))
    refine codeAny_mono (codeAny_call_builtin (R := wants (fun r s₂ => r = .none ∧ ∃ h' tk L es ep t, s₂ = { s with heap := h', toks := tk } ∧ D.Has h' s.heap.objs.size L es ep t ∧ Came ks ks.length L ∧ ∀ b o, s.heap.get? b = some o → h'.get? b = some o) E) F.called_set.init.plain F.entry_set_init (check_set_init_1 hT ?_)) fun r₂ s₂ hr₂ => ?_
    · obtain ⟨ol, hol, hcl, nl, hdl⟩ := hl
      obtain ⟨ocls, odict, odata, oslots⟩ := ol
      simp only at hcl hdl
      subst hcl; subst hdl
      have hol' : (s.heap.push (set0 w)).get? l = some { cls := .type "list", dict := odict, data := .seq items nl, slots := oslots } := Heap.get?_push_of_some _ hol
      have hsls := F.sub_list_set; have hslf := F.sub_list_frozenset
      have hne : (Value.type "list" == Value.type "dict") = false := by decide
      have hl1 : (s.heap.push (set0 w)).IsList l items := ⟨_, hol', rfl, nl, rfl⟩
      unfold Builtin.«set.__init__» noKeywords Builtin.Frozenset.updateFrom
      generalize hPI : pyIter = PI
      wp_walk
      subst hPI
      refine wpAny_pyIter_list hl1 (wpAny_bind (wpAny_runValue ?_))
      have hlS : l < s.heap.objs.size := Heap.lt_size hol
      have hh3 : A.in1.in1.in1.handled = none := by simp [hh]
      have hz1 : (s.heap.push (set0 w)).objs.size = s.heap.objs.size + 1 := Heap.size_push ..
      have none_of : ∀ b, s.heap.objs.size ≤ b → s.heap.get? b = none := fun b hb => by
        cases e : s.heap.get? b with
        | none => rfl
        | some o => exact absurd (Nat.lt_of_lt_of_le (Heap.lt_size e) hb) (Nat.lt_irrefl _)
      have hval : ∀ (i : Nat) (v : Value), items[i]? = some v → ∃ p, ks[i]? = some p ∧ v = .ref p.1 := fun i v hv => by
        have e : items.toList[i]? = some v := by rw [Array.getElem?_toList]; exact hv
        rw [hit, List.getElem?_map] at e
        obtain ⟨p, hp, rfl⟩ := Option.map_eq_some_iff.mp e
        exact ⟨p, hp, rfl⟩
      refine KD.loop D ((Walks.list hh3 _ l (by rw [hz1]; exact Nat.ne_of_lt (Nat.lt_succ_of_lt hlS)) items).toS) s.heap.objs.size (by rw [hz1]; simp only [List.mem_cons, List.not_mem_nil, or_false, not_or]; exact ⟨Nat.ne_of_lt (Nat.lt_succ_self _), Nat.ne_of_gt hlS⟩) ks hisz hfew hval s.heap hk (none_of _ (Nat.le_refl _)) (fun b hb => none_of b (by
          rw [List.mem_singleton.mp hb, hz1]; exact Nat.le_succ _)) hu (items.size - 0) 0 _ (by omega) (Nat.zero_le _)
        ⟨⟨_, Heap.get?_push_size _ rfl, rfl, rfl⟩, (hl1.push _)⟩ (fun b o e => Heap.get?_push_of_some _ (Heap.get?_push_of_some _ e)) ?hS0 ?hR
      case hS0 =>
        exact ⟨[], #[], 0, _, KD.Has.empty (Heap.get?_push_of_some _ hS), Came.nil ks⟩
      case hR =>
        intro s' L es ep t hm hS' g' hkp
        obtain ⟨h', g2, d', tk', os'⟩ := s'
        obtain rfl : g2 = s.gens := hm.gens
        obtain rfl : d' = s.drawn := hm.drawn
        obtain rfl : os' = s.os := hm.os
        show wpAny _ _ _ _ _ _
        refine wpAny_pure ?_; show wpAny _ _ (ret Value.none) _ _ _
        rw [hisz] at g'
        exact wpAny_pure ⟨rfl, h', tk', L, es, ep, t, rfl, hS', g', hkp⟩
    · match r₂, hr₂ with
      | .error e, hr₂ => exact hr₂
      | .ok (.ret r), hr₂ =>
        obtain ⟨rfl, h', tk, L, es, ep, t, rfl, hS', g', hk'⟩ := hr₂
        repeat (any_goals (first | assumption | wp_step))
        exact q _ _ _ _ _ _ hS' g' hk'
      | .ok .next, hr₂ => exact hr₂.elim
      | .ok .brk, hr₂ => exact hr₂.elim
      | .ok .cont, hr₂ => exact hr₂.elim
  | .ok .next, hr => exact hr.elim
  | .ok .brk, hr => exact hr.elim
  | .ok .cont, hr => exact hr.elim
theorem KD.call_tuple (D : KD P w α) {l : Addr} {items : Array Value} (ks : List (Addr × α)) {Q : Value → Shared → Prop} (hh : A.handled = none) (hl : s.heap.IsTuple l items) (hit : items.toList = ks.map fun p => Value.ref p.1)
    (hk : ∀ p ∈ ks, D.lies s.heap p.2 p.1) (hfew : ks.length < 64) (hu : A.units + 3 < cLine)
    (q : ∀ (h' : Heap) (tk : Nat) L es ep t, D.Has h' s.heap.objs.size L es ep t → Came ks ks.length L → (∀ b o, s.heap.get? b = some o → h'.get? b = some o) → Q (.ref s.heap.objs.size) { s with heap := h', toks := tk }) :
    wpAny (model P w) A (call (.type "set") [.ref l]) Q E s := by
  have hisz : items.size = ks.length := by rw [← Array.length_toList, hit]; exact List.length_map ..
  obtain ⟨c, tl, hmro⟩ := F.called_set.mro
  have hmade := F.called_set.made; have hsub := F.called_set.sub
  refine wpAny_call (codeAny_of_tree ?_); show wpAny _ _ (callAny (.type "set") _) _ _ _
  refine wpAny_pure ⟨Code.quiet_builtin _ (by decide +kernel), codeAny_builtin F.entry_type_call ?_⟩; rw [Around.under_plain (weight_type_call_type "set" [.ref l] []) rfl]
  have h1 := F.called_set.notType; have h2 := F.called_set.canCreate; have hct := F.typeCall_set_1 (.ref l)
  repeat (any_goals (first | assumption | wp_step))
  refine codeAny_mono (code_set_led1 (.ref l) (E := E) (Q₁ := fun obj s₁ => obj = .ref s.heap.objs.size ∧ s₁ = { s with heap := s.heap.push (set0 w) }) ⟨rfl, rfl⟩) fun r s₁ hr => ?_
  match r, hr with
  | .error e, hr => exact hr
  | .ok (.ret obj), hr =>
    obtain ⟨rfl, rfl⟩ := hr
    have hS : (s.heap.push (set0 w)).get? s.heap.objs.size = some (set0 w) := Heap.get?_push_size _ rfl
    have hT : Shared.TypeIs { s with heap := s.heap.push (set0 w) } (.ref s.heap.objs.size) "set" := ⟨_, hS, rfl⟩
    have hli := F.called_set.init.lookup; have hbi := F.called_set.init.bind (.ref s.heap.objs.size)
    repeat (any_goals (first | assumption | wp_step))
    refine codeAny_mono (codeAny_call_builtin (R := wants (fun r s₂ => r = .none ∧ ∃ h' tk L es ep t, s₂ = { s with heap := h', toks := tk } ∧ D.Has h' s.heap.objs.size L es ep t ∧ Came ks ks.length L ∧ ∀ b o, s.heap.get? b = some o → h'.get? b = some o) E) F.called_set.init.plain F.entry_set_init (check_set_init_1 hT ?_)) fun r₂ s₂ hr₂ => ?_
    · obtain ⟨ol, hol, hcl, nl, hdl⟩ := hl
      obtain ⟨ocls, odict, odata, oslots⟩ := ol
      simp only at hcl hdl
      subst hcl; subst hdl
      have hol' : (s.heap.push (set0 w)).get? l = some { cls := .type "tuple", dict := odict, data := .seq items nl, slots := oslots } := Heap.get?_push_of_some _ hol
      have hsls := F.sub_tuple_set; have hslf := F.sub_tuple_frozenset
      have hne : (Value.type "tuple" == Value.type "dict") = false := by decide
      have hl1 : (s.heap.push (set0 w)).IsTuple l items := ⟨_, hol', rfl, nl, rfl⟩
      unfold Builtin.«set.__init__» noKeywords Builtin.Frozenset.updateFrom
      generalize hPI : pyIter = PI
      wp_walk
      subst hPI
      refine wpAny_pyIter_tuple hl1 (wpAny_bind (wpAny_runValue ?_))
      have hlS : l < s.heap.objs.size := Heap.lt_size hol
      have hh3 : A.in1.in1.in1.handled = none := by simp [hh]
      have hz1 : (s.heap.push (set0 w)).objs.size = s.heap.objs.size + 1 := Heap.size_push ..
      have none_of : ∀ b, s.heap.objs.size ≤ b → s.heap.get? b = none := fun b hb => by
        cases e : s.heap.get? b with
        | none => rfl
        | some o => exact absurd (Nat.lt_of_lt_of_le (Heap.lt_size e) hb) (Nat.lt_irrefl _)
      have hval : ∀ (i : Nat) (v : Value), items[i]? = some v → ∃ p, ks[i]? = some p ∧ v = .ref p.1 := fun i v hv => by
        have e : items.toList[i]? = some v := by rw [Array.getElem?_toList]; exact hv
        rw [hit, List.getElem?_map] at e
        obtain ⟨p, hp, rfl⟩ := Option.map_eq_some_iff.mp e
        exact ⟨p, hp, rfl⟩
      refine KD.loop D ((Walks.tuple hh3 _ l (by rw [hz1]; exact Nat.ne_of_lt (Nat.lt_succ_of_lt hlS)) items).toS) s.heap.objs.size (by rw [hz1]; simp only [List.mem_cons, List.not_mem_nil, or_false, not_or]; exact ⟨Nat.ne_of_lt (Nat.lt_succ_self _), Nat.ne_of_gt hlS⟩) ks hisz hfew hval s.heap hk (none_of _ (Nat.le_refl _)) (fun b hb => none_of b (by
          rw [List.mem_singleton.mp hb, hz1]; exact Nat.le_succ _)) hu (items.size - 0) 0 _ (by omega) (Nat.zero_le _)
        ⟨⟨_, Heap.get?_push_size _ rfl, rfl, rfl⟩, (hl1.push _)⟩ (fun b o e => Heap.get?_push_of_some _ (Heap.get?_push_of_some _ e)) ?hS0 ?hR
      case hS0 =>
        exact ⟨[], #[], 0, _, KD.Has.empty (Heap.get?_push_of_some _ hS), Came.nil ks⟩
      case hR =>
        intro s' L es ep t hm hS' g' hkp
        obtain ⟨h', g2, d', tk', os'⟩ := s'
        obtain rfl : g2 = s.gens := hm.gens
        obtain rfl : d' = s.drawn := hm.drawn
        obtain rfl : os' = s.os := hm.os
        show wpAny _ _ _ _ _ _
        refine wpAny_pure ?_; show wpAny _ _ (ret Value.none) _ _ _
        rw [hisz] at g'
        exact wpAny_pure ⟨rfl, h', tk', L, es, ep, t, rfl, hS', g', hkp⟩
    · match r₂, hr₂ with
      | .error e, hr₂ => exact hr₂
      | .ok (.ret r), hr₂ =>
        obtain ⟨rfl, h', tk, L, es, ep, t, rfl, hS', g', hk'⟩ := hr₂
        repeat (any_goals (first | assumption | wp_step))
        exact q _ _ _ _ _ _ hS' g' hk'
      | .ok .next, hr₂ => exact hr₂.elim
      | .ok .brk, hr₂ => exact hr₂.elim
      | .ok .cont, hr₂ => exact hr₂.elim
  | .ok .next, hr => exact hr.elim
  | .ok .brk, hr => exact hr.elim
  | .ok .cont, hr => exact hr.elim
end
end ND
/-! tuples of ints and texts as such keys; len(set(xs)) -/
namespace ND
open PySem PySem.Spec PyProof.Rows L2
section
variable {P : Program} {w : World} {A : Around} {E : Value → Shared → Prop} {s : Shared}
theorem items_flat {k : List Key} {vs : List Value} (h : ItemsAre (mixKind P w) k vs) : ∀ v ∈ vs, (∃ i t, v = Value.int i t) ∨ ∃ x t, v = Value.str x t := by
  induction h with
  | nil => exact fun v hv => nomatch hv
  | cons h1 _ ih =>
    intro v hv
    rcases List.mem_cons.mp hv with rfl | hv
    · rcases keyIs_shape h1 with ⟨i, t, _, e⟩ | ⟨x, t, _, e⟩
      · exact .inl ⟨i, t, e⟩
      · exact .inr ⟨x, t, e⟩
    · exact ih v hv
theorem ofc_flat (n : Nat) {v : Value} (h : (∃ i t, v = Value.int i t) ∨ ∃ x t, v = Value.str x t) : ofAClassStatement n v = pure false := by
  rcases h with ⟨i, t, rfl⟩ | ⟨x, t, rfl⟩ <;> cases n <;> rfl
theorem hby_flat (n : Nat) {v : Value} (h : (∃ i t, v = Value.int i t) ∨ ∃ x t, v = Value.str x t) : ∃ b, hashByValue n v = pure b := by
  rcases h with ⟨i, t, rfl⟩ | ⟨x, t, rfl⟩
  · exact ⟨true, by cases n <;> rfl⟩
  · exact ⟨false, by cases n <;> rfl⟩
theorem ofc_mix {k : List Key} {b : Addr} {Q : Bool → Shared → Prop} (hk : IsTupleKey (mixKind P w) s.heap k b) (q : Q false s) : wpAny (model P w) A (ofAClassStatement 8 (.ref b)) Q E s := by
  have hT := hk.typeIs
  obtain ⟨o, items, n, ho, _, hd, hi⟩ := hk
  unfold ofAClassStatement
  refine wpAny_bind (wpAny_typeOf hT ?_); dsimp only
  have e : (("tuple" : String) == "tuple") = true := by decide
  simp only [e, if_true, Bool.not_true, Bool.false_eq_true, if_false]
  try refine wpAny_bind (wpAny_pure ?_)
  try simp only [Bool.not_true, Bool.false_eq_true, if_false]
  show wpAny _ _ (seqItems? (.ref b) >>= _) _ _ s
  refine wpAny_bind (wpAny_seqItems ho hd ?_); dsimp only
  refine wpAny_bind ?_; show wpAny _ _ (forIn items _ _) _ _ s
  rw [← Array.forIn_toList]
  refine wpAny_forIn_list _ (fun rest r s' => (r.1 = none ∧ s' = s) ∧ ∀ v ∈ rest, (∃ i t, v = Value.int i t) ∨ ∃ x t, v = Value.str x t) _ ?_ ?_ _ _ ⟨⟨rfl, rfl⟩, items_flat hi⟩
  · rintro v rest r s' ⟨⟨hr, rfl⟩, hall⟩
    rw [ofc_flat _ (hall v List.mem_cons_self)]
    refine wpAny_bind (wpAny_pure ?_); simp only [Bool.false_eq_true, if_false]
    exact wpAny_pure ⟨⟨rfl, rfl⟩, fun u hu => hall u (List.mem_cons_of_mem _ hu)⟩
  · rintro ⟨r1, r2⟩ s' ⟨⟨hr, rfl⟩, _⟩
    obtain rfl : r1 = none := hr
    exact wpAny_pure q
theorem hby_mix {k : List Key} {b : Addr} {Q : Bool → Shared → Prop} (hk : IsTupleKey (mixKind P w) s.heap k b) (q : ∀ c, Q c s) : wpAny (model P w) A (hashByValue 8 (.ref b)) Q E s := by
  have hT := hk.typeIs
  obtain ⟨o, items, n, ho, _, hd, hi⟩ := hk
  unfold hashByValue
  refine wpAny_bind (wpAny_specialOf hT F.slot_tuple_hash.lookup ?_); show wpAny _ _ (seqItems? (.ref b) >>= _) _ _ s
  refine wpAny_bind (wpAny_seqItems ho hd (wpAny_bind ?_)); show wpAny _ _ (forIn items _ _) _ _ s
  rw [← Array.forIn_toList]
  refine wpAny_forIn_list _ (fun rest r s' => s' = s ∧ ∀ v ∈ rest, (∃ i t, v = Value.int i t) ∨ ∃ x t, v = Value.str x t) _ ?_ ?_ _ _ ⟨rfl, items_flat hi⟩
  · rintro v rest r s' ⟨rfl, hall⟩
    obtain ⟨c, e⟩ := hby_flat 7 (hall v List.mem_cons_self)
    rw [e]
    refine wpAny_bind (wpAny_pure ?_)
    cases c
    · simp only [Bool.not_false, if_true]
      exact wpAny_pure (show wpAny _ _ (pure false) _ _ _ from wpAny_pure (q _))
    · simp only [Bool.not_true, Bool.false_eq_true, if_false]
      exact wpAny_pure ⟨rfl, fun u hu => hall u (List.mem_cons_of_mem _ hu)⟩
  · rintro ⟨r1, r2⟩ s' ⟨rfl, _⟩
    cases r1 with
    | none => exact wpAny_pure (q _)
    | some c => exact wpAny_pure (q _)
end
/-- tuples of ints and texts -/
def mixKD (P : Program) (w : World) : KD P w (List Key) where
  dec := inferInstance
  lies := fun h k a => IsTupleKey (mixKind P w) h k a
  hash := tupleKeyHash (mixKind P w)
  eqb := fun hu hx hy q => wpAny_eqBool_tuple hu hx hy q
  quiet := fun hx q => wpAny_eqIsQuiet_tuple hx q
  ofc := fun hx q => ofc_mix hx q
  hby := fun hx q => hby_mix hx q
  pyh := fun hu hx q => wpAny_pyHash_tuple hu hx (q _)
  keep := fun hx k => by
    obtain ⟨o, items, n, ho, hc, hd, hi⟩ := hx
    exact ⟨o, items, n, k _ o ho (fun es ep t e => by rw [hd] at e; cases e), hc, hd, hi⟩
theorem perm_of_nodup {β : Type} [DecidableEq β] : ∀ {xs ys : List β}, xs.Nodup → (∀ x ∈ xs, x ∈ ys) → ys.length ≤ xs.length → ys.Perm xs
  | [], [], _, _, _ => .refl _
  | [], _ :: _, _, _, h => absurd h (Nat.not_succ_le_zero _)
  | x :: xs, ys, hn, hs, hl => by
    have hx := hs x List.mem_cons_self
    have h1 := List.nodup_cons.mp hn
    have hlen := List.length_erase_of_mem hx
    refine (List.perm_cons_erase hx).trans (.cons x (perm_of_nodup h1.2 (fun z hz => (List.mem_erase_of_ne (show z ≠ x from fun e => h1.1 (e ▸ hz))).mpr (hs z (List.mem_cons_of_mem _ hz))) ?_))
    rw [hlen]
    rw [List.length_cons] at hl
    omega
/-- a set of n -/
def LenSet (h : Heap) (a : Addr) (n : Nat) : Prop := ∃ o es ep t, h.get? a = some o ∧ o.ExactSet ∧ o.data = .set es ep t ∧ t.fits es.size = true ∧ es.size = n ∧ n < 64
def SetN (a : Addr) (n : Nat) : HO := .ext fun h => LenSet h a n
theorem setN_ok {P : Program} {w : World} {H : Hp} {h : Heap} {a : Addr} {n : Nat} (R : LenSet h a n) : ObjOk P w H h a (SetN a n) := by
  have R0 := R
  obtain ⟨o, es, ep, t, ho, r⟩ := R
  refine ⟨R0, ⟨o, ho⟩, fun h1 h2 p k => ?_⟩
  have p' : LenSet h1 a n := p
  obtain ⟨o', es', ep', t', ho', r'⟩ := p'
  exact ⟨o', es', ep', t', k o' ho', r'⟩
theorem items_mix {P : Program} {w : World} : ∀ {k : List Key} {us : List Value}, Vals (k.map kV) us → ItemsAre (mixKind P w) k us
  | [], _, .nil => .nil
  | .inl n :: k, _, .cons r t => by
    obtain ⟨tk, rfl⟩ := r
    exact .cons (mixKind_int P w n tk) (items_mix t)
  | .inr n :: k, _, .cons r t => by
    obtain ⟨tk, rfl⟩ := r
    exact .cons (mixKind_str P w n tk) (items_mix t)
theorem refs_vals {α : Type} : ∀ {ks : List (Addr × α)} {us : List Value}, Vals (ks.map fun p => V.ref p.1) us → us = ks.map fun p => Value.ref p.1
  | [], _, .nil => rfl
  | p :: ks, _, .cons r t => by
    cases r
    rw [refs_vals t]; rfl
section
variable {X : Cx}
theorem inv_mix {pins : List (Addr × Obj)} {σ : L2.St} {H : Hp} {s : Shared} {b : Addr} {k : List Key} (I : Inv X pins σ H s) (h : SqT X.K H b (k.map kV)) : IsTupleKey (mixKind X.prog X.w) s.heap k b := by
  obtain ⟨its, r, ⟨o, ho, hc, n, hd⟩, _⟩ := I.tuple h
  exact ⟨o, its.toArray, n, ho, hc, hd, by simpa using items_mix r⟩
/-- set(xs), xs a list or a tuple of tuples of ints and texts -/
def rSetK (K : PySem.W.Frag) : List V → Hp → VK → Prop := fun xs H Q => ∃ (l : Addr) (ks : List (Addr × List Key)), xs = [V.ref l] ∧ (SqL K H l (ks.map fun p => V.ref p.1) ∨ SqT K H l (ks.map fun p => V.ref p.1)) ∧ (∀ p ∈ ks, SqT K H p.1 (p.2.map kV)) ∧ ks.length < 64 ∧
  ∀ a n, H a = none → n ≤ ks.length → (n = ks.length ↔ (ks.map (·.2)).Nodup) → Q (.ref a) (upd H a (SetN a n))
theorem cr_setK (hc : X.calm = true) (hu : X.A.units + 64 < cLine) : CallR X (.type "set") (rSetK X.K) := by
  intro pins s σ H xs us Q I r h
  obtain ⟨l, ks, rfl, hl, hk, hf, q⟩ := h
  rw [Vals.ref1 r]
  have hn : H s.heap.objs.size = none := I.hok.fresh (Nat.le_refl _)
  have fin : ∀ (h' : Heap) (tk : Nat) L es ep t, (mixKD X.prog X.w).Has h' s.heap.objs.size L es ep t → Came ks ks.length L → (∀ b o, s.heap.get? b = some o → h'.get? b = some o) → EP X pins σ Q (.ref s.heap.objs.size) { s with heap := h', toks := tk } := by
    intro h' tk L es ep t R g k
    obtain ⟨o, ho, hex, hd⟩ := R.ob
    have hes := KD.ent_len _ L R.rows
    have ls : LenSet h' s.heap.objs.size L.length := ⟨o, es, ep, t, ho, hex, hd, KD.Has.fits (s := { s with heap := h' }) R, hes, R.few⟩
    refine ⟨.ref s.heap.objs.size, upd H s.heap.objs.size (SetN s.heap.objs.size L.length), I.laid (t' := tk) k (Nat.le_refl _) (setN_ok ls), rfl, q _ _ hn g.few ⟨fun e => ?_, fun hnd => ?_⟩⟩
    · have hp : (ks.map (·.2)).Perm (L.map (·.2)) := perm_of_nodup R.nd (fun x hx => by
        obtain ⟨p, hp, rfl⟩ := List.mem_map.mp hx
        exact List.mem_map.mpr ⟨p, List.mem_of_mem_take (g.inn p hp), rfl⟩) (by rw [List.length_map, List.length_map, e]; exact Nat.le_refl _)
      exact hp.nodup_iff.mpr R.nd
    · refine Nat.le_antisymm g.few ?_
      have := nodup_le hnd (ys := L.map (·.2)) fun x hx => by
        obtain ⟨p, hp, rfl⟩ := List.mem_map.mp hx
        exact g.all p (by rw [List.take_length]; exact hp)
      rwa [List.length_map, List.length_map] at this
  rcases hl with hl | hl
  · obtain ⟨its, rv, pl, hz⟩ := I.list hl
    exact KD.call_list (mixKD X.prog X.w) ks (I.ok.hd hc) pl.isList (by simpa using refs_vals rv) (fun p hp => inv_mix I (hk p hp)) hf (by omega) fin
  · obtain ⟨its, rv, pl, hz⟩ := I.tuple hl
    exact KD.call_tuple (mixKD X.prog X.w) ks (I.ok.hd hc) pl (by simpa using refs_vals rv) (fun p hp => inv_mix I (hk p hp)) hf (by omega) fin
theorem call_lenN : CallR X (.builtin "len") (fun xs H Q => ∃ (a : Addr) (n : Nat), xs = [.ref a] ∧ H a = some (SetN a n) ∧ Q (.int ((n : Nat) : Int)) H) := by
  intro pins s σ H xs us Q I r h
  obtain ⟨a, n, rfl, ha, q⟩ := h
  rw [Vals.ref1 r]
  have R : LenSet s.heap a n := (I.hok a _ ha).1
  obtain ⟨o, es, ep, t, ho, hex, hd, hf, hes, hl⟩ := R
  refine call_len_set ho hex hd hf (by omega) ?_
  exact ⟨.int ((n : Nat) : Int), H, I.tok _, ⟨_, by rw [hes]⟩, q⟩
end
end ND
/-! spots, wares, sheets: as plain data, and how they lie in the heap -/
namespace ND
open PySem PySem.Spec PyProof.Rows L2
abbrev Spot := Str × Int
def dat (s : Spot) : PyData := .tuple [.str s.1, .int s.2]
def spotLe (s t : Spot) : Bool := PySem.W.dataLe false dat s t
def spSort (ss : List Spot) : List Spot := ss.mergeSort spotLe
def SpV (K : PySem.W.Frag) (G : Hp) (v : V) (s : Spot) : Prop := ∃ r, v = .ref r ∧ GT K G r [.str s.1, .int s.2]
/-- values and what they stand for -/
def All2 {α : Type} (R : V → α → Prop) (vs : List V) (ss : List α) : Prop := ∃ bs : List (V × α), bs.map (·.1) = vs ∧ bs.map (·.2) = ss ∧ ∀ b ∈ bs, R b.1 b.2
/-- a list of spots -/
def SpotsAt (K : PySem.W.Frag) (G : Hp) (a : Addr) (ss : List Spot) : Prop := ∃ vs, Rd G a (.lst vs) ∧ All2 (SpV K G) vs ss
section
variable {α : Type} {R : V → α → Prop} {vs us : List V} {ss ts : List α}
theorem All2.nil : All2 R [] [] := ⟨[], rfl, rfl, fun _ h => nomatch h⟩
theorem All2.cons {v : V} {s : α} (h : R v s) (t : All2 R vs ss) : All2 R (v :: vs) (s :: ss) := by
  obtain ⟨bs, rfl, rfl, hb⟩ := t
  refine ⟨(v, s) :: bs, rfl, rfl, fun b hb' => ?_⟩
  rcases List.mem_cons.mp hb' with rfl | h1
  · exact h
  · exact hb b h1
theorem All2.len (t : All2 R vs ss) : vs.length = ss.length := by
  obtain ⟨bs, rfl, rfl, hb⟩ := t
  rw [List.length_map, List.length_map]
theorem All2.app (t : All2 R vs ss) (u : All2 R us ts) : All2 R (vs ++ us) (ss ++ ts) := by
  obtain ⟨bs, rfl, rfl, hb⟩ := t
  obtain ⟨cs, rfl, rfl, hc⟩ := u
  refine ⟨bs ++ cs, List.map_append, List.map_append, fun b h => ?_⟩
  rcases List.mem_append.mp h with h1 | h1
  · exact hb b h1
  · exact hc b h1
theorem All2.imp {R' : V → α → Prop} (t : All2 R vs ss) (h : ∀ v s, R v s → R' v s) : All2 R' vs ss := by
  obtain ⟨bs, h1, h2, hb⟩ := t
  exact ⟨bs, h1, h2, fun b hb' => h _ _ (hb b hb')⟩
theorem All2.sub (t : All2 R vs ss) (h : us.Sublist vs) : ∃ ts, ts.Sublist ss ∧ All2 R us ts := by
  obtain ⟨bs, rfl, rfl, hb⟩ := t
  obtain ⟨l, hl, rfl⟩ := List.sublist_map_iff.mp h
  exact ⟨l.map (·.2), hl.map _, l, rfl, rfl, fun b hb' => hb b (hl.subset hb')⟩
theorem All2.at {i : Nat} {v : V} (t : All2 R vs ss) (h : vs[i]? = some v) : ∃ s, ss[i]? = some s ∧ R v s := by
  obtain ⟨bs, rfl, rfl, hb⟩ := t
  rw [List.getElem?_map] at h
  obtain ⟨b, hb', rfl⟩ := Option.map_eq_some_iff.mp h
  exact ⟨b.2, by rw [List.getElem?_map, hb']; rfl, hb b (List.mem_of_getElem? hb')⟩
theorem All2.mem {v : V} (t : All2 R vs ss) (h : v ∈ vs) : ∃ s ∈ ss, R v s := by
  obtain ⟨bs, rfl, rfl, hb⟩ := t
  obtain ⟨b, hb', rfl⟩ := List.mem_map.mp h
  exact ⟨b.2, List.mem_map.mpr ⟨b, hb', rfl⟩, hb b hb'⟩
end
section
variable {K : PySem.W.Frag} {G H : Hp} {v : V} {s : Spot} {a : Addr} {ss : List Spot}
theorem SpV.mono (h : SpV K G v s) (e : Same G H) : SpV K H v s := by
  obtain ⟨r, rfl, t⟩ := h
  exact ⟨r, rfl, t.mono e⟩
theorem SpotsAt.mono (h : SpotsAt K G a ss) (e : Same G H) : SpotsAt K H a ss := by
  obtain ⟨vs, t, l⟩ := h
  exact ⟨vs, Evl.ex_rd e t, l.imp fun _ _ h => h.mono e⟩
theorem SpV.dp (h : SpV K G v s) : Dp K G v (dat s) := by
  obtain ⟨r, rfl, t⟩ := h
  exact .tup t.1 (.cons (.str _) (.cons (.int _) .nil))
end
/-- all spots, date by date -/
def spots0 (kinds : List Str) (n : Nat) : List Spot := (List.range n).flatMap fun t : Nat => kinds.map fun k => (k, ((t : Nat) : Int))
def allSpots (kinds : List Str) (n : Nat) : List Spot := spSort (spots0 kinds n)
end ND
/-! wares and sheets -/
namespace ND
open PySem PySem.Spec PyProof.Rows L2
structure Ware where
  slots : List Spot
  amount : Int
  cost : Option Int
  roll : Option Spot
/-- a ware as it lies in the heap: its dict at a, its slots at sl, its roll rv -/
structure WH where
  lab : Str
  a : Addr
  sl : Addr
  rv : V
  w : Ware
def optI : Option Int → V
  | none => .non
  | some n => .int n
def wareD (e : WH) : List (Key × V) := [(kS "slots", .ref e.sl), (kS "amount", .int e.w.amount), (kS "cost", optI e.w.cost), (kS "roll", e.rv)]
def RollAt (K : PySem.W.Frag) (G : Hp) (v : V) : Option Spot → Prop
  | none => v = .non
  | some s => SpV K G v s
structure WOk (K : PySem.W.Frag) (G : Hp) (e : WH) : Prop where
  sl : SpotsAt K G e.sl e.w.slots
  rv : RollAt K G e.rv e.w.roll
def labD (ws : List WH) : List (Key × V) := ws.map fun e => (kS e.lab, .ref e.a)
def lastS : List Spot → Int
  | [] => -1
  | [s] => s.2
  | s :: t :: r => max s.2 (lastS (t :: r))
theorem lastS_mem : ∀ {ss : List Spot}, ss ≠ [] → lastS ss ∈ ss.map (·.2)
  | [], h => absurd rfl h
  | [s], _ => List.mem_cons_self
  | s :: t :: r, _ => by
    have := lastS_mem (ss := t :: r) (by simp)
    show max s.2 (lastS (t :: r)) ∈ s.2 :: (t :: r).map (·.2)
    rcases Int.le_total s.2 (lastS (t :: r)) with h | h
    · rw [Int.max_eq_right h]; exact List.mem_cons_of_mem _ this
    · rw [Int.max_eq_left h]; exact List.mem_cons_self
theorem lastS_max : ∀ {ss : List Spot} {y : Int}, y ∈ ss.map (·.2) → y ≤ lastS ss
  | [], _, h => nomatch h
  | [s], y, h => by
    have : y = s.2 := by simpa using h
    subst this
    exact Int.le_refl _
  | s :: t :: r, y, h => by
    show y ≤ max s.2 (lastS (t :: r))
    rcases List.mem_cons.mp h with h1 | h1
    · rw [h1]; exact Int.le_max_left _ _
    · exact Int.le_trans (lastS_max (ss := t :: r) h1) (Int.le_max_right _ _)
section
variable {K : PySem.W.Frag} {G G' H : Hp} {e : WH}
theorem RollAt.mono {v : V} {r : Option Spot} (h : RollAt K G v r) (s : Same G G') : RollAt K G' v r := by
  cases r with
  | none => exact h
  | some r => exact SpV.mono h s
theorem WOk.mono (h : WOk K G e) (s : Same G G') : WOk K G' e := ⟨h.sl.mono s, h.rv.mono s⟩
end
/-- all wares, still open -/
structure WsAt (K : PySem.W.Frag) (d aw : Addr) (H0 G H : Hp) (ws : List WH) : Prop where
  nd : (ws.map (·.a)).Nodup
  lo : ∀ e ∈ ws, Lo d aw H0 G H e.a (.dK (wareD e))
  ok : ∀ e ∈ ws, WOk K G e
section
variable {K : PySem.W.Frag} {d aw ac p : Addr} {T : Nat} {G0 H0 G H G' H' : Hp} {ws : List WH} {o : HO}
theorem WsAt.step (A : WsAt K d aw H0 G H ws) (s : Stp d aw G H G' H') : WsAt K d aw H0 G' H' ws :=
  ⟨A.nd, fun e he => (A.lo e he).step s, fun e he => (A.ok e he).mono s.g⟩
theorem WsAt.newN (A : WsAt K d aw H0 G H ws) (n : H p = none) (gp : G p = none) : WsAt K d aw H0 (upd G p o) (upd H p o) ws :=
  ⟨A.nd, fun e he => (A.lo e he).newN n, fun e he => (A.ok e he).mono (same_add gp)⟩
theorem WsAt.othN (A : WsAt K d aw H0 G H ws) (n : H p = none) : WsAt K d aw H0 G (upd H p o) ws :=
  ⟨A.nd, fun e he => (A.lo e he).othN n, A.ok⟩
theorem WsAt.oth (A : WsAt K d aw H0 G H ws) (n : ∀ e ∈ ws, e.a ≠ p) : WsAt K d aw H0 G (upd H p o) ws :=
  ⟨A.nd, fun e he => (A.lo e he).oth (n e he), A.ok⟩
theorem WsAt.sealO (A : WsAt K d aw H0 G H ws) (l : Lo d aw H0 G H p o) (n : ∀ e ∈ ws, e.a ≠ p) : WsAt K d aw H0 (upd G p o) H ws :=
  ⟨A.nd, fun e he => (A.lo e he).sealO (n e he), fun e he => (A.ok e he).mono (same_add l.g)⟩
/-- the wares stay as they are from here on -/
theorem WsAt.seal : ∀ {ws : List WH} {G : Hp}, WsAt K d aw H0 G H ws → Wk K d aw ac T G0 H0 G H → ∃ G', Wk K d aw ac T G0 H0 G' H ∧ Same G G' ∧ (∀ e ∈ ws, G' e.a = some (.dK (wareD e)) ∧ WOk K G' e) ∧ ∀ b, (∀ e ∈ ws, e.a ≠ b) → G b = none → G' b = none
  | [], G, A, W => ⟨G, W, Same.refl _, (fun _ h => nomatch h), fun _ _ h => h⟩
  | e :: ws, G, A, W => by
    have hl := A.lo e List.mem_cons_self
    have hnd := List.nodup_cons.mp A.nd
    have hne : ∀ x ∈ ws, x.a ≠ e.a := fun x hx h => hnd.1 (List.mem_map.mpr ⟨x, hx, h⟩)
    have A2 : WsAt K d aw H0 (upd G e.a (.dK (wareD e))) H ws :=
      ⟨hnd.2, fun x hx => (A.lo x (List.mem_cons_of_mem _ hx)).sealO (hne x hx), fun x hx => (A.ok x (List.mem_cons_of_mem _ hx)).mono (same_add hl.g)⟩
    obtain ⟨G', W', s', h', o'⟩ := WsAt.seal A2 (W.seal hl)
    refine ⟨G', W', (same_add hl.g).trans s', fun x hx => ?_, fun b hb hg => ?_⟩
    · rcases List.mem_cons.mp hx with rfl | hx
      · exact ⟨s' _ _ upd_same, (A.ok _ List.mem_cons_self).mono ((same_add hl.g).trans s')⟩
      · exact h' x hx
    · refine o' b (fun x hx => hb x (List.mem_cons_of_mem _ hx)) ?_
      rw [upd_ne (Ne.symm (hb e List.mem_cons_self))]
      exact hg
end
end ND
namespace ND
open PySem PySem.Spec PyProof.Rows L2
structure Sheet where
  rates : List (Str × Int)
  span : Nat
  wares : List (Str × Ware)
def rateD (rs : List (Str × Int)) : List (Key × V) := rs.map fun r => (kS r.1, V.int r.2)
def sheetD (ap apk : Addr) (n : Nat) : List (Key × V) := [(kS "prices", .ref ap), (kS "days", .int n), (kS "packs", .ref apk)]
def warOf (ws : List WH) : List (Str × Ware) := ws.map fun e => (e.lab, e.w)
/-- a sheet that stays -/
structure SheetIs (K : PySem.W.Frag) (G : Hp) (a ap apk : Addr) (ws : List WH) (s : Sheet) : Prop where
  ha : G a = some (.dK (sheetD ap apk s.span))
  hp : G ap = some (.dK (rateD s.rates))
  hk : G apk = some (.dK (labD ws))
  hw : ∀ e ∈ ws, G e.a = some (.dK (wareD e)) ∧ WOk K G e
  he : s.wares = warOf ws
/-- a sheet that may still change -/
structure SheetLo (K : PySem.W.Frag) (d aw : Addr) (H0 G H : Hp) (a ap apk : Addr) (ws : List WH) (s : Sheet) : Prop where
  ha : Lo d aw H0 G H a (.dK (sheetD ap apk s.span))
  hp : Lo d aw H0 G H ap (.dK (rateD s.rates))
  hk : Lo d aw H0 G H apk (.dK (labD ws))
  hw : WsAt K d aw H0 G H ws
  he : s.wares = warOf ws
  n1 : a ≠ ap
  n2 : a ≠ apk
  n3 : ap ≠ apk
  n4 : ∀ e ∈ ws, e.a ≠ a ∧ e.a ≠ ap ∧ e.a ≠ apk
structure WareOk (kinds : List Str) (span : Nat) (w : Ware) : Prop where
  sub : w.slots.Sublist (allSpots kinds span)
  ne : w.slots ≠ []
  am0 : 0 ≤ w.amount
  am3 : w.amount ≤ 3
  cost : ∀ c, w.cost = some c → 0 ≤ c ∧ c ≤ 99
structure SheetOk (most : Nat) (units : Int) (s : Sheet) : Prop where
  r0 : 0 < s.rates.length
  r1 : s.rates.length ≤ 3
  rn : ∀ r ∈ s.rates, NameOk r.1 ∧ 0 ≤ r.2 ∧ r.2 ≤ 9
  rnd : (s.rates.map (·.1)).Nodup
  rso : sortedS (s.rates.map (·.1)) = true
  d0 : 0 < s.span
  d1 : s.span ≤ 4
  wl : s.wares.length ≤ most
  wnd : (s.wares.map (·.1)).Nodup
  wso : sortedS (s.wares.map (·.1)) = true
  wn : ∀ w ∈ s.wares, NameOk w.1
  wo : ∀ w ∈ s.wares, WareOk (s.rates.map (·.1)) s.span w.2
  sum : (s.wares.map (·.2.amount)).sum ≤ units
  roll : ∀ w ∈ s.wares, ∀ r, w.2.roll = some r → 1 ≤ r.2 ∧ r.2 ≤ 3 ∧ ∃ x ∈ s.wares, x.1 = r.1 ∧ lastS w.2.slots < lastS x.2.slots
section
variable {K : PySem.W.Frag} {d aw ac p a ap apk : Addr} {T : Nat} {G0 H0 G H G' H' : Hp} {ws : List WH} {s : Sheet}
theorem SheetIs.mono (S : SheetIs K G a ap apk ws s) (h : Same G G') : SheetIs K G' a ap apk ws s :=
  ⟨h _ _ S.ha, h _ _ S.hp, h _ _ S.hk, fun e he => ⟨h _ _ (S.hw e he).1, (S.hw e he).2.mono h⟩, S.he⟩
theorem SheetLo.seal (S : SheetLo K d aw H0 G H a ap apk ws s) (W : Wk K d aw ac T G0 H0 G H) : ∃ G', Wk K d aw ac T G0 H0 G' H ∧ Same G G' ∧ SheetIs K G' a ap apk ws s := by
  obtain ⟨G1, W1, s1, h1, o1⟩ := S.hw.seal W
  have la : Lo d aw H0 G1 H a (.dK (sheetD ap apk s.span)) := ⟨S.ha.h, o1 _ (fun e he => (S.n4 e he).1) S.ha.g, S.ha.nd, S.ha.nw, S.ha.n0⟩
  have lp : Lo d aw H0 G1 H ap (.dK (rateD s.rates)) := ⟨S.hp.h, o1 _ (fun e he => (S.n4 e he).2.1) S.hp.g, S.hp.nd, S.hp.nw, S.hp.n0⟩
  have lk : Lo d aw H0 G1 H apk (.dK (labD ws)) := ⟨S.hk.h, o1 _ (fun e he => (S.n4 e he).2.2) S.hk.g, S.hk.nd, S.hk.nw, S.hk.n0⟩
  have W2 := W1.seal la
  have lp2 := lp.sealO (x := .dK (sheetD ap apk s.span)) (Ne.symm S.n1)
  have lk2 := lk.sealO (x := .dK (sheetD ap apk s.span)) (Ne.symm S.n2)
  have W3 := W2.seal lp2
  have lk3 := lk2.sealO (x := .dK (rateD s.rates)) (Ne.symm S.n3)
  have W4 := W3.seal lk3
  have t1 := same_add (o := .dK (sheetD ap apk s.span)) la.g
  have t2 := same_add (o := .dK (rateD s.rates)) lp2.g
  have t3 := same_add (o := .dK (labD ws)) lk3.g
  exact ⟨_, W4, s1.trans (t1.trans (t2.trans t3)), (t2.trans t3) _ _ upd_same, t3 _ _ upd_same, upd_same, fun e he => ⟨(t1.trans (t2.trans t3)) _ _ (h1 e he).1, (h1 e he).2.mono (t1.trans (t2.trans t3))⟩, S.he⟩
end
end ND
/-! values of any kind -/
namespace ND
open PySem PySem.Spec PyProof.Rows L2
inductive PV where
  | non
  | bl (b : Bool)
  | int (n : Int)
  | str (z : Str)
  | lst (xs : List PV)
  | tup (xs : List PV)
  | dic
  | ins (t : Value)
/-- of none of the built-in kinds -/
structure Alien (K : PySem.W.Frag) (t : Value) : Prop where
  int : PySem.W.kitOne K t (.type "int") = some false
  bool : PySem.W.kitOne K t (.type "bool") = some false
  str : PySem.W.kitOne K t (.type "str") = some false
  list : PySem.W.kitOne K t (.type "list") = some false
  tuple : PySem.W.kitOne K t (.type "tuple") = some false
  dict : PySem.W.kitOne K t (.type "dict") = some false
mutual
inductive PvAt (K : PySem.W.Frag) (H : Hp) : V → PV → Prop where
  | non : PvAt K H .non .non
  | bl (b : Bool) : PvAt K H (.bl b) (.bl b)
  | int (n : Int) : PvAt K H (.int n) (.int n)
  | str (z : Str) (h : z.length ≤ 1000) : PvAt K H (.str z) (.str z)
  | lst {a : Addr} {vs : List V} {xs : List PV} (h : SqL K H a vs) (t : PvAll K H vs xs) (l : xs.length ≤ 1000) : PvAt K H (.ref a) (.lst xs)
  | tup {a : Addr} {vs : List V} {xs : List PV} (h : SqT K H a vs) (t : PvAll K H vs xs) (l : xs.length ≤ 1000) : PvAt K H (.ref a) (.tup xs)
  | dic {a : Addr} {kvs : List (Key × V)} (h : H a = some (.dK kvs)) : PvAt K H (.ref a) .dic
  | ins {a : Addr} {t : Value} (h : ∃ C dx fs, t = .ref C ∧ H a = some (.ins C dx fs)) (y : ∀ {H' : Hp}, H' a = H a → TyX K H' (.ref a) t) (k : Alien K t) : PvAt K H (.ref a) (.ins t)
inductive PvAll (K : PySem.W.Frag) (H : Hp) : List V → List PV → Prop where
  | nil : PvAll K H [] []
  | cons {v : V} {x : PV} {vs : List V} {xs : List PV} (h : PvAt K H v x) (t : PvAll K H vs xs) : PvAll K H (v :: vs) (x :: xs)
end
section
variable {K : PySem.W.Frag} {H H' : Hp}
mutual
theorem PvAt.mono : ∀ {v : V} {x : PV}, PvAt K H v x → Same H H' → PvAt K H' v x
  | _, _, .non, _ => .non
  | _, _, .bl b, _ => .bl b
  | _, _, .int n, _ => .int n
  | _, _, .str z h, _ => .str z h
  | _, _, .lst h t l, s => .lst (s.seq h) (t.mono s) l
  | _, _, .tup h t l, s => .tup (Evl.ex_t s h) (t.mono s) l
  | _, _, .dic h, s => .dic (s _ _ h)
  | _, _, .ins h y k, s => by
    obtain ⟨C, dx, fs, e, ha⟩ := h
    have ha' := s _ _ ha
    exact .ins ⟨C, dx, fs, e, ha'⟩ (fun {H2} e2 => y (e2.trans (ha'.trans ha.symm))) k
theorem PvAll.mono : ∀ {vs : List V} {xs : List PV}, PvAll K H vs xs → Same H H' → PvAll K H' vs xs
  | _, _, .nil, _ => .nil
  | _, _, .cons h t, s => .cons (h.mono s) (t.mono s)
end
theorem PvAll.len : ∀ {vs : List V} {xs : List PV}, PvAll K H vs xs → vs.length = xs.length
  | _, _, .nil => rfl
  | _, _, .cons _ t => congrArg (· + 1) t.len
theorem PvAll.at : ∀ {vs : List V} {xs : List PV} {i : Nat} {v : V}, PvAll K H vs xs → vs[i]? = some v → ∃ x, xs[i]? = some x ∧ PvAt K H v x
  | _, _, 0, _, .cons h t, e => by
    cases e
    exact ⟨_, rfl, h⟩
  | _, _, i + 1, _, .cons h t, e => t.at (i := i) e
  | _, _, 0, _, .nil, e => nomatch e
  | _, _, i + 1, _, .nil, e => nomatch e
end
def PV.ty : PV → Value
  | .non => .type "NoneType"
  | .bl _ => .type "bool"
  | .int _ => .type "int"
  | .str _ => .type "str"
  | .lst _ => .type "list"
  | .tup _ => .type "tuple"
  | .dic => .type "dict"
  | .ins t => t
theorem sqL_ty {K : PySem.W.Frag} {H : Hp} {a : Addr} {vs : List V} (h : SqL K H a vs) : TyX K H (.ref a) (.type "list") := by
  rcases h with (h | ⟨o, h⟩) | ⟨dd, its, n, hk, h⟩
  · exact .base (.lst h)
  · exact .base (.frz h)
  · exact .kList hk h.1
theorem sqT_ty {K : PySem.W.Frag} {H : Hp} {a : Addr} {vs : List V} (h : SqT K H a vs) : TyX K H (.ref a) (.type "tuple") := by
  rcases h with (h | ⟨o, h⟩) | ⟨dd, its, n, hk, h⟩
  · exact .base (.tup h)
  · exact .fTuple h
  · exact .kTuple hk h.1
section
end
/-! what the checks answer -/
def PV.withinB (a b : Int) : PV → Bool
  | .int n => decide (a ≤ n) && decide (n ≤ b)
  | _ => false
def nameB (z : Str) : Bool := decide (1 ≤ z.length) && (decide (z.length ≤ 6) && z.cps.toList.all fun c => decide (c ∈ letters.cps.toList))
def PV.nameB : PV → Bool
  | .str z => ND.nameB z
  | _ => false
def PV.pairB (f g : PV → Bool) : PV → Bool
  | .tup [x, y] => f x && g y
  | _ => false
def PV.slotB : PV → Bool := PV.pairB PV.nameB (PV.withinB 0 3)
theorem nameB_iff {z : Str} : nameB z = true ↔ NameOk z := by
  unfold nameB NameOk
  rw [Bool.and_eq_true, Bool.and_eq_true, decide_eq_true_eq, decide_eq_true_eq, List.all_eq_true]
  simp
/-! a list or a tuple, walked -/
/-! slots, all together -/
def PV.slotK : PV → List Key
  | .tup [.str z, .int n] => [.inr z, .inl n]
  | _ => []
theorem PvAt.slot {K : PySem.W.Frag} {H : Hp} {v : V} {x : PV} (h : PvAt K H v x) (hb : x.slotB = true) : ∃ r z n, v = .ref r ∧ x = .tup [.str z, .int n] ∧ SqT K H r [.str z, .int n] ∧ NameOk z ∧ 0 ≤ n ∧ n ≤ 3 := by
  cases h with
  | @tup a us xs h t l =>
    match xs, hb with
    | [x0, x1], hb =>
      have hb' : (x0.nameB && x1.withinB 0 3) = true := hb
      rw [Bool.and_eq_true] at hb'
      cases t with
      | cons h0 t =>
        cases t with
        | cons h1 t =>
          cases t with
          | nil =>
            cases h0 with
            | str z hz =>
              cases h1 with
              | int n =>
                have h2 : (decide (0 ≤ n) && decide (n ≤ 3)) = true := hb'.2
                rw [Bool.and_eq_true, decide_eq_true_eq, decide_eq_true_eq] at h2
                exact ⟨a, z, n, rfl, rfl, h, nameB_iff.mp hb'.1, h2.1, h2.2⟩
              | _ => cases hb'.2
            | _ => cases hb'.1
  | _ => cases hb
theorem PvAll.slots {K : PySem.W.Frag} {H : Hp} : ∀ {vs : List V} {xs : List PV}, PvAll K H vs xs → xs.all PV.slotB = true → ∃ ks : List (Addr × List Key), vs = (ks.map fun p => V.ref p.1) ∧ (∀ p ∈ ks, SqT K H p.1 (p.2.map kV)) ∧ ks.map (·.2) = xs.map PV.slotK
  | _, _, .nil, _ => ⟨[], rfl, (fun _ h => nomatch h), rfl⟩
  | _, _, .cons h t, hb => by
    rw [List.all_cons, Bool.and_eq_true] at hb
    obtain ⟨r, z, n, rfl, rfl, hr, _⟩ := h.slot hb.1
    obtain ⟨ks, e1, e2, e3⟩ := PvAll.slots t hb.2
    refine ⟨(r, [.inr z, .inl n]) :: ks, by rw [e1]; rfl, fun p hp => ?_, by rw [List.map_cons, List.map_cons, e3]; rfl⟩
    rcases List.mem_cons.mp hp with rfl | hp
    · exact hr
    · exact e2 p hp
end ND
/-! what the operators and the built-in functions do with plain data -/
namespace ND
open PySem PySem.Spec PyProof.Rows L2
/-! ### data that == and < take -/
def D.py : D → PyData
  | .non => .none
  | .bl b => .bool b
  | .int i => .int i
  | .str x => .str x
  | .lst xs => .list (pyL xs)
  | .tup xs => .tuple (pyL xs)
  | _ => .dict []
where pyL : List D → List PyData
  | [] => []
  | x :: xs => x.py :: pyL xs
def D.pl : Nat → D → Bool
  | _, .non => true
  | _, .bl _ => true
  | _, .int _ => true
  | _, .str _ => true
  | n + 1, .lst xs => xs.all (D.pl n)
  | n + 1, .tup xs => xs.all (D.pl n)
  | _, _ => false
section
variable {K : PySem.W.Frag} {C : Cfg K} {E : XK} {n : Nat} {G H : Hp} {v : V} {d : D}
theorem dpAll_of {G : Hp} {k : Nat} (ih : ∀ (v : V) (d : D), Rep C G v d → D.pl k d = true → Dp K G v d.py ∧ d.py.canLay0 = true ∧ d.py.depth ≤ k) : ∀ {vs : List V} {xs : List D}, RepL C G vs xs → xs.all (D.pl k) = true → DpAll K G vs (D.py.pyL xs) ∧ PyData.canLayAll0 (D.py.pyL xs) = true ∧ PyData.depthAll (D.py.pyL xs) ≤ k
  | _, _, .nil, _ => ⟨.nil, by simp [D.py.pyL, PyData.canLayAll0], by simp [D.py.pyL, PyData.depthAll]⟩
  | _, _, .cons h t, hp => by
    rw [List.all_cons, Bool.and_eq_true] at hp
    obtain ⟨a1, a2, a3⟩ := ih _ _ h hp.1
    obtain ⟨b1, b2, b3⟩ := dpAll_of ih t hp.2
    refine ⟨.cons a1 b1, ?_, ?_⟩
    · simp only [D.py.pyL, PyData.canLayAll0, a2, b2, Bool.and_self]
    · simp only [D.py.pyL, PyData.depthAll]
      omega
theorem dp_of {G : Hp} : ∀ (k : Nat) (v : V) (d : D), Rep C G v d → D.pl k d = true → Dp K G v d.py ∧ d.py.canLay0 = true ∧ d.py.depth ≤ k
  | k, _, _, .non, _ => ⟨.non, by simp [D.py, PyData.canLay0], by simp [D.py, PyData.depth]⟩
  | k, _, _, .bl b, _ => ⟨.bl b, by simp [D.py, PyData.canLay0], by simp [D.py, PyData.depth]⟩
  | k, _, _, .int b, _ => ⟨.int b, by simp [D.py, PyData.canLay0], by simp [D.py, PyData.depth]⟩
  | k, _, _, .str b h, _ => ⟨.str b, by simp [D.py, PyData.canLay0, h.2], by simp [D.py, PyData.depth]⟩
  | k + 1, _, _, .lst h t l, hp => by
    obtain ⟨a1, a2, a3⟩ := dpAll_of (dp_of k) t hp
    exact ⟨.lst (.inl h) a1, by simp only [D.py, PyData.canLay0]; exact a2, by simp only [D.py, PyData.depth]; omega⟩
  | k + 1, _, _, .tup h t l, hp => by
    obtain ⟨a1, a2, a3⟩ := dpAll_of (dp_of k) t hp
    exact ⟨.tup h.1 a1, by simp only [D.py, PyData.canLay0]; exact a2, by simp only [D.py, PyData.depth]; omega⟩
  | 0, _, _, .lst h t l, hp => by simp [D.pl] at hp
  | 0, _, _, .tup h t l, hp => by simp [D.pl] at hp
  | 0, _, _, .dct .., hp => by simp [D.pl] at hp
  | k + 1, _, _, .dct .., hp => by simp [D.pl] at hp
  | 0, _, _, .ins .., hp => by simp [D.pl] at hp
  | k + 1, _, _, .ins .., hp => by simp [D.pl] at hp
  | 0, _, _, .exc .., hp => by simp [D.pl] at hp
  | k + 1, _, _, .exc .., hp => by simp [D.pl] at hp
  | 0, _, _, .drw, hp => by simp [D.pl] at hp
  | k + 1, _, _, .drw, hp => by simp [D.pl] at hp
mutual
theorem dpMono (s : Same G H) : ∀ {v : V} {d : PyData}, Dp K G v d → Dp K H v d
  | _, _, .non => .non
  | _, _, .bl b => .bl b
  | _, _, .int b => .int b
  | _, _, .str b => .str b
  | _, _, .lst h t => .lst (s.seq h) (dpAllMono s t)
  | _, _, .tup h t => .tup (Evl.ex_t s h) (dpAllMono s t)
theorem dpAllMono (s : Same G H) : ∀ {vs : List V} {ds : List PyData}, DpAll K G vs ds → DpAll K H vs ds
  | _, _, .nil => .nil
  | _, _, .cons h t => .cons (dpMono s h) (dpAllMono s t)
end
theorem RepV.dp {k : Nat} (s : Same G H) (h : RepV C G H v d) (hp : D.pl k d = true) : Dp K H v d.py ∧ d.py.canLay0 = true ∧ d.py.depth ≤ k := by
  rcases h with h | ⟨p, o, rfl, hpp, nv, r⟩
  · obtain ⟨a, b, c⟩ := dp_of k v d h hp
    exact ⟨dpMono s a, b, c⟩
  · cases o <;> cases d <;> first | exact r.elim | skip
    · cases k with
      | zero => simp [D.pl] at hp
      | succ k =>
        obtain ⟨a1, a2, a3⟩ := dpAll_of (dp_of k) r.2 hp
        exact ⟨.lst (SqL.of hpp) (dpAllMono s a1), by simp only [D.py, PyData.canLay0]; exact a2, by simp only [D.py, PyData.depth]; omega⟩
    · cases k <;> simp [D.pl] at hp
    · cases k <;> simp [D.pl] at hp
theorem shaped_of {d : PyData} (h1 : d.canLay0 = true) (h2 : d.depth ≤ 8) : SeqAt.shaped d = true := by
  unfold SeqAt.shaped
  rw [h1, decide_eq_true (show d.depth ≤ 64 by omega)]
  rfl
def dEqB (x y : D) : Bool := PyData.eqv x.py y.py
def dEq (x y : D) : Out D := bif D.pl 8 x && D.pl 8 y then .ok (.bl (dEqB x y)) else .stuck
def dNe (x y : D) : Out D := bif D.pl 8 x && D.pl 8 y then .ok (.bl (!dEqB x y)) else .stuck
theorem sr_eqD : SR C E (rEqD K) dEq := fun n G H x y dx dy Q w rx ry q => by
  unfold dEq at q
  cases hp : (D.pl 8 dx && D.pl 8 dy) with
  | false => rw [hp] at q; exact q.elim
  | true =>
    rw [hp] at q
    rw [Bool.and_eq_true] at hp
    obtain ⟨a1, a2, a3⟩ := rx.dp w.sub hp.1
    obtain ⟨b1, b2, b3⟩ := ry.dp w.sub hp.2
    exact ⟨_, _, a1, b1, shaped_of a2 a3, shaped_of b2 b3, q _ G H (Ws.refl w) (.bl _)⟩
theorem sr_neD : SR C E (rNeD K) dNe := fun n G H x y dx dy Q w rx ry q => by
  unfold dNe at q
  cases hp : (D.pl 8 dx && D.pl 8 dy) with
  | false => rw [hp] at q; exact q.elim
  | true =>
    rw [hp] at q
    rw [Bool.and_eq_true] at hp
    obtain ⟨a1, a2, a3⟩ := rx.dp w.sub hp.1
    obtain ⟨b1, b2, b3⟩ := ry.dp w.sub hp.2
    exact ⟨_, _, a1, b1, shaped_of a2 a3, shaped_of b2 b3, q _ G H (Ws.refl w) (.bl _)⟩
/-! ### x in xs: data in a list or a tuple -/
section
end
/-! ### numbers -/
def d2I (f : Int → Int → D) : D → D → Out D := fun x y => match x, y with
  | .int i, .int j => .ok (f i j)
  | _, _ => .stuck
def d2C (c : Int → Int → Bool) (f : Int → Int → D) : D → D → Out D := fun x y => match x, y with
  | .int i, .int j => bif c i j then .ok (f i j) else .stuck
  | _, _ => .stuck
abbrev dAdd := d2I fun i j => .int (i + j)
abbrev dSub := d2I fun i j => .int (i - j)
abbrev dLe := d2I fun i j => .bl (decide (i ≤ j))
abbrev dGt := d2I fun i j => .bl (decide (j < i))
theorem sr_I0 {g : Int → Int → V} {f : Int → Int → D} (h : ∀ G i j, Rep C G (g i j) (f i j)) : SR C E (rI0 g) (d2I f) := fun n G H x y dx dy Q w rx ry q => by
  cases dx <;> first | exact q.elim | skip
  cases dy <;> first | exact q.elim | skip
  cases rx.int
  cases ry.int
  exact ⟨_, _, rfl, rfl, q _ G H (Ws.refl w) (h G _ _)⟩
theorem sr_I {g : Int → Int → V} {f : Int → Int → D} {P : Int → Int → Prop} {c : Int → Int → Bool} (h : ∀ G i j, Rep C G (g i j) (f i j)) (hc : ∀ i j, c i j = true → P i j) : SR C E (rI P g) (d2C c f) := fun n G H x y dx dy Q w rx ry q => by
  cases dx <;> first | exact q.elim | skip
  cases dy <;> first | exact q.elim | skip
  rename_i i j
  cases rx.int
  cases ry.int
  cases hh : c i j with
  | false => unfold d2C at q; simp only [hh] at q; exact q.elim
  | true =>
    unfold d2C at q
    simp only [hh] at q
    exact ⟨_, _, rfl, rfl, hc _ _ hh, q _ G H (Ws.refl w) (h G _ _)⟩
theorem sr_add : SR C E (rI0 fun i j => .int (i + j)) dAdd := sr_I0 fun _ _ _ => .int _
theorem sr_sub : SR C E (rI0 fun i j => .int (i - j)) dSub := sr_I0 fun _ _ _ => .int _
theorem sr_le : SR C E (rI0 fun i j => .bl (decide (i ≤ j))) dLe := sr_I0 fun _ _ _ => .bl _
theorem sr_gt : SR C E (rI0 fun i j => .bl (decide (j < i))) dGt := sr_I0 fun _ _ _ => .bl _
abbrev dMod := d2C (fun _ j => decide (0 < j)) fun i j => .int (i % j)
theorem sr_mod : SR C E (rI (fun _ j => 0 < j) fun i j => .int (i % j)) dMod := sr_I (fun _ _ _ => .int _) fun i j h => of_decide_eq_true h
abbrev dDiv := d2C (fun _ j => decide (0 < j) && decide (j < 1000000)) fun i j => .int (i / j)
theorem sr_div : SR C E (rI CDiv fun i j => .int (i / j)) dDiv := sr_I (fun _ _ _ => .int _) fun i j h => by
  simp only [Bool.and_eq_true, decide_eq_true_eq] at h
  exact ⟨h.1, by omega⟩
/-! ### None -/
def D.isNon : D → Bool
  | .non => true
  | _ => false
theorem RepV.isNon (h : RepV C G H v d) : decide (v = .non) = d.isNon := by
  rcases h with h | ⟨p, o, rfl, hp, nv, r⟩
  · cases h <;> first | rfl | exact decide_eq_false (fun z => by cases z)
  · cases d <;> first | exact decide_eq_false (fun z => by cases z) | skip
    cases o <;> exact r.elim
def dIsN (x y : D) : Out D := match y with
  | .non => .ok (.bl x.isNon)
  | _ => .stuck
def dNotN (x y : D) : Out D := match y with
  | .non => .ok (.bl (!x.isNon))
  | _ => .stuck
theorem sr_isN : SR C E (fun x y H Q => y = .non ∧ Q (.bl (decide (x = .non))) H) dIsN := fun n G H x y dx dy Q w rx ry q => by
  cases dy <;> first | exact q.elim | skip
  refine ⟨ry.non, ?_⟩
  rw [rx.isNon]
  exact q _ G H (Ws.refl w) (.bl _)
theorem sr_notN : SR C E (fun x y H Q => y = .non ∧ Q (.bl (!decide (x = .non))) H) dNotN := fun n G H x y dx dy Q w rx ry q => by
  cases dy <;> first | exact q.elim | skip
  refine ⟨ry.non, ?_⟩
  rw [rx.isNon]
  exact q _ G H (Ws.refl w) (.bl _)
/-! ### texts -/
/-- a sign in a text -/
def dInS (neg : Bool) (x y : D) : Out D := match x, y with
  | .str a, .str z => match a.cps.toList with
    | [c] => .ok (.bl (neg ^^ decide (c ∈ z.cps.toList)))
    | _ => .stuck
  | _, _ => .stuck
theorem str_one {a : Str} {c : Nat} (h : a.cps.toList = [c]) : a = ⟨#[c]⟩ := by
  obtain ⟨l⟩ := a
  congr 1
  exact Array.ext' h
theorem sr_inS : SR C E (fun x y H Q => ∃ (c : Nat) (z : Str), x = .str ⟨#[c]⟩ ∧ y = .str z ∧ Q (.bl (decide (c ∈ z.cps.toList))) H) (dInS false) := fun n G H x y dx dy Q w rx ry q => by
  cases dx <;> first | exact q.elim | skip
  cases dy <;> first | exact q.elim | skip
  rename_i a b
  obtain ⟨rfl, sa⟩ := rx.str
  obtain ⟨rfl, sb⟩ := ry.str
  unfold dInS at q
  cases hh : a.cps.toList with
  | nil => simp only [hh] at q; exact q.elim
  | cons c t =>
    cases t with
    | cons _ _ => simp only [hh] at q; exact q.elim
    | nil =>
      simp only [hh] at q
      rw [str_one hh]
      exact ⟨c, b, rfl, rfl, by simpa using q _ G H (Ws.refl w) (.bl _)⟩
theorem sr_notInS : SR C E (fun x y H Q => ∃ (c : Nat) (z : Str), x = .str ⟨#[c]⟩ ∧ y = .str z ∧ Q (.bl (!decide (c ∈ z.cps.toList))) H) (dInS true) := fun n G H x y dx dy Q w rx ry q => by
  cases dx <;> first | exact q.elim | skip
  cases dy <;> first | exact q.elim | skip
  rename_i a b
  obtain ⟨rfl, sa⟩ := rx.str
  obtain ⟨rfl, sb⟩ := ry.str
  unfold dInS at q
  cases hh : a.cps.toList with
  | nil => simp only [hh] at q; exact q.elim
  | cons c t =>
    cases t with
    | cons _ _ => simp only [hh] at q; exact q.elim
    | nil =>
      simp only [hh] at q
      rw [str_one hh]
      exact ⟨c, b, rfl, rfl, by simpa using q _ G H (Ws.refl w) (.bl _)⟩
end
end ND
/-! places, slices, lengths, kinds, fields, dicts, changes of one's own objects -/
namespace ND
open PySem PySem.Spec PyProof.Rows L2
def optD : Option D → Out D
  | some d => .ok d
  | none => .stuck
@[simp] theorem optD_some (d : D) : optD (some d) = .ok d := rfl
section
variable {K : PySem.W.Frag} {C : Cfg K} {E : XK} {Γ Γn Γb Γc : List Md} {n m : Nat} {G0 H0 G H G1 H1 : Hp} {v : V} {d : D} {σ : L2.St} {ρ : Rho} {Q : VK} {i : Nat}
/-! ### places -/
theorem RqL.atI {vs : List V} {xs : List D} {i : Int} {d : D} (r : RepL C G vs xs) (h : L2.atI xs i = some d) : ∃ v, L2.atI vs i = some v ∧ Rep C G v d := by
  unfold L2.atI at h ⊢
  rw [r.len]
  obtain ⟨j, h1, h2⟩ := Option.bind_eq_some_iff.mp h
  obtain ⟨v, h3, h4⟩ := r.at' h2
  exact ⟨v, by rw [h1]; exact h3, h4⟩
def dIx (x y : D) : Out D := match x, y with
  | .lst xs, .int i => optD (L2.atI xs i)
  | .tup xs, .int i => optD (L2.atI xs i)
  | .str z, .int i => match L2.atI z.cps.toList i with
    | some c => .ok (.str ⟨#[c]⟩)
    | none => .stuck
  | _, _ => .stuck
theorem atI_mem {α : Type} {xs : List α} {i : Int} {v : α} (h : L2.atI xs i = some v) : ∃ j : Nat, xs[j]? = some v := by
  unfold L2.atI at h
  obtain ⟨j, _, h2⟩ := Option.bind_eq_some_iff.mp h
  exact ⟨j, h2⟩
theorem sr_ix : SR C E (rIx K) dIx := fun n G H x y dx dy Q w rx ry q => by
  cases dx <;> first | exact q.elim | skip
  · rename_i z
    cases dy <;> first | exact q.elim | skip
    rename_i i
    obtain ⟨rfl, sz⟩ := rx.str
    cases ry.int
    unfold dIx at q
    cases hh : L2.atI z.cps.toList i with
    | none => simp only [hh] at q; exact q.elim
    | some c =>
      simp only [hh] at q
      obtain ⟨j, hj⟩ := atI_mem hh
      refine .inr (.inr ⟨z, i, c, rfl, rfl, Nat.le_trans sz.1 (by decide), hh, q _ G H (Ws.refl w) (.str _ (sok_sign sz (i := j) ?_))⟩)
      rw [← Array.getElem?_toList]
      exact hj
  · rename_i xs
    cases dy <;> first | exact q.elim | skip
    rename_i i
    obtain ⟨a, vs, rfl, h, t, l⟩ := rx.lst w.sub
    cases ry.int
    unfold dIx at q
    cases hh : L2.atI xs i with
    | none => simp only [hh] at q; exact q.elim
    | some c =>
      simp only [hh] at q
      obtain ⟨v, h1, h2⟩ := t.atI hh
      exact .inl ⟨a, vs, i, v, rfl, rfl, .inl h, h1, q v G H (Ws.refl w) h2⟩
  · rename_i xs
    cases dy <;> first | exact q.elim | skip
    rename_i i
    obtain ⟨a, vs, rfl, h, t, l⟩ := rx.tup w.sub
    cases ry.int
    unfold dIx at q
    cases hh : L2.atI xs i with
    | none => simp only [hh] at q; exact q.elim
    | some c =>
      simp only [hh] at q
      obtain ⟨v, h1, h2⟩ := t.atI hh
      exact .inr (.inl ⟨a, vs, i, v, rfl, rfl, h, h1, q v G H (Ws.refl w) h2⟩)
/-! ### slices -/
def SimO (C : Cfg K) (E : XK) (Γ : List Md) (t : TO) (φ : Rho → Out (Option Int)) : Prop := ∀ H0 n G H σ ρ Q, Wl C n G H → Er C H0 Γ G H σ ρ → (φ ρ).wp n (fun m o => ∀ G' H', Ws C G H m G' H' → Q o H') (PX C G H E) → t σ H Q
def oNone : Rho → Out (Option Int) := fun _ => .ok none
def oSome (a : Rho → Out D) : Rho → Out (Option Int) := fun ρ => (a ρ).bind fun d => match d with
  | .int i => .ok (some i)
  | _ => .stuck
theorem so_none : SimO C E Γ tNoPart oNone := fun H0 n G H σ ρ Q w e q => q G H (Ws.refl w)
theorem so_some {t : TE} {a : Rho → Out D} (ha : SimV C E Γ t a) : SimO C E Γ (tPart t) (oSome a) := fun H0 n G H σ ρ Q w e q => by
  refine ha H0 n G H σ ρ _ w e (Out.wp_mono (fun m d k v G1 H1 s1 r1 => ?_) (fun _ _ _ z => z) (Out.wp_bind q))
  cases d <;> first | exact k.elim | skip
  exact ⟨_, r1.int, k G1 H1 s1⟩
def cutL {α : Type} (xs : List α) (lo hi : Option Int) : List α := (xs.drop (HT.sIx xs.length 0 lo)).take (HT.sIx xs.length xs.length hi - HT.sIx xs.length 0 lo)
theorem cutL_len {α : Type} (xs : List α) (lo hi : Option Int) : (cutL xs lo hi).length ≤ xs.length := by
  unfold cutL
  rw [List.length_take, List.length_drop]
  omega
theorem RqL.cut {vs : List V} {xs : List D} (r : RepL C G vs xs) (lo hi : Option Int) : RepL C G (cutV vs lo hi) (cutL xs lo hi) := by
  unfold cutV cutL
  rw [r.len]
  exact (r.drop _).take _
def eSl (f : D → Option Int → Option Int → Out D) (a : Rho → Out D) (l h : Rho → Out (Option Int)) : Rho → Out D := fun ρ => (a ρ).bind fun x => (l ρ).bind fun lo => (h ρ).bind fun hi => f x lo hi
def dSlL (x : D) (lo hi : Option Int) : Out D := match x with
  | .lst xs => .ok (.lst (cutL xs lo hi))
  | _ => .stuck
theorem sn_slL {te : TE} {tl th : TO} {a : Rho → Out D} {l h : Rho → Out (Option Int)} (ha : SimV C E Γ te a) (hl : SimO C E Γ tl l) (hh : SimO C E Γ th h) : SimN C E Γ (tSl (rSlL K) te tl th) (eSl dSlL a l h) := fun H0 n G H σ ρ Q w e q => by
  refine ha H0 n G H σ ρ _ w e (Out.wp_mono (fun m d k v G1 H1 s1 r1 => ?_) (fun _ _ _ z => z) (Out.wp_bind q))
  refine hl H0 m G1 H1 σ ρ _ s1.w (e.step s1) (Out.wp_mono (fun m2 lo k2 G2 H2 s2 => ?_) (fun _ _ _ z => PX.back s1 z) (Out.wp_bind k))
  refine hh H0 m2 G2 H2 σ ρ _ s2.w ((e.step s1).step s2) (Out.wp_mono (fun m3 hi k3 G3 H3 s3 => ?_) (fun _ _ _ z => PX.back (s1.trans s2) z) (Out.wp_bind k2))
  cases d <;> first | exact k3.elim | skip
  have s23 := s2.trans s3
  obtain ⟨a, vs, rfl, hx, t, hz⟩ := (r1.step s23).lst s3.w.sub
  refine ⟨a, vs, rfl, .inl hx, fun p np => ?_⟩
  have s13 := s1.trans s23
  exact k3 p _ _ _ (s13.tmp np) (s13.dm np) (s13.w.gn np) upd_same ⟨Nat.le_trans (cutL_len _ _ _) hz, t.cut _ _⟩
/-! ### len -/
theorem orCall {X : Cx} {f : Value} {r1 r2 : List V → Hp → VK → Prop} (a : CallR X f r1) (b : CallR X f r2) : CallR X f (fun xs H Q => r1 xs H Q ∨ r2 xs H Q) := by
  intro pins s σ H xs us Q I r h
  rcases h with h | h
  · exact a pins s σ H xs us Q I r h
  · exact b pins s σ H xs us Q I r h
def rLenA (K : PySem.W.Frag) : List V → Hp → VK → Prop := fun xs H Q => (∃ p ys, xs = [.ref p] ∧ (SqL K H p ys ∨ SqT K H p ys) ∧ Q (.int ys.length) H) ∨ (∃ z, xs = [.str z] ∧ z.length ≤ sizeLine ∧ Q (.int z.length) H) ∨ ∃ a kvs, xs = [V.ref a] ∧ Rd H a (.dK kvs) ∧ Q (.int kvs.length) H
theorem call_lenR {X : Cx} : CallR X (.builtin "len") (fun xs H Q => ∃ a kvs, xs = [V.ref a] ∧ Rd H a (.dK kvs) ∧ Q (.int kvs.length) H) := by
  intro pins s σ H xs us Q I r h
  obtain ⟨a, kvs, rfl, ha, q⟩ := h
  obtain ⟨u, rfl, ru⟩ := vals1 r
  cases ru
  exact d_len I ha fun t s' I' => ⟨.int kvs.length, H, I', ⟨t, rfl⟩, q⟩
theorem call_lenA {X : Cx} : CallR X (.builtin "len") (rLenA X.K) := orCall call_len_seq (orCall call_len_str call_lenR)
def dLen : List D → Out D
  | [.lst xs] => .ok (.int xs.length)
  | [.tup xs] => .ok (.int xs.length)
  | [.str z] => .ok (.int z.length)
  | [.dct kvs] => .ok (.int kvs.length)
  | _ => .stuck
theorem sc_len : SC C E 1 (rLenA K) dLen := fun n G H vs ds Q w r hl q => by
  match ds, hl, vs, r with
  | [d], _, [v], .cons h .nil =>
    cases d <;> first | exact q.elim | skip
    · obtain ⟨rfl, sz⟩ := h.str
      exact .inr (.inl ⟨_, rfl, Nat.le_trans sz.1 (by decide), q _ G H (Ws.refl w) (.int _)⟩)
    · obtain ⟨a, us, rfl, hx, t, hz⟩ := h.lst w.sub
      refine .inl ⟨a, us, rfl, .inl (.inl hx), ?_⟩
      rw [t.len]
      exact q _ G H (Ws.refl w) (.int _)
    · obtain ⟨a, us, rfl, hx, t, hz⟩ := h.tup w.sub
      refine .inl ⟨a, us, rfl, .inr hx, ?_⟩
      rw [t.len]
      exact q _ G H (Ws.refl w) (.int _)
    · obtain ⟨a, us, rfl, hx, e, t, hz⟩ := h.dct w.sub
      refine .inr (.inr ⟨a, us, rfl, hx, ?_⟩)
      have := congrArg List.length e
      rw [List.length_map, List.length_map] at this
      rw [this]
      exact q _ G H (Ws.refl w) (.int _)
/-! ### isinstance -/
def tyOfD : D → String
  | .non => "NoneType"
  | .bl _ => "bool"
  | .int _ => "int"
  | .str _ => "str"
  | .lst _ => "list"
  | .tup _ => "tuple"
  | _ => "dict"
def isTyS (t n : String) : Bool := decide (t = n) || (decide (t = "bool") && decide (n = "int"))
def dIsTyB (n : String) : D → Option Bool
  | .ins _ _ => some false
  | .exc _ _ => some false
  | .drw => none
  | d => some (isTyS (tyOfD d) n)
def dIsClB (c : Str) : D → Option Bool
  | .ins c' _ => some (isaB c' c)
  | .exc c' _ => some (isaB c' c)
  | .drw => none
  | _ => some false
def boD : Option Bool → Out D
  | some b => .ok (.bl b)
  | none => .stuck
@[simp] theorem boD_some (b : Bool) : boD (some b) = .ok (.bl b) := rfl
def rIsA (K : PySem.W.Frag) : List V → Hp → VK → Prop := fun xs H Q => rIsi K xs H Q ∨ rIsK K xs H Q
theorem call_isA {X : Cx} : CallR X (.builtin "isinstance") (rIsA X.K) := orCall call_isi call_isk
theorem kit_tys : ∀ t ∈ tyNs, ∀ n ∈ tyNs, PySem.W.kitOne K (.type t) (.type n) = some (isTyS t n) := by
  intro t ht n hn
  have key : ∀ t ∈ tyNs, ∀ n ∈ tyNs, kitB t n = some (isTyS t n) := by decide +kernel
  exact kit_ty (key t ht n hn)
theorem rd_lst_ty {a : Addr} {vs : List V} (h : Rd H a (.lst vs)) : TyX K H (.ref a) (.type "list") := sqL_ty (.inl h)
/-- its kind: a built-in one, or a class -/
theorem RepV.ty (w : Same G H) (h : RepV C G H v d) (hn : d ≠ .drw) : (TyX K H v (.type (tyOfD d)) ∧ tyOfD d ∈ tyNs ∧ (∀ c fs, d ≠ .ins c fs) ∧ ∀ c fs, d ≠ .exc c fs) ∨ (∃ c fs, d = .ins c fs ∧ c ∈ ownCls K ∧ TyX K H v (.ref (He.ga K c))) ∨ ∃ c fs a, d = .exc c fs ∧ c ∈ ownX K ∧ v = .ref a ∧ ∃ dd us, H a = some (XO a (He.ga K c) dd) ∧ XFs H dd us := by
  cases d with
  | non => rw [h.non]; exact .inl ⟨.base .non, (by show "NoneType" ∈ tyNs; decide), (fun _ _ z => nomatch z), (fun _ _ z => nomatch z)⟩
  | bl b => rw [h.bl]; exact .inl ⟨.base (.bl b), (by show "bool" ∈ tyNs; decide), (fun _ _ z => nomatch z), (fun _ _ z => nomatch z)⟩
  | int b => rw [h.int]; exact .inl ⟨.base (.int b), (by show "int" ∈ tyNs; decide), (fun _ _ z => nomatch z), (fun _ _ z => nomatch z)⟩
  | str b => rw [h.str.1]; exact .inl ⟨.base (.str b), (by show "str" ∈ tyNs; decide), (fun _ _ z => nomatch z), (fun _ _ z => nomatch z)⟩
  | lst xs =>
    obtain ⟨a, us, rfl, hx, _⟩ := h.lst w
    exact .inl ⟨rd_lst_ty hx, (by show "list" ∈ tyNs; decide), (fun _ _ z => nomatch z), (fun _ _ z => nomatch z)⟩
  | tup xs =>
    obtain ⟨a, us, rfl, hx, _⟩ := h.tup w
    exact .inl ⟨sqT_ty hx, (by show "tuple" ∈ tyNs; decide), (fun _ _ z => nomatch z), (fun _ _ z => nomatch z)⟩
  | dct xs =>
    obtain ⟨a, us, rfl, hx, _⟩ := h.dct w
    refine .inl ⟨?_, (by show "dict" ∈ tyNs; decide), (fun _ _ z => nomatch z), (fun _ _ z => nomatch z)⟩
    rcases hx with hx | ⟨o, hx⟩
    · exact .base (.dK hx)
    · exact .fDict hx
  | ins c fs =>
    obtain ⟨a, dx, us, rfl, hc, hx, _⟩ := h.ins w
    exact .inr (.inl ⟨c, fs, rfl, hc, (C.ct.ty c hc).ty hx⟩)
  | exc c fs =>
    rcases h with h | ⟨p, o, rfl, hp, nv, r⟩
    · cases h with
      | @exc a _ us _ hc hx e t =>
        refine .inr (.inr ⟨c, fs, a, rfl, hc, rfl, ?_⟩)
        obtain ⟨dd, h1, h2⟩ := hx
        exact ⟨dd, us, w _ _ h1, h2.mono w⟩
    · cases o <;> exact r.elim
  | drw => exact absurd rfl hn
theorem sm_isTy {s : String} {ta : TE} {a : Rho → Out D} (ha : SimV C E Γ ta a) (hs : s ∈ tyNs := by decide) : SimE C E Γ (tCB (rIsA K) (tCons ta (tCons (tC (.ty s)) tNil))) (eUn (fun d => boD (dIsTyB s d)) a) := fun H0 n G H σ ρ Q w e q => by
  refine ha H0 n G H σ ρ _ w e (Out.wp_mono (fun m d k v G1 H1 s1 r1 => ?_) (fun _ _ _ z => z) (Out.wp_bind q))
  by_cases hd : d = .drw
  · subst hd; exact k.elim
  rcases r1.ty s1.w.sub hd with ⟨h1, h2, h3, h4⟩ | ⟨c, fs, rfl, hc, h1⟩ | ⟨c, fs, b, rfl, hc, rfl, dd, us, h1, h1x⟩
  · refine .inl ⟨v, _, _, _, isTyS (tyOfD d) s, rfl, .ty s, h1, kit_tys _ h2 _ hs, ?_⟩
    have e : dIsTyB s d = some (isTyS (tyOfD d) s) := by
      cases d <;> first | rfl | exact absurd rfl hd | exact absurd rfl (h3 _ _) | exact absurd rfl (h4 _ _)
    simp only [e, boD_some] at k
    exact k _ G1 H1 s1 (.bl _)
  · exact .inl ⟨v, _, _, _, false, rfl, .ty s, h1, C.ct.bt c (List.mem_append_left _ hc) s hs, k _ G1 H1 s1 (.bl _)⟩
  · exact .inr ⟨b, _, dd, us, _, _, false, rfl, h1, h1x, C.ct.xk c hc, .ty s, C.ct.bt c (List.mem_append_right _ hc) s hs, k _ G1 H1 s1 (.bl _)⟩
theorem sm_isCl {c : Str} {ta : TE} {a : Rho → Out D} (hc : c ∈ ownCls K ++ ownX K) (ha : SimV C E Γ ta a) : SimE C E Γ (tCB (rIsA K) (tCons ta (tCons (tC (.ref (He.ga K c))) tNil))) (eUn (fun d => boD (dIsClB c d)) a) := fun H0 n G H σ ρ Q w e q => by
  refine ha H0 n G H σ ρ _ w e (Out.wp_mono (fun m d k v G1 H1 s1 r1 => ?_) (fun _ _ _ z => z) (Out.wp_bind q))
  by_cases hd : d = .drw
  · subst hd; exact k.elim
  rcases r1.ty s1.w.sub hd with ⟨h1, h2, h3, h4⟩ | ⟨c', fs, rfl, hc', h1⟩ | ⟨c', fs, b, rfl, hc', rfl, dd, us, h1, h1x⟩
  · refine .inl ⟨v, _, _, _, false, rfl, .own _, h1, C.ct.tb c hc _ h2, ?_⟩
    have e : dIsClB c d = some false := by
      cases d <;> first | rfl | exact absurd rfl hd | exact absurd rfl (h3 _ _) | exact absurd rfl (h4 _ _)
    simp only [e, boD_some] at k
    exact k _ G1 H1 s1 (.bl _)
  · exact .inl ⟨v, _, _, _, _, rfl, .own _, h1, C.ct.oo c' (List.mem_append_left _ hc') c hc, k _ G1 H1 s1 (.bl _)⟩
  · exact .inr ⟨b, _, dd, us, _, _, _, rfl, h1, h1x, C.ct.xk c' hc', .own _, C.ct.oo c' (List.mem_append_right _ hc') c hc, k _ G1 H1 s1 (.bl _)⟩
/-- isinstance(x, (list, tuple)) -/
def dIsSeqB : D → Option Bool
  | .lst _ => some true
  | .tup _ => some true
  | .exc _ _ => none
  | .drw => none
  | _ => some false
theorem kit_any {t : Value} {a b : Bool} {u1 u2 : Value} (h1 : PySem.W.kitOne K t u1 = some a) (h2 : PySem.W.kitOne K t u2 = some b) : PySem.W.kitAny K t [u1, u2] = some (a || b) := by
  unfold PySem.W.kitAny
  rw [h1]
  cases a
  · show PySem.W.kitAny K t [u2] = _
    unfold PySem.W.kitAny
    rw [h2]
    cases b <;> rfl
  · rfl
theorem sm_isSeq {ta : TE} {a : Rho → Out D} (ha : SimV C E Γ ta a) : SimE C E Γ (tCB (rIsiT K) (tCons ta (tCons (tTup (tCons (tC (.ty "list")) (tCons (tC (.ty "tuple")) tNil))) tNil))) (eUn (fun d => boD (dIsSeqB d)) a) := fun H0 n G H σ ρ Q w e q => by
  refine ha H0 n G H σ ρ _ w e (Out.wp_mono (fun m d k v G1 H1 s1 r1 => ?_) (fun _ _ _ z => z) (Out.wp_bind q))
  by_cases hd : d = .drw
  · subst hd; exact k.elim
  refine ⟨by decide, fun p np => ?_⟩
  have s2 := s1.new (o := .tup [.ty "list", .ty "tuple"]) np
  have r2 := r1.step ((Ws.refl s1.w).new (o := .tup [.ty "list", .ty "tuple"]) np)
  rcases r2.ty s2.w.sub hd with ⟨h1, h2, h3, h4⟩ | ⟨c, fs, rfl, hc, h1⟩ | ⟨c, fs, b, rfl, hc, rfl, dd, us, h1, h1x⟩
  · refine ⟨v, p, _, _, _, _, rfl, upd_same, .cons (.ty _) (.cons (.ty _) .nil), h1, kit_any (kit_tys _ h2 "list" (by decide)) (kit_tys _ h2 "tuple" (by decide)), ?_⟩
    have e : dIsSeqB d = some (isTyS (tyOfD d) "list" || isTyS (tyOfD d) "tuple") := by
      cases d <;> first | rfl | exact absurd rfl hd | exact absurd rfl (h3 _ _) | exact absurd rfl (h4 _ _)
    simp only [e, boD_some] at k
    exact k _ _ _ s2 (.bl _)
  · exact ⟨v, p, _, _, _, _, rfl, upd_same, .cons (.ty _) (.cons (.ty _) .nil), h1, kit_any (C.ct.bt c (List.mem_append_left _ hc) "list" (by decide)) (C.ct.bt c (List.mem_append_left _ hc) "tuple" (by decide)), k _ _ _ s2 (.bl _)⟩
  · exact k.elim
end
end ND
/-! dict comprehensions over any walk -/
namespace ND
open PySem PySem.Spec PyProof.Rows L2
end ND
/-! built-in functions, fields, dicts, changes of one's own objects -/
namespace ND
open PySem PySem.Spec PyProof.Rows L2
def intsD : List D → Option (List Int)
  | [] => some []
  | .int i :: xs => (intsD xs).map (i :: ·)
  | _ => none
def boolsD : List D → Option (List Bool)
  | [] => some []
  | .bl i :: xs => (boolsD xs).map (i :: ·)
  | _ => none
theorem intsD_eq : ∀ {xs : List D} {ns : List Int}, intsD xs = some ns → xs = ns.map D.int
  | [], _, h => by cases h; rfl
  | .int i :: xs, _, h => by
    have h' : (intsD xs).map (i :: ·) = some _ := h
    obtain ⟨ms, h1, rfl⟩ := Option.map_eq_some_iff.mp h'
    rw [intsD_eq h1]
    rfl
theorem boolsD_eq : ∀ {xs : List D} {ns : List Bool}, boolsD xs = some ns → xs = ns.map D.bl
  | [], _, h => by cases h; rfl
  | .bl i :: xs, _, h => by
    have h' : (boolsD xs).map (i :: ·) = some _ := h
    obtain ⟨ms, h1, rfl⟩ := Option.map_eq_some_iff.mp h'
    rw [boolsD_eq h1]
    rfl
section
variable {K : PySem.W.Frag} {C : Cfg K} {E : XK} {Γ Γn Γb Γc : List Md} {n m : Nat} {G0 H0 G H G1 H1 : Hp} {v : V} {d : D} {σ : L2.St} {ρ : Rho} {Q : VK} {i : Nat}
theorem RqL.ints : ∀ {ns : List Int} {vs : List V}, RepL C G vs (ns.map D.int) → vs = ns.map V.int
  | [], _, h => by cases h; rfl
  | n :: ns, _, h => by
    cases h with
    | cons h t => cases h; rw [RqL.ints t]; rfl
theorem RqL.bools : ∀ {ns : List Bool} {vs : List V}, RepL C G vs (ns.map D.bl) → vs = ns.map V.bl
  | [], _, h => by cases h; rfl
  | n :: ns, _, h => by
    cases h with
    | cons h t => cases h; rw [RqL.bools t]; rfl
theorem repL_strs : ∀ {ns : List Str}, (∀ z ∈ ns, SOk z) → RepL C G (ns.map V.str) (ns.map D.str)
  | [], _ => .nil
  | n :: ns, h => .cons (.str _ (h n List.mem_cons_self)) (repL_strs fun z hz => h z (List.mem_cons_of_mem _ hz))
/-! ### all, any, sum, max, min -/
def dLs (f : List D → Out D) : List D → Out D
  | [.lst xs] => f xs
  | _ => .stuck
def dAll : List D → Out D := dLs fun xs => match boolsD xs with
  | some bs => .ok (.bl (bs.all id))
  | none => .stuck
def maxL : List Int → Option Int
  | [] => none
  | x :: xs => some (xs.foldl max x)
def dMax : List D → Out D := dLs fun xs => match (intsD xs).bind maxL with
  | some n => .ok (.int n)
  | none => .stuck
theorem foldl_max : ∀ (xs : List Int) (x : Int), xs.foldl max x ∈ x :: xs ∧ ∀ y ∈ x :: xs, y ≤ xs.foldl max x
  | [], x => ⟨List.mem_cons_self, fun y hy => by rw [List.mem_singleton.mp hy]; exact Int.le_refl _⟩
  | z :: xs, x => by
    obtain ⟨h1, h2⟩ := foldl_max xs (max x z)
    rw [List.foldl_cons]
    refine ⟨?_, fun y hy => ?_⟩
    · rcases List.mem_cons.mp h1 with h | h
      · rw [h]
        rcases Int.le_total x z with hz | hz
        · rw [Int.max_eq_right hz]; exact List.mem_cons_of_mem _ List.mem_cons_self
        · rw [Int.max_eq_left hz]; exact List.mem_cons_self
      · exact List.mem_cons_of_mem _ (List.mem_cons_of_mem _ h)
    · have hm := h2 (max x z) List.mem_cons_self
      rcases List.mem_cons.mp hy with rfl | hy
      · exact Int.le_trans (Int.le_max_left _ _) hm
      · rcases List.mem_cons.mp hy with rfl | hy
        · exact Int.le_trans (Int.le_max_right _ _) hm
        · exact h2 y (List.mem_cons_of_mem _ hy)
theorem sc_ls {r : List V → Hp → VK → Prop} {f : List D → Out D} (h : ∀ n G H a vs xs Q, Wl C n G H → Rd H a (.lst vs) → RepL C G vs xs → (f xs).wp n (PQ C G H Q) (PX C G H E) → r [.ref a] H Q) : SC C E 1 r (dLs f) := fun n G H vs ds Q w r hl q => by
  match ds, hl, vs, r with
  | [d], _, [v], .cons hd .nil =>
    cases d <;> first | exact q.elim | skip
    obtain ⟨a, us, rfl, hx, t, hz⟩ := hd.lst w.sub
    exact h n G H a us _ Q w hx t q
theorem sc_all : SC C E 1 (rAll K) dAll := sc_ls fun n G H a vs xs Q w hx t q => by
  cases hh : boolsD xs with
  | none => simp only [hh] at q; exact q.elim
  | some bs =>
    simp only [hh] at q
    rw [boolsD_eq hh] at t
    rw [t.bools] at hx
    exact ⟨a, bs, rfl, .inl hx, q _ G H (Ws.refl w) (.bl _)⟩
theorem sc_max : SC C E 1 (rMax K) dMax := sc_ls fun n G H a vs xs Q w hx t q => by
  cases hh : intsD xs with
  | none => simp only [hh, Option.bind_none] at q; exact q.elim
  | some bs =>
    rw [intsD_eq hh] at t
    rw [t.ints] at hx
    cases bs with
    | nil => simp only [hh, Option.bind_some, maxL] at q; exact q.elim
    | cons b bs =>
      simp only [hh, Option.bind_some, maxL] at q
      refine ⟨a, _, rfl, .inl hx, Nat.succ_pos _, fun m h1 h2 => ?_⟩
      obtain ⟨g1, g2⟩ := foldl_max bs b
      have : m = bs.foldl max b := Int.le_antisymm (g2 m h1) (h2 _ g1)
      rw [this]
      exact q _ G H (Ws.refl w) (.int _)
def dMin2 : List D → Out D
  | [.int i, .int j] => .ok (.int (if j < i then j else i))
  | _ => .stuck
theorem sc_min2 : SC C E 2 (fun xs H Q => ∃ i j, xs = [.int i, .int j] ∧ Q (.int (if j < i then j else i)) H) dMin2 := fun n G H vs ds Q w r hl q => by
  match ds, hl, vs, r with
  | [d, e], _, [v, u], .cons hd (.cons he .nil) =>
    cases d <;> first | exact q.elim | skip
    cases e <;> first | exact q.elim | skip
    rw [hd.int, he.int]
    exact ⟨_, _, rfl, q _ G H (Ws.refl w) (.int _)⟩
/-! ### list(..), tuple(..), dict(..), sorted(..) -/
def dList : List D → Out D
  | [.lst xs] => .ok (.lst xs)
  | [.tup xs] => .ok (.lst xs)
  | _ => .stuck
theorem sc_list : SCN C E 1 (fun xs H Q => ∃ p ys, xs = [.ref p] ∧ (SqL K H p ys ∨ SqT K H p ys) ∧ ∀ l, H l = none → Q (.ref l) (upd H l (.lst ys))) dList := fun n G H vs ds Q w r hl q => by
  match ds, hl, vs, r with
  | [d], _, [v], .cons hd .nil =>
    cases d <;> first | exact q.elim | skip
    · obtain ⟨a, us, rfl, hx, t, hz⟩ := hd.lst w.sub
      exact ⟨a, us, rfl, .inl (.inl hx), fun p np => q p _ _ _ ((Ws.refl w).tmp np) np (w.gn np) upd_same ⟨hz, t⟩⟩
    · obtain ⟨a, us, rfl, hx, t, hz⟩ := hd.tup w.sub
      exact ⟨a, us, rfl, .inr hx, fun p np => q p _ _ _ ((Ws.refl w).tmp np) np (w.gn np) upd_same ⟨hz, t⟩⟩
def dTuple : List D → Out D
  | [.lst xs] => .ok (.tup xs)
  | [.tup xs] => .ok (.tup xs)
  | _ => .stuck
theorem RepV.tupR {xs : List D} (h : RepV C G H v (.tup xs)) : Rep C G v (.tup xs) := by
  rcases h with h | ⟨p, o, rfl, hp, nv, r⟩
  · exact h
  · cases o <;> exact r.elim
theorem sc_tuple : SC C E 1 (rTupOf K) dTuple := fun n G H vs ds Q w r hl q => by
  match ds, hl, vs, r with
  | [d], _, [v], .cons hd .nil =>
    cases d <;> first | exact q.elim | skip
    · obtain ⟨a, us, rfl, hx, t, hz⟩ := hd.lst w.sub
      exact ⟨a, us, rfl, .inl ⟨.inl hx, fun p o np ho => q _ _ _ ((Ws.refl w).new np) (.tup (GT.new upd_same ho) (t.mono (same_add (w.gn np))) hz)⟩⟩
    · have hr := hd.tupR
      obtain ⟨a, us, rfl, hx, t, hz⟩ := hd.tup w.sub
      exact ⟨a, us, rfl, .inr ⟨hx, q _ G H (Ws.refl w) hr⟩⟩
def dDict : List D → Out D
  | [.dct kvs] => .ok (.dct kvs)
  | _ => .stuck
theorem sc_dict : SCN C E 1 (fun xs H Q => ∃ (a : Addr) (kvs : List (Key × V)), xs = [.ref a] ∧ Rd H a (.dK kvs) ∧ ∀ p, H p = none → Q (.ref p) (upd H p (.dK kvs))) dDict := fun n G H vs ds Q w r hl q => by
  match ds, hl, vs, r with
  | [d], _, [v], .cons hd .nil =>
    cases d <;> first | exact q.elim | skip
    obtain ⟨a, us, rfl, hx, e, t, hz⟩ := hd.dct w.sub
    exact ⟨a, us, rfl, hx, fun p np => q p _ _ _ ((Ws.refl w).tmp np) np (w.gn np) upd_same ⟨hz, e, t⟩⟩
/-- sorted(xs) -/
def dLeB (a b : D) : Bool := PySem.W.dataLe false D.py a b
def sortD (xs : List D) : List D := xs.mergeSort dLeB
def tupNe : D → Bool
  | .tup (_ :: _) => true
  | _ => false
def notTN : D → Bool
  | .tup _ => false
  | .non => false
  | _ => true
def canSort (xs : List D) : Bool := xs.all (D.pl 8) && ((xs.all fun a => xs.all fun b => PySem.W.alike a.py b.py) && (xs.all tupNe || xs.all notTN))
def dSorted : List D → Out D := dLs fun xs => bif canSort xs then .ok (.lst (sortD xs)) else .stuck
theorem zip_of {P : V → D → Prop} : ∀ {vs : List V} {xs : List D}, vs.length = xs.length → (vs.zip xs).map (·.1) = vs ∧ (vs.zip xs).map (·.2) = xs
  | [], [], _ => ⟨rfl, rfl⟩
  | v :: vs, x :: xs, h => by
    obtain ⟨a, b⟩ := zip_of (P := P) (vs := vs) (xs := xs) (Nat.succ.inj h)
    exact ⟨by rw [List.zip_cons_cons, List.map_cons, a], by rw [List.zip_cons_cons, List.map_cons, b]⟩
theorem RqL.zip : ∀ {vs : List V} {xs : List D}, RepL C G vs xs → ∀ p ∈ vs.zip xs, Rep C G p.1 p.2
  | _, _, .nil, p, hp => nomatch hp
  | _, _, .cons h t, p, hp => by
    rw [List.zip_cons_cons] at hp
    rcases List.mem_cons.mp hp with rfl | hp
    · exact h
    · exact RqL.zip t p hp
theorem repL_of : ∀ {bs : List (V × D)}, (∀ p ∈ bs, Rep C G p.1 p.2) → RepL C G (bs.map (·.1)) (bs.map (·.2))
  | [], _ => .nil
  | b :: bs, h => .cons (h b List.mem_cons_self) (repL_of fun p hp => h p (List.mem_cons_of_mem _ hp))
theorem scn_ls {r : List V → Hp → VK → Prop} {f : List D → Out D} (h : ∀ n G H a vs xs Q, Wl C n G H → Rd H a (.lst vs) → RepL C G vs xs → xs.length ≤ 100000 → (f xs).wp n (PN C G H Q) (PX C G H E) → r [.ref a] H Q) : SCN C E 1 r (dLs f) := fun n G H vs ds Q w r hl q => by
  match ds, hl, vs, r with
  | [d], _, [v], .cons hd .nil =>
    cases d <;> first | exact q.elim | skip
    obtain ⟨a, us, rfl, hx, t, hz⟩ := hd.lst w.sub
    exact h n G H a us _ Q w hx t hz q
theorem sc_sorted : SCN C E 1 (rSortD K) dSorted := scn_ls fun n G H a vs xs Q w hx t hz q => by
  cases hc : canSort xs with
  | false => rw [hc] at q; exact q.elim
  | true =>
    rw [hc] at q
    unfold canSort at hc
    rw [Bool.and_eq_true, Bool.and_eq_true, Bool.or_eq_true, List.all_eq_true, List.all_eq_true] at hc
    obtain ⟨c1, c2, c3⟩ := hc
    obtain ⟨z1, z2⟩ := zip_of (P := Rep C G) t.len
    have hm : ∀ p ∈ vs.zip xs, p.2 ∈ xs := fun p hp => by
      rw [← z2]
      exact List.mem_map.mpr ⟨p, hp, rfl⟩
    refine ⟨a, (vs.zip xs).map fun p => (p.1, p.2.py), rfl, ?_, ?_, ?_, ?_, ?_, fun p np => ?_⟩
    · rw [List.map_map]
      show SqL K H a ((vs.zip xs).map (·.1))
      rw [z1]
      exact .inl hx
    · intro b hb
      obtain ⟨c, hc, rfl⟩ := List.mem_map.mp hb
      exact dpMono w.sub (dp_of 8 _ _ (t.zip c hc) (c1 _ (hm c hc))).1
    · rw [List.map_map]
      intro d hd d' hd'
      obtain ⟨c, hc, rfl⟩ := List.mem_map.mp hd
      obtain ⟨c', hc', rfl⟩ := List.mem_map.mp hd'
      have := c2 _ (hm c hc)
      rw [List.all_eq_true] at this
      exact this _ (hm c' hc')
    · rw [List.map_map]
      rcases c3 with c3 | c3
      · rw [List.all_eq_true] at c3
        refine .inl fun d hd => ?_
        obtain ⟨c, hc, rfl⟩ := List.mem_map.mp hd
        have h1 := c3 _ (hm c hc)
        show ∃ x r, c.2.py = .tuple (x :: r)
        cases h2 : c.2 <;> rw [h2] at h1 <;> first | exact absurd h1 Bool.false_ne_true | skip
        rename_i ys
        cases ys with
        | nil => exact absurd h1 Bool.false_ne_true
        | cons y ys => exact ⟨y.py, _, rfl⟩
      · rw [List.all_eq_true] at c3
        refine .inr fun d hd => ?_
        obtain ⟨c, hc, rfl⟩ := List.mem_map.mp hd
        have h1 := c3 _ (hm c hc)
        show c.2.py ≠ .none ∧ ∀ xs, c.2.py ≠ .tuple xs
        cases h2 : c.2 <;> rw [h2] at h1 <;> first | exact absurd h1 Bool.false_ne_true | exact ⟨(fun z => nomatch z), fun _ z => nomatch z⟩
    · intro b hb
      obtain ⟨c, hc, rfl⟩ := List.mem_map.mp hb
      exact Nat.le_trans (dp_of 8 _ _ (t.zip c hc) (c1 _ (hm c hc))).2.2 (by decide)
    · have e1 : srt ((vs.zip xs).map fun p => (p.1, p.2.py)) = ((vs.zip xs).mergeSort fun b c => dLeB b.2 c.2).map fun p => (p.1, p.2.py) := by
        unfold srt
        exact (List.map_mergeSort (f := fun p : V × D => (p.1, p.2.py)) (r := fun b c => dLeB b.2 c.2) (s := PySem.W.dataLe false fun x : V × PyData => x.2) (fun b _ c _ => rfl)).symm
      have e2 : ((vs.zip xs).mergeSort fun b c => dLeB b.2 c.2).map (·.2) = sortD xs := by
        unfold sortD
        refine (List.map_mergeSort (f := fun p : V × D => p.2) (r := fun b c => dLeB b.2 c.2) (s := dLeB) (fun b _ c _ => rfl)).trans ?_
        rw [z2]
      rw [e1, List.map_map]
      have hr : RepL C G (((vs.zip xs).mergeSort fun b c => dLeB b.2 c.2).map (·.1)) (sortD xs) := by
        rw [← e2]
        exact repL_of fun b hb => t.zip b (List.mem_mergeSort.mp hb)
      refine q p _ _ _ ((Ws.refl w).tmp np) np (w.gn np) upd_same ⟨?_, hr⟩
      unfold sortD
      rw [List.length_mergeSort]
      exact hz
end
end ND
/-! dicts, fields, one's own objects, classes, errors -/
namespace ND
open PySem PySem.Spec PyProof.Rows L2
def valD (kvs : List (Key × D)) (k : Key) : Option D := (kvs.find? fun kv => decide (kv.1 = k)).map (·.2)
def putD (kvs : List (Key × D)) (k : Key) (d : D) : List (Key × D) := if (kvs.any fun kv => decide (kv.1 = k)) = true then kvs.map (fun kv => if kv.1 = k then (kv.1, d) else kv) else kvs ++ [(k, d)]
def keyOfD : D → Option Key
  | .int i => some (.inl i)
  | .str z => some (.inr z)
  | _ => none
theorem valD_cons (p : Key × D) (r : List (Key × D)) (k : Key) : valD (p :: r) k = if p.1 = k then some p.2 else valD r k := by
  unfold valD
  rw [List.find?_cons]
  by_cases h : p.1 = k
  · rw [decide_eq_true h, if_pos h]; rfl
  · rw [decide_eq_false h, if_neg h]
@[simp] theorem valD_nil (k : Key) : valD [] k = none := rfl
section
variable {rm : RM} {K : PySem.W.Frag} {C : Cfg K} {E : XK} {Γ Γn Γb Γc : List Md} {n m : Nat} {G0 H0 G H G1 H1 : Hp} {v : V} {d : D} {σ : L2.St} {ρ : Rho} {Q : VK} {i : Nat}
theorem rk_val : ∀ {kvs : List (Key × V)} {xs : List (Key × D)} {k : Key}, kvs.map (·.1) = xs.map (·.1) → RepL C G (kvs.map (·.2)) (xs.map (·.2)) → (∃ v d, valV kvs k = some v ∧ valD xs k = some d ∧ Rep C G v d) ∨ (valV kvs k = none ∧ valD xs k = none)
  | [], [], k, _, _ => .inr ⟨rfl, rfl⟩
  | [], _ :: _, k, e, _ => by cases e
  | _ :: _, [], k, e, _ => by cases e
  | p :: kvs, x :: xs, k, e, t => by
    rw [List.map_cons, List.map_cons] at e t
    injection e with e1 e2
    cases t with
    | cons h t =>
      by_cases hk : p.1 = k
      · exact .inl ⟨p.2, x.2, valV_pos hk, by rw [valD_cons, if_pos (e1 ▸ hk)], h⟩
      · rw [valV_neg hk, valD_cons, if_neg (e1 ▸ hk)]
        exact rk_val e2 t
theorem rk_any : ∀ {kvs : List (Key × V)} {xs : List (Key × D)} {k : Key}, kvs.map (·.1) = xs.map (·.1) → (kvs.any fun kv => decide (kv.1 = k)) = (xs.any fun kv => decide (kv.1 = k)) := fun {kvs xs k} e => by
  have h1 : (kvs.any fun kv => decide (kv.1 = k)) = ((kvs.map (·.1)).any fun z => decide (z = k)) := by rw [List.any_map]; rfl
  have h2 : (xs.any fun kv => decide (kv.1 = k)) = ((xs.map (·.1)).any fun z => decide (z = k)) := by rw [List.any_map]; rfl
  rw [h1, h2, e]
theorem rk_map {k : Key} (hv : Rep C G v d) : ∀ {kvs : List (Key × V)} {xs : List (Key × D)}, kvs.map (·.1) = xs.map (·.1) → RepL C G (kvs.map (·.2)) (xs.map (·.2)) →
    (kvs.map fun kv => if kv.1 = k then (kv.1, v) else kv).map (·.1) = (xs.map fun kv => if kv.1 = k then (kv.1, d) else kv).map (·.1) ∧ RepL C G ((kvs.map fun kv => if kv.1 = k then (kv.1, v) else kv).map (·.2)) ((xs.map fun kv => if kv.1 = k then (kv.1, d) else kv).map (·.2))
  | [], [], _, _ => ⟨rfl, .nil⟩
  | [], _ :: _, e, _ => by cases e
  | _ :: _, [], e, _ => by cases e
  | p :: kvs, x :: xs, e, t => by
    rw [List.map_cons, List.map_cons] at e t
    injection e with e1 e2
    cases t with
    | cons h t =>
      obtain ⟨a, b⟩ := rk_map hv (k := k) e2 t
      by_cases hk : p.1 = k
      · have hk' : x.1 = k := e1 ▸ hk
        simp only [List.map_cons, if_pos hk, if_pos hk']
        exact ⟨by rw [e1, a], .cons hv b⟩
      · have hk' : ¬ x.1 = k := e1 ▸ hk
        simp only [List.map_cons, if_neg hk, if_neg hk']
        exact ⟨by rw [e1, a], .cons h b⟩
theorem rk_put {k : Key} {kvs : List (Key × V)} {xs : List (Key × D)} (hv : Rep C G v d) (e : kvs.map (·.1) = xs.map (·.1)) (t : RepL C G (kvs.map (·.2)) (xs.map (·.2))) : (putK kvs k v).map (·.1) = (putD xs k d).map (·.1) ∧ RepL C G ((putK kvs k v).map (·.2)) ((putD xs k d).map (·.2)) := by
  unfold putK putD
  rw [rk_any (k := k) e]
  by_cases h : (xs.any fun kv => decide (kv.1 = k)) = true
  · rw [if_pos h, if_pos h]
    exact rk_map hv e t
  · rw [if_neg h, if_neg h]
    refine ⟨by rw [List.map_append, List.map_append, e]; rfl, ?_⟩
    rw [List.map_append, List.map_append]
    exact t.app (.cons hv .nil)
theorem putD_len (xs : List (Key × D)) (k : Key) (d : D) : (putD xs k d).length ≤ xs.length + 1 := by
  unfold putD
  split
  · rw [List.length_map]; omega
  · rw [List.length_append]; exact Nat.le_refl _
theorem RepV.key {k : Key} (h : RepV C G H v d) (hk : keyOfD d = some k) : v = kV k := by
  cases d with
  | int i => cases hk; exact h.int
  | str z => cases hk; exact h.str.1
  | _ => cases hk
/-! ### d[k], k in d -/
def dGet (x y : D) : Out D := match x, keyOfD y with
  | .dct kvs, some k => optD (valD kvs k)
  | _, _ => .stuck
theorem sm_dget {td ty : TE} {a b : Rho → Out D} (ha : SimV C E Γ td a) (hb : SimV C E Γ ty b) : SimE C E Γ (tDGet td ty) (eOp dGet a b) := fun H0 n G H σ ρ Q w e q => by
  refine ha H0 n G H σ ρ _ w e (Out.wp_mono (fun m dx k v G1 H1 s1 r1 => ?_) (fun _ _ _ z => z) (Out.wp_bind q))
  refine hb H0 m G1 H1 σ ρ _ s1.w (e.step s1) (Out.wp_mono (fun m2 dy k2 u G2 H2 s2 r2 => ?_) (fun _ _ _ z => PX.back s1 z) (Out.wp_bind k))
  unfold dGet at k2
  cases dx <;> first | exact k2.elim | skip
  rename_i xs
  cases hk : keyOfD dy with
  | none => simp only [hk] at k2; exact k2.elim
  | some ky =>
    simp only [hk] at k2
    obtain ⟨a, kvs, rfl, hx, e1, t, _⟩ := (r1.step s2).dct s2.w.sub
    rcases rk_val (k := ky) e1 t with ⟨v, d, h1, h2, h3⟩ | ⟨h1, h2⟩
    · rw [h2] at k2
      exact ⟨a, v, rfl, .inl ⟨kvs, ky, hx, r2.key hk, h1.symm⟩, k2 v G2 H2 (s1.trans s2) h3⟩
    · rw [h2] at k2
      exact k2.elim
/-! ### {}, {k: v, ..} -/
theorem sn_dnew : SimN C E Γ tDNewK (eC (.dct [])) := fun H0 n G H σ ρ Q w e q p np => q p _ _ _ ((Ws.refl w).tmp np) np (w.gn np) upd_same ⟨by show 0 ≤ 100000; decide, rfl, .nil⟩
def SimP (C : Cfg K) (E : XK) (Γ : List Md) (k : Nat) (ts : List (TE × TE)) (φ : Rho → Out (List (D × D))) : Prop := ∀ H0 n G H σ ρ Q, Wl C n G H → Er C H0 Γ G H σ ρ → (φ ρ).wp n (fun m ds => ∀ ps G' H', Ws C G H m G' H' → RepL C G' (ps.map (·.1)) (ds.map (·.1)) → RepL C G' (ps.map (·.2)) (ds.map (·.2)) → ds.length = k → Q ps H') (PX C G H E) → tPairs ts σ H Q
def pNil : Rho → Out (List (D × D)) := fun _ => .ok []
def pCons (a b : Rho → Out D) (r : Rho → Out (List (D × D))) : Rho → Out (List (D × D)) := fun ρ => (a ρ).bind fun x => (b ρ).bind fun y => (r ρ).bind fun ps => .ok ((x, y) :: ps)
theorem sp_nil : SimP C E Γ 0 [] pNil := fun H0 n G H σ ρ Q w e q => q [] G H (Ws.refl w) .nil .nil rfl
theorem sp_cons {k : Nat} {ta tb : TE} {ts : List (TE × TE)} {a b : Rho → Out D} {r : Rho → Out (List (D × D))} (ha : SimE C E Γ ta a) (hb : SimE C E Γ tb b) (hr : SimP C E Γ k ts r) : SimP C E Γ (k + 1) ((ta, tb) :: ts) (pCons a b r) := fun H0 n G H σ ρ Q w e q => by
  refine ha H0 n G H σ ρ _ w e (Out.wp_mono (fun m x k1 v G1 H1 s1 r1 => ?_) (fun _ _ _ z => z) (Out.wp_bind q))
  refine hb H0 m G1 H1 σ ρ _ s1.w (e.step s1) (Out.wp_mono (fun m2 y k2 u G2 H2 s2 r2 => ?_) (fun _ _ _ z => PX.back s1 z) (Out.wp_bind k1))
  refine hr H0 m2 G2 H2 σ ρ _ s2.w ((e.step s1).step s2) (Out.wp_mono (fun m3 ps k3 vs G3 H3 s3 r3 r4 hl => ?_) (fun _ _ _ z => PX.back (s1.trans s2) z) (Out.wp_bind k2))
  exact k3 ((v, u) :: vs) G3 H3 ((s1.trans s2).trans s3) (.cons (r1.mono (s2.trans s3).g) r3) (.cons (r2.mono s3.g) r4) (congrArg (· + 1) hl)
def keysOf : List (D × D) → Option (List (Key × D))
  | [] => some []
  | (x, y) :: r => match keyOfD x, keysOf r with
    | some k, some t => some ((k, y) :: t)
    | _, _ => none
def mergeD (kvs more : List (Key × D)) : List (Key × D) := more.foldl (fun acc kv => putD acc kv.1 kv.2) kvs
def eDisp (r : Rho → Out (List (D × D))) : Rho → Out D := fun ρ => (r ρ).bind fun ps => match keysOf ps with
  | some kvs => .ok (.dct (mergeD [] kvs))
  | none => .stuck
theorem keys_rep : ∀ {ps : List (V × V)} {ds : List (D × D)} {kvs : List (Key × D)}, RepL C G (ps.map (·.1)) (ds.map (·.1)) → RepL C G (ps.map (·.2)) (ds.map (·.2)) → keysOf ds = some kvs → ∃ us : List (Key × V), ps = us.map (fun kv => (kV kv.1, kv.2)) ∧ us.map (·.1) = kvs.map (·.1) ∧ RepL C G (us.map (·.2)) (kvs.map (·.2)) ∧ kvs.length = ds.length
  | [], [], _, _, _, h => by cases h; exact ⟨[], rfl, rfl, .nil, rfl⟩
  | [], _ :: _, _, h, _, _ => by cases h
  | _ :: _, [], _, h, _, _ => by cases h
  | p :: ps, d :: ds, kvs, h1, h2, h => by
    obtain ⟨x, y⟩ := d
    rw [List.map_cons, List.map_cons] at h1 h2
    cases h1 with
    | cons a1 t1 =>
      cases h2 with
      | cons a2 t2 =>
        unfold keysOf at h
        cases hk : keyOfD x with
        | none => simp only [hk] at h; cases h
        | some k =>
          cases hr : keysOf ds with
          | none => simp only [hk, hr] at h; cases h
          | some t =>
            simp only [hk, hr] at h
            cases h
            obtain ⟨us, e1, e2, e3, e4⟩ := keys_rep t1 t2 hr
            refine ⟨(k, p.2) :: us, ?_, ?_, .cons a2 e3, congrArg (· + 1) e4⟩
            · rw [List.map_cons, ← e1]
              congr 1
              have : p.1 = kV k := RepV.key (H := fun _ => none) (.inl a1) hk
              obtain ⟨pa, pb⟩ := p
              exact Prod.ext this rfl
            · rw [List.map_cons, List.map_cons, e2]
theorem merge_rep : ∀ {us : List (Key × V)} {kvs : List (Key × D)} {bs : List (Key × V)} {cs : List (Key × D)}, us.map (·.1) = kvs.map (·.1) → RepL C G (us.map (·.2)) (kvs.map (·.2)) → bs.map (·.1) = cs.map (·.1) → RepL C G (bs.map (·.2)) (cs.map (·.2)) → (mergeK bs us).map (·.1) = (mergeD cs kvs).map (·.1) ∧ RepL C G ((mergeK bs us).map (·.2)) ((mergeD cs kvs).map (·.2))
  | [], [], _, _, _, _, e, t => ⟨e, t⟩
  | [], _ :: _, _, _, h, _, _, _ => by cases h
  | _ :: _, [], _, _, h, _, _, _ => by cases h
  | p :: us, x :: kvs, bs, cs, h1, h2, e, t => by
    rw [List.map_cons, List.map_cons] at h1 h2
    injection h1 with g1 g2
    cases h2 with
    | cons a b =>
      obtain ⟨c1, c2⟩ := rk_put (k := x.1) a e t
      show (mergeK (putK bs p.1 p.2) us).map (·.1) = (mergeD (putD cs x.1 x.2) kvs).map (·.1) ∧ RepL C G ((mergeK (putK bs p.1 p.2) us).map (·.2)) ((mergeD (putD cs x.1 x.2) kvs).map (·.2))
      rw [g1]
      exact merge_rep g2 b c1 c2
theorem merge_len : ∀ (kvs cs : List (Key × D)), (mergeD cs kvs).length ≤ cs.length + kvs.length
  | [], cs => Nat.le_refl _
  | x :: kvs, cs => by
    have h1 := merge_len kvs (putD cs x.1 x.2)
    have h2 := putD_len cs x.1 x.2
    show (mergeD (putD cs x.1 x.2) kvs).length ≤ cs.length + (kvs.length + 1)
    omega
theorem sn_disp {k : Nat} {ts : List (TE × TE)} {r : Rho → Out (List (D × D))} (hr : SimP C E Γ k ts r) (hk : k ≤ 15 := by decide) : SimN C E Γ (tDisp ts) (eDisp r) := fun H0 n G H σ ρ Q w e q p np => by
  have s0 := (Ws.refl w).tmp (o := .dK []) np
  have gp := w.gn np
  have nv := w.nvol np
  refine hr H0 n G _ σ ρ _ s0.w (e.step s0) (Out.wp_mono (fun m ds k1 ps G1 H1 s1 r1 r2 hl => ?_) (fun _ _ _ z => PX.back s0 z) (Out.wp_bind q))
  have hp1 : H1 p = some (.dK []) := s1.k p _ nv upd_same
  have gp1 : G1 p = none := s1.o p gp (by rw [upd_same]; intro z; cases z)
  refine ⟨hp1, ?_⟩
  cases hh : keysOf ds with
  | none => simp only [hh] at k1; exact k1.elim
  | some kvs =>
    simp only [hh] at k1
    obtain ⟨us, e1, e2, e3, e4⟩ := keys_rep r1 r2 hh
    have hus : us.length = kvs.length := by simpa using congrArg List.length e2
    obtain ⟨c1, c2⟩ := merge_rep (bs := []) (cs := []) e2 e3 rfl .nil
    refine ⟨us, e1, by omega, ?_⟩
    have s01 := s0.trans s1
    have hl2 := merge_len kvs []
    rw [List.length_nil] at hl2
    exact k1 p _ G1 _ (s01.mut ⟨hp1, gp1, nv, np⟩ (by intro φ z; cases z)) np gp1 upd_same ⟨by omega, c1, c2⟩
/-! ### fields -/
def dFld (c f : Str) (x : D) : Out D := match x with
  | .ins c' fs => bif decide (c' = c) then optD (fs.lookup f) else .stuck
  | _ => .stuck
theorem rf_get : ∀ {fs : List (Str × V)} {xs : List (Str × D)} {f : Str} {d : D}, fs.map (·.1) = xs.map (·.1) → RepL C G (fs.map (·.2)) (xs.map (·.2)) → xs.lookup f = some d → ∃ v, fs.lookup f = some v ∧ Rep C G v d
  | [], [], _, _, _, _, h => by cases h
  | [], _ :: _, _, _, h, _, _ => by cases h
  | _ :: _, [], _, _, h, _, _ => by cases h
  | (g, v) :: fs, (g', x) :: xs, f, d, e, t, h => by
    rw [List.map_cons, List.map_cons] at e t
    injection e with e1 e2
    have e1' : g = g' := e1
    subst e1'
    cases t with
    | cons a b =>
      rw [List.lookup_cons] at h ⊢
      cases hb : (f == g) with
      | true => simp only [hb] at h ⊢; cases h; exact ⟨v, rfl, a⟩
      | false => simp only [hb] at h ⊢; exact rf_get e2 b h
theorem rf_none : ∀ {fs : List (Str × V)} {xs : List (Str × D)} {f : Str}, fs.map (·.1) = xs.map (·.1) → xs.lookup f = none → fs.lookup f = none
  | [], [], _, _, _ => rfl
  | [], _ :: _, _, h, _ => by cases h
  | _ :: _, [], _, h, _ => by cases h
  | (g, v) :: fs, (g', x) :: xs, f, e, h => by
    rw [List.map_cons, List.map_cons] at e
    injection e with e1 e2
    have e1' : g = g' := e1
    subst e1'
    rw [List.lookup_cons] at h ⊢
    cases hb : (f == g) with
    | true => simp only [hb] at h; cases h
    | false => simp only [hb] at h ⊢; exact rf_none e2 h
theorem sm_fld {c f : Str} {ta : TE} {a : Rho → Out D} (hc : Cls K (He.ga K c)) (hn : NoAttr K (He.ga K c) f) (ha : SimV C E Γ ta a) : SimE C E Γ (tFld K ta f) (eUn (dFld c f) a) := fun H0 n G H σ ρ Q w e q => by
  refine ha H0 n G H σ ρ _ w e (Out.wp_mono (fun m d k v G1 H1 s1 r1 => ?_) (fun _ _ _ z => z) (Out.wp_bind q))
  unfold dFld at k
  cases d <;> first | exact k.elim | skip
  rename_i c' xs
  by_cases hcc : c' = c
  · subst hcc
    simp only [decide_true, cond_true] at k
    cases hl : xs.lookup f with
    | none => simp only [hl] at k; exact k.elim
    | some d =>
      simp only [hl] at k
      obtain ⟨a, dx, fs, rfl, _, hx, e1, t⟩ := r1.ins s1.w.sub
      obtain ⟨v, h1, h2⟩ := rf_get e1 t hl
      exact ⟨a, _, dx, fs, v, rfl, hx, hc, hn, h1, k v G1 H1 s1 h2⟩
  · simp only [hcc, decide_false, cond_false] at k
    exact k.elim
def putFD (f : Str) (d : D) : List (Str × D) → List (Str × D)
  | [] => [(f, d)]
  | (g, x) :: r => if g = f then (g, d) :: r else (g, x) :: putFD f d r
theorem rf_put {f : Str} (hv : Rep C G v d) : ∀ {fs : List (Str × V)} {xs : List (Str × D)}, fs.map (·.1) = xs.map (·.1) → RepL C G (fs.map (·.2)) (xs.map (·.2)) → (putF f v fs).map (·.1) = (putFD f d xs).map (·.1) ∧ RepL C G ((putF f v fs).map (·.2)) ((putFD f d xs).map (·.2))
  | [], [], _, _ => ⟨rfl, .cons hv .nil⟩
  | [], _ :: _, h, _ => by cases h
  | _ :: _, [], h, _ => by cases h
  | (g, u) :: fs, (g', x) :: xs, e, t => by
    rw [List.map_cons, List.map_cons] at e t
    injection e with e1 e2
    have e1' : g = g' := e1
    subst e1'
    cases t with
    | cons a b =>
      unfold putF putFD
      by_cases h : g = f
      · rw [if_pos h, if_pos h]
        exact ⟨by rw [List.map_cons, List.map_cons, e2], .cons hv b⟩
      · rw [if_neg h, if_neg h]
        obtain ⟨c1, c2⟩ := rf_put (f := f) hv e2 b
        exact ⟨by rw [List.map_cons, List.map_cons, c1], .cons a c2⟩
/-- x.f = e, x one's own -/
def sFldS (c f : Str) (i : Nat) (a : Rho → Out D) : Rho → Out Res := fun ρ => (a ρ).bind fun d => match ρ.getD i .non with
  | .ins c' fs => bif decide (c' = c) && decide (fs.length < 1000) then .ok (.nx (ρ.set i (.ins c' (putFD f d fs)))) else .stuck
  | _ => .stuck
theorem ss_fld {c f : Str} {tv : TE} {a : Rho → Out D} {b : Option Addr} (hc : Cls K (He.ga K c)) (hn : NoAttr K (He.ga K c) f) (hi : Γ[i]? = some (.ow b)) (ha : SimE C E Γ tv a) : SimS rm C E Γ (sFld K (tVar i) tv f) (sFldS c f i a) Γ Γb Γc := fun G0 H0 n G H σ ρ D s e q => by
  refine ha H0 n G H σ ρ _ s.w e (Out.wp_mono (fun m d k v G1 H1 s1 r1 => ?_) (fun _ _ _ z => PX.stm s z) (Out.wp_bind q))
  have e1 := e.step s1
  obtain ⟨p, o, h1, h2, h3, h4⟩ := e1.ow hi
  refine ⟨_, h1, ?_⟩
  cases hx : ρ.getD i .non <;> simp only [hx] at k <;> first | exact k.elim | skip
  rename_i c' xs
  rw [hx] at h3
  cases hb : (decide (c' = c) && decide (xs.length < 1000)) with
  | false => simp only [hb, cond_false] at k; exact k.elim
  | true =>
    simp only [hb, cond_true] at k
    rw [Bool.and_eq_true, decide_eq_true_eq, decide_eq_true_eq] at hb
    obtain ⟨rfl, hl⟩ := hb
    cases o <;> first | exact h3.elim | skip
    rename_i Ca dx fs
    obtain ⟨⟨hcl, rfl⟩, g1, g2⟩ := h3
    have hfl : fs.length = xs.length := by simpa using congrArg List.length g1
    obtain ⟨c1, c2⟩ := rf_put (f := f) r1 g1 g2
    have s2 := s.trans s1
    exact ⟨p, _, dx, fs, rfl, h2.h, hc, hn, by omega, k _ G1 _ (s2.mut h2 (by intro φ z; cases z)) s1.g (e1.mut hi h1 h2 ⟨⟨hcl, rfl⟩, c1, c2⟩ h4)⟩
/-! ### one's own lists and dicts change -/
/-- the i-th slot holds a list -/
def onL (i : Nat) (f : List D → Out Res) (ρ : Rho) : Out Res := match ρ.getD i .non with
  | .lst xs => f xs
  | _ => .stuck
theorem Er.onL {a : Option Addr} {f : List D → Out Res} {Q : Nat → Res → Prop} {X : Nat → Str → List (Str × D) → Prop} (e : Er C H0 Γ G H σ ρ) (hi : Γ[i]? = some (.ow a)) (q : (ND.onL i f ρ).wp n Q X) : ∃ p vs xs, ρ.getD i .non = .lst xs ∧ σ[i]? = some (some (.ref p)) ∧ Own C H0 G H p (.lst vs) ∧ RepL C G vs xs ∧ xs.length ≤ 100000 ∧ (∀ q, a = some q → p = q) ∧ (f xs).wp n Q X := by
  obtain ⟨p, o, h1, h2, h3, h4⟩ := e.ow hi
  unfold ND.onL at q
  cases hx : ρ.getD i .non <;> simp only [hx] at q <;> first | exact q.elim | skip
  rename_i xs
  rw [hx] at h3
  cases o <;> first | exact h3.elim | skip
  exact ⟨p, _, xs, rfl, h1, h2, h3.2, h3.1, h4, q⟩
def sApp (i : Nat) (a : Rho → Out D) : Rho → Out Res := fun ρ => onL i (fun xs => (a ρ).bind fun d => bif decide (xs.length < 100000) then .ok (.nx (ρ.set i (.lst (xs ++ [d])))) else .stuck) ρ
theorem ss_app {te : TE} {a : Rho → Out D} {b : Option Addr} (hi : Γ[i]? = some (.ow b)) (ha : SimE C E Γ te a) : SimS rm C E Γ (tDrop (tBM K "list" rAppend (tVar i) (tCons te tNil))) (sApp i a) Γ Γb Γc := fun G0 H0 n G H σ ρ D s e q => by
  obtain ⟨p, vs, xs, hx, h1, h2, t, hz, h4, q⟩ := e.onL hi q
  refine ⟨_, h1, .inl ⟨rfl, vs, SqL.of h2.h⟩, ?_⟩
  refine ha H0 n G H σ ρ _ s.w e (Out.wp_mono (fun m d k v G1 H1 s1 r1 => ?_) (fun _ _ _ z => PX.stm s z) (Out.wp_bind q))
  cases hb : decide (xs.length < 100000) with
  | false => simp only [hb, cond_false] at k; exact k.elim
  | true =>
    simp only [hb, cond_true] at k
    have hl := of_decide_eq_true hb
    have h2' := h2.step s1
    have hvl := t.len
    refine ⟨p, vs, v, rfl, rfl, h2'.h, Nat.lt_of_lt_of_le (show vs.length < 100000 by omega) (by decide), ?_⟩
    refine k σ G1 _ ((s.trans s1).mut h2' (by intro φ z; cases z)) s1.g ((e.step s1).mut hi h1 h2' ⟨?_, (t.mono s1.g).app (.cons r1 .nil)⟩ h4)
    rw [List.length_append]
    show xs.length + 1 ≤ 100000
    omega
/-- d[k] = v, d one's own -/
def sDPutO (i : Nat) (b v : Rho → Out D) : Rho → Out Res := fun ρ => (v ρ).bind fun y => (b ρ).bind fun x => match ρ.getD i .non, keyOfD x with
  | .dct kvs, some k => bif decide (kvs.length < 99999) then .ok (.nx (ρ.set i (.dct (putD kvs k y)))) else .stuck
  | _, _ => .stuck
theorem ss_dput {ty tv : TE} {b v : Rho → Out D} {c : Option Addr} (hi : Γ[i]? = some (.ow c)) (hv : SimE C E Γ tv v) (hb : SimV C E Γ ty b) : SimS rm C E Γ (sDPut (tVar i) ty tv) (sDPutO i b v) Γ Γb Γc := fun G0 H0 n G H σ ρ D s e q => by
  refine hv H0 n G H σ ρ _ s.w e (Out.wp_mono (fun m d k v G1 H1 s1 r1 => ?_) (fun _ _ _ z => PX.stm s z) (Out.wp_bind q))
  have e1 := e.step s1
  obtain ⟨p, o, h1, h2, h3, h4⟩ := e1.ow hi
  refine ⟨_, h1, ?_⟩
  refine hb H0 m G1 H1 σ ρ _ s1.w e1 (Out.wp_mono (fun m2 dy k2 u G2 H2 s2 r2 => ?_) (fun _ _ _ z => PX.stm (s.trans s1) z) (Out.wp_bind k))
  cases hx : ρ.getD i .non <;> simp only [hx] at k2 <;> first | exact k2.elim | skip
  rename_i xs
  cases hk : keyOfD dy with
  | none => simp only [hk] at k2; exact k2.elim
  | some ky =>
    simp only [hk] at k2
    cases hb : decide (xs.length < 99999) with
    | false => simp only [hb, cond_false] at k2; exact k2.elim
    | true =>
      simp only [hb, cond_true] at k2
      have hl := of_decide_eq_true hb
      rw [hx] at h3
      cases o <;> first | exact h3.elim | skip
      rename_i kvs
      obtain ⟨g0, g1, g2⟩ := h3
      have h2' := h2.step s2
      have hkl : kvs.length = xs.length := by simpa using congrArg List.length g1
      obtain ⟨c1, c2⟩ := rk_put (k := ky) (r1.mono s2.g) g1 (g2.mono s2.g)
      have hpl := putD_len xs ky d
      exact ⟨p, _, rfl, .inl ⟨kvs, ky, h2'.h, r2.key hk, Nat.lt_of_lt_of_le (show kvs.length < 100000 by omega) (by decide), rfl⟩, k2 σ G2 _ (((s.trans s1).trans s2).mut h2' (by intro φ z; cases z)) (s1.g.trans s2.g) ((e1.step s2).mut hi h1 h2' ⟨by omega, c1, c2⟩ h4)⟩
/-- xs.clear() -/
def sClear (i : Nat) : Rho → Out Res := fun ρ => onL i (fun _ => .ok (.nx (ρ.set i (.lst [])))) ρ
theorem ss_clear {b : Option Addr} (hi : Γ[i]? = some (.ow b)) : SimS rm C E Γ (tDrop (tBM0 K "list" rClear (tVar i))) (sClear i) Γ Γb Γc := fun G0 H0 n G H σ ρ D s e q => by
  obtain ⟨p, vs, xs, hx, h1, h2, t, hz, h4, q⟩ := e.onL hi q
  exact ⟨_, h1, .inl ⟨rfl, vs, SqL.of h2.h⟩, p, vs, rfl, rfl, h2.h, q σ G _ (s.mut h2 (by intro φ z; cases z)) (Same.refl _) (e.mut hi h1 h2 ⟨Nat.zero_le _, .nil⟩ h4)⟩
/-! ### xs + ys -/
def rCatQ : R2 := fun x y H Q => ∃ l b xs zs, x = .ref l ∧ y = .ref b ∧ Rd H l (.lst xs) ∧ Rd H b (.lst zs) ∧ xs.length + zs.length ≤ sizeLine ∧ ∀ p, H p = none → Q (.ref p) (upd H p (.lst (xs ++ zs)))
theorem op_catQ {X : Cx} : OpR X (binaryOp .Add) rCatQ := by
  intro pins s σ H x y v u Q I rx ry h
  obtain ⟨l, b, xs, zs, rfl, rfl, hH, hB, hz, q⟩ := h
  cases rx
  cases ry
  obtain ⟨z, its, n, r, e⟩ := hH.ok I.hok
  obtain ⟨z2, its2, n2, r2, e2⟩ := hB.ok I.hok
  have hl := r.length
  have hl2 := r2.length
  refine PySem.P.add_list e e2 ?_ (by rw [List.size_toArray, List.size_toArray]; omega)
  have ea : its.toArray ++ its2.toArray = (its ++ its2).toArray := by simp
  rw [ea]
  exact ⟨.ref _, _, I.lnew (t' := s.toks) (r.append r2) (by rw [List.length_append]; omega), rfl, q _ I.fresh⟩
def dCatL (x y : D) : Out D := match x, y with
  | .lst xs, .lst ys => bif decide (xs.length + ys.length ≤ 100000) then .ok (.lst (xs ++ ys)) else .stuck
  | _, _ => .stuck
theorem sr_catL : SRN C E rCatQ dCatL := fun n G H x y dx dy Q w rx ry q => by
  unfold dCatL at q
  cases dx <;> first | exact q.elim | skip
  cases dy <;> first | exact q.elim | skip
  rename_i xs ys
  cases hb : decide (xs.length + ys.length ≤ 100000) with
  | false => simp only [hb, cond_false] at q; exact q.elim
  | true =>
    simp only [hb, cond_true] at q
    have hl := of_decide_eq_true hb
    obtain ⟨a, us, rfl, hx, t, hz⟩ := rx.lst w.sub
    obtain ⟨a2, us2, rfl, hx2, t2, hz2⟩ := ry.lst w.sub
    have h1 := t.len
    have h2 := t2.len
    refine ⟨a, a2, us, us2, rfl, rfl, hx, hx2, Nat.le_trans (show us.length + us2.length ≤ 100000 by omega) (by decide), fun p np => ?_⟩
    exact q p _ _ _ ((Ws.refl w).tmp np) np (w.gn np) upd_same ⟨by rw [List.length_append]; exact hl, t.app t2⟩
end
end ND
/-! classes, properties, methods, errors -/
namespace ND
open PySem PySem.Spec PyProof.Rows L2
/-! ### raise X(e) -/
section
variable {X : Cx} {C fI : Addr} {fld : Str} {pins : List (Addr × Obj)} {σ : L2.St} {H : Hp}
theorem excH_del {e d : Addr} {v : V} (ne : H e = none) (hde : d ≠ e) : upd (del (excH H e d C fld v) e) d (.xd [(fld, v)]) = upd H d (.xd [(fld, v)]) := by
  funext b
  unfold upd
  by_cases hb : b = d
  · rw [if_pos hb, if_pos hb]
  · rw [if_neg hb, if_neg hb]
    by_cases he : b = e
    · subst he
      rw [del_same, ne]
    · rw [del_ne he, excH_ne he hb]
def tMkSup (C : Addr) (fld : Str) (ta : TA) : L2.St → Hp → XK → Prop := fun σ H Q => ta σ H fun vs H1 => ∃ v, vs = [v] ∧ ∀ d, H1 d = none → Q (.ref C) (some d) (upd H1 d (.xd [(fld, v)]))
theorem pmk_sup {k : Nat} {x : Str} {a : Expr} {ta : TA} {p pos : Pos} (T : SupC X.prog X.K C fI fld) (gC : X.mg x = some (.ref C)) (hr : Room k X.A) (hg : Gl X x) (ha : PA X [a] ta)
    (hdb : (x == ("__debug__" : Str)) = false := by decide) (he : starEach (a :: []) X.env = (false, eval a X.env) :: starEach [] X.env := by rfl) (hpl : (backTo pos (starEach [] X.env)).any (·.1) = false := by rfl) :
    PMk X (.Call (.Name x p) [a] [] pos) (tMkSup C fld ta) := by
  intro pins s σ H Q I h
  refine wpAny_Call_Name_kw (ld_glob I hg gC ?_ hdb)
  refine PySem.W.callWith_K (h₀ := X.base) I.ok.mod.kin T.o.kC (thn (ha.run pos pins s σ H _ I h) fun us s1 hh => ?_) he hpl
  obtain ⟨vs, H1, I1, r1, v, ev, q1⟩ := hh
  subst ev
  cases r1 with
  | cons rv rn =>
    cases rn
    refine ⟨I1.kIn, ?_⟩
    obtain ⟨mb, hb, hbs⟩ := I1.ok.mod.blt
    have hn := I1.nolimit
    have kin := I1.kIn
    have gl : s1.heap.Ns mainGlobals X.mg := I1.ok.mod.glob.keeps I1.bk
    have bl := hb.keeps I1.bk
    have bare := I1.bare
    obtain ⟨hp, g, dr, tk, os⟩ := s1
    refine wpAny_call (sup_made T (.inl rfl) kin hn gl bl hbs (by have := hr.dp; omega) fun h' tk' e d M => ?_)
    obtain ⟨J, ne, nd, dn⟩ := sup_val (tk' := tk') I1 rv M
    have off : ∀ b o, hp.get? b = some o → b ≠ e ∧ b ≠ d := fun b o q => ⟨Nat.ne_of_lt (Nat.lt_of_lt_of_le (Heap.lt_size q) M.new), Nat.ne_of_lt (Nat.lt_of_lt_of_le (Heap.lt_size q) M.dbig)⟩
    have sm := excH_same (C := C) (fld := fld) (v := v) ne nd
    have un : Un (frs X.stack) [] (upd H1 e (exo e C none)) (excH H1 e d C fld v) hp h' := {
      keep := fun b o q _ _ _ => M.keep b o q
      slot := fun b o q _ _ _ => ⟨o.slots, M.keep b o q⟩
      free := fun b o q n _ => by
        rw [excH_ne (off b o q).1 (off b o q).2]
        rw [upd_ne (off b o q).1] at n
        exact n
      there := fun b o q _ => ⟨o, M.keep b o q⟩
      tups := fun b xs q => by
        have hb : b ≠ e := fun z => by
          rw [z, upd_same] at q
          exact exo_tup (Option.some.inj q)
        rw [upd_ne hb] at q
        exact sm b _ q
      frzs := fun b o u q => by
        have hb : b ≠ e := fun z => by
          rw [z, upd_same] at q
          have q' : exo e C none = .frz o u := Option.some.inj q
          unfold exo at q'
          cases q'
        rw [upd_ne hb] at q
        exact sm b _ q
      tbls := fun b ps q => by
        have hb : b ≠ e := fun z => by
          rw [z, upd_same] at q
          have q' : exo e C none = .tbl ps := Option.some.inj q
          unfold exo at q'
          cases q'
        rw [upd_ne hb] at q
        exact ⟨#[], by rw [sm b _ q]; simp⟩ }
    refine mk_end (raises_own T.o.exC T.o.tyC) I1 M.new (fun _ _ z => z) un J.hok rfl bare excH_e (excH_d dn) nd ?_
    rw [excH_del ne dn]
    exact q1 d nd
end
section
variable {rm : RM} {K : PySem.W.Frag} {C : Cfg K} {E : XK} {Γ Γn Γb Γc : List Md} {n m : Nat} {G0 H0 G H G1 H1 : Hp} {v : V} {d : D} {σ : L2.St} {ρ : Rho} {Q : VK} {i : Nat}
def sRaise (c f : Str) (a : Rho → Out (List D)) : Rho → Out Res := fun ρ => (a ρ).bind fun ds => match ds with
  | [d] => .exc c [(f, d)]
  | _ => .stuck
theorem ss_raise {c f : Str} {ta : TA} {a : Rho → Out (List D)} (hc : c ∈ ownX K) (ha : SimA C E Γ 1 ta a) : SimS rm C E Γ (fun _ σ H => tMkSup (He.ga K c) f ta σ H fun cls d H' => E cls d H') (sRaise c f a) Γn Γb Γc := fun G0 H0 n G H σ ρ D s e q => by
  refine ha H0 n G H σ ρ _ s.w e (Out.wp_mono (fun m ds k vs G1 H1 s1 r1 hl => ?_) (fun _ _ _ z => PX.stm s z) (Out.wp_bind q))
  match ds, hl, vs, r1 with
  | [d], _, [v], .cons h .nil =>
    refine ⟨v, rfl, fun dd nd => ?_⟩
    have s2 := (s.trans s1).new (o := .xd [(f, v)]) nd
    refine k (some dd) [(f, v)] _ _ hc s2 upd_same rfl ?_
    exact .cons (h.mono (same_add ((s.trans s1).w.gn nd))) .nil
/-! ### properties, methods -/
def dProp (c : Str) (F : List D → Out D) (x : D) : Out D := match x with
  | .ins c' fs => bif decide (c' = c) then F [.ins c' fs] else .stuck
  | _ => .stuck
theorem Rq.insI {c : Str} {xs : List (Str × D)} (h : Rep C G v (.ins c xs)) : ∃ a dx fs, v = .ref a ∧ c ∈ ownCls K ∧ G a = some (.ins (He.ga K c) dx fs) ∧ fs.map (·.1) = xs.map (·.1) ∧ RepL C G (fs.map (·.2)) (xs.map (·.2)) := by
  cases h with
  | ins hc h e t => exact ⟨_, _, _, rfl, hc, h, e, t⟩
theorem sm_prop {b : Bool} {c : Str} {F : List D → Out D} {ta : TE} {a : Rho → Out D} (hbk : b = true → C.lk = []) (ha : SimE C E Γ ta a) : SimE C E Γ (tProp (He.ga K c) (spF K b 1 F) [] E0 ta) (fun ρ => (a ρ).bind fun x => (dProp c F x).nox) := fun H0 n G H σ ρ Q w e q => by
  refine ha H0 n G H σ ρ _ w e (Out.wp_mono (fun m d k v G1 H1 s1 r1 => ?_) (fun _ _ _ z => z) (Out.wp_bind q))
  replace k := Out.nox_wp (E' := PX C G H E0) k
  unfold dProp at k
  cases d <;> first | exact k.elim | skip
  rename_i c' xs
  by_cases hcc : c' = c
  · subst hcc
    simp only [decide_true, cond_true] at k
    obtain ⟨b, dx, fs, rfl, hc, hx, e1, t⟩ := r1.insI
    exact ⟨b, dx, fs, rfl, s1.w.sub _ _ hx, C, m, G1, _, hbk, s1.w, .cons r1 .nil, rfl, Out.wp_mono (fun _ _ z => PQ.back s1 z) (fun _ _ _ z => PX.back s1 z) k⟩
  · simp only [hcc, decide_false, cond_false] at k
    exact k.elim
def eMeth (c m : Str) (F : List D → Out D) (a : Rho → Out D) (r : Rho → Out (List D)) : Rho → Out D := fun ρ => (a ρ).bind fun x => match x with
  | .ins c' fs => bif decide (c' = c) && (fs.lookup m).isNone then (r ρ).bind fun ds => F (.ins c' fs :: ds) else .stuck
  | _ => .stuck
theorem sm_meth {b : Bool} {c mm : Str} {k : Nat} {F : List D → Out D} {ta : TE} {tr : TA} {a : Rho → Out D} {r : Rho → Out (List D)} (hbk : b = true → C.lk = []) (ha : SimE C E Γ ta a) (hr : SimA C E Γ k tr r) : SimE C E Γ (tMeth (He.ga K c) mm (spF K b (k + 1) F) [] E ta tr) (eMeth c mm F a r) := fun H0 n G H σ ρ Q w e q => by
  refine ha H0 n G H σ ρ _ w e (Out.wp_mono (fun m d k1 v G1 H1 s1 r1 => ?_) (fun _ _ _ z => z) (Out.wp_bind q))
  cases d <;> first | exact k1.elim | skip
  rename_i c' xs
  cases hb : (decide (c' = c) && (xs.lookup mm).isNone) with
  | false => simp only [hb, cond_false] at k1; exact k1.elim
  | true =>
    simp only [hb, cond_true] at k1
    rw [Bool.and_eq_true, decide_eq_true_eq, Option.isNone_iff_eq_none] at hb
    obtain ⟨rfl, hl⟩ := hb
    obtain ⟨b, dx, fs, rfl, hc, hx, e1, t⟩ := r1.insI
    refine ⟨b, dx, fs, rfl, s1.w.sub _ _ hx, rf_none e1 hl, ?_⟩
    refine hr H0 m G1 H1 σ ρ _ s1.w (e.step s1) (Out.wp_mono (fun m2 ds k2 vs G2 H2 s2 r2 hl => ?_) (fun _ _ _ z => PX.back s1 z) (Out.wp_bind k1))
    refine ⟨C, m2, G2, .ins c' xs :: ds, hbk, s2.w, .cons (r1.mono s2.g) ?_, congrArg (· + 1) hl, Out.wp_mono (fun _ _ z => PQ.back (s1.trans s2) z) (fun _ _ _ z => PX.back (s1.trans s2) z) k2⟩
    rw [List.append_nil]
    exact r2
/-! ### objects are made -/
def PI_ (C : Cfg K) (G1 H1 : Hp) (x : Addr) (Q : VK) : Nat → D → Prop := fun m d => ∀ o G' H', Ws C G1 H1 m G' H' → G' x = none → H' x = some o → ORep C G' o d → Q .non H'
def spI (K : PySem.W.Frag) (b : Bool) (c : Str) (k : Nat) (F : List D → Out D) : Sp := fun vs H Q E => ∃ (C : Cfg K) (n : Nat) (G1 H1 : Hp) (x dx : Addr) (us : List V) (ds : List D), (b = true → C.lk = []) ∧ vs = .ref x :: us ∧ H = upd (upd H1 dx (.own x)) x (.ins (He.ga K c) dx []) ∧ H1 x = none ∧ H1 dx = none ∧ dx ≠ x ∧
  Wl C n G1 H1 ∧ RepL C G1 us ds ∧ ds.length = k ∧ c ∈ ownCls K ∧ (F ds).wp n (PI_ C G1 H1 x Q) (PX C G1 H1 E)
theorem sn_make {b : Bool} {c : Str} {k j : Nat} {F : List D → Out D} {dvs : List V} {dds : List D} {ta : TA} {a : Rho → Out (List D)} (hbk : b = true → C.lk = []) (hc : c ∈ ownCls K) (hd : ∀ G, RepL C G dvs dds) (ha : SimA C E Γ j ta a) (hk : j + dds.length = k := by rfl) : SimN C E Γ (tMake (He.ga K c) (spI K b c k F) dvs E ta) (eCall (fun ds => F (ds ++ dds)) a) := fun H0 n G H σ ρ Q w e q => by
  refine ha H0 n G H σ ρ _ w e (Out.wp_mono (fun m xs k1 vs G1 H1 s1 r1 hl => ?_) (fun _ _ _ z => z) (Out.wp_bind q))
  intro x dx nx nd hne
  refine ⟨C, m, G1, H1, x, dx, _, xs ++ dds, hbk, rfl, rfl, nx, nd, hne, s1.w, r1.app (hd G1), by rw [List.length_append, hl]; exact hk, hc, Out.wp_mono (fun m2 d z => ?_) (fun _ _ _ z => PX.back s1 z) k1⟩
  exact fun o G' H' s' gx hx r => ⟨rfl, z x o G' H' (s1.trans s') (s1.dm nx) gx hx r⟩
def fnI (c : Str) (N : Nat) (ψ : Rho → Out Res) : List D → Out D := fun ds => (ψ (.ins c [] :: ds ++ List.replicate (N - (ds.length + 1)) .non)).bind fun r => match r with
  | .nx ρ => .ok (ρ.getD 0 .non)
  | _ => .stuck
def fr1 (x : Addr) (k N : Nat) : List Md := .ow (some x) :: (List.replicate k .fr ++ List.replicate (N - (k + 1)) .un)
theorem erStartI {c : Str} {vs : List V} {ds : List D} {N : List Str} {x dx : Addr} (r : RepL C G vs ds) (hl : ds.length + 1 ≤ N.length) (w : Wl C n G H1) (nx : H1 x = none) (nd : H1 dx = none) (hne : dx ≠ x) (hc : c ∈ ownCls K) :
    Er C H1 (fr1 x ds.length N.length) G (upd (upd H1 dx (.own x)) x (.ins (He.ga K c) dx [])) (L2.start N (.ref x :: vs)) (.ins c [] :: ds ++ List.replicate (N.length - (ds.length + 1)) .non) := by
  have hvl := r.len
  have hown : ∀ j, j ≠ 0 → ((fr1 x ds.length N.length).getD j .un).isOw = false := fun j hj => by
    obtain ⟨j, rfl⟩ := Nat.exists_eq_succ_of_ne_zero hj
    unfold fr1
    rw [List.getD_cons_succ, List.getD_eq_getElem?_getD]
    by_cases h : j < ds.length
    · rw [List.getElem?_append_left (by rw [List.length_replicate]; exact h), List.getElem?_replicate, if_pos h]
      rfl
    · rw [List.getElem?_append_right (by rw [List.length_replicate]; omega), List.getElem?_replicate]
      split <;> rfl
  refine ⟨fun i => ?_, fun i j p hij hi hj => ?_, ?_, ?_, fun i a s hi => ?_⟩
  rotate_right
  · cases i with
    | zero => cases hi
    | succ i =>
      unfold fr1 at hi
      rw [List.getD_cons_succ, List.getD_eq_getElem?_getD] at hi
      by_cases h : i < ds.length
      · rw [List.getElem?_append_left (by rw [List.length_replicate]; exact h), List.getElem?_replicate, if_pos h] at hi
        cases hi
      · rw [List.getElem?_append_right (by rw [List.length_replicate]; omega), List.getElem?_replicate] at hi
        split at hi <;> cases hi
  · cases i with
    | zero =>
      refine ⟨x, _, rfl, ⟨upd_same, w.gn nx, w.nvol nx, nx⟩, ⟨⟨hc, rfl⟩, rfl, .nil⟩, fun q z => ?_⟩
      cases z
      rfl
    | succ i =>
      unfold fr1
      rw [List.getD_cons_succ, List.getD_eq_getElem?_getD]
      by_cases hi : i < ds.length
      · rw [List.getElem?_append_left (by rw [List.length_replicate]; exact hi), List.getElem?_replicate, if_pos hi]
        obtain ⟨v, hv, rv⟩ := r.at' (List.getElem?_eq_getElem hi)
        refine ⟨v, ?_, ?_⟩
        · unfold L2.start
          rw [List.getElem?_append_left (by rw [List.length_map, List.length_cons]; omega), List.getElem?_map, List.getElem?_cons_succ, hv]
          rfl
        · rw [List.cons_append, List.getD_cons_succ, List.getD_eq_getElem?_getD, List.getElem?_append_left hi, List.getElem?_eq_getElem hi]
          exact rv
      · rw [List.getElem?_append_right (by rw [List.length_replicate]; omega), List.getElem?_replicate]
        split <;> exact True.intro
  · by_cases h : i = 0
    · have : j ≠ 0 := fun z => hij (h.trans z.symm)
      rw [hown j this] at hj
      cases hj
    · rw [hown i h] at hi
      cases hi
  · unfold fr1 L2.start
    rw [List.length_cons, List.length_append, List.length_replicate, List.length_replicate, List.length_append, List.length_map, List.length_replicate, List.length_cons, hvl]
    omega
  · unfold L2.start
    rw [List.length_append, List.length_replicate, List.length_append, List.length_map, List.length_replicate, List.length_cons, List.length_cons, hvl]
end
section
variable {P : Program} {w : World} {K : PySem.W.Frag} {mg : Str → Option Value} {base : Heap}
theorem FunD.simI {c qual : Str} {st : Stmt} {f : Addr} {fd : FuncData} {dvs : List V} {N ps : List Str} {k j : Nat} {ψ : Rho → Out Res} (F : FnD K "__init__" qual st dvs f fd) (S : FnScope N ps (defScope st)) (hj : ps.length = j + 1) {b : Bool}
    (hbody : ∀ (cdv : Value) (A : Around) (outer : List Env) (s : Shared) (H : Hp) (E : XK) (C : Cfg K) (x : Addr), (b = true → C.lk = []) → Room k (A.deeper (envOfC qual (defScope st) s.heap.objs.size f cdv)) →
      ∃ t, PSs (cxOf (L2.CX P w) P w K mg base N qual (defScope st) f cdv A outer s H E) (defBody st) t ∧ ∃ Γn Γb Γc, SimS .fr C E (fr1 x j N.length) t ψ (.ow (some x) :: Γn) Γb Γc) (hk : ps.length ≤ N.length := by decide) :
    FnOk P w K mg base (L2.CX P w) (k + 1) f fd ps (spI K b c j (fnI c N.length ψ)) := by
  refine F.ok (k := k) S (fun vs H Q E h => ?_) (fun cdv A outer s H vs Q E hr h => ?_)
  · obtain ⟨C, n, G1, H1, x, dx, us, ds, _, rfl, _, _, _, _, _, r, hl, _⟩ := h
    rw [List.length_cons, r.len, hl, hj]
  · obtain ⟨C, n, G1, H1, x, dx, us, ds, hbk, rfl, rfl, nx, nd, hne, wl, r, hl, hc, q⟩ := h
    obtain ⟨t, ht, Γn, Γb, Γc, hS⟩ := hbody cdv A outer s _ E C x hbk hr
    refine ⟨t, ht, ?_⟩
    subst hl
    have s0 : Ws C G1 H1 n G1 (upd (upd H1 dx (.own x)) x (.ins (He.ga K c) dx [])) := ((Ws.refl wl).tmp nd).tmp (by rw [upd_ne hne.symm]; exact nx)
    refine hS G1 H1 n G1 _ _ _ _ s0 (erStartI r (by omega) wl nx nd hne hc) (Out.wp_mono (fun m rr kk => ?_) (fun _ _ _ z => z) (Out.wp_bind q))
    cases rr with
    | nx ρ =>
      intro σ G' H' s' _ e'
      obtain ⟨p, o, h1, h2, h3, h4⟩ := e'.ow (i := 0) rfl
      cases h4 x rfl
      exact kk o G' H' s' h2.g h2.h h3
    | rt d => exact kk.elim
    | bk ρ => exact kk.elim
    | ct ρ => exact kk.elim
theorem PFun.sim {C0 : Addr} {x qual : Str} {st : Stmt} {N : List Str} {k : Nat} {ψ : Rho → Out Res} (F : PFun K C0 x qual st) (S : FnScope N ["self"] (defScope st))
    (hb : ∀ (kV doc pm : Value) (an : Option Addr) (cdv ct : Value) (us : List Value), us.length = 1 → bindArgs (PySem.W.fnOf x qual (defArgs st) (defBody st) (defScope st) .none kV doc pm an cdv ct) ⟨us, []⟩ = pure ((["self"] : List Str).zip us))
    {b : Bool} (hbody : ∀ (f : Addr) (cdv : Value) (A : Around) (outer : List Env) (s : Shared) (H : Hp) (E : XK) (C : Cfg K), (b = true → C.lk = []) → Room k (A.deeper (envOfC qual (defScope st) s.heap.objs.size f cdv)) →
      ∃ t, PSs (cxOf (L2.CX P w) P w K mg base N qual (defScope st) f cdv A outer s H E) (defBody st) t ∧ ∃ Γn Γb Γc, SimS .fr C E (fr0 1 N.length) t ψ Γn Γb Γc) (hk : 1 ≤ N.length := by decide) :
    POk P w K mg base (k + 1) C0 x (spF K b 1 (fnD N.length ψ)) := by
  refine PFun.ok (k := k) F S hb (fun vs H Q E h => ?_) (fun f cdv A outer s H vs Q E hr h => ?_)
  · obtain ⟨C, n, G, ds, _, _, r, hl, _⟩ := h
    rw [r.len]
    exact hl
  · obtain ⟨C, n, G, ds, hbk, wl, r, hl, q⟩ := h
    obtain ⟨t, ht, Γn, Γb, Γc, hS⟩ := hbody f cdv A outer s H E C hbk hr
    exact ⟨t, ht, body_sim (sp := spF K b 1 (fnD N.length ψ)) hS hk wl r hl q⟩
theorem MFun.sim {C0 : Addr} {x qual : Str} {st : Stmt} {N ps : List Str} {k : Nat} {ψ : Rho → Out Res} (F : MFun K C0 x qual st) (S : FnScope N ps (defScope st))
    (hb : ∀ (kV doc pm : Value) (an : Option Addr) (cdv ct : Value) (us : List Value), us.length = ps.length → bindArgs (PySem.W.fnOf x qual (defArgs st) (defBody st) (defScope st) .none kV doc pm an cdv ct) ⟨us, []⟩ = pure (ps.zip us))
    {b : Bool} (hbody : ∀ (f : Addr) (cdv : Value) (A : Around) (outer : List Env) (s : Shared) (H : Hp) (E : XK) (C : Cfg K), (b = true → C.lk = []) → Room k (A.deeper (envOfC qual (defScope st) s.heap.objs.size f cdv)) →
      ∃ t, PSs (cxOf (L2.CX P w) P w K mg base N qual (defScope st) f cdv A outer s H E) (defBody st) t ∧ ∃ Γn Γb Γc, SimS .fr C E (fr0 ps.length N.length) t ψ Γn Γb Γc) (hk : ps.length ≤ N.length := by decide) :
    MOk P w K mg base (k + 1) C0 x ps (spF K b ps.length (fnD N.length ψ)) := by
  refine MFun.ok (k := k) F S hb (fun vs H Q E h => ?_) (fun f cdv A outer s H vs Q E hr h => ?_)
  · obtain ⟨C, n, G, ds, _, _, r, hl, _⟩ := h
    rw [r.len]
    exact hl
  · obtain ⟨C, n, G, ds, hbk, wl, r, hl, q⟩ := h
    obtain ⟨t, ht, Γn, Γb, Γc, hS⟩ := hbody f cdv A outer s H E C hbk hr
    exact ⟨t, ht, body_sim (sp := spF K b ps.length (fnD N.length ψ)) hS hk wl r hl q⟩
end
end ND
/-! dicts that are walked; chains; dict comprehensions -/
namespace ND
open PySem PySem.Spec PyProof.Rows L2
/-- the same things to be read -/
structure Cg (G G' : Hp) : Prop where
  rd : ∀ b u, ((∃ vs, u = HO.lst vs) ∨ (∃ vs, u = HO.tup vs) ∨ ∃ kvs, u = HO.dK kvs) → Rd G b u → Rd G' b u
  o : ∀ b o, ((∃ C dx fs, o = HO.ins C dx fs) ∨ (∃ φ, o = HO.ext φ) ∨ (∃ fs, o = HO.xd fs) ∨ ∃ ob vs, o = HO.frz ob (.tup vs)) → G b = some o → G' b = some o
section
variable {K : PySem.W.Frag} {dr : Addr} {G G' H : Hp}
theorem Cg.x {a C : Addr} {fs : List (Str × V)} (s : Cg G G') (h : XAt G a C fs) : XAt G' a C fs := by
  obtain ⟨d, h1, h2⟩ := h
  refine ⟨d, s.o _ _ (.inr (.inl ⟨_, rfl⟩)) h1, ?_⟩
  cases d with
  | none => exact h2
  | some d => exact s.o _ _ (.inr (.inr (.inl ⟨_, rfl⟩))) h2
theorem Cg.t {a : Addr} {vs : List V} (s : Cg G G') (h : SqT K G a vs) : SqT K G' a vs := by
  rcases h with h | h
  · exact .inl (s.rd _ _ (.inr (.inl ⟨_, rfl⟩)) h)
  · exact .inr h
theorem Cg.g {a : Addr} {vs : List V} (s : Cg G G') (h : GT K G a vs) : GT K G' a vs := by
  obtain ⟨h1, o, h2, h3⟩ := h
  refine ⟨s.t h1, o, h2, h3.imp (fun z => ?_) fun z => z⟩
  exact s.o _ _ (.inr (.inr (.inr ⟨_, _, rfl⟩))) z
end
section
variable {K : PySem.W.Frag} {C : Cfg K} {E : XK} {Γ Γn Γb Γc : List Md} {n m : Nat} {G0 H0 G H G1 H1 : Hp} {v : V} {d : D} {σ : L2.St} {ρ : Rho} {Q : VK} {i : Nat} {a : Addr} {od : Obj} {kvs : List (Key × V)}
/-! ### a < b < c -/
def eChain (f g : D → D → Out D) (a b c : Rho → Out D) : Rho → Out D := fun ρ => (a ρ).bind fun x => (b ρ).bind fun y => (f x y).bind fun z => match z with
  | .bl true => (c ρ).bind fun w => g y w
  | .bl false => .ok (.bl false)
  | _ => .stuck
theorem sm_chain {r r' : R2} {ta tb tc : TE} {f g : D → D → Out D} {a b c : Rho → Out D} (hr : SR C E r f) (hr' : SR C E r' g) (ha : SimV C E Γ ta a) (hb : SimV C E Γ tb b) (hc : SimV C E Γ tc c) : SimE C E Γ (tChain r r' ta tb tc) (eChain f g a b c) := fun H0 n G H σ ρ Q w e q => by
  refine ha H0 n G H σ ρ _ w e (Out.wp_mono (fun m dx k v G1 H1 s1 r1 => ?_) (fun _ _ _ z => z) (Out.wp_bind q))
  refine hb H0 m G1 H1 σ ρ _ s1.w (e.step s1) (Out.wp_mono (fun m2 dy k2 u G2 H2 s2 r2 => ?_) (fun _ _ _ z => PX.back s1 z) (Out.wp_bind k))
  have s12 := s1.trans s2
  refine hr m2 G2 H2 v u dx dy _ s2.w (r1.step s2) r2 (Out.wp_mono (fun m3 dz k3 z G3 H3 s3 r3 => ?_) (fun _ _ _ z => PX.back s12 z) (Out.wp_bind k2))
  have s13 := s12.trans s3
  cases dz <;> first | exact k3.elim | skip
  rename_i bb
  refine ⟨bb, RepV.bl (H := H3) (.inl r3), ?_⟩
  cases bb with
  | false => exact k3 _ G3 H3 s13 (.bl _)
  | true =>
    refine hc H0 m3 G3 H3 σ ρ _ s3.w (e.step s13) (Out.wp_mono (fun m4 dw k4 x G4 H4 s4 r4 => ?_) (fun _ _ _ z => PX.back s13 z) (Out.wp_bind k3))
    exact hr' m4 G4 H4 u x dy dw Q s4.w ((r2.step s3).step s4) r4 (Out.wp_mono (fun _ _ z => PQ.back (s13.trans s4) z) (fun _ _ _ z => PX.back (s13.trans s4) z) k4)
/-! ### a dict comprehension -/
end
end ND
/-! more rules -/
namespace ND
open PySem PySem.Spec PyProof.Rows L2
section
end
section
variable {rm : RM} {K : PySem.W.Frag} {C : Cfg K} {E : XK} {Γ Γn Γb Γc : List Md} {n m : Nat} {G0 H0 G H G1 H1 : Hp} {v : V} {d : D} {σ : L2.St} {ρ : Rho} {Q : VK} {i j : Nat}
/-! ### a, b = e1, e2: new objects among them -/
def sPar2 (i j : Nat) (a b : Rho → Out D) : Rho → Out Res := fun ρ => (a ρ).bind fun x => (b ρ).bind fun y => .ok (.nx ((ρ.set i x).set j y))
theorem owns_ne {p : Addr} (e : Er C H0 Γ G H σ ρ) (np : H p = none) : ∀ j q, (Γ.getD j .un).isOw = true → σ[j]? = some (some (.ref q)) → q ≠ p := fun j q hj hq z => by
  subst z
  have hs := e.sl j
  cases hm : Γ.getD j .un with
  | un => rw [hm] at hj; cases hj
  | fr => rw [hm] at hj; cases hj
  | lk => rw [hm] at hj; cases hj
  | dp b s => rw [hm] at hj; cases hj
  | lw w => rw [hm] at hj; cases hj
  | ow b =>
    rw [hm] at hs
    obtain ⟨p', o', a1, a2, _⟩ := hs
    rw [hq] at a1
    cases a1
    rw [a2.h] at np
    cases np
theorem ss_parNN {ta tb : TE} {a b : Rho → Out D} (ha : SimN C E Γ ta a) (hb : SimN C E Γ tb b) (hij : i ≠ j := by decide) (nd : noDp Γ = true := by rfl) : SimS rm C E Γ (tPar i j (tCons ta (tCons tb tNil))) (sPar2 i j a b) ((Γ.set i (.ow none)).set j (.ow none)) Γb Γc := fun G0 H0 n G H σ ρ D s e q => by
  refine ha H0 n G H σ ρ _ s.w e (Out.wp_mono (fun m x k v o1 G1 H1 s1 nv gv hv r1 => ?_) (fun _ _ _ z => PX.stm s z) (Out.wp_bind q))
  refine hb H0 m G1 H1 σ ρ _ s1.w (e.step s1) (Out.wp_mono (fun m2 y k2 p o G2 H2 s2 np gp hp r2 => ?_) (fun _ _ _ z => PX.stm (s.trans s1) z) (Out.wp_bind k))
  have ov : Own C H0 G1 H1 v o1 := ⟨hv, gv, s.w.nvol nv, s.dm nv⟩
  have e1 := ((e.step s1).setOw (i := i) ov r1 (fun j' q' h1 h2 => owns_ne e nv j' q' h1 h2) nd).step s2
  refine ⟨_, _, rfl, k2 _ G2 H2 ((s.trans s1).trans s2) (s1.g.trans s2.g) (e1.setOw ⟨hp, gp, s1.w.nvol np, (s.trans s1).dm np⟩ r2 ?_ (noDp_set nd rfl))⟩
  intro j' q' h1 h2 z
  subst z
  rw [getD_set] at h1
  by_cases hz : i = j'
  · subst hz
    by_cases hl : i < Γ.length
    · rw [List.getElem?_set_self (Nat.lt_of_lt_of_le hl e.lg)] at h2
      cases h2
      rw [hv] at np
      cases np
    · rw [if_neg (fun z => hl z.2), List.getD_eq_getElem?_getD, List.getElem?_eq_none (Nat.le_of_not_lt hl)] at h1
      cases h1
  · rw [if_neg (fun z => hz z.1)] at h1
    rw [List.getElem?_set_ne hz] at h2
    exact owns_ne (e.step s1) np j' _ h1 h2 rfl
theorem ss_parNE {ta tb : TE} {a b : Rho → Out D} (ha : SimN C E Γ ta a) (hb : SimE C E Γ tb b) (nd : noDp Γ = true := by rfl) : SimS rm C E Γ (tPar i j (tCons ta (tCons tb tNil))) (sPar2 i j a b) ((Γ.set i (.ow none)).set j .fr) Γb Γc := fun G0 H0 n G H σ ρ D s e q => by
  refine ha H0 n G H σ ρ _ s.w e (Out.wp_mono (fun m x k v o1 G1 H1 s1 nv gv hv r1 => ?_) (fun _ _ _ z => PX.stm s z) (Out.wp_bind q))
  refine hb H0 m G1 H1 σ ρ _ s1.w (e.step s1) (Out.wp_mono (fun m2 y k2 u G2 H2 s2 r2 => ?_) (fun _ _ _ z => PX.stm (s.trans s1) z) (Out.wp_bind k))
  have ov : Own C H0 G1 H1 v o1 := ⟨hv, gv, s.w.nvol nv, s.dm nv⟩
  have e1 := ((e.step s1).setOw (i := i) ov r1 (fun j' q' h1 h2 => owns_ne e nv j' q' h1 h2) nd).step s2
  exact ⟨_, _, rfl, k2 _ G2 H2 ((s.trans s1).trans s2) (s1.g.trans s2.g) (e1.set r2)⟩
/-! ### x += e -/
/-! ### starred items -/
end
end ND
/-! more rules: walks of lists or tuples, texts in order, stars, errors' fields -/
namespace ND
open PySem PySem.Spec PyProof.Rows L2
/-! ### the walk of a list or a tuple -/
def iSq (K : PySem.W.Frag) (tl : TE) : TI := fun σ H R => tl σ H fun x H1 => ∃ a, x = .ref a ∧ (((∃ xs, SqL K H1 a xs) ∧ R (Itl K a) H1) ∨ ((∃ xs, SqT K H1 a xs) ∧ R (Itt K a) H1))
theorem pi_sq {X : Cx} {tg l : Expr} {tl : TE} (hl : PE X l tl) : PI X tg l (iSq X.K tl) := by
  refine ⟨fun pins s σ H R I h => ?_⟩
  refine thn (hl.run pins s σ H _ I h) fun v s1 ⟨x, H1, I1, r1, q1⟩ => ?_
  obtain ⟨a, e, q⟩ := q1
  subst e
  cases r1
  rcases q with ⟨⟨xs, hq⟩, q⟩ | ⟨⟨xs, hq⟩, q⟩
  · obtain ⟨its, rv, p, hz⟩ := I1.list hq
    refine wpAny_pyIter_list p.isList ?_
    refine ⟨s1.heap.objs.size, [s1.heap.objs.size], _, _, H1, rfl, I1.kept (t' := s1.toks) fun b o e => Heap.get?_push_of_some _ e, turn_list a _, ⟨_, Heap.get?_push_size _ rfl, rfl, rfl⟩, fun b hb => ?_, q⟩
    have e : b = s1.heap.objs.size := by simpa using hb
    subst e
    exact I1.fpOk (Nat.le_refl _) (I1.hok.fresh (Nat.le_refl _))
  · obtain ⟨its, rv, p, hz⟩ := I1.tuple hq
    refine wpAny_pyIter_tuple (show s1.heap.IsTuple a its.toArray from p) ?_
    refine ⟨s1.heap.objs.size, [s1.heap.objs.size], _, _, H1, rfl, I1.kept (t' := s1.toks) fun b o e => Heap.get?_push_of_some _ e, turn_tuple a _, ⟨_, Heap.get?_push_size _ rfl, rfl, rfl⟩, fun b hb => ?_, q⟩
    have e : b = s1.heap.objs.size := by simpa using hb
    subst e
    exact I1.fpOk (Nat.le_refl _) (I1.hok.fresh (Nat.le_refl _))
section
variable {rm : RM} {K : PySem.W.Frag} {C : Cfg K} {E : XK} {Γ Γn Γb Γc : List Md} {n m : Nat} {G0 H0 G H G1 H1 : Hp} {v : V} {d : D} {σ : L2.St} {ρ : Rho} {Q : VK} {i j : Nat}
theorem si_sq {t : TE} {a : Rho → Out D} (ha : SimE C E Γ t a) : SimI false C E Γ (iSq K t) (iOf itemsQ a) := fun H0 n G H σ ρ R w e q => by
  refine ha H0 n G H σ ρ _ w e (Out.wp_mono (fun m d k v G1 H1 s1 r1 => ?_) (fun _ _ _ z => z) (Out.wp_bind q))
  cases r1 <;> first | exact k.elim | skip
  · rename_i h t l
    exact ⟨_, rfl, .inl ⟨⟨_, .inl (rd_mono s1.w.sub h)⟩, k _ G1 H1 s1 (walkD_list (.inl h) t l)⟩⟩
  · rename_i h t l
    exact ⟨_, rfl, .inr ⟨⟨_, Evl.ex_t s1.w.sub h.1⟩, k _ G1 H1 s1 (walkD_tup h.1 t l)⟩⟩
def cYes : Rho → Out Bool := fun _ => .ok true
theorem st_yes : SimT C E Γ tYes cYes := fun H0 n G H σ ρ Q w e q => q G H (Ws.refl w)
def dNeg (x : D) : Out D := match x with
  | .int i => .ok (.int (-i))
  | _ => .stuck
theorem su_neg : SU C E (rU fun i => .int (-i)) dNeg := fun n G H x dx Q w r q => by
  cases dx <;> first | exact q.elim | skip
  rw [r.int]
  exact ⟨_, rfl, q _ G H (Ws.refl w) (.int _)⟩
/-! ### an error's field -/
def dXf (f : Str) (x : D) : Out D := match x with
  | .exc _ fs => optD (fs.lookup f)
  | _ => .stuck
def NoX (K : PySem.W.Frag) (f : Str) : Prop := ∀ c ∈ ownX K, PySem.W.findIn K (.ref (He.ga K c)) f = some none
theorem sm_xf {f : Str} {ta : TE} {a : Rho → Out D} (hn : NoX K f) (ha : SimV C E Γ ta a) : SimE C E Γ (tXk K f ta) (eUn (dXf f) a) := fun H0 n G H σ ρ Q w e q => by
  refine ha H0 n G H σ ρ _ w e (Out.wp_mono (fun m d k v G1 H1 s1 r1 => ?_) (fun _ _ _ z => z) (Out.wp_bind q))
  unfold dXf at k
  cases d <;> first | exact k.elim | skip
  rename_i c xs
  rcases r1 with r1 | ⟨p, o, rfl, hp, nv, r⟩
  · cases r1 with
    | @exc b _ fs _ hc hx e1 t =>
      obtain ⟨d, h1, h2⟩ := hx
      cases d with
      | none =>
        have hz : fs = [] := h2
        subst hz
        have : xs = [] := by simpa using e1.symm
        subst this
        exact k.elim
      | some dd =>
        cases hl : xs.lookup f with
        | none => simp only [hl] at k; exact k.elim
        | some y =>
          simp only [hl] at k
          obtain ⟨v, g1, g2⟩ := rf_get e1 t hl
          exact ⟨b, _, dd, fs, v, rfl, s1.w.sub _ _ h1, s1.w.sub _ _ h2, C.ct.xk c hc, hn c hc, g1, k v G1 H1 s1 g2⟩
  · cases o <;> exact r.elim
end
end ND
/-! the draw, errors that are caught -/
namespace ND
open PySem PySem.Spec PyProof.Rows L2 LamX
/-! ### caught -/
def Out.caught : Out D → Out D
  | .ok _ => .ok .non
  | .exc c fs => .ok (.exc c fs)
  | .stuck => .stuck
  | .any c P k => .any c P fun d => (k d).caught
@[simp] theorem Out.caught_ok (a : D) : (Out.ok a).caught = .ok .non := rfl
@[simp] theorem Out.caught_exc (c : Str) (fs : List (Str × D)) : (Out.exc c fs : Out D).caught = .ok (.exc c fs) := rfl
section
variable {K : PySem.W.Frag} {C : Cfg K} {E : XK} {Γ : List Md} {n m : Nat} {G0 H0 G H G1 H1 : Hp} {Q : VK} {p : Addr × Str}
theorem Wl.lam (w : Wl C n G H) (hp : p ∈ tbsOf K) (x : ExtP p.1 H H1) (t : Tabs (tbsOf K) H1) : Ws C G H n G H1 := by
  have nP : ∀ a o, G a = some o → a ≠ p.1 := fun a o e z => by
    rw [z, w.nv _ (C.tbv p hp)] at e
    cases e
  refine ⟨⟨fun a o e => x.1 a o (nP a o e) (w.sub a o e), w.nv, w.fx, w.nf, C.tbx n H H1 p hp w.iv x t⟩, Same.refl _, fun a o v e => x.1 a o (fun z => v (z ▸ C.tbv p hp)) e, fun _ h _ => h⟩
/-! ### the draw -/
theorem Wl.draw {aw ac : Addr} {T : Nat} {H' : Hp} (w : Wl C m G H) (v1 : C.vol C.d) (v2 : C.vol aw) (k : Keep C.d aw H H') (i : C.inv n H') : Ws C G H n G H' := by
  have ne : ∀ a o, ¬ C.vol a → H a = some o → H' a = some o := fun a o v e => k a o (fun z => v (z ▸ v1)) (fun z => v (z ▸ v2)) e
  have nv : ∀ a o, G a = some o → ¬ C.vol a := fun a o e z => by
    rw [w.nv a z] at e
    cases e
  exact ⟨⟨fun a o e => ne a o (nv a o e) (w.sub a o e), w.nv, w.fx, w.nf, i⟩, Same.refl _, ne, fun _ h _ => h⟩
def inR (n : Int) (d : D) : Prop := ∃ i, 0 ≤ i ∧ i < n ∧ d = .int i
def takeD (ds : List D) : Out D := match ds with
  | [.drw, .int n] => if 0 < n ∧ n < 1000000 then .any 1 (inR n) .ok else .stuck
  | _ => .stuck
def spTk (K : PySem.W.Frag) : Sp := fun vs H Q _ => ∃ (d aw ac : Addr) (T : Nat) (n : Int), vs = [.ref d, .int n] ∧ Draw K d aw ac T H ∧ T ≤ 2 ^ 40 ∧ 0 < n ∧ n < 1000000 ∧ ∀ (k : Int) (H' : Hp), 0 ≤ k → k < n → Draw K d aw ac (T + 1) H' → Keep d aw H H' → Q (.int k) H'
theorem take_sp {vs : List V} {E : XK} (h : spF K false 2 takeD vs H Q E) : spTk K vs H Q E := by
  obtain ⟨C, n, G, ds, _, w, r, hl, q⟩ := h
  match ds, hl, vs, r with
  | [x, y], _, [v, u], .cons h1 (.cons h2 .nil) =>
    cases h1 <;> first | exact q.elim | skip
    cases h2 <;> first | exact q.elim | skip
    rename_i k _
    unfold takeD at q
    by_cases hk : 0 < k ∧ k < 1000000
    · simp only [hk, and_self, if_true] at q
      obtain ⟨m, rfl, q⟩ := q
      obtain ⟨aw, ac, T, hD, hT, v1, v2, _, hi⟩ := C.go m 1 H w.iv
      exact ⟨C.d, aw, ac, T, k, rfl, hD, by omega, hk.1, hk.2, fun i H' i0 i1 hD' hK => q (.int i) ⟨i, i0, i1, rfl⟩ (.int i) G H' (w.draw (ac := ac) (T := T) v1 v2 hK (hi H' hD' hK)) (.int i)⟩
    · simp only [hk, if_false] at q
      exact q.elim
/-! ### sheets -/
def encSpot (s : Spot) : D := .tup [.str s.1, .int s.2]
def encOI : Option Int → D
  | none => .non
  | some n => .int n
def encOS : Option Spot → D
  | none => .non
  | some s => encSpot s
def encWare (w : Ware) : D := .dct [(kS "slots", .lst (w.slots.map encSpot)), (kS "amount", .int w.amount), (kS "cost", encOI w.cost), (kS "roll", encOS w.roll)]
/-- a ware whose texts are plain -/
structure WPl (w : Ware) : Prop where
  s : ∀ s ∈ w.slots, SOk s.1
  l : w.slots.length ≤ 100000
  r : ∀ s, w.roll = some s → SOk s.1
theorem nameOk_sok {z : Str} (h : NameOk z) : SOk z := by
  refine ⟨by have := h.2.1; omega, ?_⟩
  unfold PyData.strOk
  rw [Array.all_eq_true]
  intro i hi
  have hc := h.2.2 z.cps[i] (by rw [← Array.getElem_toList]; exact List.getElem_mem _)
  have key : ∀ c ∈ letters.cps.toList, (decide (c < 0x110000) && !(decide (0xD800 ≤ c) && decide (c < 0xE000))) = true := by decide +kernel
  first
    | exact key _ hc
    | (have k := key _ hc; simp at k ⊢; omega)
theorem sp0_len (kinds : List Str) : ∀ n : Nat, (spots0 kinds n).length = n * kinds.length := by
  intro n
  unfold spots0
  rw [List.length_flatMap]
  simp only [List.length_map]
  rw [List.map_const', List.sum_replicate_nat, List.length_range]
theorem sp_mem {kinds : List Str} {n : Nat} {s : Spot} (h : s ∈ allSpots kinds n) : s.1 ∈ kinds ∧ 0 ≤ s.2 ∧ s.2 < n := by
  unfold allSpots spSort at h
  have h := List.mem_mergeSort.mp h
  unfold spots0 at h
  obtain ⟨t, ht, h⟩ := List.mem_flatMap.mp h
  obtain ⟨k, hk, rfl⟩ := List.mem_map.mp h
  have := List.mem_range.mp ht
  exact ⟨hk, Int.natCast_nonneg _, by show (t : Int) < n; omega⟩
theorem SheetOk.pl {most : Nat} {units : Int} {s : Sheet} (h : SheetOk most units s) : ∀ w ∈ s.wares, WPl w.2 := fun w hw => by
  have o := h.wo w hw
  have key : ∀ k ∈ s.rates.map (·.1), SOk k := fun k hk => by
    obtain ⟨r, hr, rfl⟩ := List.mem_map.mp hk
    exact nameOk_sok (h.rn r hr).1
  refine ⟨fun x hx => key _ (sp_mem (o.sub.subset hx)).1, ?_, fun r hr => ?_⟩
  · have l := o.sub.length_le
    unfold allSpots spSort at l
    rw [List.length_mergeSort, sp0_len, List.length_map] at l
    have h1 := h.d1
    have h2 := h.r1
    have : s.span * s.rates.length ≤ 4 * 3 := Nat.mul_le_mul h1 h2
    omega
  · obtain ⟨_, _, x, hx, e, _⟩ := h.roll w hw r hr
    rw [← e]
    exact nameOk_sok (h.wn x hx)
theorem Wl.wk {aw ac : Addr} {T : Nat} {G' H' : Hp} (w : Wl C m G H) (v1 : C.vol C.d) (v2 : C.vol aw) (W : Wk K C.d aw ac T G H G' H') (i : C.inv n H') : Ws C G H n G' H' := by
  refine ⟨⟨W.w.sub, fun a v => W.s.o a (w.nv a v) (C.trk m H a w.iv v), w.fx.trans W.s.g, fun a o k h => w.nf a o k (W.s.nf a o k h), i⟩, W.s.g, fun a o v e => W.s.k a o (fun z => v (z ▸ v1)) (fun z => v (z ▸ v2)) e, W.s.o⟩
theorem Wl.wd {aw ac : Addr} {T : Nat} (w : Wl C m G H) (v1 : C.vol C.d) (v2 : C.vol aw) (hc : C.fix ac ≠ none) (hD : Draw K C.d aw ac T H) : Wd K C.d aw ac T G H := by
  refine ⟨hD, w.sub, w.nv _ v1, w.nv _ v2, fun z => ?_⟩
  cases e : C.fix ac with
  | none => exact hc e
  | some o =>
    have := w.fx ac o e
    rw [z] at this
    cases this
end
section
variable {P : Program} {w : World} {K : PySem.W.Frag} {mg : Str → Option Value} {base : Heap}
theorem GOk.imp {k : Nat} {x : Str} {ps : List Str} {sp sp' : Sp} (g : GOk P w K mg base k x ps sp) (h : ∀ vs H Q E, sp' vs H Q E → sp vs H Q E) : GOk P w K mg base k x ps sp' := by
  obtain ⟨f, fd, a, b, c, d⟩ := g.ex
  exact ⟨f, fd, a, b, c, d.imp h⟩
end
end ND
/-! while; append of a pop; len(set(..)) -/
namespace ND
open PySem PySem.Spec PyProof.Rows L2
section
variable {rm : RM} {K : PySem.W.Frag} {C : Cfg K} {E : XK} {Γ Γ1 Γb Γc : List Md} {n m : Nat} {G0 H0 G H G1 H1 : Hp} {Q : VK} {i j : Nat}
/-! ### while -/
def whD (c : Rho → Out Bool) (b : Rho → Out Res) : Nat → Rho → Out Res
  | 0, _ => .stuck
  | k + 1, ρ => (c ρ).bind fun x => bif x then (b ρ).bind fun r => (match r with
    | .nx ρ2 => whD c b k ρ2
    | .ct ρ2 => whD c b k ρ2
    | .bk ρ2 => .ok (.nx ρ2)
    | .rt d => .ok (.rt d)) else .ok (.nx ρ)
def sWhile (c : Rho → Out Bool) (b : Rho → Out Res) : Rho → Out Res := fun ρ => whD c b 100001 ρ
theorem ss_while {tc : TT} {tb : TS} {c : Rho → Out Bool} {b : Rho → Out Res} (hc : SimT C E Γ tc c) (hb : SimS rm C E Γ tb b Γ Γ Γ) : SimS rm C E Γ (tWhile tc tb) (sWhile c b) Γ Γb Γc := fun G0 H0 n G H σ ρ D s e q => by
  refine ⟨fun k σ' H' => ∃ m' G' ρ', Ws C G0 H0 m' G' H' ∧ Same G G' ∧ Er C H0 Γ G' H' σ' ρ' ∧ (whD c b k ρ').wp m' (SQ rm C G0 H0 G D Γ Γb Γc) (PX C G0 H0 E), ⟨100001, n, G, ρ, s, Same.refl _, e, q⟩, ?_⟩
  rintro k σ' H' ⟨m', G', ρ', s', a', e', q'⟩
  cases k with
  | zero => exact q'.elim
  | succ k =>
    refine hc H0 m' G' H' σ' ρ' _ s'.w e' (Out.wp_mono (fun m2 x k2 G2 H2 s2 => ?_) (fun _ _ _ z => PX.stm s' z) (Out.wp_bind q'))
    cases x with
    | false =>
      rw [if_neg (by decide)]
      exact k2 σ' G2 H2 (s'.trans s2) (a'.trans s2.g) (e'.step s2)
    | true =>
      rw [if_pos rfl]
      refine ⟨fun σ3 H3 => ∃ m3 G3 ρ3, Ws C G0 H0 m3 G3 H3 ∧ Same G G3 ∧ Er C H0 Γ G3 H3 σ3 ρ3 ∧ (whD c b k ρ3).wp m3 (SQ rm C G0 H0 G D Γ Γb Γc) (PX C G0 H0 E), fun σ3 H3 h => ⟨k, Nat.lt_succ_self k, h⟩, ?_⟩
      refine hb G0 H0 m2 G2 H2 σ' ρ' _ (s'.trans s2) (e'.step s2) (Out.wp_mono (fun m3 r k3 => ?_) (fun _ _ _ z => z) (Out.wp_bind k2))
      have a2 := a'.trans s2.g
      cases r with
      | nx ρ3 => exact fun σ3 G3 H3 s3 a3 e3 => ⟨m3, G3, ρ3, s3, a2.trans a3, e3, k3⟩
      | ct ρ3 => exact fun σ3 G3 H3 s3 a3 e3 => ⟨m3, G3, ρ3, s3, a2.trans a3, e3, k3⟩
      | bk ρ3 => exact fun σ3 G3 H3 s3 a3 e3 => k3 σ3 G3 H3 s3 (a2.trans a3) e3
      | rt d => exact fun v G3 H3 s3 a3 r3 => k3 v G3 H3 s3 (a2.trans a3) r3
/-! ### xs.append(ys.pop(k)) -/
def sAppPop (i j : Nat) (a : Rho → Out D) : Rho → Out Res := fun ρ => match ρ.getD i .non, ρ.getD j .non with
  | .lst xs, .lst ys => (a ρ).bind fun d => match d with
    | .int k => if 0 ≤ k ∧ xs.length < 100000 then (match ys[k.toNat]? with
      | some y => .ok (.nx ((ρ.set j (.lst (ys.eraseIdx k.toNat))).set i (.lst (xs ++ [y]))))
      | none => .stuck) else .stuck
    | _ => .stuck
  | _, _ => .stuck
theorem sixN {k : Int} {l : Nat} (h : 0 ≤ k) (h2 : k.toNat < l) : seqIndex? k l = some k.toNat := by
  unfold seqIndex?
  have h3 : k < l := by omega
  simp [show ¬ k < 0 by omega, h, h3]
theorem ss_appPop {te : TE} {a : Rho → Out D} {b c : Option Addr} (hi : Γ[i]? = some (.ow b)) (hj : Γ[j]? = some (.ow c)) (ha : SimE C E Γ te a) (hij : i ≠ j := by decide) :
    SimS rm C E Γ (tDrop (tBM K "list" rAppend (tVar i) (tCons (tBM K "list" rPopAt (tVar j) (tCons te tNil)) tNil))) (sAppPop i j a) Γ Γb Γc := fun G0 H0 n G H σ ρ D s e q => by
  obtain ⟨p, o, h1, h2, h3, h4⟩ := e.ow hi
  obtain ⟨p', o', g1, g2, g3, g4⟩ := e.ow hj
  unfold sAppPop at q
  cases hd1 : ρ.getD i .non <;> rw [hd1] at q h3 <;> first | exact q.elim | skip
  rename_i xs
  cases hd2 : ρ.getD j .non <;> rw [hd2] at q g3 <;> first | exact q.elim | skip
  rename_i ys
  cases o <;> first | exact h3.elim | skip
  cases o' <;> first | exact g3.elim | skip
  rename_i vs us
  refine ⟨_, h1, .inl ⟨rfl, vs, SqL.of h2.h⟩, _, g1, .inl ⟨rfl, us, SqL.of g2.h⟩, ?_⟩
  refine ha H0 n G H σ ρ _ s.w e (Out.wp_mono (fun m d k v G1 H1 s1 r1 => ?_) (fun _ _ _ z => PX.stm s z) (Out.wp_bind q))
  cases r1 <;> first | exact k.elim | skip
  rename_i t
  by_cases ht : 0 ≤ t ∧ xs.length < 100000
  · simp only [ht, and_self, if_true] at k
    cases hy : ys[t.toNat]? with
    | none => simp only [hy] at k; exact k.elim
    | some y =>
      simp only [hy] at k
      obtain ⟨u, hu, ru⟩ := g3.2.at' hy
      have h2' := h2.step s1
      have g2' := g2.step s1
      have hlu := g3.2.len
      have hty : t.toNat < ys.length := (List.getElem?_eq_some_iff.mp hy).1
      have e1 := e.step s1
      have pne : p ≠ p' := fun z => e.dj i j p hij (by rw [List.getD_eq_getElem?_getD, hi]; rfl) (by rw [List.getD_eq_getElem?_getD, hj]; rfl) h1 (by rw [g1, z])
      have big : ys.length ≤ 100000 := g3.1
      refine ⟨p', us, t, t.toNat, u, rfl, rfl, g2'.h, by omega, by omega, sixN ht.1 (by omega), hu, ?_⟩
      have sa := s.trans s1
      have sb := sa.mut (o' := .lst (us.eraseIdx t.toNat)) g2' (by intro φ z; cases z)
      have eb := e1.mut (d' := .lst (ys.eraseIdx t.toNat)) (o' := .lst (us.eraseIdx t.toNat)) hj g1 g2' ⟨by rw [List.length_eraseIdx]; split <;> omega, (g3.2.mono s1.g).erase _⟩ g4
      have hb2 : Own C H0 G1 (upd H1 p' (.lst (us.eraseIdx t.toNat))) p (.lst vs) := h2'.oth pne
      have hvl := h3.2.len
      refine ⟨p, vs, u, rfl, rfl, hb2.h, Nat.lt_of_lt_of_le (show vs.length < 100000 by omega) (by decide), ?_⟩
      refine k σ G1 _ (sb.mut hb2 (by intro φ z; cases z)) s1.g (eb.mut hi h1 hb2 ⟨by rw [List.length_append]; show xs.length + 1 ≤ 100000; omega, (h3.2.mono s1.g).app (.cons (ru.mono s1.g) .nil)⟩ h4)
  · simp only [ht, if_false] at k
    exact k.elim
/-! ### len(set(xs)) -/
def tkeys : List D → Option (List Key)
  | [] => some []
  | d :: ds => (keyOfD d).bind fun k => (tkeys ds).map fun ks => k :: ks
def tkeysL : List D → Option (List (List Key))
  | [] => some []
  | .tup xs :: ds => (tkeys xs).bind fun k => (tkeysL ds).map fun ks => k :: ks
  | _ => none
def setN (ks : List (List Key)) (d : D) : Prop := ∃ n : Nat, n ≤ ks.length ∧ (n = ks.length ↔ ks.Nodup) ∧ d = .int n
def dSetLen (x : D) : Out D := (itemsQ x).bind fun xs => match tkeysL xs with
  | some ks => bif decide (ks.length < 64) then .any 0 (setN ks) .ok else .stuck
  | none => .stuck
theorem tkeys_rep : ∀ {vs : List V} {xs : List D} {ks : List Key}, RepL C G vs xs → tkeys xs = some ks → vs = ks.map kV
  | _, _, _, .nil, h => by cases h; rfl
  | _, _, _, .cons (v := v) (x := x) (vs := vs) (xs := xs) h t, hk => by
    have hk' : (keyOfD x).bind _ = some _ := hk
    obtain ⟨k, h1, h2⟩ := Option.bind_eq_some_iff.mp hk'
    obtain ⟨ks, h3, rfl⟩ := Option.map_eq_some_iff.mp h2
    rw [tkeys_rep t h3]
    cases h <;> first | cases h1 | skip
    all_goals rfl
theorem tkeysL_rep (s : Same G H) : ∀ {vs : List V} {xs : List D} {ks : List (List Key)}, RepL C G vs xs → tkeysL xs = some ks → ∃ ps : List (Addr × List Key), vs = ps.map (fun p => V.ref p.1) ∧ ps.map (·.2) = ks ∧ ∀ p ∈ ps, SqT K H p.1 (p.2.map kV)
  | _, _, _, .nil, h => by cases h; exact ⟨[], rfl, rfl, fun _ z => nomatch z⟩
  | _, _, _, .cons (v := v) (x := x) (vs := vs) (xs := xs) h t, hk => by
    cases h <;> first | cases hk | skip
    rename_i a us ys hs ht hl
    have hk' : (tkeys ys).bind _ = some _ := hk
    obtain ⟨k, h1, h2⟩ := Option.bind_eq_some_iff.mp hk'
    obtain ⟨ks, h3, rfl⟩ := Option.map_eq_some_iff.mp h2
    obtain ⟨ps, rfl, rfl, hp⟩ := tkeysL_rep s t h3
    refine ⟨(a, k) :: ps, rfl, rfl, fun p hpm => ?_⟩
    rcases List.mem_cons.mp hpm with rfl | hpm
    · have := tkeys_rep ht h1
      subst this
      exact Evl.ex_t s hs.1
    · exact hp p hpm
def rLenN : List V → Hp → VK → Prop := fun xs H Q => ∃ (a : Addr) (n : Nat), xs = [.ref a] ∧ H a = some (SetN a n) ∧ Q (.int ((n : Nat) : Int)) H
theorem call_lenN' {X : Cx} : CallR X (.builtin "len") rLenN := call_lenN
theorem sm_setLen {ta : TE} {a : Rho → Out D} (ha : SimV C E Γ ta a) : SimE C E Γ (tCB rLenN (tCons (tCB (rSetK K) (tCons ta tNil)) tNil)) (eUn dSetLen a) := fun H0 n G H σ ρ Q w e q => by
  refine ha H0 n G H σ ρ _ w e (Out.wp_mono (fun m d k v G1 H1 s1 r1 => ?_) (fun _ _ _ z => z) (Out.wp_bind q))
  have k := Out.wp_bind k
  have hq : ∃ xs vs b, itemsQ d = .ok xs ∧ v = .ref b ∧ (SqL K H1 b vs ∨ SqT K H1 b vs) ∧ RepL C G1 vs xs := by
    cases d <;> first | exact k.elim | skip
    · obtain ⟨b, vs, rfl, h1, h2, _⟩ := r1.lst s1.w.sub
      exact ⟨_, vs, b, rfl, rfl, .inl (.inl h1), h2⟩
    · obtain ⟨b, vs, rfl, h1, h2, _⟩ := r1.tup s1.w.sub
      exact ⟨_, vs, b, rfl, rfl, .inr h1, h2⟩
  obtain ⟨xs, vs, b, hi, rfl, hs, hr⟩ := hq
  rw [hi] at k
  have k : (match tkeysL xs with
    | some ks => bif decide (ks.length < 64) then Out.any 0 (setN ks) .ok else .stuck
    | none => .stuck).wp m (PQ C G H Q) (PX C G H E) := k
  cases hk : tkeysL xs with
  | none => simp only [hk] at k; exact k.elim
  | some ks =>
    simp only [hk] at k
    cases hb : decide (ks.length < 64) with
    | false => simp only [hb, cond_false] at k; exact k.elim
    | true =>
      simp only [hb, cond_true] at k
      obtain ⟨ps, rfl, rfl, hp⟩ := tkeysL_rep s1.w.sub hr hk
      have hl := of_decide_eq_true hb
      rw [List.length_map] at hl
      refine ⟨b, ps, rfl, hs, hp, hl, fun c t nc h1 h2 => ⟨c, t, rfl, upd_same, ?_⟩⟩
      obtain ⟨m', rfl, k⟩ := k
      exact k (.int t) ⟨t, by rw [List.length_map]; exact h1, by rw [List.length_map]; exact h2, rfl⟩ (.int t) G1 _ (s1.trans ((Ws.refl s1.w).tmp nc)) (.int _)
end
end ND
/-! dict(zip(s, t)) of two tuples -/
namespace ND
open PySem PySem.Spec PyProof.Rows L2
/-- a walk over two tuples at once: where its objects lie -/
structure ZW where
  z : Addr
  ti : Addr
  tp : Addr
  c : Addr
  d : Addr
  s : Addr
  t : Addr
  us : Array Value
  ws : Array Value
/-- it stands at k -/
structure ZW.At (Z : ZW) (k : Nat) (h : Heap) : Prop where
  pr : IsPair h Z.ti (.ref Z.c) (.ref Z.d)
  i1 : h.IsTupleIter Z.c Z.s k
  i2 : h.IsTupleIter Z.d Z.t k
  t1 : h.IsTuple Z.s Z.us
  t2 : h.IsTuple Z.t Z.ws
section
variable {prog : Program} {w : World} {A : Around} {E : Value → Shared → Prop} {g : Shared} {Z : ZW} {k : Nat}
theorem ZW.At.keep {h h' : Heap} (x : Z.At k h) (e : ∀ b o, h.get? b = some o → b = Z.ti ∨ b = Z.c ∨ b = Z.d ∨ b = Z.s ∨ b = Z.t → h'.get? b = some o) : Z.At k h' :=
  ⟨e _ _ x.pr (.inl rfl), x.i1.at fun o q => e _ o q (.inr (.inl rfl)), x.i2.at fun o q => e _ o q (.inr (.inr (.inl rfl))), x.t1.at fun o q => e _ o q (.inr (.inr (.inr (.inl rfl)))), x.t2.at fun o q => e _ o q (.inr (.inr (.inr (.inr rfl))))⟩
/-- how it stands: no tuple out, or one that is nobody's -/
def ZW.St (Z : ZW) (d : Addr) (k : Nat) (h : Heap) : Prop := Z.At k h ∧ ((IsZip h Z.z Z.ti Z.tp .none ∧ ∃ a b, IsPair h Z.tp a b) ∨ ∃ T f oT, IsZipHeld h Z.z Z.ti Z.tp T f ∧ h.get? T = some oT ∧ T ≠ Z.z ∧ T ≠ Z.c ∧ T ≠ Z.d ∧ T ≠ d)
end
end ND
/-! dict(zip(s, t)): the rule -/
namespace ND
open PySem PySem.Spec PyProof.Rows L2
section
end
end ND
/-! defs that make lambdas -/
namespace ND
open PySem PySem.Spec PyProof.Rows L2 LamX
/-- a global def whose code object is known -/
structure LFun (K : PySem.W.Frag) (mg : Str → Option Value) (base : Heap) (x : Str) (st : Stmt) : Prop where
  ex : ∃ (oc : Value) (od : Option Addr) (dV kV doc pm : Value) (an : Option Addr) (ct : Value) (osl : Array (Option Value)),
    K.lookup (He.ga K x) = some ⟨oc, od, .func (PySem.W.fnOf x x (defArgs st) (defBody st) (defScope st) dV kV doc pm an (.ref (codeOf K x)) ct), osl⟩ ∧ DflV K dV [] ∧ KwdV K kV []
  cd : PySem.W.codeIn K (.ref (codeOf K x)) x = true
  kp : PySem.W.keepIn K (.ref (He.ga K x)) = true
  gm : mg x = some (.ref (He.ga K x))
  tb : TabB base mg (codeOf K x) (tabOf K x)
  mm : (tabOf K x, x ++ ".<locals>." ++ "<lambda>") ∈ tbsOf K
  nd : ((tbsOf K).map (·.1)).Nodup
theorem tb_uniq {T : List (Addr × Str)} (h : (T.map (·.1)).Nodup) {p : Addr × Str} (hp : p ∈ T) : ∀ q ∈ T, q.1 = p.1 → q.2 = p.2 := fun q hq e => by
  induction T with
  | nil => cases hp
  | cons a T ih =>
    rw [List.map_cons] at h
    obtain ⟨h1, h2⟩ := List.nodup_cons.mp h
    rcases List.mem_cons.mp hp with e1 | hp2 <;> rcases List.mem_cons.mp hq with e2 | hq2
    · rw [e1, e2]
    · exact absurd (show a.1 ∈ T.map (·.1) from List.mem_map.mpr ⟨q, hq2, by rw [e, e1]⟩) h1
    · exact absurd (show a.1 ∈ T.map (·.1) from List.mem_map.mpr ⟨p, hp2, by rw [← e, e2]⟩) h1
    · exact ih h2 hp2 hq2
section
variable {P : Program} {w : World} {K : PySem.W.Frag} {mg : Str → Option Value} {base : Heap}
theorem LFun.fun {x : Str} {st : Stmt} (F : LFun K mg base x st) : ∃ fd, FnP K x x st (He.ga K x) fd ∧ (∃ dV kV doc pm an ct, fd = PySem.W.fnOf x x (defArgs st) (defBody st) (defScope st) dV kV doc pm an (.ref (codeOf K x)) ct) := by
  obtain ⟨oc, od, dV, kV, doc, pm, an, ct, osl, h, d1, d2⟩ := F.ex
  exact ⟨_, ⟨⟨oc, od, dV, kV, doc, pm, an, _, ct, osl, rfl, h, F.cd, d1, d2⟩, F.kp⟩, dV, kV, doc, pm, an, ct, rfl⟩
theorem GFun.gets {x a : Str} {st : Stmt} {Ng : List Str} (F : GFun K mg x st) (S : FnScope Ng [a] (defScope st)) (hn : Ng[0]? = some a) (hv : Vis (defScope st) a)
    (hb : ∀ (kV doc pm : Value) (an : Option Addr) (cdv ct : Value) (us : List Value), us.length = 1 → bindArgs (PySem.W.fnOf x x (defArgs st) (defBody st) (defScope st) .none kV doc pm an cdv ct) ⟨us, []⟩ = pure ([a].zip us)) : ∃ f cdg, GetsL K mg x a Ng (defBody st) (defScope st) f cdg := by
  obtain ⟨f, fd, F, hm⟩ := F.ex
  have hbn := F.bindsN (ps := [a]) hb
  obtain ⟨oc, od, dV, kV, doc, pm, an, cdv, ct, osl, rfl, lk, hcd, _, _⟩ := F.ex
  exact ⟨f, cdv, ⟨hm, F.kp, ⟨_, dV, kV, doc, pm, ct, oc, an, od, osl, lk, hbn⟩, hcd, S, hn, hv⟩⟩
end
end ND
/-! texts in order -/
namespace ND
open PySem PySem.Spec PyProof.Rows L2
/-! ### texts in order -/
end ND
/-! sorted(d) -/
namespace ND
open PySem PySem.Spec PyProof.Rows L2
section
variable {K : PySem.W.Frag} {C : Cfg K} {E : XK} {Γ : List Md} {n m : Nat} {G0 H0 G H G1 H1 : Hp} {Q : VK}
def sokB (z : Str) : Bool := decide (z.length ≤ 100000) && PyData.strOk z
theorem sokB_ok {z : Str} (h : sokB z = true) : SOk z := by
  unfold sokB at h
  rw [Bool.and_eq_true] at h
  exact ⟨of_decide_eq_true h.1, h.2⟩
end
end ND
/-! the head's facts: a Hook that reaches closures -/
namespace ND
open PySem PySem.W PySem.Spec PySem.Calls PyProof.Rows L2 He
def refsN (o : Obj) : List Addr := refsD o ++ (match o.data with
  | .func fd => fd.closure.map (·.2)
  | .cell (some v) => refV v
  | _ => [])
def growN (g : Addr → Option Obj) (as : List Addr) : List Addr := (as ++ as.flatMap fun a => match g a with
  | some o => refsN o
  | none => []).eraseDups
def asN (g : Addr → Option Obj) : Nat → List Addr
  | 0 => [mainGlobals, cStatics]
  | n + 1 => growN g (asN g n)
/-! ### a class of errors with its own __init__ -/
abbrev SupW : Type := Option (Str × Arguments × FuncBody × Scope × Addr × List Str × Addr)
def fiOf (K : Frag) (x : Str) : Addr := ma K (ga K x) "__init__"
def supW (K : Frag) (x : Str) : SupW := match K.lookup (fiOf K x) with
  | some ⟨_, _, .func fd, _⟩ => some (fd.name, fd.params, fd.body, fd.scope, fd.globals, fd.closure.map (·.1), fd.builtins)
  | _ => none
structure SupD where
  x : Str
  fld : Str
  st : Stmt
def SupD.val (d : SupD) : SupW := some ("__init__", defArgs d.st, .stmts (defBody d.st), defScope d.st, mainGlobals, ["__class__"], builtinsNs)
def clsB (K : Frag) (C : Addr) : Bool := match K.lookup C with
  | some ⟨c, _, .cls cd, sl⟩ => (match cd.mro, sl.toList with
    | D :: bm, [_, _, _, _, k, _] => decide (c = .type "type") && (decide (D = .ref C) && (decide (k = some (.builtin "ValueError.__new__")) && (cd.hasDict && (!cd.hasDel && HandSPX.refsVE bm))))
    | _, _ => false)
  | _ => false
theorem clsB_ok {K : Frag} {C : Addr} (h : clsB K C = true) : ∃ nm q N bs bm sn sub ab col dd k0 k1 k2 k3 k5, K.lookup C = some (excClassObj nm q C N bs bm true sn sub ab col dd k0 k1 k2 k3 k5 "ValueError.__new__") ∧ HandSPX.refsVE bm = true := by
  unfold clsB at h
  split at h
  · rename_i c dd cd sl ho
    split at h
    · rename_i D bm k0 k1 k2 k3 k k5 hm hs
      obtain ⟨g1, j1⟩ := ba h
      obtain ⟨g2, j2⟩ := ba j1
      obtain ⟨g3, j3⟩ := ba j2
      obtain ⟨h4, j4⟩ := ba j3
      obtain ⟨h5, h6⟩ := ba j4
      have g1' := of_decide_eq_true g1
      have g2' := of_decide_eq_true g2
      have g3' := of_decide_eq_true g3
      rw [g1'] at ho
      rw [g2'] at hm
      rw [g3'] at hs
      obtain ⟨nm, bs, mro, ns, qn, hd, sn, sub, ab, col, del⟩ := cd
      dsimp only at hm h4 h5
      subst hm h4
      have h5' : del = false := by simpa using h5
      subst h5'
      obtain ⟨l⟩ := sl
      dsimp only at hs
      subst hs
      exact ⟨nm, qn, ns, bs, bm, sn, sub, ab, col, dd, k0, k1, k2, k3, k5, ho, h6⟩
    · cases h
  · cases h
def initB (prog : Program) (K : Frag) (C fI : Addr) : Bool := match K.lookup fI with
  | some ⟨_, _, .func fd, _⟩ => (match fd.code, fd.closure, fd.defaults, fd.kwdefaults with
    | .ref cda, [(_, cc)], .none, .none => codeIn K (.ref cda) fd.qualname && ((match K.lookup cda with
      | some ⟨_, _, .fields vs, _⟩ => (match (vs[2]? : Option Value) with
        | some (.str file _) => (prog.main.file : Str) == file
        | _ => false)
      | _ => false) && (match K.lookup cc with
        | some ⟨_, _, .cell (some D), _⟩ => decide (D = .ref C)
        | _ => false))
    | _, _, _, _ => false)
  | _ => false
def oexB (K : Frag) (C : Addr) : Bool := clsB K C && (eqO (findIn K (.ref C) "__setattr__") (some (some (.builtin "object.__setattr__"))) && (decide (subIn K (.ref C) (.type "BaseException") = some true) && (decide (typeIn K (.ref C) = some (.type "type")) && keepIn K (.ref C))))
theorem oexB_ok {K : Frag} {C : Addr} (h : oexB K C = true) : OexC K C := by
  obtain ⟨a, h⟩ := ba h
  obtain ⟨b, h⟩ := ba h
  obtain ⟨c, h⟩ := ba h
  obtain ⟨d, e⟩ := ba h
  exact ⟨clsB_ok a, eqO_ok b, of_decide_eq_true c, of_decide_eq_true d, e⟩
def supChk (prog : Program) (K : Frag) (x fld : Str) : Bool :=
  oexB K (ga K x) && (eqO (findIn K (.ref (ga K x)) fld) (some none) && (eqO (findIn K (.ref (ga K x)) "__init__") (some (some (.ref (fiOf K x)))) && (decide (typeIn K (.ref (fiOf K x)) = some (.type "function")) && (initB prog K (ga K x) (fiOf K x) &&
    (eqO (ks_superIn K (ga K x) (ga K x) "__init__") (some (some (.builtin "ValueError.__init__"))) && (decide (mroIn K (ga K x) (.ref (ga K x)) = some true) && (decide (mroIn K (ga K x) (.type "ValueError") = some true) &&
      (eqO (nsIn K cStatics "thirdparty.any") (some none) && eqO (nsIn K mainGlobals "super") (some none)))))))))
theorem supC_of {prog : Program} {K : Frag} {d : SupD} (h : supChk prog K d.x d.fld = true) (hw : supW K d.x = d.val) (ok : FldOk d.fld) (top : (prog.main.scope.names.lookup ("super" : Str)).isSome = false)
    {msg : Str} {p1 p2 q0 q1 q2 q3 q4 q5 q6 q7 q8 q9 : Pos} (ea : defArgs d.st = supA d.fld p1 p2) (eb : defBody d.st = supB d.fld msg q0 q1 q2 q3 q4 q5 q6 q7 q8 q9) (es : defScope d.st = supS d.fld) (hl : (q2.endLine == q4.line) = true)
    (hb : ∀ (qual : Str) (doc pm ct : Value) (an : Option Addr) (cda cc : Addr) (u v : Value),
      bindArgs (ksFn "__init__" qual (supA d.fld p1 p2) (supB d.fld msg q0 q1 q2 q3 q4 q5 q6 q7 q8 q9) (supS d.fld) .none .none doc pm an (.ref cda) ct cc) ⟨[u, v], []⟩ = pure [((PySem.Str.ofString "self" : Str), u), (d.fld, v)] ∧
      bindArgs (ksFn "__init__" qual (supA d.fld p1 p2) (supB d.fld msg q0 q1 q2 q3 q4 q5 q6 q7 q8 q9) (supS d.fld) .none .none doc pm an (.ref cda) ct cc) ⟨[u], [(d.fld, v)]⟩ = pure [((PySem.Str.ofString "self" : Str), u), (d.fld, v)]) :
    SupC prog K (ga K d.x) (fiOf K d.x) d.fld := by
  obtain ⟨h1, h⟩ := ba h
  obtain ⟨h2, h⟩ := ba h
  obtain ⟨h3, h⟩ := ba h
  obtain ⟨h4, h⟩ := ba h
  obtain ⟨h5, h⟩ := ba h
  obtain ⟨h6, h⟩ := ba h
  obtain ⟨h7, h⟩ := ba h
  obtain ⟨h8, h⟩ := ba h
  obtain ⟨h9, h10⟩ := ba h
  refine ⟨oexB_ok h1, ok, eqO_ok h2, eqO_ok h3, of_decide_eq_true h4, ?_, eqO_ok h6, of_decide_eq_true h7, of_decide_eq_true h8, eqO_ok h9, eqO_ok h10, top⟩
  unfold initB at h5
  unfold supW at hw
  split at h5
  · rename_i oc od fd osl ho
    rw [ho] at hw
    dsimp only at hw
    split at h5
    · rename_i cda y cc hcode hclo hdf hkd
      obtain ⟨c1, h5⟩ := ba h5
      obtain ⟨c2, c3⟩ := ba h5
      split at c2
      · rename_i ccl cdd vs ccs hc
        split at c2
        · rename_i file tf hv
          split at c3
          · rename_i cl cld D csl hcc
            have c3' := of_decide_eq_true c3
            subst c3'
            obtain ⟨n1, n2, n3, n4, n5, n6, n7, n8, n9, n10, n11, n12, n13, n14, n15⟩ := fd
            unfold SupD.val at hw
            simp only [Option.some.injEq, Prod.mk.injEq] at hw
            dsimp only at hcode hclo hdf hkd c1
            obtain ⟨e1, e2, e3, e4, e5, e6, e7⟩ := hw
            subst hcode hclo hdf hkd e1 e5 e7
            have e6' : y = "__class__" := by simpa using e6
            subst e6'
            rw [ea] at e2
            rw [eb] at e3
            rw [es] at e4
            subst e2 e3 e4
            exact ⟨oc, od, n12, osl, n2, msg, n10, n11, n14, cda, cc, ccl, cl, cdd, cld, ccs, csl, vs, file, tf, p1, p2, q0, q1, q2, q3, q4, q5, q6, q7, q8, q9, ho, c1, hc, hv, c2, hcc, hl,
              fun s u v => .of_eq (hb ..).1, fun s u v => .of_eq (hb ..).2⟩
          · cases c3
        · cases c2
      · cases c2
    · cases h5
  · cases h5
/-! ### what isinstance and a field's reading ask of a class of errors -/
def exkB (K : Frag) (C : Addr) : Bool := (clsIn K C).isSome && (eqO (findIn K (.ref C) "__getattribute__") (some (some (.builtin "BaseException.__getattribute__"))) && (eqO (findIn K (.ref C) "__getattr__") (some none) &&
  (decide (subIn K (.ref C) (.type "BaseException") = some true) && (hasDictIn K C && (eqO (findIn K (.ref C) "__class__") (some (some (.builtin "object.__class__"))) && (eqO (specialIn K (.builtin "object.__class__") "__get__") (some (some (.builtin "getset_descriptor.__get__"))) &&
    (decide (takesIn K (.builtin "object.__class__") = some true) && decide (mroIn K C (.type "object") = some true))))))))
theorem exkB_ok {K : Frag} {C : Addr} (h : exkB K C = true) : ExcK K C := by
  obtain ⟨h1, h⟩ := ba h
  obtain ⟨h2, h⟩ := ba h
  obtain ⟨h3, h⟩ := ba h
  obtain ⟨h4, h⟩ := ba h
  obtain ⟨h5, h⟩ := ba h
  obtain ⟨h6, h⟩ := ba h
  obtain ⟨h7, h⟩ := ba h
  obtain ⟨h8, h9⟩ := ba h
  exact ⟨h1, eqO_ok h2, eqO_ok h3, of_decide_eq_true h4, h5, eqO_ok h6, eqO_ok h7, of_decide_eq_true h8, of_decide_eq_true h9⟩
/-! ### the Hook -/
structure SaysN (fa : List Fa) (fn : List DefD) (sd : List SupD) (ex : Frag → Bool) (K : Frag) : Prop where
  d : SaysD fa fn K
  e : ex K = true
  s : (sd.map fun d => supW K d.x) = sd.map SupD.val
theorem SaysN.sup {fa : List Fa} {fn : List DefD} {sd : List SupD} {ex : Frag → Bool} {K : Frag} (c : SaysN fa fn sd ex K) (i : Nat) {d : SupD} (h : sd[i]? = some d) : supW K d.x = d.val := by
  have z : (sd.map fun d => supW K d.x)[i]? = (sd.map SupD.val)[i]? := by rw [c.s]
  rw [List.getElem?_map, List.getElem?_map, h] at z
  exact Option.some.inj z
end ND
/-! the law itself: the draw is begun -/
namespace ND
open PySem PySem.Spec PyProof.Rows L2 LamX
def budget : Nat := 2 ^ 40 - 30000
/-- what is known when the draw has begun -/
structure Beg (K : PySem.W.Frag) (H : Hp) (a d aw ac : Addr) (ns cs : List Int) : Prop where
  dr : Draw K d aw ac 0 H
  sc : Rd H a (.lst (ns.map V.int))
  ce : H ac = some (.lst (cs.map V.int))
  cl : cs.length ≤ 63
  cb : ∀ z ∈ cs, 0 ≤ z ∧ z < 2147483629
  nad : a ≠ d
  naw : a ≠ aw
  ntd : ∀ p ∈ tbsOf K, p.1 ≠ d ∧ p.1 ≠ aw
  tb : Tabs (tbsOf K) H
section
variable {K : PySem.W.Frag} {H H' : Hp} {a d aw ac : Addr} {ns cs : List Int}
def fixB (H : Hp) (a ac : Addr) : Hp := fun b => if b = a then H a else if b = ac then H ac else none
theorem fixB_same (H : Hp) (a ac : Addr) : Same (fixB H a ac) H := fun b o e => by
  unfold fixB at e
  split at e
  · rename_i h; rw [h]; exact e
  · split at e
    · rename_i h; rw [h]; exact e
    · cases e
theorem fixB_ac (H : Hp) (a ac : Addr) : fixB H a ac ac = H ac := by
  unfold fixB
  by_cases h : ac = a
  · rw [if_pos h, h]
  · rw [if_neg h, if_pos rfl]
structure InvB (K : PySem.W.Frag) (d aw ac : Addr) (cs : List Int) (n : Nat) (H : Hp) : Prop where
  le : n ≤ budget
  dr : Draw K d aw ac (budget - n) H
  ce : H ac = some (.lst (cs.map V.int))
  tb : Tabs (tbsOf K) H
def volB (K : PySem.W.Frag) (d aw : Addr) (b : Addr) : Prop := b = d ∨ b = aw ∨ ∃ p ∈ tbsOf K, p.1 = b
theorem Draw.hd_ (h : Draw K d aw ac n H) : ∃ kvs, H d = some (.dK kvs) := by
  obtain ⟨ws, cs, r, t, hd, _⟩ := h.ex
  exact ⟨_, hd⟩
theorem Draw.hw_ (h : Draw K d aw ac n H) : ∃ vs, H aw = some (.lst vs) := by
  obtain ⟨ws, cs, r, t, hd, hw, _⟩ := h.ex
  exact ⟨_, hw⟩
theorem vol_not_ext {n : Nat} {c : Addr} {φ} (h : InvB K d aw ac cs n H) (e : H c = some (.ext φ)) : ¬ volB K d aw c := by
  rintro (rfl | rfl | ⟨p, hp, rfl⟩)
  · obtain ⟨_, q⟩ := h.dr.hd_
    rw [q] at e; cases e
  · obtain ⟨_, q⟩ := h.dr.hw_
    rw [q] at e; cases e
  · obtain ⟨ps, q, _⟩ := h.tb p hp
    rw [q] at e; cases e
theorem tabs_keep {T : List (Addr × Str)} (h : Tabs T H) (k1 : ∀ p ∈ T, H' p.1 = H p.1) (k2 : ∀ c φ, H c = some (.ext φ) → H' c = some (.ext φ)) : Tabs T H' := fun p hp => by
  obtain ⟨ps, h1, h2, h3⟩ := h p hp
  refine ⟨ps, by rw [k1 p hp]; exact h1, h2, fun pos cv hc => ?_⟩
  obtain ⟨c, e1, e2⟩ := h3 pos cv hc
  exact ⟨c, e1, k2 c _ e2⟩
theorem draw_keep {T : Nat} (h : Draw K d aw ac T H) (h1 : H' d = H d) (h2 : H' aw = H aw) (h3 : H' ac = H ac) : Draw K d aw ac T H' := by
  obtain ⟨⟨ws, cs, r, t, hd, hw, hc, z⟩, ne⟩ := h
  exact ⟨⟨ws, cs, r, t, by rw [h1]; exact hd, by rw [h2]; exact hw, by rw [h3]; exact hc, z⟩, ne⟩
def cfgB (ct : ClsT K (ownCls K) (ownX K)) (B : Beg K H a d aw ac ns cs) : Cfg K where
  d := d
  vol := volB K d aw
  inv := InvB K d aw ac cs
  fix := fixB H a ac
  stab := fun n H1 H2 i v x f => by
    have e : H2 ac = some (.lst (cs.map V.int)) := f ac _ (by rw [fixB_ac]; exact B.ce)
    refine ⟨i.le, draw_keep i.dr (v d (.inl rfl)) (v aw (.inr (.inl rfl))) (by rw [e, i.ce]), e, tabs_keep i.tb (fun p hp => v _ (.inr (.inr ⟨p, hp, rfl⟩))) fun c φ q => x c φ (vol_not_ext i q) q⟩
  trk := fun n H1 b i v z => by
    rcases v with rfl | rfl | ⟨p, hp, rfl⟩
    · obtain ⟨_, q⟩ := i.dr.hd_
      rw [q] at z; cases z
    · obtain ⟨_, q⟩ := i.dr.hw_
      rw [q] at z; cases z
    · obtain ⟨ps, q, _⟩ := i.tb p hp
      rw [q] at z; cases z
  ct := ct
  lk := []
  fixd := fun b kvs z => by
    have z := z
    unfold fixB at z
    split at z
    · rcases B.sc with q | ⟨o, q⟩ <;> rw [q] at z <;> cases z
    · split at z
      · rw [B.ce] at z; cases z
      · cases z
  tbo := fun n H1 i => i.tb
  tbv := fun p hp => .inr (.inr ⟨p, hp, rfl⟩)
  tbx := fun n H1 H2 p hp i x t => by
    obtain ⟨ps, q, _⟩ := i.tb p hp
    have kd : H2 d = H1 d := by
      obtain ⟨_, e⟩ := i.dr.hd_
      rw [e]; exact x.1 d _ (fun z => by rw [z, q] at e; cases e) e
    have kw : H2 aw = H1 aw := by
      obtain ⟨_, e⟩ := i.dr.hw_
      rw [e]; exact x.1 aw _ (fun z => by rw [z, q] at e; cases e) e
    have kc : H2 ac = H1 ac := by
      have e := i.ce
      rw [e]; exact x.1 ac _ (fun z => by rw [z, q] at e; cases e) e
    exact ⟨i.le, draw_keep i.dr kd kw kc, by rw [kc]; exact i.ce, t⟩
  go := fun n m H1 i => by
    have hb : budget + 30000 = 2 ^ 40 := by decide
    have le := i.le
    refine ⟨aw, ac, budget - (n + m), i.dr, by omega, .inl rfl, .inr (.inl rfl), (by rw [fixB_ac, B.ce]; intro z; cases z), fun H2 D k => ?_⟩
    have kt : ∀ p ∈ tbsOf K, H2 p.1 = H1 p.1 := fun p hp => by
      obtain ⟨ps, q, _⟩ := i.tb p hp
      rw [q]
      exact k _ _ (B.ntd p hp).1 (B.ntd p hp).2 q
    have kc : H2 ac = H1 ac := by
      have e := i.ce
      rw [e]
      refine k _ _ (fun z => ?_) (fun z => i.dr.ne z.symm) e
      obtain ⟨_, q⟩ := i.dr.hd_
      rw [z, q] at e; cases e
    refine ⟨by omega, ?_, by rw [kc]; exact i.ce, tabs_keep i.tb kt fun c φ q => ?_⟩
    · have e : budget - (n + m) + m = budget - n := by omega
      rw [← e]; exact D
    · have nv := vol_not_ext i q
      exact k c _ (fun z => nv (.inl z)) (fun z => nv (.inr (.inl z))) q
theorem wl_B (ct : ClsT K (ownCls K) (ownX K)) (B : Beg K H a d aw ac ns cs) : Wl (cfgB ct B) budget (fixB H a ac) H := by
  have hb : budget - budget = 0 := by omega
  refine ⟨fixB_same _ _ _, fun b v => ?_, Same.refl _, fun b o kvs z => ?_, ⟨Nat.le_refl _, by rw [hb]; exact B.dr, B.ce, B.tb⟩⟩
  · have na : b ≠ a := fun z => by
      rcases v with q | q | ⟨p, hp, q⟩
      · exact B.nad (z.symm.trans q)
      · exact B.naw (z.symm.trans q)
      · obtain ⟨ps, e, _⟩ := B.tb p hp
        rw [q, z] at e
        rcases B.sc with r | ⟨o, r⟩ <;> rw [r] at e <;> cases e
    have nc : b ≠ ac := fun z => by
      have e := B.ce
      rw [← z] at e
      rcases v with q | q | ⟨p, hp, q⟩
      · obtain ⟨_, r⟩ := B.dr.hd_
        rw [q, r] at e; cases e
      · exact B.dr.ne (q.symm.trans z)
      · obtain ⟨ps, r, _⟩ := B.tb p hp
        rw [q, e] at r; cases r
    show fixB H a ac b = none
    unfold fixB
    rw [if_neg na, if_neg nc]
  · have z : fixB H a ac b = some (.frz o (.dK kvs)) := z
    unfold fixB at z
    split at z
    · rcases B.sc with q | ⟨o, q⟩ <;> rw [q] at z <;> cases z
    · split at z
      · rw [B.ce] at z; cases z
      · cases z
/-- what a def gets that begins the draw -/
def spBg (K : PySem.W.Frag) : Sp := fun vs H Q _ => ∃ (a : Addr) (ns : List Int), vs = [.ref a] ∧ SqL K H a (ns.map V.int) ∧ ns.length ≤ 63 ∧
  ∀ (d aw ac : Addr) (H' : Hp), Draw K d aw ac 0 H' → Same H H' → H d = none → H aw = none → Q (.ref d) H'
/-- the law's own promise -/
def spLw (K : PySem.W.Frag) : Sp := fun vs H Q _ => ∃ (a : Addr) (ns : List Int), vs = [.ref a] ∧ Rd H a (.lst (ns.map V.int)) ∧ ns.length ≤ 63 ∧ Tabs (tbsOf K) H ∧ ∀ H', Q (.bl true) H'
def rho0 (N : Nat) (ns : List Int) : Rho := .lst (ns.map D.int) :: .drw :: List.replicate (N - 2) .non
def gam0 (N : Nat) : List Md := .fr :: .fr :: List.replicate (N - 2) .un
/-- what is to be shown of a law, on plain data -/
def LawD (N : Nat) (ψ : Rho → Out Res) : Prop := ∀ ns : List Int, ns.length ≤ 63 → (ψ (rho0 N ns)).wp budget (fun _ r => match r with
  | .rt d => d = .bl true
  | _ => False) (fun _ _ _ => False)
theorem rep_ints {K : PySem.W.Frag} {C : Cfg K} {G : Hp} : ∀ {ns : List Int}, RepL C G (ns.map V.int) (ns.map D.int)
  | [] => .nil
  | n :: ns => .cons (.int n) rep_ints
theorem law_run {E : XK} {N : List Str} {t : TS} {ψ : Rho → Out Res} {Γn Γb Γc : List Md} {Q : VK} (ct : ClsT K (ownCls K) (ownX K)) (hN : 2 ≤ N.length) (hS : ∀ C : Cfg K, C.lk = [] → SimS .fr C E (gam0 N.length) t ψ Γn Γb Γc) (hL : LawD N.length ψ)
    (h : spLw K [.ref a] H Q E) : tSeq (tAsg (tCall (spBg K) [] E (tCons (tVar 0) tNil)) (gName 1)) t { nx := fun _ H' => Q .non H', rt := Q } (L2.start N [.ref a]) H := by
  obtain ⟨a', ns, e0, hS0, hl, hT, q⟩ := h
  cases e0
  refine ⟨.ref a, ?_, a, ns, rfl, .inl hS0, hl, fun d aw ac H' Dr s nd nw => ?_⟩
  · unfold L2.start
    rfl
  obtain ⟨ws, cs, r, tt, hd, hw, hc, z1, z2, z3, z4, _⟩ := id Dr.ex
  have hT' := hT.ext s
  have ne : ∀ {b : Addr}, H b = none → a ≠ b := fun {b} hb z => by
    rw [← z] at hb
    rcases hS0 with e | ⟨o, e⟩ <;> rw [e] at hb <;> cases hb
  have B : Beg K H' a d aw ac ns cs := ⟨Dr, Evl.ex_rd s hS0, hc, z3, z4, ne nd, ne nw, fun p hp => by
    obtain ⟨ps, e, _⟩ := hT p hp
    exact ⟨fun z => (by rw [z, nd] at e; cases e), fun z => (by rw [z, nw] at e; cases e)⟩, hT'⟩
  have W := wl_B ct B
  refine hS (cfgB ct B) rfl (fixB H' a ac) H' budget (fixB H' a ac) H' _ (rho0 N.length ns) _ (Ws.refl W) ?_ (Out.wp_mono (fun m r k => ?_) (fun _ _ _ z => z.elim) (hL ns hl))
  · have fa : fixB H' a ac a = H' a := by unfold fixB; rw [if_pos rfl]
    have ra : Rep (cfgB ct B) (fixB H' a ac) (.ref a) (.lst (ns.map D.int)) := by
      refine .lst ?_ rep_ints (by rw [List.length_map]; omega)
      rcases B.sc with e | ⟨o, e⟩
      · exact .inl (by rw [fa]; exact e)
      · exact .inr ⟨o, by rw [fa]; exact e⟩
    obtain ⟨n0, N, rfl⟩ : ∃ n0 N', N = n0 :: N' := by
      cases N with
      | nil => simp at hN
      | cons x y => exact ⟨x, y, rfl⟩
    obtain ⟨n1, N, rfl⟩ : ∃ n1 N', N = n1 :: N' := by
      cases N with
      | nil => simp at hN
      | cons x y => exact ⟨x, y, rfl⟩
    refine ⟨fun i => ?_, fun i j p hij hi hj => ?_, ?_, ?_, fun i a' s' hi => ?_⟩
    rotate_right
    · match i with
      | 0 => cases hi
      | 1 => cases hi
      | i + 2 =>
        have : (gam0 (n0 :: n1 :: N).length).getD (i + 2) .un = .un := by
          show (List.replicate _ Md.un).getD i .un = .un
          rw [List.getD_eq_getElem?_getD, List.getElem?_replicate]
          split <;> rfl
        rw [this] at hi
        cases hi
    · match i with
      | 0 => exact ⟨_, rfl, ra⟩
      | 1 => exact ⟨_, rfl, .drw⟩
      | i + 2 =>
        have : (gam0 (n0 :: n1 :: N).length).getD (i + 2) .un = .un := by
          show (List.replicate _ Md.un).getD i .un = .un
          rw [List.getD_eq_getElem?_getD, List.getElem?_replicate]
          split <;> rfl
        rw [this]
        exact True.intro
    · have : ((gam0 (n0 :: n1 :: N).length).getD i .un).isOw = false := by
        match i with
        | 0 => rfl
        | 1 => rfl
        | i + 2 =>
          show ((List.replicate _ Md.un).getD i .un).isOw = false
          rw [List.getD_eq_getElem?_getD, List.getElem?_replicate]
          split <;> rfl
      rw [this] at hi
      cases hi
    · unfold gam0 L2.start
      simp
    · unfold rho0 L2.start
      simp
  · cases r with
    | rt dd =>
      have : dd = .bl true := k
      subst this
      intro v G1 H1 s1 _ rv
      cases rv
      exact q H1
    | nx _ => exact k.elim
    | bk _ => exact k.elim
    | ct _ => exact k.elim
end
end ND
/-! one's own at every depth: what is read, what is stored -/
namespace ND
open PySem PySem.Spec PyProof.Rows L2
section
end
section
/-! ### ways -/
/-! ### what is read -/
/-! ### what is stored -/
/-! ### fields -/
end
end ND
/-! x, y.f = e; new objects out of walks of dicts -/
namespace ND
open PySem PySem.Spec PyProof.Rows L2
section
end
section
end
end ND
/-! comprehensions of two walks -/
namespace ND
open PySem PySem.Spec PyProof.Rows L2
section
end
end ND
/-! groups: the first one that a new item is like, or a new one -/
namespace ND
open PySem PySem.Spec PyProof.Rows L2
section
end
end ND
/-! the head's facts, with properties and tables -/
namespace ND
open PySem PySem.W PySem.Spec PySem.Calls PyProof.Rows L2 He
/-- where a def stands: a global, a method, a property's getter -/
inductive At where
  | g (x : Str)
  | m (c f : Str)
  | p (c f : Str)
def At.ad (K : Frag) : At → Addr
  | .g x => ga K x
  | .m c f => ma K (ga K c) f
  | .p c f => (match recIn K (ma K (ga K c) f) "property" with
    | some (.ref b :: _) => b
    | _ => 0)
structure DefT where
  loc : At
  name : Str
  qual : Str
  st : Stmt
  dn : Nat
def seenT (K : Frag) (b : Addr) : FnW := match K.lookup b with
  | some ⟨_, _, .func fd, _⟩ => some (fd.name, fd.qualname, fd.params, fd.body, fd.scope, fd.globals, fd.closure, fd.builtins)
  | _ => none
def DefT.val (t : DefT) : FnW := some (t.name, t.qual, defArgs t.st, .stmts (defBody t.st), defScope t.st, mainGlobals, [], builtinsNs)
def DefT.chk (K : Frag) (t : DefT) : Bool := keepIn K (.ref (t.loc.ad K)) && (match K.lookup (t.loc.ad K) with
  | some ⟨_, _, .func fd, _⟩ => codeIn K fd.code t.qual && (dflB K fd.defaults (List.replicate t.dn .non) && kwdB K fd.kwdefaults [])
  | _ => false)
theorem DefT.is {K : Frag} {t : DefT} (e : seenT K (t.loc.ad K) = t.val) (c : t.chk K = true) :
    ∃ (oc : Value) (od : Option Addr) (dV kV doc pm : Value) (an : Option Addr) (cdv ct : Value) (osl : Array (Option Value)), K.lookup (t.loc.ad K) = some ⟨oc, od, .func (fnOf t.name t.qual (defArgs t.st) (defBody t.st) (defScope t.st) dV kV doc pm an cdv ct), osl⟩ ∧
      codeIn K cdv t.qual = true ∧ DflV K dV (List.replicate t.dn .non) ∧ KwdV K kV [] ∧ keepIn K (.ref (t.loc.ad K)) = true := by
  obtain ⟨kp, c⟩ := ba c
  unfold seenT at e
  split at e
  · rename_i oc od fd osl q
    rw [q] at c
    obtain ⟨a1, a2, a3, a4, a5, a6, a7, a8, a9, a10, a11, a12, a13, a14, a15⟩ := fd
    unfold DefT.val at e
    simp only [Option.some.injEq, Prod.mk.injEq] at e
    obtain ⟨e1, e2, e3, e4, e5, e6, e7, e8⟩ := e
    dsimp only at c
    obtain ⟨c1, c⟩ := ba c
    obtain ⟨c2, c3⟩ := ba c
    subst e1 e2 e3 e4 e5 e6 e7 e8
    exact ⟨oc, od, a8, a9, a10, a11, a12, a13, a14, osl, q, c1, dflB_ok c2, kwdB_ok c3, kp⟩
  · cases e
theorem DefT.funD {K : Frag} {t : DefT} (e : seenT K (t.loc.ad K) = t.val) (c : t.chk K = true) : ∃ fd, FunD K t.name t.qual (defArgs t.st) (defBody t.st) (defScope t.st) (List.replicate t.dn .non) [] (t.loc.ad K) fd := by
  obtain ⟨oc, od, dV, kV, doc, pm, an, cdv, ct, osl, q, c1, c2, c3, kp⟩ := DefT.is e c
  exact ⟨_, ⟨oc, od, dV, kV, doc, pm, an, cdv, ct, osl, rfl, q, c1, c2, c3⟩, kp⟩
/-! ### K without the tables -/
theorem memL : ∀ {K : Frag} {a : Addr} {o : Obj}, K.lookup a = some o → (a, o) ∈ K
  | [], _, _, h => by cases h
  | (b, x) :: K, a, o, h => by
    rw [List.lookup_cons] at h
    split at h
    · rename_i e
      cases h
      rw [beq_iff_eq.mp e]
      exact List.mem_cons_self
    · exact List.mem_cons_of_mem _ (memL h)
def cutT (K : Frag) : Frag := K.filter fun p => !((tbsOf K).map (·.1)).contains p.1
/-! ### the checks -/
def noLists (K : Frag) : Bool := K.all fun p => decide (p.2.cls ≠ .type "list")
theorem noLists_rd {K : Frag} (c : noLists K = true) {H : Hp} {a : Addr} {xs : List V} (h : SqL K H a xs) : Rd H a (.lst xs) := by
  rcases h with h | ⟨o, its, n, q, hc, _⟩
  · exact h
  · have := List.all_eq_true.mp c (a, o) (memL q)
    exact absurd hc (of_decide_eq_true this)
def tabObjB : Obj → Bool
  | ⟨.none, none, .fields vs, sl⟩ => decide (vs.size = 0) && decide (sl.size = 0)
  | _ => false
theorem tabObjB_ok {o : Obj} (h : tabObjB o = true) : o = { cls := .none, data := .fields #[] } := by
  unfold tabObjB at h
  split at h
  · rename_i vs sl
    obtain ⟨h1, h2⟩ := ba h
    have e1 : vs = #[] := Array.eq_empty_of_size_eq_zero (of_decide_eq_true h1)
    have e2 : sl = #[] := Array.eq_empty_of_size_eq_zero (of_decide_eq_true h2)
    subst e1 e2
    rfl
  · cases h
def hdB (K : Frag) (c P : Addr) : Bool := match K.lookup c with
  | some ⟨.type t, _, .fields vs, _⟩ => decide (t = "code") && (decide (vs[11]? = some (.ref P)) && (decide (c ≠ P) && (match vs.getD 18 .none, vs.getD 7 .none, vs.getD 9 .none, vs.getD 10 .none with
    | .str _ _, .int _ _, .bool _, .int _ _ => true
    | _, _, _, _ => false)))
  | _ => false
theorem hdB_ok {K : Frag} {h : Heap} (X : K.In h) {c P : Addr} (e : hdB K c P = true) : CodeHd h c P := by
  unfold hdB at e
  split at e
  · rename_i t dd vs sl q
    obtain ⟨h1, e⟩ := ba e
    obtain ⟨h2, e⟩ := ba e
    obtain ⟨h3, e⟩ := ba e
    have h1' := of_decide_eq_true h1
    have h2' := of_decide_eq_true h2
    have h2d : vs.getD 11 .none = .ref P := by
      rw [Array.getD_eq_getD_getElem?, h2']
      rfl
    split at e
    · rename_i f1 f2 f3 f4 f5 f6 f7 g1 g2 g3 g4
      exact ⟨_, vs, f1, f2, f3, f4, f5, f6, f7, X c _ q, by rw [h1'], rfl, h2', h2d, g1, g2, g3, g4, of_decide_eq_true h3⟩
    · cases e
  · cases e
def makersK (K : Frag) : List Str := makers.filter (hasG K)
def tabsB (K0 K : Frag) : Bool := (makersK K).all fun x => hdB K (codeOf K x) (tabOf K x) && ((match K0.lookup (tabOf K x) with
  | some o => tabObjB o
  | none => false) && (K.lookup (tabOf K x)).isNone)
def clTyB (K : Frag) (C : Addr) : Bool := (plainGet K C Str.empty && (hasDictIn K C && (plainOver K C && eqO (findIn K (.ref C) "__setattr__") (some (some (.builtin "object.__setattr__")))))) &&
  (eqO (findIn K (.ref C) "__class__") (some (some (.builtin "object.__class__"))) && (eqO (specialIn K (.builtin "object.__class__") "__get__") (some (some (.builtin "getset_descriptor.__get__"))) &&
    (decide (takesIn K (.builtin "object.__class__") = some true) && decide (mroIn K C (.type "object") = some true))))
theorem clTyB_ok {K : Frag} {C : Addr} (h : clTyB K C = true) : ClTy K C := by
  obtain ⟨c, h⟩ := ba h
  obtain ⟨c1, c⟩ := ba c
  obtain ⟨c2, c⟩ := ba c
  obtain ⟨c3, c4⟩ := ba c
  obtain ⟨h1, h⟩ := ba h
  obtain ⟨h2, h⟩ := ba h
  obtain ⟨h3, h4⟩ := ba h
  exact ⟨⟨c1, c2, c3, eqO_ok c4⟩, eqO_ok h1, eqO_ok h2, of_decide_eq_true h3, of_decide_eq_true h4⟩
def ctB (K : Frag) : Bool := ((ownCls K).all fun c => clTyB K (ga K c)) && (((ownX K).all fun c => exkB K (ga K c)) && (((ownCls K ++ ownX K).all fun c => (tyNs.all fun n => decide (kitOne K (.ref (ga K c)) (.type n) = some false) && decide (kitOne K (.type n) (.ref (ga K c)) = some false)) &&
  ((ownCls K ++ ownX K).all fun c' => decide (kitOne K (.ref (ga K c)) (.ref (ga K c')) = some (isaB c c')))) && ((ownX K).all fun c => decide (exmOne K (.ref (ga K c)) (.ref (ga K "PackError")) = some true))))
theorem ctB_ok {K : Frag} (h : ctB K = true) : ClsT K (ownCls K) (ownX K) := by
  obtain ⟨h1, h⟩ := ba h
  obtain ⟨h2, h⟩ := ba h
  obtain ⟨h3, h4⟩ := ba h
  have k3 := fun c hc => ba (List.all_eq_true.mp h3 c hc)
  refine ⟨fun c hc => clTyB_ok (List.all_eq_true.mp h1 c hc), fun c hc => exkB_ok (List.all_eq_true.mp h2 c hc), fun c hc n hn => ?_, fun c hc n hn => ?_, fun c hc c' hc' => ?_, fun c hc => of_decide_eq_true (List.all_eq_true.mp h4 c hc)⟩
  · exact of_decide_eq_true (ba (List.all_eq_true.mp (k3 c hc).1 n hn)).1
  · exact of_decide_eq_true (ba (List.all_eq_true.mp (k3 c hc).1 n hn)).2
  · exact of_decide_eq_true (List.all_eq_true.mp (k3 c hc).2 c' hc')
def propB (K : Frag) (c f : Str) : Bool := eqO (findIn K (.ref (ga K c)) f) (some (some (.ref (ma K (ga K c) f)))) && (eqO (specialIn K (.ref (ma K (ga K c) f)) "__get__") (some (some (.builtin "property.__get__"))) && (decide (takesIn K (.ref (ma K (ga K c) f)) = some true) &&
  (match recIn K (ma K (ga K c) f) "property" with
    | some (.ref _ :: _) => true
    | _ => false)))
theorem propB_ok {K : Frag} {c f : Str} (h : propB K c f = true) : PropOf K (ga K c) f (ma K (ga K c) f) ((At.p c f).ad K) := by
  obtain ⟨h1, h⟩ := ba h
  obtain ⟨h2, h⟩ := ba h
  obtain ⟨h3, h4⟩ := ba h
  refine ⟨eqO_ok h1, eqO_ok h2, of_decide_eq_true h3, ?_⟩
  split at h4
  · rename_i b rest q
    refine ⟨rest, ?_⟩
    show _ = some (Value.ref (match recIn K (ma K (ga K c) f) "property" with
      | some (.ref b :: _) => b
      | _ => 0) :: rest)
    rw [q]
  · cases h4
def nxB (K : Frag) (f : Str) : Bool := (ownX K).all fun c => eqO (findIn K (.ref (ga K c)) f) (some none)
theorem nxB_ok {K : Frag} {f : Str} (h : nxB K f = true) : NoX K f := fun c hc => eqO_ok (List.all_eq_true.mp h c hc)
/-- what all laws ask, beside their own names -/
def allB (prog : Program) (sups props : List (Str × Str)) (oc ox nx : List Str) (K0 K : Frag) : Bool :=
  (sups.all fun p => supChk prog K p.1 p.2) && ((props.all fun p => propB K p.1 p.2) && ((oc.all fun c => (ownCls K).contains c) && ((ox.all fun c => (ownX K).contains c) && ((nx.all fun f => nxB K f) &&
    (ctB K && (noLists K && (tabsB K0 K && decide ((tbsOf K).map (·.1)).Nodup)))))))
/-! ### the Hook -/
abbrev AlT : Type := Bool × (List FnW × List SupW)
structure Ask where
  fa : List Fa
  fn : List DefT
  sd : List SupD
  ex : Frag → Frag → Bool
def Ask.on (q : Ask) (K0 K : Frag) : AlT := ((q.fa.all fun f => f.ok K) && ((q.fn.all fun d => d.chk K) && q.ex K0 K), (q.fn.map fun d => seenT K (d.loc.ad K), q.sd.map fun d => supW K d.x))
def Ask.val (q : Ask) : AlT := (true, (q.fn.map DefT.val, q.sd.map SupD.val))
def Ask.obs (q : Ask) (n : Nat) (g : Addr → Option Obj) : AlT := q.on (frG g (asN g n)) (cutT (frG g (asN g n)))
structure Told (q : Ask) (K0 K : Frag) : Prop where
  e : q.on K0 K = q.val
section
variable {q : Ask} {K0 K : Frag}
theorem Told.p (c : Told q K0 K) : (q.fa.all fun f => f.ok K) = true ∧ (q.fn.all fun d => d.chk K) = true ∧ q.ex K0 K = true := by
  have z : ((q.fa.all fun f => f.ok K) && ((q.fn.all fun d => d.chk K) && q.ex K0 K)) = true := congrArg Prod.fst c.e
  obtain ⟨h1, h⟩ := ba z
  obtain ⟨h2, h3⟩ := ba h
  exact ⟨h1, h2, h3⟩
theorem Told.fact (c : Told q K0 K) (i : Nat) {f : Fa} (h : q.fa[i]? = some f) : f.ok K = true := List.all_eq_true.mp c.p.1 f (List.mem_of_getElem? h)
theorem Told.seen (c : Told q K0 K) (i : Nat) {d : DefT} (h : q.fn[i]? = some d) : seenT K (d.loc.ad K) = d.val ∧ d.chk K = true := by
  refine ⟨?_, List.all_eq_true.mp c.p.2.1 d (List.mem_of_getElem? h)⟩
  have z : (q.fn.map fun d => seenT K (d.loc.ad K))[i]? = (q.fn.map DefT.val)[i]? := by
    have := congrArg (fun x : AlT => x.2.1) c.e
    exact congrArg (·[i]?) this
  rw [List.getElem?_map, List.getElem?_map, h] at z
  exact Option.some.inj z
theorem Told.sup (c : Told q K0 K) (i : Nat) {d : SupD} (h : q.sd[i]? = some d) : supW K d.x = d.val := by
  have z : (q.sd.map fun d => supW K d.x)[i]? = (q.sd.map SupD.val)[i]? := by
    have := congrArg (fun x : AlT => x.2.2) c.e
    exact congrArg (·[i]?) this
  rw [List.getElem?_map, List.getElem?_map, h] at z
  exact Option.some.inj z
end
end ND
/-! defs whose results are the caller's own; calls by names; defs that ask for repr -/
namespace ND
open PySem PySem.Spec PyProof.Rows L2
section
variable {K : PySem.W.Frag} {C : Cfg K} {E : XK} {Γ : List Md} {n m : Nat} {G H G1 H1 : Hp} {Q : VK}
/-! ### calls by names -/
def pickL {α : Type} (idx : List Nat) (xs : List α) : List α := idx.filterMap fun i => xs[i]?
theorem vals_at {vs : List V} {us : List Value} (h : Vals vs us) : ∀ i : Nat, (vs[i]? = none ∧ us[i]? = none) ∨ ∃ v u, vs[i]? = some v ∧ us[i]? = some u ∧ RelV v u := by
  induction h with
  | nil => exact fun i => .inl ⟨rfl, rfl⟩
  | cons hv _ ih =>
    intro i
    cases i with
    | zero => exact .inr ⟨_, _, rfl, rfl, hv⟩
    | succ i => exact ih i
theorem vals_pick {vs : List V} {us : List Value} (h : Vals vs us) : ∀ idx : List Nat, Vals (pickL idx vs) (pickL idx us)
  | [] => .nil
  | i :: idx => by
    have ih := vals_pick h idx
    unfold pickL at ih ⊢
    rw [List.filterMap_cons, List.filterMap_cons]
    rcases vals_at h i with ⟨e1, e2⟩ | ⟨v, u, e1, e2, r⟩
    · rw [e1, e2]
      exact ih
    · rw [e1, e2]
      exact .cons r ih
theorem RqL.pick {vs : List V} {xs : List D} (h : RepL C G vs xs) : ∀ idx : List Nat, RepL C G (pickL idx vs) (pickL idx xs)
  | [] => .nil
  | i :: idx => by
    have ih := RqL.pick h idx
    unfold pickL at ih ⊢
    rw [List.filterMap_cons, List.filterMap_cons]
    cases e : xs[i]? with
    | none =>
      have : vs[i]? = none := by
        rw [List.getElem?_eq_none_iff] at e ⊢
        rw [h.len]
        exact e
      rw [this]
      exact ih
    | some x =>
      obtain ⟨v, hv, r⟩ := h.at' e
      rw [hv]
      exact .cons r ih
def gPick {α : Type} (idx : List Nat) (us ws : List α) : List α := pickL idx (us ++ ws)
end
/-! ### a def and its text -/
structure GOkS (P : Program) (w : World) (K : PySem.W.Frag) (mg : Str → Option Value) (base : Heap) (k : Nat) (x : Str) (st : Stmt) (ps : List Str) (sp : Sp) : Prop where
  ex : ∃ f fd, FnP K x x st f fd ∧ mg x = some (.ref f) ∧ FnOk P w K mg base (L2.CX P w) k f fd ps sp
/-- a def's results are its caller's own -/
def fnN (N : Nat) (ψ : Rho → Out Res) : List D → Out D := fun ds => (ψ (ds ++ List.replicate (N - ds.length) .non)).bind fun r => match r with
  | .rt d => .ok d
  | _ => .stuck
section
variable {P : Program} {w : World} {K : PySem.W.Frag} {mg : Str → Option Value} {base : Heap}
theorem GOkS.imp {k : Nat} {x : Str} {st : Stmt} {ps : List Str} {sp sp' : Sp} (g : GOkS P w K mg base k x st ps sp) (h : ∀ vs H Q E, sp' vs H Q E → sp vs H Q E) : GOkS P w K mg base k x st ps sp' := by
  obtain ⟨f, fd, a, b, d⟩ := g.ex
  exact ⟨f, fd, a, b, d.imp h⟩
theorem GOkS.ok {k : Nat} {x : Str} {st : Stmt} {ps : List Str} {sp : Sp} (g : GOkS P w K mg base k x st ps sp)
    (hb : ∀ (kV doc pm : Value) (an : Option Addr) (cdv ct : Value) (us : List Value), us.length = ps.length → bindArgs (PySem.W.fnOf x x (defArgs st) (defBody st) (defScope st) .none kV doc pm an cdv ct) ⟨us, []⟩ = pure (ps.zip us)) : GOk P w K mg base k x ps sp := by
  obtain ⟨f, fd, F, hm, d⟩ := g.ex
  exact ⟨f, fd, hm, F.kp, F.bindsN hb, d⟩
theorem GFun.simG {x : Str} {st : Stmt} {N ps : List Str} {k : Nat} {ψ : Rho → Out Res} (F : GFun K mg x st) (S : FnScope N ps (defScope st))
    (hb : ∀ (kV doc pm : Value) (an : Option Addr) (cdv ct : Value) (us : List Value), us.length = ps.length → bindArgs (PySem.W.fnOf x x (defArgs st) (defBody st) (defScope st) .none kV doc pm an cdv ct) ⟨us, []⟩ = pure (ps.zip us))
    {b : Bool} (hbody : ∀ (f : Addr) (cdv : Value) (A : Around) (outer : List Env) (s : Shared) (H : Hp) (E : XK) (C : Cfg K), A.guards = some [] → (b = true → C.lk = []) → Room k (A.deeper (envOfC x (defScope st) s.heap.objs.size f cdv)) →
      ∃ t, PSs (cxOf (L2.CX P w) P w K mg base N x (defScope st) f cdv A outer s H E) (defBody st) t ∧ ∃ Γn Γb Γc, SimS .fr C E (fr0 ps.length N.length) t ψ Γn Γb Γc) (hk : ps.length ≤ N.length := by decide) :
    GOkG P w K mg base (k + 1) x ps (spF K b ps.length (fnD N.length ψ)) := by
  refine GFun.okG (k := k) F S hb (fun vs H Q E h => ?_) (fun f cdv A outer s H vs Q E hg hr h => ?_)
  · obtain ⟨C, n, G, ds, _, _, r, hl, _⟩ := h
    rw [r.len]
    exact hl
  · obtain ⟨C, n, G, ds, hbk, wl, r, hl, q⟩ := h
    obtain ⟨t, ht, Γn, Γb, Γc, hS⟩ := hbody f cdv A outer s H E C hg hbk hr
    exact ⟨t, ht, body_sim (sp := spF K b ps.length (fnD N.length ψ)) hS hk wl r hl q⟩
end
section
end
end ND
/-! results of one's own at every depth -/
namespace ND
open PySem PySem.Spec PyProof.Rows L2
section
variable {K : PySem.W.Frag} {C : Cfg K} {E : XK} {Γ Γ' Γn Γb Γc : List Md} {n m : Nat} {G0 H0 G H G1 H1 : Hp} {σ : L2.St} {ρ : Rho} {Q : VK} {s : Sh} {i : Nat} {a : Option Addr} {v : V} {d : D} {as : List Addr}
/-- what is wanted behind an expression that makes a tree -/
def PT (C : Cfg K) (s : Sh) (G H : Hp) (Q : VK) : Nat → D → Prop := fun m d => ∀ v as G' H', Ws C G H m G' H' → Tr C H G' H' s as v d → s.isFz = false → Q v H'
def SimD (C : Cfg K) (E : XK) (Γ : List Md) (s : Sh) (t : TE) (φ : Rho → Out D) : Prop := ∀ H0 n G H σ ρ Q, Wl C n G H → Er C H0 Γ G H σ ρ → (φ ρ).wp n (PT C s G H Q) (PX C G H E) → t σ H Q
theorem Tr.base {H0' : Hp} (h : Tr C H0 G H s as v d) (hb : ∀ x ∈ as, H0 x = none → H0' x = none) : Tr C H0' G H s as v d :=
  h.gen (fun z => z) fun x hx o l => ⟨l.h, l.g, l.v, hb x hx l.n⟩
/-- a tree is frozen -/
theorem PT.of_PQ {d : D} (k : PQ C G H Q m d) : PT C s G H Q m d := fun v as G' H' s' t _ => by
  obtain ⟨G2, w2, _, r2, _⟩ := t.frz s'
  exact k v G2 H' w2 r2
theorem SimD.e {t : TE} {φ : Rho → Out D} (h : SimD C E Γ s t φ) : SimE C E Γ t φ := fun H0 n G H σ ρ Q w e q =>
  h H0 n G H σ ρ Q w e (Out.wp_mono (fun _ _ z => PT.of_PQ z) (fun _ _ _ z => z) q)
end
section
end
end ND
/-! repr of data, compared -/
namespace ND
open PySem PySem.Spec PyProof.Rows L2
def rpB (d : D) : Bool := D.pl 8 d && (d.py.showable && decide (d.py.shown.length ≤ 1000000))
def dRp (d : D) : Out Str := bif rpB d then .ok d.py.shown else .stuck
section
variable {K : PySem.W.Frag} {C : Cfg K} {E : XK} {Γ : List Md} {n m : Nat} {G H G1 H1 : Hp} {Q : VK}
/-- an expression that gives a text -/
def SimR (C : Cfg K) (E : XK) (Γ : List Md) (t : TE) (φ : Rho → Out Str) : Prop := ∀ H0 n G H σ ρ Q, Wl C n G H → Er C H0 Γ G H σ ρ → (φ ρ).wp n (fun m z => ∀ G' H', Ws C G H m G' H' → Q (.str z) H') (PX C G H E) → t σ H Q
def rRp (a : Rho → Out D) : Rho → Out Str := fun ρ => (a ρ).bind dRp
theorem sz_repr {ta : TE} {a : Rho → Out D} (ha : SimV C E Γ ta a) : SimR C E Γ (tCB (rRepr K) (tCons ta tNil)) (rRp a) := fun H0 n G H σ ρ Q w e q => by
  refine ha H0 n G H σ ρ _ w e (Out.wp_mono (fun m d k v G1 H1 s1 r1 => ?_) (fun _ _ _ z => z) (Out.wp_bind q))
  unfold dRp at k
  cases hp : rpB d with
  | false => rw [hp] at k; exact k.elim
  | true =>
    rw [hp] at k
    unfold rpB at hp
    rw [Bool.and_eq_true, Bool.and_eq_true] at hp
    obtain ⟨h1, h2, h3⟩ := hp
    obtain ⟨a1, a2, a3⟩ := r1.dp s1.w.sub h1
    have h4 := of_decide_eq_true h3
    exact ⟨v, d.py, rfl, .dat a1 (PyData.hasDict_of_canLay _ a2), h2, by omega, by rw [sizeLine_eq]; omega, k G1 H1 s1⟩
def eZEq (a b : Rho → Out Str) : Rho → Out D := fun ρ => (a ρ).bind fun x => (b ρ).bind fun y => .ok (.bl (decide (x = y)))
theorem dec_str (x y : Str) : decide (V.str x = V.str y) = decide (x = y) := by
  by_cases h : x = y
  · rw [decide_eq_true h, decide_eq_true (congrArg V.str h)]
  · rw [decide_eq_false h, decide_eq_false (fun z => h (by cases z; rfl))]
theorem sm_zeq {ta tb : TE} {a b : Rho → Out Str} (ha : SimR C E Γ ta a) (hb : SimR C E Γ tb b) : SimE C E Γ (tOp rEq ta tb) (eZEq a b) := fun H0 n G H σ ρ Q w e q => by
  refine ha H0 n G H σ ρ _ w e (Out.wp_mono (fun m x k G1 H1 s1 => ?_) (fun _ _ _ z => z) (Out.wp_bind q))
  refine hb H0 m G1 H1 σ ρ _ s1.w (e.step s1) (Out.wp_mono (fun m2 y k2 G2 H2 s2 => ?_) (fun _ _ _ z => PX.back s1 z) (Out.wp_bind k))
  refine ⟨rfl, ?_⟩
  rw [dec_str]
  exact k2 _ G2 H2 (s1.trans s2) (.bl _)
end
section
variable {X : Cx} {K : PySem.W.Frag}
theorem call_repr' (hg : X.A.guards = some []) {k : Nat} (hr : Room k X.A) : CallR X (.builtin "repr") (rRepr X.K) := call_repr rfl hg (u80 hr)
end
/-! ### small data can be shown -/
structure Shw (k b : Nat) (d : D) : Prop where
  pl : D.pl k d = true
  sh : d.py.showable = true
  ls : d.py.leavesShort 40 = true
  bk : d.py.bulk ≤ b
theorem pl_up : ∀ {k : Nat} {d : D}, D.pl k d = true → D.pl (k + 1) d = true
  | _, .non, _ => rfl
  | _, .bl _, _ => rfl
  | _, .int _, _ => rfl
  | _, .str _, _ => rfl
  | k + 1, .lst xs, h => by
    have h' : xs.all (D.pl k) = true := h
    show xs.all (D.pl (k + 1)) = true
    rw [List.all_eq_true] at h' ⊢
    exact fun x hx => pl_up (h' x hx)
  | k + 1, .tup xs, h => by
    have h' : xs.all (D.pl k) = true := h
    show xs.all (D.pl (k + 1)) = true
    rw [List.all_eq_true] at h' ⊢
    exact fun x hx => pl_up (h' x hx)
  | 0, .lst _, h => by simp [D.pl] at h
  | 0, .tup _, h => by simp [D.pl] at h
  | 0, .dct _, h => by simp [D.pl] at h
  | 0, .ins _ _, h => by simp [D.pl] at h
  | 0, .exc _ _, h => by simp [D.pl] at h
  | 0, .drw, h => by simp [D.pl] at h
  | k + 1, .dct _, h => by simp [D.pl] at h
  | k + 1, .ins _ _, h => by simp [D.pl] at h
  | k + 1, .exc _ _, h => by simp [D.pl] at h
  | k + 1, .drw, h => by simp [D.pl] at h
theorem pl_le {k j : Nat} {d : D} (h : D.pl k d = true) (hj : k ≤ j) : D.pl j d = true := by
  induction hj with
  | refl => exact h
  | step _ ih => exact pl_up ih
theorem Shw.mono {k b k' b' : Nat} {d : D} (h : Shw k b d) (hk : k ≤ k') (hb : b ≤ b') : Shw k' b' d := ⟨pl_le h.pl hk, h.sh, h.ls, Nat.le_trans h.bk hb⟩
theorem shw_non {k b : Nat} : Shw k b .non := ⟨by cases k <;> rfl, rfl, rfl, Nat.zero_le _⟩
theorem shw_int {k b : Nat} {i : Int} (h : i.natAbs < 10 ^ 30) : Shw k b (.int i) := by
  refine ⟨by cases k <;> rfl, ?_, ?_, Nat.zero_le _⟩
  · show decide (i.natAbs.log2 < 1920) = true
    refine decide_eq_true ?_
    by_cases h0 : i.natAbs = 0
    · rw [h0]; decide
    · refine Nat.lt_of_lt_of_le ((Nat.log2_lt h0).mpr (Nat.lt_of_lt_of_le h (show 10 ^ 30 ≤ 2 ^ 200 by decide))) (by decide)
  · show decide ((PyData.shown (.int i)).length ≤ 40) = true
    refine decide_eq_true ?_
    have e := int_text_length_le10 (k := 30) (by decide) h
    have e2 : (PyData.shown (.int i)).length = (Str.ofString (toString i)).length := by simp only [PyData.shown]
    have e3 : (Str.ofString (toString i)).length = (toString i).length := PySem.ofString_length _
    omega
theorem shw_str {k b : Nat} {z : Str} (h : SOk z) (hl : z.length ≤ b) : Shw k b (.str z) := by
  refine ⟨by cases k <;> rfl, rfl, ?_, hl⟩
  have h0 : z.cps.all (· < 0x110000) = true := h.2
  show (z.cps.toList.all fun c => decide (c < 16 ^ 8)) = true
  rw [List.all_eq_true]
  intro c hc
  have := (Array.all_eq_true_iff_forall_mem.mp h0) c (Array.mem_toList_iff.mp hc)
  have h1 : c < 0x110000 := by simpa using this
  exact decide_eq_true (by have : (16 : Nat) ^ 8 = 4294967296 := by decide
                           omega)
theorem shwAll {k b : Nat} : ∀ {xs : List D}, (∀ x ∈ xs, Shw k b x) → xs.all (D.pl k) = true ∧ PyData.showableAll (D.py.pyL xs) = true ∧ PyData.leavesShortAll 40 (D.py.pyL xs) = true ∧ PyData.bulkAll (D.py.pyL xs) ≤ xs.length * (b + 1)
  | [], _ => ⟨rfl, rfl, rfl, by simp [D.py.pyL, PyData.bulkAll]⟩
  | x :: xs, h => by
    have h1 := h x List.mem_cons_self
    obtain ⟨a, b', c, d⟩ := shwAll fun y hy => h y (List.mem_cons_of_mem _ hy)
    refine ⟨by rw [List.all_cons, h1.pl, a]; rfl, ?_, ?_, ?_⟩
    · simp only [D.py.pyL, PyData.showableAll, h1.sh, b', Bool.and_self]
    · simp only [D.py.pyL, PyData.leavesShortAll, h1.ls, c, Bool.and_self]
    · have := h1.bk
      simp only [D.py.pyL, PyData.bulkAll, List.length_cons, Nat.succ_mul]
      omega
theorem shw_lst {k b m c : Nat} {xs : List D} (h : ∀ x ∈ xs, Shw k b x) (hl : xs.length ≤ m) (hc : m * (b + 1) ≤ c) : Shw (k + 1) c (.lst xs) := by
  obtain ⟨a1, a2, a3, a4⟩ := shwAll h
  have := Nat.mul_le_mul_right (b + 1) hl
  exact ⟨a1, by simp only [D.py, PyData.showable]; exact a2, by simp only [D.py, PyData.leavesShort]; exact a3, by simp only [D.py, PyData.bulk]; omega⟩
theorem shw_tup {k b m c : Nat} {xs : List D} (h : ∀ x ∈ xs, Shw k b x) (hl : xs.length ≤ m) (hc : m * (b + 1) ≤ c) : Shw (k + 1) c (.tup xs) := by
  obtain ⟨a1, a2, a3, a4⟩ := shwAll h
  have := Nat.mul_le_mul_right (b + 1) hl
  exact ⟨a1, by simp only [D.py, PyData.showable]; exact a2, by simp only [D.py, PyData.leavesShort]; exact a3, by simp only [D.py, PyData.bulk]; omega⟩
theorem rp_of {k b : Nat} {d : D} (h : Shw k b d) (hk : k ≤ 8) (hb : b ≤ 20000) : rpB d = true := by
  have := PyData.shown_le_bulk 40 (by decide) d.py h.ls
  have := h.bk
  unfold rpB
  rw [pl_le h.pl hk, h.sh, decide_eq_true (by omega)]
  rfl
theorem dRp_of {k b : Nat} {d : D} (h : Shw k b d) (hk : k ≤ 8) (hb : b ≤ 20000) : dRp d = .ok d.py.shown := by
  unfold dRp
  rw [rp_of h hk hb]
  rfl
end ND
/-! the end of a law, with tables -/
namespace ND
open PySem PySem.W PySem.Spec PySem.Calls PyProof.Rows L2 He
section
variable {q : Ask} {K0 K : Frag} {mg : Str → Option Value} {h base : Heap} {prog : Program}
theorem Told.gfun (c : Told q K0 K) (i : Nat) {x : Str} {st : Stmt} (e : q.fn[i]? = some ⟨.g x, x, x, st, 0⟩) (hm : mg x = some (.ref (ga K x))) : GFun K mg x st := by
  obtain ⟨s, k⟩ := c.seen i e
  obtain ⟨fd, F⟩ := DefT.funD s k
  exact ⟨⟨_, fd, F, hm⟩⟩
theorem Told.ifun (c : Told q K0 K) (i : Nat) {x qn : Str} {st : Stmt} {n : Nat} (e : q.fn[i]? = some ⟨.m x "__init__", "__init__", qn, st, n⟩) (hm : Mk K (ga K x) (ma K (ga K x) "__init__")) : IFun K (ga K x) qn st (List.replicate n .non) := by
  obtain ⟨s, k⟩ := c.seen i e
  obtain ⟨fd, F⟩ := DefT.funD s k
  exact ⟨⟨_, fd, F, hm⟩⟩
theorem Told.mfun (c : Told q K0 K) (i : Nat) {x m qn : Str} {st : Stmt} (e : q.fn[i]? = some ⟨.m x m, m, qn, st, 0⟩) (hm : Meth K (ga K x) m (ma K (ga K x) m)) : MFun K (ga K x) m qn st := by
  obtain ⟨s, k⟩ := c.seen i e
  obtain ⟨fd, F⟩ := DefT.funD s k
  exact ⟨⟨_, fd, F, hm⟩⟩
theorem Told.pfun (c : Told q K0 K) (i : Nat) {x m qn : Str} {st : Stmt} (e : q.fn[i]? = some ⟨.p x m, m, qn, st, 0⟩) (hm : PropOf K (ga K x) m (ma K (ga K x) m) ((At.p x m).ad K)) : PFun K (ga K x) m qn st := by
  obtain ⟨s, k⟩ := c.seen i e
  obtain ⟨fd, F⟩ := DefT.funD s k
  exact ⟨⟨_, _, fd, F, hm⟩⟩
theorem hasG_of {x : Str} (e : nsIn K mainGlobals x = some (some (.ref (ga K x)))) : hasG K x = true := by
  unfold hasG
  rw [e]
theorem mem_tbs {x : Str} (hx : x ∈ makers) (e : nsIn K mainGlobals x = some (some (.ref (ga K x)))) : (tabOf K x, x ++ ".<locals>." ++ "<lambda>") ∈ tbsOf K := List.mem_map.mpr ⟨x, List.mem_filter.mpr ⟨hx, hasG_of e⟩, rfl⟩
def csOf (K : Frag) : List (Addr × Addr) := (makersK K).map fun x => (codeOf K x, tabOf K x)
theorem Told.lfun (c : Told q K0 K) (i : Nat) {x : Str} {st : Stmt} (e : q.fn[i]? = some ⟨.g x, x, x, st, 0⟩) (hm : mg x = some (.ref (ga K x))) (hx : x ∈ makers) (hg : nsIn K mainGlobals x = some (some (.ref (ga K x)))) (nd : ((tbsOf K).map (·.1)).Nodup)
    (tb : ∀ p ∈ csOf K, LamX.TabB base mg p.1 p.2) : LFun K mg base x st := by
  obtain ⟨s, k⟩ := c.seen i e
  obtain ⟨oc, od, dV, kV, doc, pm, an, cdv, ct, osl, lk, c1, c2, c3, kp⟩ := DefT.is s k
  have hc : cdv = .ref (codeOf K x) := by
    have lk' : K.lookup (ga K x) = _ := lk
    unfold codeOf
    rw [lk']
    cases cdv with
    | ref b => rfl
    | _ => cases c1
  subst hc
  exact ⟨⟨oc, od, dV, kV, doc, pm, an, ct, osl, lk, c2, c3⟩, c1, kp, hm, tb _ (List.mem_map.mpr ⟨x, List.mem_filter.mpr ⟨hx, hasG_of hg⟩, rfl⟩), mem_tbs hx hg, nd⟩
/-- what the tables are, at the head's heap -/
structure Heads (K0 K : Frag) (h : Heap) : Prop where
  t : ∀ p ∈ csOf K, h.get? p.2 = some { cls := .none, data := .fields #[] }
  n : ∀ p ∈ csOf K, K.lookup p.2 = none
  c : ∀ p ∈ csOf K, CodeHd h p.1 p.2
theorem heads_of (X0 : K0.In h) (X : K.In h) (c : tabsB K0 K = true) : Heads K0 K h := by
  have key : ∀ p ∈ csOf K, hdB K p.1 p.2 = true ∧ (∃ o, K0.lookup p.2 = some o ∧ tabObjB o = true) ∧ K.lookup p.2 = none := fun p hp => by
    obtain ⟨x, hx, rfl⟩ := List.mem_map.mp hp
    obtain ⟨h1, z⟩ := ba (List.all_eq_true.mp c x hx)
    obtain ⟨h2, h3⟩ := ba z
    refine ⟨h1, ?_, Option.isNone_iff_eq_none.mp h3⟩
    split at h2
    · rename_i o e
      exact ⟨o, e, h2⟩
    · cases h2
  refine ⟨fun p hp => ?_, fun p hp => (key p hp).2.2, fun p hp => hdB_ok X (key p hp).1⟩
  obtain ⟨o, e, ho⟩ := (key p hp).2.1
  rw [X0 _ _ e, tabObjB_ok ho]
end
theorem tabs_nil {K : Frag} {H : Hp} (h : ∀ p ∈ csOf K, H p.2 = some (.tbl #[])) : LamX.Tabs (tbsOf K) H := fun p hp => by
  obtain ⟨x, hx, rfl⟩ := List.mem_map.mp hp
  exact LamX.TabS.nil (h (codeOf K x, tabOf K x) (List.mem_map.mpr ⟨x, hx, rfl⟩))
end ND
/-! the end of a law that asks for repr and makes lambdas -/
namespace ND
open PySem PySem.Spec PyProof.Rows L2
theorem law_GT {P : Program} {w : World} {K : PySem.W.Frag} {mg mb : Str → Option Value} {k : Nat} {fa a : Addr} {cs : List (Addr × Addr)} {fd : FuncData} {x : Str} {sp : Sp} {s1 : Shared} {vs : List Value} {ns : List Int}
    (KX : K.In s1.heap) (hns : s1.heap.Ns mainGlobals mg) (hb : s1.heap.Ns builtinsNs mb) (hbb : ∀ y : Str, y ≠ "__name__" → mb y = bootBuiltins y) (hlim : s1.heap.NoLimit) (hg : s1.gens = #[])
    (tT : ∀ p ∈ cs, s1.heap.get? p.2 = some { cls := .none, data := .fields #[] }) (tN : ∀ p ∈ cs, K.lookup p.2 = none) (tC : ∀ p ∈ cs, PySem.W.CodeHd s1.heap p.1 p.2)
    (bm : ∃ (m : Addr) (ob : Obj), mg "__builtins__" = some (.ref m) ∧ m ≠ builtinsNs ∧ s1.heap.get? m = some ob ∧ ob.cls = .type "module" ∧ ob.dict = some builtinsNs ∧ ob.data = .plain)
    (ha : s1.heap.get? a = some { cls := .type "list", data := .seq vs.toArray }) (hi : IntsAre vs ns) (hl : ns.length ≤ sizeLine) (hr : Room k callerA)
    (F : ∀ base : Heap, K.In base → base.Ns mainGlobals mg → (∀ p ∈ cs, LamX.TabB base mg p.1 p.2) → FnG P w K mg base k fa fd [x] sp) (hbind : ∀ (s : Shared) (u : Value), BindsTo s fd ⟨[u], []⟩ [(x, u)])
    (hsp : ∀ H : Hp, (∀ p ∈ cs, H p.2 = some (.tbl #[])) → SqL K H a (ns.map V.int) → sp [.ref a] H (fun v _ => v = .bl true) fun _ _ _ => False) :
    codeAny (model P w) callerA (.call (.ref fa) ⟨[.ref a], []⟩) (fun r s' => r = .ok (.ret (.bool true)) ∧ OldK s1.heap s'.heap ∧ s'.os = s1.os ∧ AllBare s'.gens) s1 := by
  have rv := vals_ints hi
  have tabH : ∀ b, b ∈ cs.map (·.2) → s1.heap.get? b = some { cls := .none, data := .fields #[] } := fun b h => by
    obtain ⟨p, hp, rfl⟩ := List.mem_map.mp h
    exact tT p hp
  have naT : a ∉ cs.map (·.2) := fun z => by
    have e := tabH a z
    rw [ha] at e
    cases e
  obtain ⟨Hs, hHs⟩ : ∃ Hs : Hp, Hs = fun b => if b = a ∧ K.lookup a = none then some (.frz { cls := .type "list", data := .seq vs.toArray } (.lst (ns.map V.int))) else if b ∈ cs.map (·.2) then some (.tbl #[]) else none := ⟨_, rfl⟩
  have off : ∀ b, Hs b = none ∨ (b = a ∧ K.lookup a = none ∧ Hs b = some (.frz { cls := .type "list", data := .seq vs.toArray } (.lst (ns.map V.int)))) ∨ (b ∈ cs.map (·.2) ∧ Hs b = some (.tbl #[])) := fun b => by
    rw [hHs]
    by_cases c : b = a ∧ K.lookup a = none
    · exact .inr (.inl ⟨c.1, c.2, if_pos c⟩)
    · by_cases c2 : b ∈ cs.map (·.2)
      · exact .inr (.inr ⟨c2, (if_neg c).trans (if_pos c2)⟩)
      · exact .inl ((if_neg c).trans (if_neg c2))
  have tabs : ∀ p ∈ cs, Hs p.2 = some (.tbl #[]) := fun p hp => by
    have m : p.2 ∈ cs.map (·.2) := List.mem_map.mpr ⟨p, hp, rfl⟩
    rw [hHs]
    exact (if_neg fun (z : p.2 = a ∧ K.lookup a = none) => naT (z.1 ▸ m)).trans (if_pos m)
  have hok : HOk P w Hs s1.heap := fun b u q => by
    rcases off b with z | ⟨e, _, z⟩ | ⟨m, z⟩
    · rw [z] at q; cases q
    · rw [z] at q
      cases q
      subst e
      exact ⟨ha, by rw [List.length_map]; exact hl, vs, _, rv, ha⟩
    · rw [z] at q
      cases q
      exact tabH b m
  have sq : SqL K Hs a (ns.map V.int) := by
    cases hk : K.lookup a with
    | none => exact .inl (.inr ⟨_, by rw [hHs]; exact if_pos ⟨rfl, hk⟩⟩)
    | some o =>
      have e := KX a o hk
      rw [ha] at e
      cases e
      exact .inr ⟨_, vs.toArray, _, hk, rfl, rfl, rfl, by rw [List.size_toArray, hi.length]; exact hl, by simpa using rv⟩
  have inK : K.In (hidT s1.heap Hs) := fun b o e => hidT_get (KX b o e) (by
    rcases off b with z | ⟨eb, z, _⟩ | ⟨m, _⟩
    · exact z
    · rw [eb, z] at e; cases e
    · obtain ⟨p, hp, rfl⟩ := List.mem_map.mp m
      rw [tN p hp] at e; cases e)
  have stay : ∀ {b : Addr} {o : Obj}, s1.heap.get? b = some o → (∀ us n, o.data ≠ .seq us n) → o.data ≠ .fields #[] → (hidT s1.heap Hs).get? b = some o := fun {b o} e h1 h2 => hidT_get e (by
    rcases off b with z | ⟨eb, _, _⟩ | ⟨m, _⟩
    · exact z
    · rw [eb, ha] at e
      cases e
      exact (h1 _ _ rfl).elim
    · rw [tabH b m] at e
      cases e
      exact (h2 rfl).elim)
  have nsB : ∀ {b : Addr} {m : Str → Option Value}, s1.heap.Ns b m → (hidT s1.heap Hs).Ns b m := fun {b m} n => by
    obtain ⟨o, es, ep, e, d, r⟩ := n
    exact ⟨o, es, ep, stay e (fun us n z => by rw [d] at z; cases z) (fun z => by rw [d] at z; cases z), d, r⟩
  have md : Mod K mg (hidT s1.heap Hs) := by
    obtain ⟨mc, h1, h2⟩ := hlim
    exact ⟨inK, nsB hns, ⟨mb, nsB hb, hbb⟩, mc, nsB h1, h2⟩
  have TB : ∀ p ∈ cs, LamX.TabB (hidT s1.heap Hs) mg p.1 p.2 := fun p hp => by
    refine ⟨?_, ?_, ?_⟩
    · obtain ⟨o, us, fl, tf, fg, tg, inF, tx, tt, e1, r1, r2, r3, r4, r5, r6, r7, r8, hne⟩ := tC p hp
      refine ⟨o, us, fl, tf, fg, tg, inF, tx, tt, stay e1 (fun us n z => by rw [r2] at z; cases z) (fun z => ?_), r1, r2, r3, r4, r5, r6, r7, r8, hne⟩
      rw [r2] at z
      cases z
      simp at r3
    · obtain ⟨m, ob, b1, b2, b3, b4, b5, b6⟩ := bm
      refine ⟨m, ob, b1, b2, fun q => ?_, fun q => ?_, stay b3 (fun us n z => by rw [b6] at z; cases z) (fun z => by rw [b6] at z; cases z), b4, b5, b6⟩
      · obtain ⟨o, es, ep, e, d, _⟩ := hns
        rw [q, e] at b3
        cases b3
        rw [d] at b6
        cases b6
      · rw [q, tT p hp] at b3
        cases b3
        cases b6
    · intro z
      obtain ⟨o, es, ep, e, d, _⟩ := hns
      rw [z, tT p hp] at e
      cases e
      cases d
  have e0 : Env0 P w K mg (hidT s1.heap Hs) callerA [] s1 Hs := {
    frames := rfl
    mod := md
    bs := fun b o e => of_hidT e
    bsz := Nat.le_of_eq (hidT_size _ _)
    funs := trivial
    frf := fun b q => nomatch (show b ∈ ([] : List Addr) from q)
    hok := hok
    bare := .of_eq hg }
  refine codeAny_mono ((F _ inK (nsB hns) TB).run callerA [] s1 Hs ⟨[.ref a], []⟩ [.ref a] [.ref a] _ _ rfl hr e0 (hbind s1 (.ref a)) (.cons rfl .nil) (hsp Hs tabs sq)) fun r s' h => ?_
  match r, h with
  | .error e, h =>
    obtain ⟨_, _, _, _, _, _, _, _, _, _, _, _, z⟩ := h
    exact z.elim
  | .ok .next, h => exact h.elim
  | .ok .brk, h => exact h.elim
  | .ok .cont, h => exact h.elim
  | .ok (.ret u), ⟨v, H', os, bare, un, hok', r', q⟩ =>
    have q' : v = .bl true := q
    subst q'
    obtain rfl : u = Value.bool true := r'
    have same : ∀ b o, b ∉ cs.map (·.2) → s1.heap.get? b = some o → s'.heap.get? b = some o := fun b o nb e => by
      rcases off b with z | ⟨eb, _, z⟩ | ⟨m, _⟩
      · exact un.keep b o e z (fun y => nomatch (show b ∈ ([] : List Addr) from y)) (fun y => nomatch y)
      · have z2 := un.frzs b _ _ z
        obtain ⟨e1, _⟩ := hok b _ z
        obtain ⟨e2, _⟩ := hok' b _ z2
        rw [e] at e1
        cases e1
        exact e2
      · exact absurd m nb
    have more : ∀ p ∈ cs, ∃ ys : Array Value, s'.heap.get? p.2 = some { cls := .none, data := .fields ys } := fun p hp => by
      obtain ⟨ys, z⟩ := un.tbls p.2 #[] (tabs p hp)
      exact ⟨_, hok' p.2 _ z⟩
    refine ⟨rfl, ⟨fun b o e => ?_, fun b o e => ?_⟩, os, bare⟩
    · by_cases c : b ∈ cs.map (·.2)
      · obtain ⟨p, hp, rfl⟩ := List.mem_map.mp c
        obtain ⟨ys, hy⟩ := more p hp
        rw [tT p hp] at e
        cases e
        exact .inr (.inl ⟨((tC p hp).tab (tT p hp)).isCodeTable, rfl, #[], ys, rfl, by rw [Array.empty_append]; exact hy⟩)
      · exact .inl (same b o c e)
    · by_cases c : b ∈ cs.map (·.2)
      · obtain ⟨p, hp, rfl⟩ := List.mem_map.mp c
        obtain ⟨ys, hy⟩ := more p hp
        exact ⟨_, hy⟩
      · exact ⟨o, same b o c e⟩
theorem walk_TG {l : PySem.W.OpenLaw} {n k : Nat} {q : Program} {loose : List Str} {XP : (Str → Option Value) → Heap → Prop} {YP : World → Heap → Prop} {d : DefRec} {x : Str}
    (hn : l.most = some n) (hn2 : n ≤ sizeLine) (hdf : d.params.defaults = []) (hr : Room k callerA)
    (F : ∀ (w : World) (mg : Str → Option Value) (fa : Addr) (h : Heap), YP w h → h.Ns mainGlobals mg → mg d.name = some (.ref fa) →
      ∃ (K0 K : PySem.W.Frag) (fd : FuncData) (sp : Sp), K.In h ∧ Heads K0 K h ∧ (∀ (s : Shared) (u : Value), BindsTo s fd ⟨[u], []⟩ [(x, u)]) ∧
        (∀ (H : Hp) (a : Addr) (ns : List Int), ns.length ≤ n → (∀ p ∈ csOf K, H p.2 = some (.tbl #[])) → SqL K H a (ns.map V.int) → sp [.ref a] H (fun v _ => v = .bl true) fun _ _ _ => False) ∧
        ∀ base : Heap, K.In base → base.Ns mainGlobals mg → (∀ p ∈ csOf K, LamX.TabB base mg p.1 p.2) → FnG l.prog w K mg base k fa fd [x] sp) :
    PySem.W.WalkO q loose XP YP l.row.toRowW d [] (fun f vs => PySem.call f vs) := by
  refine Att.attach_callB hn hdf fun w s0 s1 mg mb fa o pm cd doc a vs ns G Y ho hd hcd hmg hobj hints hlen hbits hg => ?_
  obtain ⟨K0, K, fd, sp, KX, HD, hb, hsp, hF⟩ := F w mg fa _ Y G.T.g hmg
  exact law_GT KX G.T.g G.T.b G.T.builtins G.T.nolimit hg HD.t HD.n HD.c G.T.bmain hobj hints (Nat.le_trans hlen hn2) hr hF hb fun H hH hS => hsp H a ns hlen hH hS
end ND
/-! enumerate(t) of a tuple -/
namespace ND
open PySem PySem.Spec PyProof.Rows L2
open PySem.AutoSeq1 (wpAny_loadPart')
section
end
end ND
/-! dict(zip(s, t)) of a list or a tuple, and a list or a tuple -/
namespace ND
open PySem PySem.Spec PyProof.Rows L2
section
end
end ND
/-! dict(zip(s, t)): the rule, for lists and tuples -/
namespace ND
open PySem PySem.Spec PyProof.Rows L2
section
end
end ND
/-! walks by enumerate and zip over tuples; t.index; t[::-1]; texts in order -/
namespace ND
open PySem PySem.Spec PyProof.Rows L2 RZ
section
/-! ### names.index(x) -/
/-! ### t[::-1] -/
/-! ### texts in order -/
end
end ND
/-! sorted(t) of a tuple -/
namespace ND
open PySem PySem.Spec PyProof.Rows L2
section
variable {prog : Program} {w : World} {A : Around} {E : Value → Shared → Prop} {s : Shared}
theorem collectT {l : Addr} {vs : List Value} {Q : List Value → Shared → Prop} (hl : s.heap.IsTuple l vs.toArray) (hsz : vs.length ≤ sizeLine)
    (h : Q vs { s with heap := (s.heap.push (seqObj "list" #[] 0)).update s.heap.objs.size (Obj.mapSeq (· ++ vs.toArray)) }) : wpAny (model prog w) A (collect (.ref l)) Q E s := by
  obtain ⟨o, ho, hc, n, hd⟩ := id hl
  unfold collect
  refine wpAny_bind (wpAny_runValue (codeAny_builtin entry_proto_collect' ?_))
  show wpAny _ _ (do again (.builtin "list.__iadd__" ⟨[← newList [], .ref l], []⟩)) _ _ s
  refine wpAny_bind (wpAny_newList (wpAny_pure ⟨Code.quiet_builtin _ (by decide +kernel), codeAny_builtin entry_list_iadd' ?_⟩))
  show wpAny _ _ (Builtin.List.listExtendWith (.ref s.heap.objs.size) (.ref l) (.ref s.heap.objs.size)) _ _ { s with heap := s.heap.push (seqObj "list" #[] 0) }
  unfold Builtin.List.listExtendWith
  have up : (s.heap.push (seqObj "list" #[] 0)).get? l = some o := Heap.get?_push_of_some _ ho
  refine wpAny_bind (wpAny_typeOf (T := "tuple") ⟨o, up, hc⟩ ?_)
  have ht : (Value.type "tuple" == Value.type "tuple") = true := by rfl
  rw [if_pos (by rw [ht]; simp)]
  refine wpAny_bind (listItems_at up hd ?_)
  refine wpAny_bind (listItems_at (xs := #[]) (n := 0) (Heap.get?_push_size _ rfl) rfl ?_)
  rw [if_neg (by simp)]
  refine wpAny_bind (listUpdate_at (xs := #[]) (n := 0) (Heap.get?_push_size _ rfl) rfl ?_ (Nat.zero_le _) (by show (#[] ++ vs.toArray).size ≤ sizeLine + 1; simp only [Array.size_append, List.size_toArray, List.length_nil]; omega))
  refine wpAny_pure ?_
  show wpAny (model prog w) A (do
      let o ← load s.heap.objs.size
      match o.data with
      | .seq xs _ => pure xs.toList
      | _ => unsupported "internal:collect") Q E { s with heap := (s.heap.push (seqObj "list" #[] 0)).update s.heap.objs.size (Obj.mapSeq (· ++ vs.toArray)) }
  refine wpAny_bind (wpAny_load (get?_update_seq (Heap.get?_push_size _ rfl) _) ?_)
  have e : ((#[] : Array Value) ++ vs.toArray).toList = vs := by simp
  show wpAny _ _ (pure ((#[] : Array Value) ++ vs.toArray).toList) Q E _
  rw [e]
  exact wpAny_pure h
open PySem.W in
theorem sortedT_vals {κ : PyProof.Rows.KeyKind} {l : Addr} {vs : List Value} {Q : Value → Shared → Prop} (hl : s.heap.IsTuple l vs.toArray) (S : SortsAt prog w A.in1.in1 { s with heap := sortingHeap (copyHeap s.heap vs) (s.heap.objs.size + 1) vs } κ vs) (hL : vs.length ≤ sizeLine)
    (h : Q (.ref (s.heap.objs.size + 1)) { s with heap := sortedAll s.heap vs (sortVals κ false vs vs).toArray }) : wpAny (model prog w) A (call (.builtin "sorted") [.ref l]) Q E s := by
  refine call_function_entry_kw kind_sorted plain_sorted entry_sorted (args_sorted1 _) ?_
  unfold Builtin.«sorted»
  refine wpAny_bind (m := checkCount "sorted" 1 1 _) (wpAny_pure ?_)
  refine wpAny_bind (collectT hl hL ?_)
  refine wpAny_bind (wpAny_newList ?_ hL)
  have hsz : ((s.heap.push (seqObj "list" #[] 0)).update s.heap.objs.size (Obj.mapSeq (· ++ vs.toArray))).objs.size = s.heap.objs.size + 1 := by
    rw [Heap.size_update, size_push']
  show wpAny _ _ _ _ _ { s with heap := copyHeap s.heap vs }
  rw [hsz]
  refine wpAny_bind (wpAny_holding (wpAny_call_entry_kw slot_list_sort ⟨_, copyHeap_at s.heap vs, rfl⟩ entry_list_sort ?body (args_list_sort _)))
  case body =>
    show wpAny (model prog w) A.in1.in1 (Builtin.«list.sort» ⟨[.ref (s.heap.objs.size + 1)], []⟩) _ _ _
    refine wpAny_mono (list_sort_vals (P := fun f s' => f = .done (.ret .none) ∧ Q (.ref (s.heap.objs.size + 1)) s') (s := { s with heap := copyHeap s.heap vs }) (copyHeap_at s.heap vs) S hL ⟨rfl, h⟩) (fun f s' hf => ?_) fun _ _ e => e
    obtain ⟨rfl, hq⟩ := hf
    exact ⟨_, rfl, wpAny_pure ⟨_, rfl, hq⟩⟩
open PySem.W in
theorem sortedT_data {β : Type} {vs : List Value} {bs : List β} {enc : β → PyData} {R : Value → β → Prop} {l : Addr} {Q : Value → Shared → Prop} (hl : s.heap.IsTuple l vs.toArray) (e : EachIs R vs bs) (er : EachIs (fun v b => ∃ as, Reads s.heap v (enc b) as) vs bs) (hal : AllAlike (bs.map enc)) (hk : Sortable (bs.map enc)) (hL : bs.length ≤ sizeLine)
    (hu : ∀ b, b ∈ bs → A.units + 2 + (enc b).depth < cLine) (h : ∀ out, out.length = bs.length → EachIs R out (bs.mergeSort (dataLe false enc)) → Q (.ref (s.heap.objs.size + 1)) { s with heap := sortedAll s.heap vs (List.toArray out) }) :
    wpAny (model prog w) A (call (.builtin "sorted") [.ref l]) Q E s := by
  have er2 : EachIs (fun v b => ∃ as, Reads (sortingHeap (copyHeap s.heap vs) (s.heap.objs.size + 1) vs) v (enc b) as) vs bs := er.mono fun _ _ z => z.elim fun as r => ⟨as, PyProof.Rows.Reads.keeps (fun _ _ => sorting_copy_old) r⟩
  have er3 := each_map (R := fun v d => ∃ as, Reads (sortingHeap (copyHeap s.heap vs) (s.heap.objs.size + 1) vs) v d as) enc er2
  exact sortedT_vals hl (SortsAt.data (s := { s with heap := sortingHeap (copyHeap s.heap vs) (s.heap.objs.size + 1) vs }) er3 hal hk (bound_map hu)) (by rw [e.length]; exact hL) (h _ ((sortVals_length false rfl).trans e.length) (sortVals_data false e er2 hal))
end
section
variable {X : Cx}
def rSortT (K : PySem.W.Frag) : List V → Hp → VK → Prop := fun vs H Q => ∃ (a : Addr) (bs : List (V × PyData)), vs = [.ref a] ∧ SqT K H a (bs.map (·.1)) ∧ (∀ b ∈ bs, Dp K H b.1 b.2) ∧ PySem.W.AllAlike (bs.map (·.2)) ∧ PySem.W.Sortable (bs.map (·.2)) ∧
  (∀ b ∈ bs, b.2.depth ≤ 50) ∧ ∀ p, H p = none → Q (.ref p) (upd H p (.lst ((srt bs).map (·.1))))
theorem cr_sortT (hu : X.A.units + 80 < cLine) : CallR X (.builtin "sorted") (rSortT X.K) := by
  intro pins s σ H vs us Q I r h
  obtain ⟨a, bs, rfl, hs, hd, hal, hk, hdp, q⟩ := h
  obtain ⟨its, rv, hl, hz⟩ := I.tuple hs
  rw [Vals.ref1 r]
  have hz' : bs.length ≤ sizeLine := by rw [List.length_map] at hz; exact hz
  refine sortedT_data (enc := fun b : V × PyData => b.2) (R := fun (u : Value) (b : V × PyData) => RelV b.1 u) hl (each_vals rv) (each_reads I rv hd) hal hk hz' (fun b hb => ?_) (fun out hlen hout => ?_)
  · have := hdp b hb
    show X.A.units + 2 + b.2.depth < cLine
    omega
  · obtain ⟨ep, he'⟩ := PyProof.Rows.sortedAll_at s.heap its out.toArray
    have hv := vals_each hout
    have hln : ((srt bs).map (·.1)).length ≤ sizeLine := by
      rw [List.length_map]
      unfold srt
      rw [List.length_mergeSort]
      exact hz'
    exact ⟨.ref _, upd H (s.heap.objs.size + 1) (.lst ((srt bs).map (·.1))), I.laid (t' := s.toks) (fun _ _ => PyProof.Rows.sortedAll_old) (Nat.le_succ _) ⟨hln, out, ep, hv, by simpa using he'⟩, rfl, q _ (I.hok.fresh (Nat.le_succ _))⟩
end
section
variable {K : PySem.W.Frag} {C : Cfg K} {E : XK} {Γ : List Md} {n m : Nat} {G0 H0 G H G1 H1 : Hp} {Q : VK} {v : V}
def dSortedT (ds : List D) : Out D := match ds with
  | [.tup xs] => bif canSort xs then .ok (.lst (sortD xs)) else .stuck
  | _ => .stuck
theorem sc_sortedT : SCN C E 1 (rSortT K) dSortedT := fun n G H vs ds Q w r hl q => by
  match ds, hl, vs, r with
  | [d], _, [v], .cons hd .nil =>
    cases d <;> first | exact q.elim | skip
    rename_i xs _
    obtain ⟨a, vs, rfl, hx, t, hz⟩ := hd.tup w.sub
    have q : (bif canSort xs then Out.ok (D.lst (sortD xs)) else .stuck).wp n (PN C G H Q) (PX C G H E) := q
    cases hc : canSort xs with
    | false => rw [hc] at q; exact q.elim
    | true =>
      rw [hc] at q
      unfold canSort at hc
      rw [Bool.and_eq_true, Bool.and_eq_true, Bool.or_eq_true, List.all_eq_true, List.all_eq_true] at hc
      obtain ⟨c1, c2, c3⟩ := hc
      obtain ⟨z1, z2⟩ := zip_of (P := Rep C G) t.len
      have hm : ∀ p ∈ vs.zip xs, p.2 ∈ xs := fun p hp => by
        rw [← z2]
        exact List.mem_map.mpr ⟨p, hp, rfl⟩
      refine ⟨a, (vs.zip xs).map fun p => (p.1, p.2.py), rfl, ?_, ?_, ?_, ?_, ?_, fun p np => ?_⟩
      · rw [List.map_map]
        show SqT K H a ((vs.zip xs).map (·.1))
        rw [z1]
        exact hx
      · intro b hb
        obtain ⟨c, hc, rfl⟩ := List.mem_map.mp hb
        exact dpMono w.sub (dp_of 8 _ _ (t.zip c hc) (c1 _ (hm c hc))).1
      · rw [List.map_map]
        intro d hd d' hd'
        obtain ⟨c, hc, rfl⟩ := List.mem_map.mp hd
        obtain ⟨c', hc', rfl⟩ := List.mem_map.mp hd'
        have := c2 _ (hm c hc)
        rw [List.all_eq_true] at this
        exact this _ (hm c' hc')
      · rw [List.map_map]
        rcases c3 with c3 | c3
        · rw [List.all_eq_true] at c3
          refine .inl fun d hd => ?_
          obtain ⟨c, hc, rfl⟩ := List.mem_map.mp hd
          have h1 := c3 _ (hm c hc)
          show ∃ x r, c.2.py = .tuple (x :: r)
          cases h2 : c.2 <;> rw [h2] at h1 <;> first | exact absurd h1 Bool.false_ne_true | skip
          rename_i ys
          cases ys with
          | nil => exact absurd h1 Bool.false_ne_true
          | cons y ys => exact ⟨y.py, _, rfl⟩
        · rw [List.all_eq_true] at c3
          refine .inr fun d hd => ?_
          obtain ⟨c, hc, rfl⟩ := List.mem_map.mp hd
          have h1 := c3 _ (hm c hc)
          show c.2.py ≠ .none ∧ ∀ xs, c.2.py ≠ .tuple xs
          cases h2 : c.2 <;> rw [h2] at h1 <;> first | exact absurd h1 Bool.false_ne_true | exact ⟨(fun z => nomatch z), fun _ z => nomatch z⟩
      · intro b hb
        obtain ⟨c, hc, rfl⟩ := List.mem_map.mp hb
        exact Nat.le_trans (dp_of 8 _ _ (t.zip c hc) (c1 _ (hm c hc))).2.2 (by decide)
      · have e1 : srt ((vs.zip xs).map fun p => (p.1, p.2.py)) = ((vs.zip xs).mergeSort fun b c => dLeB b.2 c.2).map fun p => (p.1, p.2.py) := by
          unfold srt
          exact (List.map_mergeSort (f := fun p : V × D => (p.1, p.2.py)) (r := fun b c => dLeB b.2 c.2) (s := PySem.W.dataLe false fun x : V × PyData => x.2) (fun b _ c _ => rfl)).symm
        have e2 : ((vs.zip xs).mergeSort fun b c => dLeB b.2 c.2).map (·.2) = sortD xs := by
          unfold sortD
          refine (List.map_mergeSort (f := fun p : V × D => p.2) (r := fun b c => dLeB b.2 c.2) (s := dLeB) (fun b _ c _ => rfl)).trans ?_
          rw [z2]
        rw [e1, List.map_map]
        have hr : RepL C G (((vs.zip xs).mergeSort fun b c => dLeB b.2 c.2).map (·.1)) (sortD xs) := by
          rw [← e2]
          exact repL_of fun b hb => t.zip b (List.mem_mergeSort.mp hb)
        refine q p _ _ _ ((Ws.refl w).tmp np) np (w.gn np) upd_same ⟨?_, hr⟩
        unfold sortD
        rw [List.length_mergeSort]
        exact hz
end
end ND
/-! the law's own def, where it makes lambdas and asks for repr -/
namespace ND
open PySem PySem.Spec PyProof.Rows L2
section
variable {P : Program} {w : World} {K : PySem.W.Frag} {mg : Str → Option Value} {base : Heap}
theorem LFun.okG {x : Str} {st : Stmt} {N ps : List Str} {k : Nat} {sp : Sp} {fd : FuncData} (L : LFun K mg base x st) (F : FnP K x x st (He.ga K x) fd) (S : FnScope N ps (defScope st)) (len : ∀ vs H Q E, sp vs H Q E → vs.length = ps.length)
    (hbody : ∀ (A : Around) (outer : List Env) (s : Shared) (H : Hp) (vs : List V) (Q : VK) (E : XK), A.guards = some [] → Room k (A.deeper (envOfC x (defScope st) s.heap.objs.size (He.ga K x) (.ref (codeOf K x)))) → sp vs H Q E →
      ∃ t, PSs (cxOf (L2.CX P w) P w K mg base N x (defScope st) (He.ga K x) (.ref (codeOf K x)) A outer s H E) (defBody st) t ∧ t { nx := fun _ H' => Q .non H', rt := Q } (start N vs) H) : FnG P w K mg base (k + 1) (He.ga K x) fd ps sp := by
  obtain ⟨oc, od, dV, kV, doc, pm, an, cdv, ct, osl, rfl, lk, hcd, _, _⟩ := F.ex
  obtain ⟨oc2, od2, dV2, kV2, doc2, pm2, an2, ct2, osl2, lk2, _, _⟩ := L.ex
  have ecd : cdv = .ref (codeOf K x) := by
    rw [lk] at lk2
    have z := congrArg (fun o : Option Obj => o.map fun o => o.data) lk2
    have z1 := Option.some.inj z
    have z2 : PySem.W.fnOf x x (defArgs st) (defBody st) (defScope st) dV kV doc pm an cdv ct = PySem.W.fnOf x x (defArgs st) (defBody st) (defScope st) dV2 kV2 doc2 pm2 an2 (.ref (codeOf K x)) ct2 := by
      cases z1
      rfl
    exact congrArg FuncData.code z2
  subst ecd
  constructor
  · exact len
  intro A outer s H args us vs Q E hgd hr e0 hb r hsp
  have KX : K.In s.heap := e0.mod.kin.keeps fun b o e => (e0.bs b o e).1
  have lim : s.heap.NoLimit := e0.mod.nolimit.keeps fun b o e => (e0.bs b o e).1
  obtain ⟨t, ht, hq⟩ := hbody A outer s H vs Q E hgd (hr.deeper _) hsp
  refine codeAny_call_function hr.depth (KX _ _ lk) rfl S.co S.gen rfl (PySem.W.codeRec_of KX hcd) (hb _ _ _ _ (wpAny_newFunctionEnv_cells S.kind (fun y hy => ?_) fun env he s1 xx => ?_))
  · obtain ⟨n, v⟩ := y
    rcases S.par n (List.of_mem_zip hy).1 with q | q
    · exact .inl q
    · exact .inr ⟨q, PySem.W.cellsFrom_some _ _ _ (.inl q)⟩
  · subst he
    refine ⟨lim.keeps xx.toInCall.keep, codeAny_func ?_⟩
    have I : Inv (cxOf (L2.CX P w) P w K mg base N x (defScope st) (He.ga K x) (.ref (codeOf K x)) A outer s H E) [] (start N vs) H s1 := inv_start S hr.hd e0 (len _ _ _ _ hsp) r xx
    refine wpAny_mono (ht.run [] s1 (start N vs) H _ I hq) (fun fl s' hs => ?_) fun e s' hs => hs
    match fl, hs with
    | .ret u, ⟨v, σ', H', J, rv, q⟩ => exact ⟨v, H', J.os, J.bare, J.base, J.hok, rv, q⟩
    | .next, ⟨σ', H', J, q⟩ => exact ⟨.non, H', J.os, J.bare, J.base, J.hok, rfl, q⟩
    | .brk, ⟨_, _, _, q⟩ => exact q.elim
    | .cont, ⟨_, _, _, q⟩ => exact q.elim
end
/-! ### a, b, c = e1, e2, e3 -/
section
end
end ND
/-! a, b, c = e1, e2, e3 -/
namespace ND
open PySem PySem.Spec PyProof.Rows L2
section
end
section
end
end ND
/-! sorted(xs, key=f) where f gives a pair the other way round -/
namespace ND
open PySem PySem.Spec PyProof.Rows L2
section
end
end ND
namespace ND
open PySem PySem.Spec PyProof.Rows L2
section
end
end ND
namespace ND
open PySem PySem.Spec PyProof.Rows L2
section
end
section
variable {K : PySem.W.Frag} {C : Cfg K} {E : XK} {Γ : List Md}
theorem sm_pow {i j n : Int} (h : CPow i j) (e : i ^ j.toNat = n) : SimE C E Γ (tOp (rI CPow fun i j => .int (i ^ j.toNat)) (tC (.int i)) (tC (.int j))) (eC (.int n)) := fun H0 n G H σ ρ Q w _ q => by
  refine ⟨i, j, rfl, rfl, h, ?_⟩
  show Q (V.int (i ^ j.toNat)) H
  rw [e]
  exact q _ G H (Ws.refl w) (.int _)
end
end ND
/-! displays with stars -/
namespace ND
open PySem PySem.Spec PyProof.Rows L2 StX RZ
section
end
end ND
/-! sorted(xs) of a list that may be short -/
namespace ND
open PySem PySem.Spec PyProof.Rows L2
section
end
section
end
end ND
/-! a, b, .. = x, y, .. with any names; defs that ask for repr; is of bools -/
namespace ND
open PySem PySem.Spec PyProof.Rows L2
section
variable {X : Cx} {ta : TA} {gs : TGs} {n : Nat}
def tPars (n : Nat) (ta : TA) (gs : TGs) : TS := fun D σ H => ta σ H fun vs H1 => vs.length = n ∧ gs vs σ H1 fun σ' H' => D.nx σ' H'
theorem ps_pars {es tgs : List Expr} {kt k2} {pt pt2 pos : Pos} (hc : X.calm = true) (ha : PA X es ta) (hg : PGs X tgs gs)
    (hw : swappedStores [.Tuple tgs kt pt] (.Tuple es k2 pt2) X.env = pure none)
    (hn : (assignEach tgs X.env).length = n := by rfl) (hst : (assignEach tgs X.env).findIdx? (·.1) = none := by rfl)
    (hs : swapsWithSole [.Tuple tgs kt pt] (.Tuple es k2 pt2) pos.line X.env = pure false := by rfl)
    (h1 : (assignEach [.Tuple tgs kt pt] X.env).map (·.2) = [assign (.Tuple tgs kt pt) X.env] := by rfl) (hle : n ≤ 1000 := by decide) :
    PS X (.Assign [.Tuple tgs kt pt] (.Tuple es k2 pt2) pos) (tPars n ta gs) := by
  refine ⟨fun pins s σ H D I h => ?_⟩
  refine wpAny_Assign_stores (Tuple_ (thn (ha.run _ pins s σ H _ I h) fun us s1 hh => ?_)) hs hw
  obtain ⟨vs, H1, I1, r1, hl, q1⟩ := hh
  have hu : us.length = n := by rw [← r1.length]; exact hl
  refine wpAny_newObj_type ?_ (by show us.toArray.size ≤ sizeLine; rw [List.size_toArray, hu]; exact small hle)
  have I2 : Inv X pins σ H1 { s1 with heap := s1.heap.push { cls := .type "tuple", data := .seq us.toArray } } := I1.kept (t' := s1.toks) fun b o e => Heap.get?_push_of_some _ e
  rw [h1]
  refine assign_Tuple_tuple (items := us.toArray) (I.ok.hd hc) (IsTup.new s1.heap _) (by rw [hn, List.size_toArray, hu]) hst fun h' hx' => ?_
  have I3 := I2.kept (h' := h') (t' := s1.toks) fun b o e => hx' b o (Nat.ne_of_lt (Heap.lt_size e)) e
  exact thn (hg.run pins _ σ H1 vs _ _ I3 (by simpa using r1) q1) fun _ s2 q => q
end
section
variable {rm : RM} {K : PySem.W.Frag} {C : Cfg K} {E : XK} {Γ Γ0 Γ1 Γn Γb Γc : List Md} {k i : Nat} {ta : TA} {gs : TGs} {f : Rho → Rho → Out Rho}
def SimW (C : Cfg K) (E : XK) (Γ Γ0 Γ1 : List Md) (k : Nat) (ta : TA) (gs : TGs) (f : Rho → Rho → Out Rho) : Prop :=
  ∀ G0 H0 Gs n G H σ ρ σ' ρ' (R : L2.St → Hp → Prop) (Q : List V → Hp → Prop), Ws C G0 H0 n G H → Same Gs G → Er C H0 Γ G H σ ρ → Er C H0 Γ0 G H σ' ρ' →
    (f ρ ρ').wp n (fun m ρ2 => ∀ σ2 G2 H2, Ws C G0 H0 m G2 H2 → Same Gs G2 → Er C H0 Γ1 G2 H2 σ2 ρ2 → R σ2 H2) (PX C G0 H0 E) → (∀ vs H1, vs.length = k → gs vs σ' H1 R → Q vs H1) → ta σ H Q
def wNil : Rho → Rho → Out Rho := fun _ ρ' => .ok ρ'
def wCons (i : Nat) (a : Rho → Out D) (r : Rho → Rho → Out Rho) : Rho → Rho → Out Rho := fun ρ ρ' => (a ρ).bind fun x => r ρ (ρ'.set i x)
def sPars (f : Rho → Rho → Out Rho) : Rho → Out Res := fun ρ => (f ρ ρ).bind fun ρ2 => .ok (.nx ρ2)
theorem sw_nil : SimW C E Γ Γ0 Γ0 0 tNil gNil wNil := fun G0 H0 Gs n G H σ ρ σ' ρ' R Q s sm e e' q hQ => hQ [] H rfl ⟨rfl, q σ' G H s sm e'⟩
theorem sw_consE {te : TE} {a : Rho → Out D} (ha : SimE C E Γ te a) (hr : SimW C E Γ (Γ0.set i .fr) Γ1 k ta gs f) : SimW C E Γ Γ0 Γ1 (k + 1) (tCons te ta) (gCons (gName i) gs) (wCons i a f) := fun G0 H0 Gs n G H σ ρ σ' ρ' R Q s sm e e' q hQ => by
  refine ha H0 n G H σ ρ _ s.w e (Out.wp_mono (fun m x k1 v G1 H1 s1 r1 => ?_) (fun _ _ _ z => PX.stm s z) (Out.wp_bind q))
  exact hr G0 H0 Gs m G1 H1 σ ρ _ _ R _ (s.trans s1) (sm.trans s1.g) (e.step s1) ((e'.step s1).set r1) k1 fun vs H2 hl hg => hQ (v :: vs) H2 (congrArg (· + 1) hl) ⟨v, vs, rfl, hg⟩
theorem sw_consN {te : TE} {a : Rho → Out D} (ha : SimN C E Γ te a) (hr : SimW C E Γ (Γ0.set i (.ow none)) Γ1 k ta gs f) (nd : noDp Γ0 = true := by rfl) : SimW C E Γ Γ0 Γ1 (k + 1) (tCons te ta) (gCons (gName i) gs) (wCons i a f) := fun G0 H0 Gs n G H σ ρ σ' ρ' R Q s sm e e' q hQ => by
  refine ha H0 n G H σ ρ _ s.w e (Out.wp_mono (fun m x k1 p o G1 H1 s1 np gp hp r1 => ?_) (fun _ _ _ z => PX.stm s z) (Out.wp_bind q))
  have e2 := (e'.step s1).setOw (i := i) ⟨hp, gp, s.w.nvol np, s.dm np⟩ r1 (fun j' q' h1 h2 => owns_ne e' np j' q' h1 h2) nd
  exact hr G0 H0 Gs m G1 H1 σ ρ _ _ R _ (s.trans s1) (sm.trans s1.g) (e.step s1) e2 k1 fun vs H2 hl hg => hQ (.ref p :: vs) H2 (congrArg (· + 1) hl) ⟨.ref p, vs, rfl, hg⟩
theorem ss_pars (h : SimW C E Γ Γ Γn k ta gs f) : SimS rm C E Γ (tPars k ta gs) (sPars f) Γn Γb Γc := fun G0 H0 n G H σ ρ D s e q =>
  h G0 H0 G n G H σ ρ σ ρ _ _ s (Same.refl _) e e (Out.wp_bind q) fun vs H1 hl hg => ⟨hl, hg⟩
end
/-! ### defs that ask for repr -/
section
end
/-! ### is of bools -/
section
end
/-! ### repr of dicts of plain values -/
section
end
end ND
/-! trees that are seen; texts of repr as values; d.get(k, x); places in trees -/
namespace ND
open PySem PySem.Spec PyProof.Rows L2
section
variable {K : PySem.W.Frag} {C : Cfg K} {n m : Nat} {G0 H0 G H G1 H1 : Hp}
/-- a tree as one that stays, in a larger ground -/
theorem same_up {Gc H : Hp} {p : Addr} {o : HO} (a : Same Gc H) (h : H p = some o) : Same (upd Gc p o) H := fun x u e => by
  by_cases hx : x = p
  · subst hx
    rw [upd_same] at e
    cases e
    exact h
  · rw [upd_ne hx] at e
    exact a x u e
mutual
theorem Tr.seen0 : ∀ {s : Sh} {as : List Addr} {v : V} {d : D}, Tr C H0 G H s as v d → ∀ {Gc : Hp}, Same Gc H → Same G Gc → (∀ x ∈ as, Gc x = none) → ∃ G', Same G' H ∧ Same Gc G' ∧ Rep C G' v d ∧ ∀ x, x ∉ as → G' x = Gc x
  | _, _, _, _, .rep h, Gc, w, a, _ => ⟨Gc, w, Same.refl _, h.mono a, fun _ _ => rfl⟩
  | _, _, _, d, .nod (p := p) (o := o) (as := as) _ l h t np, Gc, w, a, hn => by
    obtain ⟨G1, w1, a1, r1, e1⟩ := TrL.seen0 t w a fun x hx => hn x (List.mem_cons_of_mem _ hx)
    have g1 : G1 p = none := by rw [e1 p np]; exact hn p List.mem_cons_self
    refine ⟨upd G1 p o, same_up w1 l.h, a1.trans (same_add g1), ?_, fun x hx => ?_⟩
    · exact (orep_iff.mpr ⟨h, RqL.mono (same_add g1) r1⟩).rep upd_same
    · rw [upd_ne (show x ≠ p from fun z => hx (z ▸ List.mem_cons_self))]
      exact e1 x fun z => hx (List.mem_cons_of_mem _ z)
theorem TrL.seen0 : ∀ {ss : List Sh} {as : List Addr} {vs : List V} {xs : List D}, TrL C H0 G H ss as vs xs → ∀ {Gc : Hp}, Same Gc H → Same G Gc → (∀ x ∈ as, Gc x = none) → ∃ G', Same G' H ∧ Same Gc G' ∧ RepL C G' vs xs ∧ ∀ x, x ∉ as → G' x = Gc x
  | _, _, _, _, .nil, Gc, w, a, _ => ⟨Gc, w, Same.refl _, .nil, fun _ _ => rfl⟩
  | _, _, _, _, .cons (as := as) (bs := bs) h t dj, Gc, w, a, hn => by
    obtain ⟨G1, w1, a1, r1, e1⟩ := Tr.seen0 h w a fun x hx => hn x (List.mem_append_left _ hx)
    obtain ⟨G2, w2, a2, r2, e2⟩ := TrL.seen0 t w1 (a.trans a1) fun x hx => by
      rw [e1 x fun z => dj x z hx]
      exact hn x (List.mem_append_right _ hx)
    refine ⟨G2, w2, a1.trans a2, .cons (r1.mono a2) r2, fun x hx => ?_⟩
    rw [e2 x fun z => hx (List.mem_append_right _ z), e1 x fun z => hx (List.mem_append_left _ z)]
end
theorem Tr.seen {s : Sh} {as : List Addr} {v : V} {d : D} (h : Tr C H0 G H s as v d) (w : Same G H) : ∃ G', Same G' H ∧ Same G G' ∧ Rep C G' v d := by
  obtain ⟨G', h1, h2, h3, _⟩ := h.seen0 w (Same.refl _) fun x hx => (h.own x hx).choose_spec.g
  exact ⟨G', h1, h2, h3⟩
end
section
/-! ### places -/
end
end ND
/-! objects that are made as trees; what a tree holds; displays of trees; places in a list by their number -/
namespace ND
open PySem PySem.Spec PyProof.Rows L2
section
variable {K : PySem.W.Frag} {C : Cfg K} {E : XK} {Γ Γ' Γn Γb Γc : List Md} {n m : Nat} {G0 H0 G H G1 H1 : Hp} {σ : L2.St} {ρ : Rho} {Q : VK} {s s1 : Sh} {i : Nat} {a : Option Addr} {v : V} {d : D} {as : List Addr}
/-! ### objects made as trees -/
/-! ### what a tree holds -/
/-! ### displays of trees -/
theorem TrL.base {H0' : Hp} {ss : List Sh} {vs : List V} {ds : List D} (h : TrL C H0 G H ss as vs ds) (hb : ∀ x ∈ as, H0 x = none → H0' x = none) : TrL C H0' G H ss as vs ds :=
  h.gen (fun z => z) fun x hx o l => ⟨l.h, l.g, l.v, hb x hx l.n⟩
end
section
end
section
end
end ND
/-! a dict in a list of tuples -/
namespace ND
open PySem PySem.Spec PyProof.Rows L2 PySem.SeqAt
section
end
section
end
section
end
end ND
/-! xs[i] += e -/
namespace ND
open PySem PySem.Spec PyProof.Rows L2
section
end
section
variable {rm : RM} {K : PySem.W.Frag} {C : Cfg K} {E : XK} {Γ Γb Γc : List Md} {i : Nat}
theorem RepL.at {G : Hp} : ∀ {vs : List V} {xs : List D}, RepL C G vs xs → ∀ {j : Nat} {d : D}, xs[j]? = some d → ∃ v, vs[j]? = some v ∧ Rep C G v d
  | _, _, .nil, j, d, h => by cases h
  | _, _, .cons r t, 0, d, h => by
    cases Option.some.inj h
    exact ⟨_, rfl, r⟩
  | _, _, .cons r t, j + 1, d, h => RepL.at t (j := j) h
end
end ND
/-! repr(list(d.items())); dicts compared -/
namespace ND
open PySem PySem.Spec PyProof.Rows L2
section
variable {K : PySem.W.Frag} {C : Cfg K} {E : XK} {Γ : List Md} {n : Nat} {G H H' : Hp}
theorem Ws.ext (w : Wl C n G H) (h : ∀ b o, H b = some o → H' b = some o) : Ws C G H n G H' :=
  ⟨⟨fun a o e => h a o (w.sub a o e), w.nv, w.fx, w.nf, C.stab n H H' w.iv (fun a v => by
    cases e : H a with
    | none => exact absurd e (C.trk n H a w.iv v)
    | some o => exact h a o e) (fun a φ _ e => h _ _ e) (fun a o e => h _ _ (w.sub _ _ (w.fx a o e)))⟩, Same.refl _, fun a o _ e => h a o e, fun a hg _ => hg⟩
/-! ### dicts of numbers compared -/
end
end ND
/-! x = caught(lambda: xs.append(e)) -/
namespace ND
open PySem PySem.Spec PyProof.Rows L2 LamX
def Out.cau : Out D → (D → Out Res) → (Str → List (Str × D) → Out Res) → Out Res
  | .ok d, f, _ => f d
  | .exc c fs, _, g => g c fs
  | .stuck, _, _ => .stuck
  | .any c P k, f, g => .any c P fun d => (k d).cau f g
theorem cau_wp {f : D → Out Res} {g : Str → List (Str × D) → Out Res} {Q : Nat → Res → Prop} {E : Nat → Str → List (Str × D) → Prop} : ∀ {o : Out D} {m : Nat}, (o.cau f g).wp m Q E → o.wp m (fun m d => (f d).wp m Q E) (fun m c fs => (g c fs).wp m Q E)
  | .ok d, m, h => h
  | .exc c fs, m, h => h
  | .stuck, _, h => h.elim
  | .any c P k, _, h => by
    obtain ⟨m', e, h⟩ := h
    exact ⟨m', e, fun d hd => cau_wp (h d hd)⟩
def sCauApp (i j : Nat) (a : Rho → Out D) : Rho → Out Res := fun ρ => onL j (fun xs => (a ρ).cau (fun d => bif decide (xs.length < 100000) then .ok (.nx ((ρ.set j (.lst (xs ++ [d]))).set i .non)) else .stuck) (fun c fs => .ok (.nx (ρ.set i (.exc c fs))))) ρ
section
variable {rm : RM} {K : PySem.W.Frag} {C : Cfg K} {E : XK} {Γ Γb Γc : List Md} {i j : Nat} {p : Addr × Str}
theorem ss_cauApp {t : XK → TE} {a : Rho → Out D} {b : Option Addr} (hp : p ∈ tbsOf K) (hj : Γ[j]? = some (.ow b)) (ha : ∀ E, SimE C E Γ (t E) a) :
    SimS rm C E Γ (tAsg (tLamP (tbsOf K) p.1 (TKeep K (He.ga K "PackError")) fun E => tBM K "list" rAppend (tVar j) (tCons (t E) tNil)) (gName i)) (sCauApp i j a) (Γ.set i .fr) Γb Γc := fun G0 H0 n G H σ ρ D s e q => by
  refine ⟨C.tbo n H s.w.iv, fun H1 x t1 => ?_⟩
  have s0 := s.w.lam hp x t1
  have e0 := e.step s0
  have q' : (sCauApp i j a ρ).wp n (SQ rm C G0 H0 G D (Γ.set i .fr) Γb Γc) (PX C G0 H0 E) := q
  obtain ⟨pp, vs, xs, hx, h1, h2, tt, hz, h4, q⟩ := e0.onL hj q'
  refine ⟨_, h1, .inl ⟨rfl, vs, SqL.of h2.h⟩, ?_⟩
  refine ha _ H0 n G H1 σ ρ _ s0.w e0 (Out.wp_mono (fun m d k v G1 H2 s1 r1 => ?_) (fun m c fs k => ?_) (cau_wp q))
  · cases hb : decide (xs.length < 100000) with
    | false => simp only [hb, cond_false] at k; exact k.elim
    | true =>
      simp only [hb, cond_true] at k
      have hl := of_decide_eq_true hb
      have h2' := h2.step s1
      have hvl := tt.len
      refine ⟨pp, vs, v, rfl, rfl, h2'.h, Nat.lt_of_lt_of_le (show vs.length < 100000 by omega) (by decide), .non, rfl, ?_⟩
      have ho : ORep C G1 (.lst (vs ++ [v])) (.lst (xs ++ [d])) := ⟨by rw [List.length_append]; show xs.length + 1 ≤ 100000; omega, (tt.mono s1.g).app (.cons r1 .nil)⟩
      exact k _ G1 _ (((s.trans s0).trans s1).mut h2' (by intro φ z; cases z)) (s0.g.trans s1.g) (((e0.step s1).mut hj h1 h2' ho h4).set .non)
  · intro ax us G' H' hc s' hxf hm hr
    refine ⟨true, C.ct.xm c hc, fun _ => ⟨_, rfl, fun qq nq => ?_⟩, fun z => nomatch z⟩
    have g := s'.w.gn nq
    have s2 : Ws C G0 H0 m (upd G' qq (XO qq (He.ga K c) ax)) (upd H' qq (XO qq (He.ga K c) ax)) := ((s.trans s0).trans s').new nq
    have s3 : Ws C G H1 m (upd G' qq (XO qq (He.ga K c) ax)) (upd H' qq (XO qq (He.ga K c) ax)) := s'.new nq
    refine k _ _ _ s2 (s0.g.trans s3.g) ((e0.step s3).set ?_)
    exact .exc hc ⟨ax, upd_same, hxf.mono (same_add g)⟩ hm (hr.mono (same_add g))
end
end ND
/-! methods called by the names of their parameters -/
namespace ND
open PySem PySem.Spec PyProof.Rows L2
structure MOkS (P : Program) (w : World) (K : PySem.W.Frag) (mg : Str → Option Value) (base : Heap) (k : Nat) (C : Addr) (m qual : Str) (st : Stmt) (ps : List Str) (sp : Sp) : Prop where
  ex : ∃ f fd, FnP K m qual st f fd ∧ Meth K C m f ∧ FnOk P w K mg base (L2.CX P w) k f fd ps sp
section
variable {P : Program} {w : World} {K : PySem.W.Frag} {mg : Str → Option Value} {base : Heap}
theorem MOkS.ok {C0 : Addr} {x qual : Str} {st : Stmt} {ps : List Str} {k : Nat} {sp : Sp} (G : MOkS P w K mg base k C0 x qual st ps sp)
    (hb : ∀ (kV doc pm : Value) (an : Option Addr) (cdv ct : Value) (us : List Value), us.length = ps.length → bindArgs (PySem.W.fnOf x qual (defArgs st) (defBody st) (defScope st) .none kV doc pm an cdv ct) ⟨us, []⟩ = pure (ps.zip us)) : MOk P w K mg base k C0 x ps sp := by
  obtain ⟨f, fd, F, M, d⟩ := G.ex
  exact ⟨f, fd, M, F.bindsN hb, d⟩
end
section
end
section
end
end ND
/-! str(x) of a text or a number -/
namespace ND
open PySem PySem.Spec PyProof.Rows L2
section
end
end ND
/-! == and != by a class's own __eq__ -/
namespace ND
open PySem PySem.Spec PyProof.Rows L2 PySem.W
theorem neSlot : PySem.Slot "object" "__ne__" "object.__ne__" :=
  .of (T := "object") (name := "__ne__") (owner := "object") (n := "__ne__") (by rw [typeLookup_type, builtinLookup_eq_fast]; kernel_rfl) (by decide +kernel) (by decide +kernel) (by decide +kernel)
    (.inl (by decide +kernel)) (by rw [isSubtype_type]; kernel_rfl)
section
variable {prog : Program} {w : World} {A : Around} {E : Value → Shared → Prop} {s : Shared} {K : Frag} {h₀ : Heap} {L : Addr} {m : Str → Option Value} {x C f : Addr} {ox : Obj} {od : Option Obj} {b : Value} {name : Str}
/-- a slot's wrapper of object, on an instance -/
theorem ifBound_B {M : Model} {id : String} {args : List Value} {Q : Option Value → Shared → Prop} (X : K.In s.heap) (I : InstAt s.heap x ox C od) (hs : findIn K (.ref C) name = some (some (.builtin id))) (hb : ∀ self, bindSpecial (.builtin id) self = pure (.builtin id, [self]))
    (h : wpAny M A (call (.builtin id) (.ref x :: args)) (fun v => Q (some v)) E s) : wpAny M A (callSpecialIfBound? (.ref x) name args) Q E s := by
  have fin : wpAny M A (call (.builtin id) ([.ref x] ++ args) >>= fun v => pure (some v)) Q E s := wpAny_bind (wpAny_mono h (fun v s' h' => wpAny_pure h') fun _ _ h' => h')
  simp only [callSpecialIfBound?, bindSpecialIfBound?]
  refine wpAny_holding (wpAny_bind (wpAny_bind (wpAny_bind (I.type.here ((looks_findIn X hs).here ?_)))))
  refine wpAny_bind (wpAny_askSetting (wpAny_ite ?_))
  split
  · rw [hb]
    exact wpAny_bind (wpAny_pure (wpAny_pure (by exact fin)))
  · rw [hb]
    exact wpAny_tryCatch (wpAny_bind (wpAny_pure (wpAny_pure (by exact fin))))
theorem neBody {Q : Fin → Shared → Prop} (X : K.In s.heap) (I : InstAt s.heap x ox C od) (hs : findIn K (.ref C) "__eq__" = some (some (.ref f))) (hf : isFn K (.ref f) = true) (hu : A.units < cLine)
    (h : wpAny (model prog w) A (call (.ref f) [.ref x, b]) (fun v s' => ∃ r, v = .bool r ∧ Q (.done (.ret (.bool (!r)))) s') E s) : wpAny (model prog w) A (Builtin.«object.__ne__» ⟨[.ref x, b], []⟩) Q E s := by
  unfold Builtin.«object.__ne__»
  refine wpAny_bind (wpAny_pure ?_)
  refine wpAny_bind (wpAny_cRoomFor hu ?_)
  refine wpAny_bind (ifBound_K X I hs hf (wpAny_mono h (fun v s' hv => ?_) fun _ _ e => e))
  obtain ⟨r, rfl, q⟩ := hv
  exact wpAny_bind (wpAny_truthy_bool (wpAny_pure q))
theorem check_ne {M : Model} {Q : Unit → Shared → Prop} (X : K.In s.heap) (I : InstAt s.heap x ox C od) (hobj : subIn K (.ref C) (.type "object") = some true) (hq : Q () s) : wpAny M A (checkBuiltinCall "object.__ne__" ⟨[.ref x, b], []⟩) Q E s := by
  simp only [checkBuiltinCall, PySem.F.cmpKind_ne, PySem.F.cmpSplit_ne]
  refine wpAny_bind ?_
  unfold isInstance
  refine wpAny_bind (I.type.here ((looks_subIn X hobj).here ?_))
  refine wpAny_pure ?_
  exact hq
theorem cmp_neK {Q : Value → Shared → Prop} (hu : A.units + 1 < cLine) (F : Fr h₀ L s.heap m) (X₀ : K.In h₀) (I : InstAt s.heap x ox C od) (hb : Looks (model prog w) s.heap (typeOf b) (.ref C))
    (hn : findIn K (.ref C) "__ne__" = some (some (.builtin "object.__ne__"))) (hobj : subIn K (.ref C) (.type "object") = some true) (hs : findIn K (.ref C) "__eq__" = some (some (.ref f))) (hf : isFn K (.ref f) = true)
    (h : wpAny (model prog w) A.in1 (call (.ref f) [.ref x, b]) (fun v s' => ∃ r, v = .bool r ∧ Q (.bool (!r)) s') E s) : wpAny (model prog w) A (richCompare .NotEq (.ref x) b) Q E s := by
  have X := X₀.keeps F.keep
  have one : wpAny (model prog w) A (tryCompare (.ref x) "__ne__" b) (fun r s' => ∃ v, r = some v ∧ Q v s') E s := by
    unfold tryCompare
    refine wpAny_bind (ifBound_B X I hn neSlot.bind (wpAny_call (codeAny_call_builtin neSlot.plain PySem.F.cmpEntry_ne (check_ne X I hobj (neBody X I hs hf hu (wpAny_mono h (fun v s' hv => ?_) fun _ _ e => e))))))
    obtain ⟨r, rfl, q⟩ := hv
    exact ⟨r, rfl, wpAny_pure ⟨_, rfl, q⟩⟩
  unfold richCompare
  simp only [oneThing_ref]
  refine wpAny_holding (wpAny_bind (wpAny_cRoomFor (Nat.lt_of_succ_lt hu) ?_))
  refine wpAny_bind (I.type.here (wpAny_bind (hb.here ?_)))
  rw [show (Value.ref C != Value.ref C) = false from by simp]
  simp only [Bool.false_eq_true, if_false]
  refine wpAny_bind (wpAny_pure ?_)
  simp only [Bool.false_eq_true, if_false]
  refine wpAny_bind (wpAny_mono one (fun r s' z => ?_) fun _ _ e => e)
  obtain ⟨v, rfl, hq⟩ := z
  exact wpAny_pure hq
end
section
variable {X : Cx} {n : Nat} {ps : List Str} {sp : Sp} {E : XK} {f : Addr} {fd : FuncData}
/-- a def is called somewhere below -/
theorem run_at {A : Around} {pins : List (Addr × Obj)} {σ : L2.St} {H : Hp} {s : Shared} {Q : VK} {us : List Value} {vs : List V} (sb : Sub X n A) (F : FnOk X.prog X.w X.K X.mg X.base (L2.CX X.prog X.w) n f fd ps sp) (hb : Binds X.K fd ps []) (hx : Passes (L2.CX X.prog X.w) X E)
    (I : Inv X pins σ H s) (r : Vals vs us) (h : sp vs H Q E) : wpAny (model X.prog X.w) A (call (.ref f) us) (EP X pins σ Q) X.xe s := by
  have hl := F.len _ _ _ _ h
  have e0 : Env0 X.prog X.w X.K X.mg X.base A X.stack s H := by
    have e := I.env0
    exact ⟨by rw [sb.fr]; exact e.frames, e.mod, e.bs, e.bsz, e.funs, e.frf, e.hok, e.bare⟩
  refine wpAny_call (codeAny_mono (F.run A X.stack s H ⟨us, []⟩ us vs Q E sb.room e0 (by
    have := hb s us I.kIn (by rw [List.append_nil, ← r.length]; exact hl)
    rw [List.append_nil] at this
    exact this) r h) fun r s' hq => ?_)
  cases r with
  | error e => exact hx pins σ H s e s' I hq
  | ok fl =>
    cases fl with
    | ret u => exact I.after hq
    | next => exact False.elim hq
    | brk => exact False.elim hq
    | cont => exact False.elim hq
def rOwn (C : Addr) (sp : Sp) (E : XK) (neg : Bool) : R2 := fun x y H Q => ∃ a b dx dy fs gs, x = .ref a ∧ y = .ref b ∧ H a = some (.ins C dx fs) ∧ H b = some (.ins C dy gs) ∧ sp [.ref a, .ref b] H (fun v H' => ∃ r, v = .bl r ∧ Q (.bl (neg ^^ r)) H') E
theorem op_ownEq {C : Addr} (M : MOk X.prog X.w X.K X.mg X.base n C "__eq__" ps sp) (hr : Room n X.A) (hx : Passes (L2.CX X.prog X.w) X E) : OpR X (compareOp .Eq) (rOwn C sp E false) := by
  intro pins s σ H x y v u Q I rx ry hq
  obtain ⟨a, b, dx, dy, fs, gs, rfl, rfl, ha, hb, q⟩ := hq
  obtain ⟨f, fd, M, B, F⟩ := M.ex
  cases rx
  cases ry
  obtain ⟨mA, J, _⟩ := ins_get I.hok ha
  obtain ⟨mB, J', _⟩ := ins_get I.hok hb
  obtain ⟨od, J, _⟩ := J.look
  obtain ⟨od', J', _⟩ := J'.look
  obtain ⟨m, hF⟩ := I.fr
  show wpAny (model X.prog X.w) X.A (richCompare .Eq (.ref a) (.ref b)) (EP X pins σ Q) X.xe s
  refine PySem.W.cmp_K (op := .Eq) (tb := .ref C) hr.units0 hF I.ok.mod.kin J J'.type (by simp [PySem.W.notFirst]) M.at_ M.fn (wpAny_mono (run_at (A := X.A) (vs := [V.ref a, V.ref b]) ⟨hr, rfl⟩ F B hx I (.cons rfl (.cons rfl .nil)) q) (fun v s' z => ?_) fun _ _ e => e)
  obtain ⟨z, H', I', rz, r, rfl, q⟩ := z
  cases rz
  rw [Bool.false_xor] at q
  exact ⟨.bl r, H', I', rfl, q⟩
theorem op_ownNe {C : Addr} (M : MOk X.prog X.w X.K X.mg X.base n C "__eq__" ps sp) (hn : findIn X.K (.ref C) "__ne__" = some (some (.builtin "object.__ne__"))) (hobj : subIn X.K (.ref C) (.type "object") = some true) (hr : Room (n + 1) X.A) (hx : Passes (L2.CX X.prog X.w) X E) : OpR X (compareOp .NotEq) (rOwn C sp E true) := by
  intro pins s σ H x y v u Q I rx ry hq
  obtain ⟨a, b, dx, dy, fs, gs, rfl, rfl, ha, hb, q⟩ := hq
  obtain ⟨f, fd, M, B, F⟩ := M.ex
  cases rx
  cases ry
  obtain ⟨mA, J, _⟩ := ins_get I.hok ha
  obtain ⟨mB, J', _⟩ := ins_get I.hok hb
  obtain ⟨od, J, _⟩ := J.look
  obtain ⟨od', J', _⟩ := J'.look
  obtain ⟨m, hF⟩ := I.fr
  show wpAny (model X.prog X.w) X.A (richCompare .NotEq (.ref a) (.ref b)) (EP X pins σ Q) X.xe s
  refine cmp_neK hr.in1.units0 hF I.ok.mod.kin J J'.type hn hobj M.at_ M.fn (wpAny_mono (run_at (A := X.A.in1) (vs := [V.ref a, V.ref b]) ⟨hr.in1, rfl⟩ F B hx I (.cons rfl (.cons rfl .nil)) q) (fun v s' z => ?_) fun _ _ e => e)
  obtain ⟨z, H', I', rz, r, rfl, q⟩ := z
  cases rz
  rw [Bool.true_xor] at q
  exact ⟨r, rfl, .bl (!r), H', I', rfl, q⟩
end
section
variable {K : PySem.W.Frag} {C : Cfg K} {E : XK} {Γ : List Md} {n m : Nat} {H0 G H G1 H1 : Hp} {σ : L2.St} {ρ : Rho} {Q : VK}
def dOwn (c : Str) (F : List D → Out D) (neg : Bool) (x y : D) : Out D := match x, y with
  | .ins c' fs, .ins c'' gs => bif decide (c' = c) && decide (c'' = c) then (F [.ins c' fs, .ins c'' gs]).bind fun r => match r with
      | .bl z => .ok (.bl (neg ^^ z))
      | _ => .stuck
    else .stuck
  | _, _ => .stuck
theorem sm_eqO {b : Bool} {c : Str} {neg : Bool} {F : List D → Out D} {ta tb : TE} {x y : Rho → Out D} (hb : b = true → C.lk = []) (ha : SimE C E Γ ta x) (hy : SimE C E Γ tb y) : SimE C E Γ (tOp (rOwn (He.ga K c) (spF K b 2 F) E neg) ta tb) (eOp (dOwn c F neg) x y) := fun H0 n G H σ ρ Q w e q => by
  refine ha H0 n G H σ ρ _ w e (Out.wp_mono (fun m dx k v G1 H1 s1 r1 => ?_) (fun _ _ _ z => z) (Out.wp_bind q))
  refine hy H0 m G1 H1 σ ρ _ s1.w (e.step s1) (Out.wp_mono (fun m2 dy k2 u G2 H2 s2 r2 => ?_) (fun _ _ _ z => PX.back s1 z) (Out.wp_bind k))
  unfold dOwn at k2
  cases dx <;> try exact k2.elim
  cases dy <;> try exact k2.elim
  rename_i c1 xs c2 ys
  cases hc : (decide (c1 = c) && decide (c2 = c)) with
  | false => simp only [hc, cond_false] at k2; exact k2.elim
  | true =>
    simp only [hc, cond_true] at k2
    rw [Bool.and_eq_true, decide_eq_true_eq, decide_eq_true_eq] at hc
    obtain ⟨rfl, rfl⟩ := hc
    have r1' := r1.mono s2.g
    obtain ⟨a, dx, fs, rfl, h1, h2, _⟩ := r1'.insI
    obtain ⟨a', dx', gs, rfl, h1', h2', _⟩ := r2.insI
    refine ⟨a, a', dx, dx', fs, gs, rfl, rfl, s2.w.sub _ _ h2, s2.w.sub _ _ h2', C, m2, G2, _, hb, s2.w, .cons r1' (.cons r2 .nil), rfl, Out.wp_mono (fun m3 d k3 => ?_) (fun _ _ _ z => PX.back (s1.trans s2) z) (Out.wp_bind k2)⟩
    cases d <;> try exact k3.elim
    rename_i z
    intro v G' H' s3 r3
    cases r3
    exact ⟨z, rfl, k3 (.bl (neg ^^ z)) G' H' ((s1.trans s2).trans s3) (.bl _)⟩
end
end ND
/-! == of dicts whose values are compared by their own __eq__ -/
namespace PySem.W
open Lean Elab Tactic Meta PySem PySem.Calls PyProof.Rows PyProof.V PySem.Spec
section
end
end PySem.W
namespace ND
open PySem PySem.Spec PyProof.Rows L2 PySem.W
section
end
end ND
/-! == of dicts of objects, as a rule on plain data -/
namespace ND
open PySem PySem.Spec PyProof.Rows L2 PySem.W
section
end
section
end
section
end
/-- a class's != is object's own -/
def neB (K : Frag) (c : Str) : Bool := He.eqO (findIn K (.ref (He.ga K c)) "__ne__") (some (some (.builtin "object.__ne__"))) && decide (subIn K (.ref (He.ga K c)) (.type "object") = some true)
theorem neB_ok {K : Frag} {c : Str} (h : neB K c = true) : findIn K (.ref (He.ga K c)) "__ne__" = some (some (.builtin "object.__ne__")) ∧ subIn K (.ref (He.ga K c)) (.type "object") = some true := by
  unfold neB at h
  rw [Bool.and_eq_true, decide_eq_true_eq] at h
  exact ⟨He.eqO_ok h.1, h.2⟩
section
variable {X : Cx} {C : Addr} {m : Str} {k : Nat} {sp : Sp} {ps : List Str} {E : XK} {o : Expr} {ta : TE} {apos pos : Pos}
theorem pe_mtM0 {pl : Sem Bool} (G : MOk X.prog X.w X.K X.mg X.base k C m ps sp) (c : Cls X.K C) (hr : Room k X.A) (hx : Passes (L2.CX X.prog X.w) X E) (he : PE X o ta)
    (ht : eval (.Call (.Attribute o m apos) [] [] pos) X.env = (do
      let ov ← eval o X.env
      standAt apos.atName
      let (f, first) ← holding [ov] (getMethod ov m pl)
      callWith pos f first (backTo pos (starEach [] X.env)) (backToKw pos (keywordEach [] X.env))) := by rfl) :
    PE X (.Call (.Attribute o m apos) [] [] pos) (tMeth C m sp [] E ta tNil) := by
  obtain ⟨f, fd, M, hb, F⟩ := G.ex
  exact pe_meth0 (pl := pl) he c M F hr hb .nil hx ht
end
end ND
namespace ND
open PySem PySem.Spec PyProof.Rows L2
def topS (i : Nat) : Stmt := PySem.Challenge.pw_narrowdraws_k02_packs_as_made.main.body.getD i (.Pass ⟨0, 0, 0, 0⟩)
abbrev s_is_number : Stmt := topS 11
abbrev N_is_number : List Str := ["thing"]
theorem sc_is_number : FnScope N_is_number ["thing"] (defScope s_is_number) := ⟨rfl, rfl, rfl, by decide +kernel, rfl, by decide +kernel, by decide +kernel⟩
abbrev s_is_within : Stmt := topS 12
abbrev N_is_within : List Str := ["thing", "least", "most"]
theorem sc_is_within : FnScope N_is_within ["thing", "least", "most"] (defScope s_is_within) := ⟨rfl, rfl, rfl, by decide +kernel, rfl, by decide +kernel, by decide +kernel⟩
abbrev s_is_list : Stmt := topS 13
abbrev N_is_list : List Str := ["thing"]
theorem sc_is_list : FnScope N_is_list ["thing"] (defScope s_is_list) := ⟨rfl, rfl, rfl, by decide +kernel, rfl, by decide +kernel, by decide +kernel⟩
abbrev s_is_name : Stmt := topS 14
abbrev N_is_name : List Str := ["thing", "sign"]
theorem sc_is_name : FnScope N_is_name ["thing"] (defScope s_is_name) := ⟨rfl, rfl, rfl, by decide +kernel, rfl, by decide +kernel, by decide +kernel⟩
abbrev s_is_slot : Stmt := topS 15
abbrev N_is_slot : List Str := ["thing"]
theorem sc_is_slot : FnScope N_is_slot ["thing"] (defScope s_is_slot) := ⟨rfl, rfl, rfl, by decide +kernel, rfl, by decide +kernel, by decide +kernel⟩
abbrev s_are_slots : Stmt := topS 16
abbrev N_are_slots : List Str := ["thing", "item"]
theorem sc_are_slots : FnScope N_are_slots ["thing"] (defScope s_are_slots) := ⟨rfl, rfl, rfl, by decide +kernel, rfl, by decide +kernel, by decide +kernel⟩
abbrev s_is_roll : Stmt := topS 17
abbrev N_is_roll : List Str := ["thing"]
theorem sc_is_roll : FnScope N_is_roll ["thing"] (defScope s_is_roll) := ⟨rfl, rfl, rfl, by decide +kernel, rfl, by decide +kernel, by decide +kernel⟩
abbrev s_Pack___init__ : Stmt := inClass (topS 18) 0
abbrev N_Pack___init__ : List Str := ["self", "slots", "amount", "cost", "roll"]
theorem sc_Pack___init__ : FnScope N_Pack___init__ ["self", "slots", "amount", "cost", "roll"] (defScope s_Pack___init__) := ⟨rfl, rfl, rfl, by decide +kernel, rfl, by decide +kernel, by decide +kernel⟩
abbrev s_Pack_slots : Stmt := inClass (topS 18) 1
abbrev N_Pack_slots : List Str := ["self"]
theorem sc_Pack_slots : FnScope N_Pack_slots ["self"] (defScope s_Pack_slots) := ⟨rfl, rfl, rfl, by decide +kernel, rfl, by decide +kernel, by decide +kernel⟩
abbrev s_Pack_amount : Stmt := inClass (topS 18) 2
abbrev N_Pack_amount : List Str := ["self"]
theorem sc_Pack_amount : FnScope N_Pack_amount ["self"] (defScope s_Pack_amount) := ⟨rfl, rfl, rfl, by decide +kernel, rfl, by decide +kernel, by decide +kernel⟩
abbrev s_Pack_cost : Stmt := inClass (topS 18) 3
abbrev N_Pack_cost : List Str := ["self"]
theorem sc_Pack_cost : FnScope N_Pack_cost ["self"] (defScope s_Pack_cost) := ⟨rfl, rfl, rfl, by decide +kernel, rfl, by decide +kernel, by decide +kernel⟩
abbrev s_Pack_roll : Stmt := inClass (topS 18) 4
abbrev N_Pack_roll : List Str := ["self"]
theorem sc_Pack_roll : FnScope N_Pack_roll ["self"] (defScope s_Pack_roll) := ⟨rfl, rfl, rfl, by decide +kernel, rfl, by decide +kernel, by decide +kernel⟩
abbrev s_Pack_last : Stmt := inClass (topS 18) 5
abbrev N_Pack_last : List Str := ["self", "cell", "day"]
theorem sc_Pack_last : FnScope N_Pack_last ["self"] (defScope s_Pack_last) := ⟨rfl, rfl, rfl, by decide +kernel, rfl, by decide +kernel, by decide +kernel⟩
abbrev s_Pack_told : Stmt := inClass (topS 18) 6
abbrev N_Pack_told : List Str := ["self"]
theorem sc_Pack_told : FnScope N_Pack_told ["self"] (defScope s_Pack_told) := ⟨rfl, rfl, rfl, by decide +kernel, rfl, by decide +kernel, by decide +kernel⟩
abbrev s_Pack___eq__ : Stmt := inClass (topS 18) 8
abbrev N_Pack___eq__ : List Str := ["self", "other"]
theorem sc_Pack___eq__ : FnScope N_Pack___eq__ ["self", "other"] (defScope s_Pack___eq__) := ⟨rfl, rfl, rfl, by decide +kernel, rfl, by decide +kernel, by decide +kernel⟩
abbrev s__law_begun : Stmt := topS 20
abbrev N__law_begun : List Str := ["_law_script", "_law_wide", "_law_grain"]
theorem sc__law_begun : FnScope N__law_begun ["_law_script"] (defScope s__law_begun) := ⟨rfl, rfl, rfl, by decide +kernel, rfl, by decide +kernel, by decide +kernel⟩
abbrev s__law_mixed : Stmt := topS 21
abbrev N__law_mixed : List Str := ["_law_draw", "_law_turn", "_law_found", "_law_prime", "_law_blend", "_law_grain"]
theorem sc__law_mixed : FnScope N__law_mixed ["_law_draw"] (defScope s__law_mixed) := ⟨rfl, rfl, rfl, by decide +kernel, rfl, by decide +kernel, by decide +kernel⟩
abbrev s__law_take : Stmt := topS 22
abbrev N__law_take : List Str := ["_law_draw", "_law_size", "_law_found"]
theorem sc__law_take : FnScope N__law_take ["_law_draw", "_law_size"] (defScope s__law_take) := ⟨rfl, rfl, rfl, by decide +kernel, rfl, by decide +kernel, by decide +kernel⟩
abbrev s__law_pick : Stmt := topS 23
abbrev N__law_pick : List Str := ["_law_draw", "_law_some"]
theorem sc__law_pick : FnScope N__law_pick ["_law_draw", "_law_some"] (defScope s__law_pick) := ⟨rfl, rfl, rfl, by decide +kernel, rfl, by decide +kernel, by decide +kernel⟩
abbrev s__law_any_of : Stmt := topS 24
abbrev N__law_any_of : List Str := ["_law_draw", "_law_words", "_law_size", "_law_item"]
theorem sc__law_any_of : FnScope N__law_any_of ["_law_draw", "_law_words", "_law_size"] (defScope s__law_any_of) := ⟨rfl, rfl, rfl, by decide +kernel, rfl, by decide +kernel, by decide +kernel⟩
abbrev s__law_shuffled : Stmt := topS 25
abbrev N__law_shuffled : List Str := ["_law_draw", "_law_some", "_law_left", "_law_found"]
theorem sc__law_shuffled : FnScope N__law_shuffled ["_law_draw", "_law_some"] (defScope s__law_shuffled) := ⟨rfl, rfl, rfl, by decide +kernel, rfl, by decide +kernel, by decide +kernel⟩
abbrev s__law_names : Stmt := topS 26
abbrev N__law_names : List Str := ["_law_draw", "_law_many", "_law_found", "_law_letters", "_law_k", "_law_word", "_law_j", "_law_near", "_law_sign", "_law_item"]
theorem sc__law_names : FnScope N__law_names ["_law_draw", "_law_many"] (defScope s__law_names) := ⟨rfl, rfl, rfl, by decide +kernel, rfl, by decide +kernel, by decide +kernel⟩
abbrev s__law_all_spots : Stmt := topS 27
abbrev N__law_all_spots : List Str := ["_law_kinds", "_law_span", "_law_found", "_law_date", "_law_kind"]
theorem sc__law_all_spots : FnScope N__law_all_spots ["_law_kinds", "_law_span"] (defScope s__law_all_spots) := ⟨rfl, rfl, rfl, by decide +kernel, rfl, by decide +kernel, by decide +kernel⟩
abbrev s__law_caught : Stmt := topS 28
abbrev N__law_caught : List Str := ["_law_task", "_law_caught_here", "_law_error"]
theorem sc__law_caught : FnScope N__law_caught ["_law_task"] (defScope s__law_caught) := ⟨rfl, rfl, rfl, by decide +kernel, rfl, by decide +kernel, by decide +kernel⟩
abbrev s__law_is_number : Stmt := topS 29
abbrev N__law_is_number : List Str := ["_law_item"]
theorem sc__law_is_number : FnScope N__law_is_number ["_law_item"] (defScope s__law_is_number) := ⟨rfl, rfl, rfl, by decide +kernel, rfl, by decide +kernel, by decide +kernel⟩
abbrev s__law_is_short : Stmt := topS 30
abbrev N__law_is_short : List Str := ["_law_item", "_law_sign"]
theorem sc__law_is_short : FnScope N__law_is_short ["_law_item"] (defScope s__law_is_short) := ⟨rfl, rfl, rfl, by decide +kernel, rfl, by decide +kernel, by decide +kernel⟩
abbrev s__law_is_in : Stmt := topS 31
abbrev N__law_is_in : List Str := ["_law_item", "_law_low", "_law_top"]
theorem sc__law_is_in : FnScope N__law_is_in ["_law_item", "_law_low", "_law_top"] (defScope s__law_is_in) := ⟨rfl, rfl, rfl, by decide +kernel, rfl, by decide +kernel, by decide +kernel⟩
abbrev s__law_are_spots : Stmt := topS 32
abbrev N__law_are_spots : List Str := ["_law_item", "_law_spot"]
theorem sc__law_are_spots : FnScope N__law_are_spots ["_law_item"] (defScope s__law_are_spots) := ⟨rfl, rfl, rfl, by decide +kernel, rfl, by decide +kernel, by decide +kernel⟩
abbrev s__law_is_flow : Stmt := topS 33
abbrev N__law_is_flow : List Str := ["_law_item"]
theorem sc__law_is_flow : FnScope N__law_is_flow ["_law_item"] (defScope s__law_is_flow) := ⟨rfl, rfl, rfl, by decide +kernel, rfl, by decide +kernel, by decide +kernel⟩
abbrev s__law_wrong : Stmt := topS 34
abbrev N__law_wrong : List Str := ["_law_given_here"]
theorem sc__law_wrong : FnScope N__law_wrong ["_law_given_here"] (defScope s__law_wrong) := ⟨rfl, rfl, rfl, by decide +kernel, rfl, by decide +kernel, by decide +kernel⟩
abbrev s__law_given : Stmt := topS 35
abbrev N__law_given : List Str := ["_law_draw", "_law_kinds", "_law_spots", "_law_found"]
theorem sc__law_given : FnScope N__law_given ["_law_draw"] (defScope s__law_given) := ⟨rfl, rfl, rfl, by decide +kernel, rfl, by decide +kernel, by decide +kernel⟩
abbrev s__law_bent : Stmt := topS 36
abbrev N__law_bent : List Str := ["_law_draw", "_law_given_here", "_law_found", "_law_name", "_law_odd", "_law_fresh", "_law_spots", "_law_spot", "_law_k"]
theorem sc__law_bent : FnScope N__law_bent ["_law_draw", "_law_given_here"] (defScope s__law_bent) := ⟨rfl, rfl, rfl, by decide +kernel, rfl, by decide +kernel, by decide +kernel⟩
abbrev s__law_made : Stmt := topS 37
abbrev N__law_made : List Str := ["_law_draw", "_law_given_here", "_law_spots", "_law_passed", "_law_found"]
theorem sc__law_made : FnScope N__law_made ["_law_draw", "_law_given_here"] (defScope s__law_made) := ⟨rfl, rfl, rfl, by decide +kernel, rfl, by decide +kernel, by decide +kernel⟩
abbrev s__law_is_right : Stmt := topS 38
abbrev N__law_is_right : List Str := ["_law_ware", "_law_given_here", "_law_due", "_law_spot"]
theorem sc__law_is_right : FnScope N__law_is_right ["_law_ware", "_law_given_here"] (defScope s__law_is_right) := ⟨rfl, rfl, rfl, by decide +kernel, rfl, by decide +kernel, by decide +kernel⟩
abbrev s__law_parts : Stmt := topS 39
abbrev N__law_parts : List Str := ["_law_given_here"]
theorem sc__law_parts : FnScope N__law_parts ["_law_given_here"] (defScope s__law_parts) := ⟨rfl, rfl, rfl, by decide +kernel, rfl, by decide +kernel, by decide +kernel⟩
abbrev s_law : Stmt := topS 40
abbrev N_law : List Str := ["_law_script", "_law_draw", "_law_turn", "_law_given_here", "_law_ware", "_law_near", "_law_bend", "_law_due", "_law_found", "_law_error", "_law_is_same"]
theorem sc_law : FnScope N_law ["_law_script"] (defScope s_law) := ⟨rfl, rfl, rfl, by decide +kernel, rfl, by decide +kernel, by decide +kernel⟩
/-- what the top has written -/
structure Tx (P : Program) (w : World) (K : PySem.W.Frag) (mg : Str → Option Value) (base : Heap) : Prop where
  d_is_number : GFun K mg "is_number" s_is_number
  d_is_within : GFun K mg "is_within" s_is_within
  d_is_list : GFun K mg "is_list" s_is_list
  d_is_name : GFun K mg "is_name" s_is_name
  d_is_slot : GFun K mg "is_slot" s_is_slot
  d_are_slots : GFun K mg "are_slots" s_are_slots
  d_is_roll : GFun K mg "is_roll" s_is_roll
  d__law_begun : GFun K mg "_law_begun" s__law_begun
  d__law_mixed : GFun K mg "_law_mixed" s__law_mixed
  d__law_take : GFun K mg "_law_take" s__law_take
  d__law_pick : GFun K mg "_law_pick" s__law_pick
  d__law_any_of : GFun K mg "_law_any_of" s__law_any_of
  d__law_shuffled : GFun K mg "_law_shuffled" s__law_shuffled
  d__law_names : GFun K mg "_law_names" s__law_names
  d__law_all_spots : GFun K mg "_law_all_spots" s__law_all_spots
  d__law_caught : GFun K mg "_law_caught" s__law_caught
  d__law_is_number : GFun K mg "_law_is_number" s__law_is_number
  d__law_is_short : GFun K mg "_law_is_short" s__law_is_short
  d__law_is_in : GFun K mg "_law_is_in" s__law_is_in
  d__law_are_spots : GFun K mg "_law_are_spots" s__law_are_spots
  d__law_is_flow : GFun K mg "_law_is_flow" s__law_is_flow
  d__law_wrong : GFun K mg "_law_wrong" s__law_wrong
  d__law_given : GFun K mg "_law_given" s__law_given
  d__law_bent : GFun K mg "_law_bent" s__law_bent
  d__law_made : GFun K mg "_law_made" s__law_made
  d__law_is_right : GFun K mg "_law_is_right" s__law_is_right
  d__law_parts : GFun K mg "_law_parts" s__law_parts
  d_law : GFun K mg "law" s_law
  n_abs : mg "abs" = none
  n_all : mg "all" = none
  n_bool : mg "bool" = none
  n_dict : mg "dict" = none
  n_int : mg "int" = none
  n_isinstance : mg "isinstance" = none
  n_len : mg "len" = none
  n_list : mg "list" = none
  n_max : mg "max" = none
  n_min : mg "min" = none
  n_range : mg "range" = none
  n_repr : mg "repr" = none
  n_set : mg "set" = none
  n_sorted : mg "sorted" = none
  n_str : mg "str" = none
  n_tuple : mg "tuple" = none
  c_LETTERS : ∃ t, mg "LETTERS" = some (.str "abcdefghijklmnopqrstuvwxyz" t)
  c_LONGEST_NAME : ∃ t, mg "LONGEST_NAME" = some (.int 6 t)
  c_MOST_DAYS : ∃ t, mg "MOST_DAYS" = some (.int 4 t)
  c_MOST_SLOTS : ∃ t, mg "MOST_SLOTS" = some (.int 12 t)
  c_MOST_AMOUNT : ∃ t, mg "MOST_AMOUNT" = some (.int 3 t)
  c_MOST_COST : ∃ t, mg "MOST_COST" = some (.int 99 t)
  g_PackError : mg "PackError" = some (.ref (He.ga K "PackError"))
  g_BadPack : mg "BadPack" = some (.ref (He.ga K "BadPack"))
  g_Pack : mg "Pack" = some (.ref (He.ga K "Pack"))
  i_Pack : IFun K (He.ga K "Pack") "Pack.__init__" s_Pack___init__ [.non, .non]
  cl_Pack : Cls K (He.ga K "Pack")
  oc_Pack : ("Pack" : Str) ∈ ownCls K
  na_Pack_own_slots : NoAttr K (He.ga K "Pack") "own_slots"
  na_Pack_own_amount : NoAttr K (He.ga K "Pack") "own_amount"
  na_Pack_own_cost : NoAttr K (He.ga K "Pack") "own_cost"
  na_Pack_own_roll : NoAttr K (He.ga K "Pack") "own_roll"
  m_Pack_slots : PFun K (He.ga K "Pack") "slots" "Pack.slots" s_Pack_slots
  m_Pack_amount : PFun K (He.ga K "Pack") "amount" "Pack.amount" s_Pack_amount
  m_Pack_cost : PFun K (He.ga K "Pack") "cost" "Pack.cost" s_Pack_cost
  m_Pack_roll : PFun K (He.ga K "Pack") "roll" "Pack.roll" s_Pack_roll
  m_Pack_last : PFun K (He.ga K "Pack") "last" "Pack.last" s_Pack_last
  m_Pack_told : MFun K (He.ga K "Pack") "told" "Pack.told" s_Pack_told
  m_Pack___eq__ : MFun K (He.ga K "Pack") "__eq__" "Pack.__eq__" s_Pack___eq__
  oi_PackError : ("PackError" : Str) ∈ ownCls K ++ ownX K
  ox_PackError : ("PackError" : Str) ∈ ownX K
  e_PackError : PySem.W.excIn K (He.ga K "PackError") He.veBase "ValueError.__new__" = true ∧ PySem.W.keepIn K (.ref (He.ga K "PackError")) = true ∧ PySem.W.subIn K (.ref (He.ga K "PackError")) (.type "BaseException") = some true ∧ PySem.W.typeIn K (.ref (He.ga K "PackError")) = some (.type "type")
  oi_BadPack : ("BadPack" : Str) ∈ ownCls K ++ ownX K
  ox_BadPack : ("BadPack" : Str) ∈ ownX K
  s_BadPack : SupC P K (He.ga K "BadPack") (fiOf K "BadPack") "part"
  oi_Pack : ("Pack" : Str) ∈ ownCls K ++ ownX K
  ne_Pack : PySem.W.findIn K (.ref (He.ga K "Pack")) "__ne__" = some (some (.builtin "object.__ne__")) ∧ PySem.W.subIn K (.ref (He.ga K "Pack")) (.type "object") = some true
  ct : ClsT K (ownCls K) (ownX K)
  nx_part : NoX K "part"
  l_law : LFun K mg base "law" s_law
end ND
/-! the head in few pieces, over states that are written out -/
noncomputable section
namespace ND
open PySem PySem.W PySem.Calls PyProof.Rows HandSHeadRun
section
variable (st : SharedT → Thread → Option (SharedT × Thread)) (n0 : Nat) (ann : Option Value)
def tgF : Nat → SharedT → Thread → Option (SharedT × Thread)
  | 0, s, t => some (s, t)
  | m + 1, s, t => match through t with
    | true => none
    | false => match stepOk n0 ann t with
      | false => none
      | true => match st s t with
        | some (s', t') => frS s' fun s' => tgF m s' t'
        | none => none
def sgF : Nat → SharedT → Thread → Option (Flow × SharedT × Code × Pos)
  | 0, _, _ => none
  | m + 1, s, t => match endAt 1 t with
    | some f => some (f, s, t.code, t.pos)
    | none => match stepOk n0 ann t with
      | false => none
      | true => match st s t with
        | some (s', t') => frS s' fun s' => sgF m s' t'
        | none => none
end
section
variable {tb : String → Option Builtin} {p : Program} {w : World} {n0 : Nat} {ann : Option Value}
theorem tgF_ok : ∀ {m : Nat} {s s' : SharedT} {t t' : Thread}, tgF (stepT (denote tb) p w) n0 ann m s t = some (s', t') → topGo tb p w n0 ann m s.abs t = some (s'.abs, t')
  | 0, s, s', t, t', h => by cases h; rfl
  | m + 1, s, s', t, t', h => by
    unfold tgF at h
    unfold topGo
    cases ht : through t with
    | true => rw [ht] at h; cases h
    | false =>
      rw [ht] at h
      cases hk : stepOk n0 ann t with
      | false => rw [hk] at h; cases h
      | true =>
        rw [hk] at h
        cases hs : stepT (denote tb) p w s t with
        | none => rw [hs] at h; cases h
        | some r =>
          obtain ⟨s2, t2⟩ := r
          rw [hs] at h
          have h3 : (frS s2 fun s' => tgF (stepT (denote tb) p w) n0 ann m s' t2) = some (s', t') := h
          rw [frS_eq] at h3
          rw [stepT_spec hs]
          exact tgF_ok h3
theorem sgF_ok : ∀ {m : Nat} {s s' : SharedT} {t : Thread} {f : Flow} {c : Code} {q : Pos}, sgF (stepT (denote tb) p w) n0 ann m s t = some (f, s', c, q) → segRun tb p w n0 ann 1 m s.abs t = some (f, s'.abs, c, q)
  | 0, _, _, _, _, _, _, h => by cases h
  | m + 1, s, s', t, f, c, q, h => by
    unfold sgF at h
    unfold segRun
    cases he : endAt 1 t with
    | some x => rw [he] at h; cases h; rfl
    | none =>
      rw [he] at h
      cases hk : stepOk n0 ann t with
      | false => rw [hk] at h; cases h
      | true =>
        rw [hk] at h
        cases hs : stepT (denote tb) p w s t with
        | none => rw [hs] at h; cases h
        | some r =>
          obtain ⟨s2, t2⟩ := r
          rw [hs] at h
          have h3 : (frS s2 fun s' => sgF (stepT (denote tb) p w) n0 ann m s' t2) = some (f, s', c, q) := h
          rw [frS_eq] at h3
          rw [stepT_spec hs]
          exact sgF_ok h3
end
/-- a state between two pieces -/
structure Cut where
  tree : Params → PySem.W.BT
  n : Nat
  life : Life
  drawn : Drawn
  toks : Nat
  pos : Pos
def Cut.at (c : Cut) (w : World) (os : OsState) : SharedT := ⟨c.tree w.params, c.n, c.life, #[], c.drawn, c.toks, os⟩
/-- what all pieces know -/
structure TopI where
  p : Program
  n0 : Nat
  code : Value
  frame : Addr
  q : Pos
def TopI.env (i : TopI) : Env := { scope := i.p.main.scope, locals := mainNs, globals := mainNs, cells := [], code := i.code, frame := some i.frame }
abbrev TopI.cE (i : TopI) : Code := .body (behindTheImports i.p) i.env
abbrev TopI.B (i : TopI) : List Frame := [topFrame i.q]
abbrev stW (p : Program) (w : World) : SharedT → Thread → Option (SharedT × Thread) := stepQ (denQ tabQ) p w
theorem stW_eq (p : Program) (w : World) : stW p w = stepT (denote treeTable) p w := by
  unfold stW
  rw [stepQ_eq, denQ_eq, tabQ_eq]
def Seg (i : TopI) (M : Nat) (l : List Stmt) (c1 c2 : Cut) : Prop := ∀ (w : World) (os : OsState),
  sgF (stW i.p w) i.n0 (bootAnn w) M (c1.at w os) (piecesOf l i.env i.cE c1.pos i.B) = some (.next, c2.at w os, i.cE, c2.pos)
def Pre (i : TopI) (k0 : Nat) (b : Cut) (pos0 : Pos) : Prop := ∀ (w : World) (os : OsState),
  (tgF (stW i.p w) i.n0 (bootAnn w) k0 (b.at w os) (topStub i.p)).map (·.2) = some ⟨denQ tabQ i.cE, i.cE, pos0, i.B⟩
def Blk (i : TopI) (k0 kb : Nat) (b : Cut) (pos0 : Pos) (posb : Pos) : Prop := ∀ (w : World) (os : OsState),
  ((tgF (stW i.p w) i.n0 (bootAnn w) k0 (b.at w os) (topStub i.p)).bind fun x => sgF (stW i.p w) i.n0 (bootAnn w) kb x.1 (blockOf (behindTheImports i.p) i.env i.cE pos0 i.B)).map (fun y => (y.1, y.2.2)) = some (.next, i.cE, posb)
def Fst (i : TopI) (k0 kb : Nat) (b : Cut) (pos0 : Pos) (posb : Pos) (M : Nat) (l : List Stmt) (c : Cut) : Prop := ∀ (w : World) (os : OsState),
  ((tgF (stW i.p w) i.n0 (bootAnn w) k0 (b.at w os) (topStub i.p)).bind fun x => (sgF (stW i.p w) i.n0 (bootAnn w) kb x.1 (blockOf (behindTheImports i.p) i.env i.cE pos0 i.B)).bind fun y =>
    sgF (stW i.p w) i.n0 (bootAnn w) M y.2.1 (piecesOf l i.env i.cE posb i.B)) = some (.next, c.at w os, i.cE, c.pos)
/-- the run comes to c, where rest is left -/
def Comes (i : TopI) (b : Cut) (K : Nat) (rest : List Stmt) (c : Cut) : Prop := ∀ (w : World) (os : OsState) (N : Nat) (r : Shared),
  topRun treeTable i.p w i.n0 (bootAnn w) N (c.at w os).abs (restOf rest i.env i.cE c.pos i.B) = some r → topRun treeTable i.p w i.n0 (bootAnn w) (K + N) (b.at w os).abs (topStub i.p) = some r
theorem Comes.first {i : TopI} {k0 kb M k : Nat} {b c : Cut} {pos0 posb : Pos} (h1 : Pre i k0 b pos0) (h2 : Blk i k0 kb b pos0 posb) (h3 : Fst i k0 kb b pos0 posb M ((behindTheImports i.p).take k) c) :
    Comes i b (k0 + (kb + M)) ((behindTheImports i.p).drop k) c := fun w os N r hr => by
  have h1 := h1 w os
  have h2 := h2 w os
  have h3 := h3 w os
  rw [stW_eq] at h1 h2 h3
  rw [← denQ_eq, ← tabQ_eq] at h1
  obtain ⟨⟨s1, t1⟩, e1, e1'⟩ := Option.map_eq_some_iff.mp h1
  rw [e1] at h2 h3
  have h2' : (sgF (stepT (denote treeTable) i.p w) i.n0 (bootAnn w) kb s1 (blockOf (behindTheImports i.p) i.env i.cE pos0 i.B)).map (fun y => (y.1, y.2.2)) = some (.next, i.cE, posb) := h2
  have h3' : ((sgF (stepT (denote treeTable) i.p w) i.n0 (bootAnn w) kb s1 (blockOf (behindTheImports i.p) i.env i.cE pos0 i.B)).bind fun y =>
    sgF (stepT (denote treeTable) i.p w) i.n0 (bootAnn w) M y.2.1 (piecesOf ((behindTheImports i.p).take k) i.env i.cE posb i.B)) = some (.next, c.at w os, i.cE, c.pos) := h3
  obtain ⟨⟨f2, s2, c2, p2⟩, e2, e2'⟩ := Option.map_eq_some_iff.mp h2'
  rw [e2] at h3'
  have h3'' : sgF (stepT (denote treeTable) i.p w) i.n0 (bootAnn w) M s2 (piecesOf ((behindTheImports i.p).take k) i.env i.cE posb i.B) = some (.next, c.at w os, i.cE, c.pos) := h3'
  obtain ⟨rfl, z⟩ := Prod.mk.inj e2'
  obtain ⟨rfl, rfl⟩ := Prod.mk.inj z
  have q3 := piece_app (rest := (behindTheImports i.p).drop k) (sgF_ok h3'') hr
  rw [List.take_append_drop] at q3
  have q2 := piece_block (sgF_ok e2) q3
  have e1'' : t1 = _ := e1'
  subst e1''
  have q1 := go_top (tgF_ok e1) q2
  rw [show k0 + (kb + M) + N = k0 + (kb + (M + N)) by omega]
  exact q1
theorem Comes.next {i : TopI} {K M k : Nat} {b c1 c2 : Cut} {rest : List Stmt} (h : Comes i b K rest c1) (s : Seg i M (rest.take k) c1 c2) : Comes i b (K + M) (rest.drop k) c2 := fun w os N r hr => by
  have s := s w os
  rw [stW_eq] at s
  have q := piece_app (rest := rest.drop k) (sgF_ok s) hr
  rw [List.take_append_drop] at q
  have := h w os _ _ q
  rw [show K + M + N = K + (M + N) by omega]
  exact this
/-- the looks behind the top -/
def Look {α : Type} (i : TopI) (Mf : Nat) (c : Cut) (f : World → SharedT → α) (v : World → α) : Prop := ∀ (w : World) (os : OsState),
  (goF (stW i.p w) i.n0 (bootAnn w) Mf (c.at w os) ⟨doneF .next, i.cE, c.pos, i.B⟩).map (f w) = some (v w)
def BootIs (i : TopI) (b : Cut) : Prop := ∀ P : Params, (putAll (boot_heap P).objs.toList .nil 0, (boot_heap P).life, boot_drawn, boot_toks) = (some (b.tree P, i.n0), b.life, b.drawn, b.toks) ∧ b.n = i.n0
theorem left_cut {i : TopI} {b c : Cut} {K Mf : Nat} {q : Program} {loose : List Str} {Xt : Shared → Bool} {α : Type} {Yf : Shared → α} {ob : SharedT → α} {Ya : World → α}
    (e : opening i.p = plainProg i.p.main.scope.names) (f : ∀ s, fenceModules? i.p s = some s) (hb : BootIs i b) (h : Comes i b K [] c) (ho : ∀ s : SharedT, ob s = Yf s.abs)
    (l1 : Look i Mf c (fun w s => looksF i.p (boot_heap w.params) s.abs) fun _ => true) (l2 : Look i Mf c (fun _ s => seenQ q loose (importedModules i.p.main.body) Xt s.abs) fun _ => openGood q loose) (l3 : Look i Mf c (fun _ s => ob s) Ya) :
    LeftO i.p q loose Xt Yf Ya (K + Mf + 600) true := fun w => by
  obtain ⟨⟨hp, gs, d, k, os⟩, a, a'⟩ := Option.map_eq_some_iff.mp (boot_open e (N := K + Mf + 600) (Nat.ble_eq_true_of_le (by omega)) f w)
  obtain ⟨rfl, rfl, rfl, rfl⟩ : hp = boot_heap w.params ∧ gs = Array.mk [] ∧ d = boot_drawn ∧ k = boot_toks := by simpa using a'
  obtain ⟨s, hs, hv⟩ := Option.map_eq_some_iff.mp (l1 w os)
  obtain ⟨s2, hs2, hv2⟩ := Option.map_eq_some_iff.mp (l2 w os)
  obtain ⟨s3, hs3, hv3⟩ := Option.map_eq_some_iff.mp (l3 w os)
  rw [hs] at hs2 hs3
  cases hs2
  cases hs3
  rw [stW_eq] at hs
  have r := h w os Mf _ (piece_nil (goF_ok hs))
  obtain ⟨z, zn⟩ := hb w.params
  obtain ⟨z1, z⟩ := Prod.mk.inj z
  obtain ⟨z2, z⟩ := Prod.mk.inj z
  obtain ⟨z3, z4⟩ := Prod.mk.inj z
  have eh := putAll_heap z1
  have en : (boot_heap w.params).objs.size = i.n0 := by
    rw [← eh]
    exact absHeap_size _ _ _
  have eb : (b.at w os).abs = ⟨boot_heap w.params, #[], boot_drawn, boot_toks, os⟩ := by
    show (⟨absHeap (b.tree w.params) b.n b.life, #[], b.drawn, b.toks, os⟩ : Shared) = _
    rw [zn, ← z2, eh, ← z3, ← z4]
  rw [eb] at r
  have r := topRun_mono 600 _ _ _ _ r
  have l1' : (staticsOk (importedModules i.p.main.body) (boot_heap w.params) s.abs.heap && namesBound i.p s.abs.heap && gensDone s.abs && laidKept (boot_heap w.params) s.abs.heap) = true := hv
  have t : topFrom treeTable i.p w (K + Mf + 600) ⟨boot_heap w.params, Array.mk [], boot_drawn, boot_toks, os⟩ = some s.abs := by
    unfold topFrom
    dsimp only
    rw [boot_ns, en]
    show (topRun treeTable i.p w i.n0 (bootAnn w) (K + Mf + 600) ⟨boot_heap w.params, #[], boot_drawn, boot_toks, os⟩ (topStub i.p)).bind _ = _
    rw [r]
    show (match staticsOk (importedModules i.p.main.body) (boot_heap w.params) s.abs.heap && namesBound i.p s.abs.heap && gensDone s.abs && laidKept (boot_heap w.params) s.abs.heap with | true => some s.abs | false => none) = _
    rw [l1']
  unfold openEnds
  rw [a]
  show (topFrom treeTable i.p w _ _).map _ = _
  rw [t]
  have hv2' : seenQ q loose (importedModules i.p.main.body) Xt s.abs = openGood q loose := hv2
  rw [← seenQ_eq] at hv2'
  have hv3' : ob s = Ya w := hv3
  rw [ho] at hv3'
  exact congrArg some (Prod.ext hv2' hv3')
theorem head_cut {i : TopI} {b c : Cut} {K Mf : Nat} {r : OpenRow} {q : Program} {H : Hook} {ob : SharedT → H.α} {loose : List PySem.Str} {d : DefRec} {kwd : List (PySem.Str × PySem.Expr)} (ip : i.p = r.prog) (ho : ∀ s : SharedT, ob s = H.obs s.abs)
    (e : opening r.prog = plainProg r.prog.main.scope.names) (f : ∀ s, fenceModules? r.prog s = some s) (hbt : BootIs i b) (h : Comes i b K [] c)
    (l1 : Look i Mf c (fun w s => looksF r.prog (boot_heap w.params) s.abs) fun _ => true) (l2 : Look i Mf c (fun _ s => seenQ q loose (importedModules r.prog.main.body) (fun s => xlAt q [] s && recOk r.toRowW.records s) s.abs) fun _ => openGood q loose) (l3 : Look i Mf c (fun _ s => ob s) H.val)
    (hdef : defOf q r.name = some (d, kwd)) (hp : r.prog.theDef r.name = some (d.params, d.body, d.scope)) (hk : kwWritten? d.params.kwonlyargs d.params.kw_defaults = some kwd)
    (hwr : (!r.writes || r.records.isEmpty) = true) (k1 : r.wellSaid = true) (ok : (chainsOk q && opensWell r.prog && (frees r.toRowW && r.within.isEmpty)) = true) (hb : r.prog.bare) (hw : r.toRowW.promised)
    (call : WalkO q loose (XL q []) H.says r.toRowW d kwd fun f vs => PySem.call f vs) : r.Holds := by
  have left : LeftO r.prog q loose (fun s => xlAt q [] s && recOk r.toRowW.records s) H.obs H.val (K + Mf + 600) true := by
    rw [← ip] at e f l1 l2 ⊢
    exact left_cut e f hbt h ho l1 l2 l3
  exact holds_open (r := r) (q := q) (loose := loose) (XP := XL q []) (YP := H.says) (d := d) (kwd := kwd) left H.of H.keeps (fun s z => xl_of s (Bool.and_eq_true_iff.mp z).1) XL.keeps hdef hp hk (fun s z => recFacts_of (Bool.and_eq_true_iff.mp z).2) hwr k1 ok hb hw call
end ND
noncomputable section
namespace ND
open PySem PySem.Spec PyProof.Rows L2
open PySem.W
def t0 (P : Params) : BT := (.node (boot_o_0 P) (.node (boot_o_1 P) (.node (boot_o_3 P) (.node (boot_o_7 P) .nil .nil) .nil) (.node (boot_o_5 P) (.node (boot_o_9 P) .nil .nil) .nil)) (.node (boot_o_2 P) (.node (boot_o_4 P) (.node (boot_o_8 P) .nil .nil) .nil) (.node (boot_o_6 P) (.node (boot_o_10 P) .nil .nil) .nil)))
def topI : TopI := ⟨PySem.Challenge.pw_narrowdraws_k02_packs_as_made, 11, .ref 13, 14, ⟨0, 0, 0, 0⟩⟩
def cut0 : Cut := ⟨t0, 11, {}, ⟨0, 0, 0, 0⟩, 181, default⟩
def x1_3 (P : Params) : Obj := ⟨.type "dict", none, .dict #[⟨PyData.keyHash P "__name__", .str "__name__" 165, .str "narrowdraws.plans" 241⟩, ⟨PyData.keyHash P "__doc__", .str "__doc__" 166, .none⟩, ⟨PyData.keyHash P "__package__", .str "__package__" 167, .none⟩, ⟨PyData.keyHash P "__loader__", .str "__loader__" 168, .builtin "__main__.__loader__#opaque"⟩, ⟨PyData.keyHash P "__spec__", .str "__spec__" 169, .none⟩, ⟨PyData.keyHash P "__annotations__", .str "__annotations__" 170, .ref 6⟩, ⟨PyData.keyHash P "__builtins__", .str "__builtins__" 171, .ref 4⟩, ⟨PyData.keyHash P "__file__", .str "__file__" 173, .str "/claim/cut.py" 172⟩, ⟨PyData.keyHash P "__cached__", .str "__cached__" 174, .none⟩, ⟨PyData.keyHash P "_wall", .str "_wall" 193, .ref 21⟩, ⟨PyData.keyHash P "PackError", .str "PackError" 213, .ref 31⟩, ⟨PyData.keyHash P "BadPack", .str "BadPack" 240, .ref 53⟩, ⟨PyData.keyHash P "LETTERS", .str "LETTERS" 244, .str "abcdefghijklmnopqrstuvwxyz" 243⟩, ⟨PyData.keyHash P "LONGEST_NAME", .str "LONGEST_NAME" 246, .int 6 245⟩, ⟨PyData.keyHash P "MOST_DAYS", .str "MOST_DAYS" 248, .int 4 247⟩, ⟨PyData.keyHash P "MOST_SLOTS", .str "MOST_SLOTS" 250, .int 12 249⟩, ⟨PyData.keyHash P "MOST_AMOUNT", .str "MOST_AMOUNT" 252, .int 3 251⟩, ⟨PyData.keyHash P "MOST_COST", .str "MOST_COST" 254, .int 99 253⟩, ⟨PyData.keyHash P "is_number", .str "is_number" 261, .ref 62⟩, ⟨PyData.keyHash P "is_within", .str "is_within" 270, .ref 69⟩, ⟨PyData.keyHash P "is_list", .str "is_list" 277, .ref 76⟩, ⟨PyData.keyHash P "is_name", .str "is_name" 283, .ref 81⟩, ⟨PyData.keyHash P "is_slot", .str "is_slot" 290, .ref 88⟩, ⟨PyData.keyHash P "are_slots", .str "are_slots" 296, .ref 93⟩, ⟨PyData.keyHash P "is_roll", .str "is_roll" 303, .ref 100⟩, ⟨PyData.keyHash P "Pack", .str "Pack" 408, .ref 184⟩] 26, #[]⟩
def x1_11 (P : Params) : Obj := ⟨.type "tuple", none, .seq #[] 0, #[]⟩
def x1_12 (P : Params) : Obj := ⟨.none, none, .fields #[.int 1 0, .int 0 0, .ref 20, .int 5 0, .int 0 0, .ref 27, .int 7 0, .int 0 0, .ref 41, .int 19 0, .int 0 0, .ref 61, .int 21 0, .int 0 0, .ref 68, .int 23 0, .int 0 0, .ref 75, .int 25 0, .int 0 0, .ref 80, .int 29 0, .int 0 0, .ref 87, .int 31 0, .int 0 0, .ref 92, .int 35 0, .int 0 0, .ref 99, .int 39 0, .int 0 0, .ref 106], #[]⟩
def x1_13 (P : Params) : Obj := ⟨.type "code", none, .fields #[.str "<module>" 182, .str "<module>" 183, .str "/claim/cut.py" 184, .int 1 0, .int 0 0, .int 0 0, .int 0 0, .int 0 0, .ref 11, .bool false, .int 181 0, .ref 12, .none, .none, .none, .none, .int 185 0, .int 1 0, .str "/claim/cut.py" 186], #[]⟩
def x1_14 (P : Params) : Obj := ⟨.type "frame", none, .plain, #[(some (.ref 13)), (some (.ref 3)), (some (.ref 3)), none, (some (.str "__main__" 164)), none, (some (.ref 0))]⟩
def x1_15 (P : Params) : Obj := ⟨.type "tuple", none, .seq #[] 0, #[]⟩
def x1_16 (P : Params) : Obj := ⟨.none, none, .fields #[], #[]⟩
def x1_17 (P : Params) : Obj := ⟨.type "tuple", none, .seq #[.str "k" 190] 0, #[]⟩
def x1_18 (P : Params) : Obj := ⟨.type "tuple", none, .seq #[] 0, #[]⟩
def x1_19 (P : Params) : Obj := ⟨.none, none, .func ⟨"_wall", "_wall", L2.defArgs (topS 0), .stmts (L2.defBody (topS 0)), L2.defScope (topS 0), 0, [], .none, .none, .none, .none, none, .none, .none, 0⟩, #[]⟩
def x1_20 (P : Params) : Obj := ⟨.type "code", none, .fields #[.str "_wall" 187, .str "_wall" 188, .str "/claim/cut.py" 189, .int 1 0, .int 1 0, .int 0 0, .int 0 0, .int 3 0, .ref 15, .bool true, .int 181 0, .ref 16, .none, .ref 17, .ref 18, .ref 19, .int 191 0, .int 1 0, .str "/claim/cut.py" 192], #[]⟩
def x1_21 (P : Params) : Obj := ⟨.type "function", none, .func ⟨"_wall", "_wall", L2.defArgs (topS 0), .stmts (L2.defBody (topS 0)), L2.defScope (topS 0), 3, [], .none, .none, .none, .str "__main__" 164, none, .ref 20, .none, 0⟩, #[]⟩
def x1_22 (P : Params) : Obj := ⟨.type "tuple", none, .seq #[.type "ValueError"] 0, #[]⟩
def x1_23 (P : Params) : Obj := ⟨.type "builtin_function_or_method", none, .fields #[.builtin "type.__prepare__", .type "type"], #[]⟩
def x1_24 (P : Params) : Obj := ⟨.type "dict", none, .dict #[⟨PyData.keyHash P "__module__", .str "__module__" 203, .str "narrowdraws.errors" 194⟩, ⟨PyData.keyHash P "__qualname__", .str "__qualname__" 205, .str "PackError" 204⟩, ⟨PyData.keyHash P "__firstlineno__", .str "__firstlineno__" 207, .int 5 206⟩, ⟨PyData.keyHash P "__static_attributes__", .str "__static_attributes__" 208, .ref 29⟩] 4, #[]⟩
def x1_25 (P : Params) : Obj := ⟨.type "tuple", none, .seq #[] 0, #[]⟩
def x1_26 (P : Params) : Obj := ⟨.none, none, .fields #[], #[]⟩
def x1_27 (P : Params) : Obj := ⟨.type "code", none, .fields #[.str "PackError" 198, .str "PackError" 199, .str "/claim/cut.py" 200, .int 5 0, .int 0 0, .int 0 0, .int 0 0, .int 0 0, .ref 25, .bool false, .int 181 0, .ref 26, .none, .none, .none, .none, .int 201 0, .int 5 0, .str "/claim/cut.py" 202], #[]⟩
def x1_28 (P : Params) : Obj := ⟨.type "frame", none, .plain, #[(some (.ref 27)), (some (.ref 3)), (some (.ref 24)), none, (some (.str "narrowdraws.errors" 194)), none, (some (.ref 0))]⟩
def x1_29 (P : Params) : Obj := ⟨.type "tuple", none, .seq #[] 0, #[]⟩
def x1_30 (P : Params) : Obj := ⟨.type "dict", none, .dict #[⟨PyData.keyHash P "__module__", .str "__module__" 203, .str "narrowdraws.errors" 194⟩, ⟨PyData.keyHash P "__firstlineno__", .str "__firstlineno__" 207, .int 5 206⟩, ⟨PyData.keyHash P "__static_attributes__", .str "__static_attributes__" 208, .ref 29⟩, ⟨PyData.keyHash P "__weakref__", .str "__weakref__" 210, .ref 32⟩, ⟨PyData.keyHash P "__doc__", .str "__doc__" 211, .none⟩] 3, #[]⟩
def x1_31 (P : Params) : Obj := ⟨.type "type", none, .cls ⟨"PackError", [.type "ValueError"], [.ref 31, .type "ValueError", .type "Exception", .type "BaseException", .type "object"], 30, "PackError", true, [], [.ref 53], false, none, false⟩, #[(some (.ref 22)), none, (some (.str "PackError" 196)), (some (.str "PackError" 204)), (some (.builtin "ValueError.__new__")), (some (.bool true))]⟩
def x1_32 (P : Params) : Obj := ⟨.type "getset_descriptor", none, .fields #[.str "__weakref__" 209, .ref 31, .builtin "ExceptionGroup.__weakref__", .none], #[]⟩
def x1_33 (P : Params) : Obj := ⟨.type "super", none, .fields #[.ref 31, .ref 31, .ref 31], #[]⟩
def x1_34 (P : Params) : Obj := ⟨.type "builtin_function_or_method", none, .fields #[.builtin "object.__init_subclass__", .ref 31], #[]⟩
def x1_35 (P : Params) : Obj := ⟨.type "tuple", none, .seq #[.ref 31] 0, #[]⟩
def x1_36 (P : Params) : Obj := ⟨.type "builtin_function_or_method", none, .fields #[.builtin "type.__prepare__", .type "type"], #[]⟩
def x1_37 (P : Params) : Obj := ⟨.type "dict", none, .dict #[⟨PyData.keyHash P "__module__", .str "__module__" 221, .str "narrowdraws.errors" 194⟩, ⟨PyData.keyHash P "__qualname__", .str "__qualname__" 223, .str "BadPack" 222⟩, ⟨PyData.keyHash P "__firstlineno__", .str "__firstlineno__" 225, .int 7 224⟩, ⟨PyData.keyHash P "__init__", .str "__init__" 234, .ref 50⟩, ⟨PyData.keyHash P "__static_attributes__", .str "__static_attributes__" 236, .ref 51⟩, ⟨PyData.keyHash P "__classcell__", .str "__classcell__" 237, .ref 38⟩] 6, #[]⟩
def x1_38 (P : Params) : Obj := ⟨.type "cell", none, .cell (some (.ref 53)), #[]⟩
def x1_39 (P : Params) : Obj := ⟨.type "tuple", none, .seq #[] 0, #[]⟩
def x1_40 (P : Params) : Obj := ⟨.none, none, .fields #[.int 9 0, .int 4 0, .ref 49], #[]⟩
def x1_41 (P : Params) : Obj := ⟨.type "code", none, .fields #[.str "BadPack" 216, .str "BadPack" 217, .str "/claim/cut.py" 218, .int 7 0, .int 0 0, .int 0 0, .int 0 0, .int 0 0, .ref 39, .bool false, .int 181 0, .ref 40, .none, .none, .none, .none, .int 219 0, .int 7 0, .str "/claim/cut.py" 220], #[]⟩
def x1_42 (P : Params) : Obj := ⟨.type "frame", none, .plain, #[(some (.ref 41)), (some (.ref 3)), (some (.ref 37)), none, (some (.str "narrowdraws.errors" 194)), none, (some (.ref 0))]⟩
def x1_43 (P : Params) : Obj := ⟨.type "tuple", none, .seq #[.ref 38] 0, #[]⟩
def x1_44 (P : Params) : Obj := ⟨.type "tuple", none, .seq #[.str "__class__" 229] 0, #[]⟩
def x1_45 (P : Params) : Obj := ⟨.none, none, .fields #[], #[]⟩
def x1_46 (P : Params) : Obj := ⟨.type "tuple", none, .seq #[.str "self" 230, .str "part" 231] 0, #[]⟩
def x1_47 (P : Params) : Obj := ⟨.type "tuple", none, .seq #[] 0, #[]⟩
def x1_48 (P : Params) : Obj := ⟨.none, none, .func ⟨"__init__", "BadPack.__init__", L2.defArgs (inClass (topS 3) 0), .stmts (L2.defBody (inClass (topS 3) 0)), L2.defScope (inClass (topS 3) 0), 0, [], .none, .none, .none, .none, none, .none, .none, 0⟩, #[]⟩
def x1_49 (P : Params) : Obj := ⟨.type "code", none, .fields #[.str "__init__" 226, .str "BadPack.__init__" 227, .str "/claim/cut.py" 228, .int 9 0, .int 2 0, .int 0 0, .int 0 0, .int 3 0, .ref 44, .bool true, .int 181 0, .ref 45, .none, .ref 46, .ref 47, .ref 48, .int 232 0, .int 9 0, .str "/claim/cut.py" 233], #[]⟩
def x1_50 (P : Params) : Obj := ⟨.type "function", none, .func ⟨"__init__", "BadPack.__init__", L2.defArgs (inClass (topS 3) 0), .stmts (L2.defBody (inClass (topS 3) 0)), L2.defScope (inClass (topS 3) 0), 3, [("__class__", 38)], .none, .none, .none, .str "narrowdraws.errors" 194, none, .ref 49, .ref 43, 0⟩, #[]⟩
def x1_51 (P : Params) : Obj := ⟨.type "tuple", none, .seq #[.str "part" 235] 0, #[]⟩
def x1_52 (P : Params) : Obj := ⟨.type "dict", none, .dict #[⟨PyData.keyHash P "__module__", .str "__module__" 221, .str "narrowdraws.errors" 194⟩, ⟨PyData.keyHash P "__firstlineno__", .str "__firstlineno__" 225, .int 7 224⟩, ⟨PyData.keyHash P "__init__", .str "__init__" 234, .ref 50⟩, ⟨PyData.keyHash P "__static_attributes__", .str "__static_attributes__" 236, .ref 51⟩, ⟨PyData.keyHash P "__doc__", .str "__doc__" 238, .none⟩] 3, #[]⟩
def x1_53 (P : Params) : Obj := ⟨.type "type", none, .cls ⟨"BadPack", [.ref 31], [.ref 53, .ref 31, .type "ValueError", .type "Exception", .type "BaseException", .type "object"], 52, "BadPack", true, [], [], false, none, false⟩, #[(some (.ref 35)), none, (some (.str "BadPack" 214)), (some (.str "BadPack" 222)), (some (.builtin "ValueError.__new__")), (some (.bool true))]⟩
def x1_54 (P : Params) : Obj := ⟨.type "super", none, .fields #[.ref 53, .ref 53, .ref 53], #[]⟩
def x1_55 (P : Params) : Obj := ⟨.type "builtin_function_or_method", none, .fields #[.builtin "object.__init_subclass__", .ref 53], #[]⟩
def x1_56 (P : Params) : Obj := ⟨.type "tuple", none, .seq #[] 0, #[]⟩
def x1_57 (P : Params) : Obj := ⟨.none, none, .fields #[], #[]⟩
def x1_58 (P : Params) : Obj := ⟨.type "tuple", none, .seq #[.str "thing" 258] 0, #[]⟩
def x1_59 (P : Params) : Obj := ⟨.type "tuple", none, .seq #[] 0, #[]⟩
def x1_60 (P : Params) : Obj := ⟨.none, none, .func ⟨"is_number", "is_number", L2.defArgs (topS 11), .stmts (L2.defBody (topS 11)), L2.defScope (topS 11), 0, [], .none, .none, .none, .none, none, .none, .none, 0⟩, #[]⟩
def x1_61 (P : Params) : Obj := ⟨.type "code", none, .fields #[.str "is_number" 255, .str "is_number" 256, .str "/claim/cut.py" 257, .int 19 0, .int 1 0, .int 0 0, .int 0 0, .int 3 0, .ref 56, .bool true, .int 181 0, .ref 57, .none, .ref 58, .ref 59, .ref 60, .int 259 0, .int 19 0, .str "/claim/cut.py" 260], #[]⟩
def x1_62 (P : Params) : Obj := ⟨.type "function", none, .func ⟨"is_number", "is_number", L2.defArgs (topS 11), .stmts (L2.defBody (topS 11)), L2.defScope (topS 11), 3, [], .none, .none, .none, .str "narrowdraws.plans" 241, none, .ref 61, .none, 0⟩, #[]⟩
def x1_63 (P : Params) : Obj := ⟨.type "tuple", none, .seq #[] 0, #[]⟩
def x1_64 (P : Params) : Obj := ⟨.none, none, .fields #[], #[]⟩
def x1_65 (P : Params) : Obj := ⟨.type "tuple", none, .seq #[.str "thing" 265, .str "least" 266, .str "most" 267] 0, #[]⟩
def x1_66 (P : Params) : Obj := ⟨.type "tuple", none, .seq #[] 0, #[]⟩
def x1_67 (P : Params) : Obj := ⟨.none, none, .func ⟨"is_within", "is_within", L2.defArgs (topS 12), .stmts (L2.defBody (topS 12)), L2.defScope (topS 12), 0, [], .none, .none, .none, .none, none, .none, .none, 0⟩, #[]⟩
def x1_68 (P : Params) : Obj := ⟨.type "code", none, .fields #[.str "is_within" 262, .str "is_within" 263, .str "/claim/cut.py" 264, .int 21 0, .int 3 0, .int 0 0, .int 0 0, .int 3 0, .ref 63, .bool true, .int 181 0, .ref 64, .none, .ref 65, .ref 66, .ref 67, .int 268 0, .int 21 0, .str "/claim/cut.py" 269], #[]⟩
def x1_69 (P : Params) : Obj := ⟨.type "function", none, .func ⟨"is_within", "is_within", L2.defArgs (topS 12), .stmts (L2.defBody (topS 12)), L2.defScope (topS 12), 3, [], .none, .none, .none, .str "narrowdraws.plans" 241, none, .ref 68, .none, 0⟩, #[]⟩
def x1_70 (P : Params) : Obj := ⟨.type "tuple", none, .seq #[] 0, #[]⟩
def x1_71 (P : Params) : Obj := ⟨.none, none, .fields #[], #[]⟩
def x1_72 (P : Params) : Obj := ⟨.type "tuple", none, .seq #[.str "thing" 274] 0, #[]⟩
def x1_73 (P : Params) : Obj := ⟨.type "tuple", none, .seq #[] 0, #[]⟩
def x1_74 (P : Params) : Obj := ⟨.none, none, .func ⟨"is_list", "is_list", L2.defArgs (topS 13), .stmts (L2.defBody (topS 13)), L2.defScope (topS 13), 0, [], .none, .none, .none, .none, none, .none, .none, 0⟩, #[]⟩
def x1_75 (P : Params) : Obj := ⟨.type "code", none, .fields #[.str "is_list" 271, .str "is_list" 272, .str "/claim/cut.py" 273, .int 23 0, .int 1 0, .int 0 0, .int 0 0, .int 3 0, .ref 70, .bool true, .int 181 0, .ref 71, .none, .ref 72, .ref 73, .ref 74, .int 275 0, .int 23 0, .str "/claim/cut.py" 276], #[]⟩
def x1_76 (P : Params) : Obj := ⟨.type "function", none, .func ⟨"is_list", "is_list", L2.defArgs (topS 13), .stmts (L2.defBody (topS 13)), L2.defScope (topS 13), 3, [], .none, .none, .none, .str "narrowdraws.plans" 241, none, .ref 75, .none, 0⟩, #[]⟩
def x1_77 (P : Params) : Obj := ⟨.type "tuple", none, .seq #[] 0, #[]⟩
def x1_78 (P : Params) : Obj := ⟨.none, none, .fields #[], #[]⟩
def x1_79 (P : Params) : Obj := ⟨.none, none, .func ⟨"is_name", "is_name", L2.defArgs (topS 14), .stmts (L2.defBody (topS 14)), L2.defScope (topS 14), 0, [], .none, .none, .none, .none, none, .none, .none, 0⟩, #[]⟩
def x1_80 (P : Params) : Obj := ⟨.type "code", none, .fields #[.str "is_name" 278, .str "is_name" 279, .str "/claim/cut.py" 280, .int 25 0, .int 1 0, .int 0 0, .int 0 0, .int 3 0, .ref 77, .bool true, .int 181 0, .ref 78, .none, .none, .none, .ref 79, .int 281 0, .int 25 0, .str "/claim/cut.py" 282], #[]⟩
def x1_81 (P : Params) : Obj := ⟨.type "function", none, .func ⟨"is_name", "is_name", L2.defArgs (topS 14), .stmts (L2.defBody (topS 14)), L2.defScope (topS 14), 3, [], .none, .none, .none, .str "narrowdraws.plans" 241, none, .ref 80, .none, 0⟩, #[]⟩
def x1_82 (P : Params) : Obj := ⟨.type "tuple", none, .seq #[] 0, #[]⟩
def x1_83 (P : Params) : Obj := ⟨.none, none, .fields #[], #[]⟩
def x1_84 (P : Params) : Obj := ⟨.type "tuple", none, .seq #[.str "thing" 287] 0, #[]⟩
def x1_85 (P : Params) : Obj := ⟨.type "tuple", none, .seq #[] 0, #[]⟩
def x1_86 (P : Params) : Obj := ⟨.none, none, .func ⟨"is_slot", "is_slot", L2.defArgs (topS 15), .stmts (L2.defBody (topS 15)), L2.defScope (topS 15), 0, [], .none, .none, .none, .none, none, .none, .none, 0⟩, #[]⟩
def x1_87 (P : Params) : Obj := ⟨.type "code", none, .fields #[.str "is_slot" 284, .str "is_slot" 285, .str "/claim/cut.py" 286, .int 29 0, .int 1 0, .int 0 0, .int 0 0, .int 3 0, .ref 82, .bool true, .int 181 0, .ref 83, .none, .ref 84, .ref 85, .ref 86, .int 288 0, .int 29 0, .str "/claim/cut.py" 289], #[]⟩
def x1_88 (P : Params) : Obj := ⟨.type "function", none, .func ⟨"is_slot", "is_slot", L2.defArgs (topS 15), .stmts (L2.defBody (topS 15)), L2.defScope (topS 15), 3, [], .none, .none, .none, .str "narrowdraws.plans" 241, none, .ref 87, .none, 0⟩, #[]⟩
def x1_89 (P : Params) : Obj := ⟨.type "tuple", none, .seq #[] 0, #[]⟩
def x1_90 (P : Params) : Obj := ⟨.none, none, .fields #[], #[]⟩
def x1_91 (P : Params) : Obj := ⟨.none, none, .func ⟨"are_slots", "are_slots", L2.defArgs (topS 16), .stmts (L2.defBody (topS 16)), L2.defScope (topS 16), 0, [], .none, .none, .none, .none, none, .none, .none, 0⟩, #[]⟩
def x1_92 (P : Params) : Obj := ⟨.type "code", none, .fields #[.str "are_slots" 291, .str "are_slots" 292, .str "/claim/cut.py" 293, .int 31 0, .int 1 0, .int 0 0, .int 0 0, .int 3 0, .ref 89, .bool true, .int 181 0, .ref 90, .none, .none, .none, .ref 91, .int 294 0, .int 31 0, .str "/claim/cut.py" 295], #[]⟩
def x1_93 (P : Params) : Obj := ⟨.type "function", none, .func ⟨"are_slots", "are_slots", L2.defArgs (topS 16), .stmts (L2.defBody (topS 16)), L2.defScope (topS 16), 3, [], .none, .none, .none, .str "narrowdraws.plans" 241, none, .ref 92, .none, 0⟩, #[]⟩
def x1_94 (P : Params) : Obj := ⟨.type "tuple", none, .seq #[] 0, #[]⟩
def x1_95 (P : Params) : Obj := ⟨.none, none, .fields #[], #[]⟩
def x1_96 (P : Params) : Obj := ⟨.type "tuple", none, .seq #[.str "thing" 300] 0, #[]⟩
def x1_97 (P : Params) : Obj := ⟨.type "tuple", none, .seq #[] 0, #[]⟩
def x1_98 (P : Params) : Obj := ⟨.none, none, .func ⟨"is_roll", "is_roll", L2.defArgs (topS 17), .stmts (L2.defBody (topS 17)), L2.defScope (topS 17), 0, [], .none, .none, .none, .none, none, .none, .none, 0⟩, #[]⟩
def x1_99 (P : Params) : Obj := ⟨.type "code", none, .fields #[.str "is_roll" 297, .str "is_roll" 298, .str "/claim/cut.py" 299, .int 35 0, .int 1 0, .int 0 0, .int 0 0, .int 3 0, .ref 94, .bool true, .int 181 0, .ref 95, .none, .ref 96, .ref 97, .ref 98, .int 301 0, .int 35 0, .str "/claim/cut.py" 302], #[]⟩
def x1_100 (P : Params) : Obj := ⟨.type "function", none, .func ⟨"is_roll", "is_roll", L2.defArgs (topS 17), .stmts (L2.defBody (topS 17)), L2.defScope (topS 17), 3, [], .none, .none, .none, .str "narrowdraws.plans" 241, none, .ref 99, .none, 0⟩, #[]⟩
def x1_101 (P : Params) : Obj := ⟨.type "tuple", none, .seq #[] 0, #[]⟩
def x1_102 (P : Params) : Obj := ⟨.type "builtin_function_or_method", none, .fields #[.builtin "type.__prepare__", .type "type"], #[]⟩
def x1_103 (P : Params) : Obj := ⟨.type "dict", none, .dict #[⟨PyData.keyHash P "__module__", .str "__module__" 311, .str "narrowdraws.plans" 241⟩, ⟨PyData.keyHash P "__qualname__", .str "__qualname__" 313, .str "Pack" 312⟩, ⟨PyData.keyHash P "__firstlineno__", .str "__firstlineno__" 315, .int 39 314⟩, ⟨PyData.keyHash P "__init__", .str "__init__" 326, .ref 115⟩, ⟨PyData.keyHash P "slots", .str "slots" 334, .ref 123⟩, ⟨PyData.keyHash P "amount", .str "amount" 342, .ref 131⟩, ⟨PyData.keyHash P "cost", .str "cost" 350, .ref 139⟩, ⟨PyData.keyHash P "roll", .str "roll" 358, .ref 147⟩, ⟨PyData.keyHash P "last", .str "last" 365, .ref 153⟩, ⟨PyData.keyHash P "told", .str "told" 372, .ref 160⟩, ⟨PyData.keyHash P "with_amount", .str "with_amount" 380, .ref 167⟩, ⟨PyData.keyHash P "__eq__", .str "__eq__" 388, .ref 174⟩, ⟨PyData.keyHash P "__iter__", .str "__iter__" 395, .ref 181⟩, ⟨PyData.keyHash P "__static_attributes__", .str "__static_attributes__" 400, .ref 182⟩] 14, #[]⟩
def x1_104 (P : Params) : Obj := ⟨.type "tuple", none, .seq #[] 0, #[]⟩
def x1_105 (P : Params) : Obj := ⟨.none, none, .fields #[.int 41 0, .int 4 0, .ref 114, .int 56 0, .int 4 0, .ref 121, .int 60 0, .int 4 0, .ref 129, .int 64 0, .int 4 0, .ref 137, .int 68 0, .int 4 0, .ref 145, .int 72 0, .int 4 0, .ref 151, .int 75 0, .int 4 0, .ref 159, .int 78 0, .int 4 0, .ref 166, .int 81 0, .int 4 0, .ref 173, .int 84 0, .int 4 0, .ref 180], #[]⟩
def x1_106 (P : Params) : Obj := ⟨.type "code", none, .fields #[.str "Pack" 306, .str "Pack" 307, .str "/claim/cut.py" 308, .int 39 0, .int 0 0, .int 0 0, .int 0 0, .int 0 0, .ref 104, .bool false, .int 181 0, .ref 105, .none, .none, .none, .none, .int 309 0, .int 39 0, .str "/claim/cut.py" 310], #[]⟩
def x1_107 (P : Params) : Obj := ⟨.type "frame", none, .plain, #[(some (.ref 106)), (some (.ref 3)), (some (.ref 103)), none, (some (.str "narrowdraws.plans" 241)), none, (some (.ref 0))]⟩
def x1_108 (P : Params) : Obj := ⟨.type "tuple", none, .seq #[.none, .none] 0, #[]⟩
def x1_109 (P : Params) : Obj := ⟨.type "tuple", none, .seq #[] 0, #[]⟩
def x1_110 (P : Params) : Obj := ⟨.none, none, .fields #[], #[]⟩
def x1_111 (P : Params) : Obj := ⟨.type "tuple", none, .seq #[.str "self" 319, .str "slots" 320, .str "amount" 321, .str "cost" 322, .str "roll" 323] 0, #[]⟩
def x1_112 (P : Params) : Obj := ⟨.type "tuple", none, .seq #[] 0, #[]⟩
def x1_113 (P : Params) : Obj := ⟨.none, none, .func ⟨"__init__", "Pack.__init__", L2.defArgs (inClass (topS 18) 0), .stmts (L2.defBody (inClass (topS 18) 0)), L2.defScope (inClass (topS 18) 0), 0, [], .none, .none, .none, .none, none, .none, .none, 0⟩, #[]⟩
def x1_114 (P : Params) : Obj := ⟨.type "code", none, .fields #[.str "__init__" 316, .str "Pack.__init__" 317, .str "/claim/cut.py" 318, .int 41 0, .int 5 0, .int 0 0, .int 0 0, .int 3 0, .ref 109, .bool true, .int 181 0, .ref 110, .none, .ref 111, .ref 112, .ref 113, .int 324 0, .int 41 0, .str "/claim/cut.py" 325], #[]⟩
def x1_115 (P : Params) : Obj := ⟨.type "function", none, .func ⟨"__init__", "Pack.__init__", L2.defArgs (inClass (topS 18) 0), .stmts (L2.defBody (inClass (topS 18) 0)), L2.defScope (inClass (topS 18) 0), 3, [], .ref 108, .none, .none, .str "narrowdraws.plans" 241, none, .ref 114, .none, 0⟩, #[]⟩
def x1_116 (P : Params) : Obj := ⟨.type "tuple", none, .seq #[] 0, #[]⟩
def x1_117 (P : Params) : Obj := ⟨.none, none, .fields #[], #[]⟩
def x1_118 (P : Params) : Obj := ⟨.type "tuple", none, .seq #[.str "self" 330] 0, #[]⟩
def x1_119 (P : Params) : Obj := ⟨.type "tuple", none, .seq #[] 0, #[]⟩
def x1_120 (P : Params) : Obj := ⟨.none, none, .func ⟨"slots", "Pack.slots", L2.defArgs (inClass (topS 18) 1), .stmts (L2.defBody (inClass (topS 18) 1)), L2.defScope (inClass (topS 18) 1), 0, [], .none, .none, .none, .none, none, .none, .none, 0⟩, #[]⟩
def x1_121 (P : Params) : Obj := ⟨.type "code", none, .fields #[.str "slots" 327, .str "Pack.slots" 328, .str "/claim/cut.py" 329, .int 55 0, .int 1 0, .int 0 0, .int 0 0, .int 3 0, .ref 116, .bool true, .int 181 0, .ref 117, .none, .ref 118, .ref 119, .ref 120, .int 331 0, .int 55 0, .str "/claim/cut.py" 332], #[]⟩
def x1_122 (P : Params) : Obj := ⟨.type "function", none, .func ⟨"slots", "Pack.slots", L2.defArgs (inClass (topS 18) 1), .stmts (L2.defBody (inClass (topS 18) 1)), L2.defScope (inClass (topS 18) 1), 3, [], .none, .none, .none, .str "narrowdraws.plans" 241, none, .ref 121, .none, 0⟩, #[]⟩
def x1_123 (P : Params) : Obj := ⟨.type "property", none, .fields #[.ref 122, .none, .none, .none, .str "slots" 334, .bool false], #[]⟩
def x1_124 (P : Params) : Obj := ⟨.type "tuple", none, .seq #[] 0, #[]⟩
def x1_125 (P : Params) : Obj := ⟨.none, none, .fields #[], #[]⟩
def x1_126 (P : Params) : Obj := ⟨.type "tuple", none, .seq #[.str "self" 338] 0, #[]⟩
def x1_127 (P : Params) : Obj := ⟨.type "tuple", none, .seq #[] 0, #[]⟩
def x1_128 (P : Params) : Obj := ⟨.none, none, .func ⟨"amount", "Pack.amount", L2.defArgs (inClass (topS 18) 2), .stmts (L2.defBody (inClass (topS 18) 2)), L2.defScope (inClass (topS 18) 2), 0, [], .none, .none, .none, .none, none, .none, .none, 0⟩, #[]⟩
def x1_129 (P : Params) : Obj := ⟨.type "code", none, .fields #[.str "amount" 335, .str "Pack.amount" 336, .str "/claim/cut.py" 337, .int 59 0, .int 1 0, .int 0 0, .int 0 0, .int 3 0, .ref 124, .bool true, .int 181 0, .ref 125, .none, .ref 126, .ref 127, .ref 128, .int 339 0, .int 59 0, .str "/claim/cut.py" 340], #[]⟩
def x1_130 (P : Params) : Obj := ⟨.type "function", none, .func ⟨"amount", "Pack.amount", L2.defArgs (inClass (topS 18) 2), .stmts (L2.defBody (inClass (topS 18) 2)), L2.defScope (inClass (topS 18) 2), 3, [], .none, .none, .none, .str "narrowdraws.plans" 241, none, .ref 129, .none, 0⟩, #[]⟩
def x1_131 (P : Params) : Obj := ⟨.type "property", none, .fields #[.ref 130, .none, .none, .none, .str "amount" 342, .bool false], #[]⟩
def x1_132 (P : Params) : Obj := ⟨.type "tuple", none, .seq #[] 0, #[]⟩
def x1_133 (P : Params) : Obj := ⟨.none, none, .fields #[], #[]⟩
def x1_134 (P : Params) : Obj := ⟨.type "tuple", none, .seq #[.str "self" 346] 0, #[]⟩
def x1_135 (P : Params) : Obj := ⟨.type "tuple", none, .seq #[] 0, #[]⟩
def x1_136 (P : Params) : Obj := ⟨.none, none, .func ⟨"cost", "Pack.cost", L2.defArgs (inClass (topS 18) 3), .stmts (L2.defBody (inClass (topS 18) 3)), L2.defScope (inClass (topS 18) 3), 0, [], .none, .none, .none, .none, none, .none, .none, 0⟩, #[]⟩
def x1_137 (P : Params) : Obj := ⟨.type "code", none, .fields #[.str "cost" 343, .str "Pack.cost" 344, .str "/claim/cut.py" 345, .int 63 0, .int 1 0, .int 0 0, .int 0 0, .int 3 0, .ref 132, .bool true, .int 181 0, .ref 133, .none, .ref 134, .ref 135, .ref 136, .int 347 0, .int 63 0, .str "/claim/cut.py" 348], #[]⟩
def x1_138 (P : Params) : Obj := ⟨.type "function", none, .func ⟨"cost", "Pack.cost", L2.defArgs (inClass (topS 18) 3), .stmts (L2.defBody (inClass (topS 18) 3)), L2.defScope (inClass (topS 18) 3), 3, [], .none, .none, .none, .str "narrowdraws.plans" 241, none, .ref 137, .none, 0⟩, #[]⟩
def x1_139 (P : Params) : Obj := ⟨.type "property", none, .fields #[.ref 138, .none, .none, .none, .str "cost" 350, .bool false], #[]⟩
def x1_140 (P : Params) : Obj := ⟨.type "tuple", none, .seq #[] 0, #[]⟩
def x1_141 (P : Params) : Obj := ⟨.none, none, .fields #[], #[]⟩
def x1_142 (P : Params) : Obj := ⟨.type "tuple", none, .seq #[.str "self" 354] 0, #[]⟩
def x1_143 (P : Params) : Obj := ⟨.type "tuple", none, .seq #[] 0, #[]⟩
def x1_144 (P : Params) : Obj := ⟨.none, none, .func ⟨"roll", "Pack.roll", L2.defArgs (inClass (topS 18) 4), .stmts (L2.defBody (inClass (topS 18) 4)), L2.defScope (inClass (topS 18) 4), 0, [], .none, .none, .none, .none, none, .none, .none, 0⟩, #[]⟩
def x1_145 (P : Params) : Obj := ⟨.type "code", none, .fields #[.str "roll" 351, .str "Pack.roll" 352, .str "/claim/cut.py" 353, .int 67 0, .int 1 0, .int 0 0, .int 0 0, .int 3 0, .ref 140, .bool true, .int 181 0, .ref 141, .none, .ref 142, .ref 143, .ref 144, .int 355 0, .int 67 0, .str "/claim/cut.py" 356], #[]⟩
def x1_146 (P : Params) : Obj := ⟨.type "function", none, .func ⟨"roll", "Pack.roll", L2.defArgs (inClass (topS 18) 4), .stmts (L2.defBody (inClass (topS 18) 4)), L2.defScope (inClass (topS 18) 4), 3, [], .none, .none, .none, .str "narrowdraws.plans" 241, none, .ref 145, .none, 0⟩, #[]⟩
def x1_147 (P : Params) : Obj := ⟨.type "property", none, .fields #[.ref 146, .none, .none, .none, .str "roll" 358, .bool false], #[]⟩
def x1_148 (P : Params) : Obj := ⟨.type "tuple", none, .seq #[] 0, #[]⟩
def x1_149 (P : Params) : Obj := ⟨.none, none, .fields #[], #[]⟩
def x1_150 (P : Params) : Obj := ⟨.none, none, .func ⟨"last", "Pack.last", L2.defArgs (inClass (topS 18) 5), .stmts (L2.defBody (inClass (topS 18) 5)), L2.defScope (inClass (topS 18) 5), 0, [], .none, .none, .none, .none, none, .none, .none, 0⟩, #[]⟩
def x1_151 (P : Params) : Obj := ⟨.type "code", none, .fields #[.str "last" 359, .str "Pack.last" 360, .str "/claim/cut.py" 361, .int 71 0, .int 1 0, .int 0 0, .int 0 0, .int 3 0, .ref 148, .bool true, .int 181 0, .ref 149, .none, .none, .none, .ref 150, .int 362 0, .int 71 0, .str "/claim/cut.py" 363], #[]⟩
def x1_152 (P : Params) : Obj := ⟨.type "function", none, .func ⟨"last", "Pack.last", L2.defArgs (inClass (topS 18) 5), .stmts (L2.defBody (inClass (topS 18) 5)), L2.defScope (inClass (topS 18) 5), 3, [], .none, .none, .none, .str "narrowdraws.plans" 241, none, .ref 151, .none, 0⟩, #[]⟩
def x1_153 (P : Params) : Obj := ⟨.type "property", none, .fields #[.ref 152, .none, .none, .none, .str "last" 365, .bool false], #[]⟩
def x1_154 (P : Params) : Obj := ⟨.type "tuple", none, .seq #[] 0, #[]⟩
def x1_155 (P : Params) : Obj := ⟨.none, none, .fields #[], #[]⟩
def x1_156 (P : Params) : Obj := ⟨.type "tuple", none, .seq #[.str "self" 369] 0, #[]⟩
def x1_157 (P : Params) : Obj := ⟨.type "tuple", none, .seq #[] 0, #[]⟩
def x1_158 (P : Params) : Obj := ⟨.none, none, .func ⟨"told", "Pack.told", L2.defArgs (inClass (topS 18) 6), .stmts (L2.defBody (inClass (topS 18) 6)), L2.defScope (inClass (topS 18) 6), 0, [], .none, .none, .none, .none, none, .none, .none, 0⟩, #[]⟩
def x1_159 (P : Params) : Obj := ⟨.type "code", none, .fields #[.str "told" 366, .str "Pack.told" 367, .str "/claim/cut.py" 368, .int 75 0, .int 1 0, .int 0 0, .int 0 0, .int 3 0, .ref 154, .bool true, .int 181 0, .ref 155, .none, .ref 156, .ref 157, .ref 158, .int 370 0, .int 75 0, .str "/claim/cut.py" 371], #[]⟩
def x1_160 (P : Params) : Obj := ⟨.type "function", none, .func ⟨"told", "Pack.told", L2.defArgs (inClass (topS 18) 6), .stmts (L2.defBody (inClass (topS 18) 6)), L2.defScope (inClass (topS 18) 6), 3, [], .none, .none, .none, .str "narrowdraws.plans" 241, none, .ref 159, .none, 0⟩, #[]⟩
def x1_161 (P : Params) : Obj := ⟨.type "tuple", none, .seq #[] 0, #[]⟩
def x1_162 (P : Params) : Obj := ⟨.none, none, .fields #[], #[]⟩
def x1_163 (P : Params) : Obj := ⟨.type "tuple", none, .seq #[.str "self" 376, .str "amount" 377] 0, #[]⟩
def x1_164 (P : Params) : Obj := ⟨.type "tuple", none, .seq #[] 0, #[]⟩
def x1_165 (P : Params) : Obj := ⟨.none, none, .func ⟨"with_amount", "Pack.with_amount", L2.defArgs (inClass (topS 18) 7), .stmts (L2.defBody (inClass (topS 18) 7)), L2.defScope (inClass (topS 18) 7), 0, [], .none, .none, .none, .none, none, .none, .none, 0⟩, #[]⟩
def x1_166 (P : Params) : Obj := ⟨.type "code", none, .fields #[.str "with_amount" 373, .str "Pack.with_amount" 374, .str "/claim/cut.py" 375, .int 78 0, .int 2 0, .int 0 0, .int 0 0, .int 3 0, .ref 161, .bool true, .int 181 0, .ref 162, .none, .ref 163, .ref 164, .ref 165, .int 378 0, .int 78 0, .str "/claim/cut.py" 379], #[]⟩
def x1_167 (P : Params) : Obj := ⟨.type "function", none, .func ⟨"with_amount", "Pack.with_amount", L2.defArgs (inClass (topS 18) 7), .stmts (L2.defBody (inClass (topS 18) 7)), L2.defScope (inClass (topS 18) 7), 3, [], .none, .none, .none, .str "narrowdraws.plans" 241, none, .ref 166, .none, 0⟩, #[]⟩
def x1_168 (P : Params) : Obj := ⟨.type "tuple", none, .seq #[] 0, #[]⟩
def x1_169 (P : Params) : Obj := ⟨.none, none, .fields #[], #[]⟩
def x1_170 (P : Params) : Obj := ⟨.type "tuple", none, .seq #[.str "self" 384, .str "other" 385] 0, #[]⟩
def x1_171 (P : Params) : Obj := ⟨.type "tuple", none, .seq #[] 0, #[]⟩
def x1_172 (P : Params) : Obj := ⟨.none, none, .func ⟨"__eq__", "Pack.__eq__", L2.defArgs (inClass (topS 18) 8), .stmts (L2.defBody (inClass (topS 18) 8)), L2.defScope (inClass (topS 18) 8), 0, [], .none, .none, .none, .none, none, .none, .none, 0⟩, #[]⟩
def x1_173 (P : Params) : Obj := ⟨.type "code", none, .fields #[.str "__eq__" 381, .str "Pack.__eq__" 382, .str "/claim/cut.py" 383, .int 81 0, .int 2 0, .int 0 0, .int 0 0, .int 3 0, .ref 168, .bool true, .int 181 0, .ref 169, .none, .ref 170, .ref 171, .ref 172, .int 386 0, .int 81 0, .str "/claim/cut.py" 387], #[]⟩
def x1_174 (P : Params) : Obj := ⟨.type "function", none, .func ⟨"__eq__", "Pack.__eq__", L2.defArgs (inClass (topS 18) 8), .stmts (L2.defBody (inClass (topS 18) 8)), L2.defScope (inClass (topS 18) 8), 3, [], .none, .none, .none, .str "narrowdraws.plans" 241, none, .ref 173, .none, 0⟩, #[]⟩
def x1_175 (P : Params) : Obj := ⟨.type "tuple", none, .seq #[] 0, #[]⟩
def x1_176 (P : Params) : Obj := ⟨.none, none, .fields #[], #[]⟩
def x1_177 (P : Params) : Obj := ⟨.type "tuple", none, .seq #[.str "self" 392] 0, #[]⟩
def x1_178 (P : Params) : Obj := ⟨.type "tuple", none, .seq #[] 0, #[]⟩
def x1_179 (P : Params) : Obj := ⟨.none, none, .func ⟨"__iter__", "Pack.__iter__", L2.defArgs (inClass (topS 18) 9), .stmts (L2.defBody (inClass (topS 18) 9)), L2.defScope (inClass (topS 18) 9), 0, [], .none, .none, .none, .none, none, .none, .none, 0⟩, #[]⟩
def x1_180 (P : Params) : Obj := ⟨.type "code", none, .fields #[.str "__iter__" 389, .str "Pack.__iter__" 390, .str "/claim/cut.py" 391, .int 84 0, .int 1 0, .int 0 0, .int 0 0, .int 3 0, .ref 175, .bool true, .int 181 0, .ref 176, .none, .ref 177, .ref 178, .ref 179, .int 393 0, .int 84 0, .str "/claim/cut.py" 394], #[]⟩
def x1_181 (P : Params) : Obj := ⟨.type "function", none, .func ⟨"__iter__", "Pack.__iter__", L2.defArgs (inClass (topS 18) 9), .stmts (L2.defBody (inClass (topS 18) 9)), L2.defScope (inClass (topS 18) 9), 3, [], .none, .none, .none, .str "narrowdraws.plans" 241, none, .ref 180, .none, 0⟩, #[]⟩
def x1_182 (P : Params) : Obj := ⟨.type "tuple", none, .seq #[.str "own_amount" 396, .str "own_cost" 397, .str "own_roll" 398, .str "own_slots" 399] 0, #[]⟩
def x1_183 (P : Params) : Obj := ⟨.type "dict", none, .dict #[⟨PyData.keyHash P "__module__", .str "__module__" 311, .str "narrowdraws.plans" 241⟩, ⟨PyData.keyHash P "__firstlineno__", .str "__firstlineno__" 315, .int 39 314⟩, ⟨PyData.keyHash P "__init__", .str "__init__" 326, .ref 115⟩, ⟨PyData.keyHash P "slots", .str "slots" 334, .ref 123⟩, ⟨PyData.keyHash P "amount", .str "amount" 342, .ref 131⟩, ⟨PyData.keyHash P "cost", .str "cost" 350, .ref 139⟩, ⟨PyData.keyHash P "roll", .str "roll" 358, .ref 147⟩, ⟨PyData.keyHash P "last", .str "last" 365, .ref 153⟩, ⟨PyData.keyHash P "told", .str "told" 372, .ref 160⟩, ⟨PyData.keyHash P "with_amount", .str "with_amount" 380, .ref 167⟩, ⟨PyData.keyHash P "__eq__", .str "__eq__" 388, .ref 174⟩, ⟨PyData.keyHash P "__iter__", .str "__iter__" 395, .ref 181⟩, ⟨PyData.keyHash P "__static_attributes__", .str "__static_attributes__" 400, .ref 182⟩, ⟨PyData.keyHash P "__dict__", .str "__dict__" 402, .ref 185⟩, ⟨PyData.keyHash P "__weakref__", .str "__weakref__" 404, .ref 186⟩, ⟨PyData.keyHash P "__doc__", .str "__doc__" 405, .none⟩, ⟨PyData.keyHash P "__hash__", .str "__hash__" 406, .none⟩] 5, #[]⟩
def x1_184 (P : Params) : Obj := ⟨.type "type", none, .cls ⟨"Pack", [.type "object"], [.ref 184, .type "object"], 183, "Pack", true, [], [], false, none, false⟩, #[none, none, (some (.str "Pack" 304)), (some (.str "Pack" 312)), (some (.builtin "object.__new__")), (some (.bool true))]⟩
def x1_185 (P : Params) : Obj := ⟨.type "getset_descriptor", none, .fields #[.str "__dict__" 401, .ref 184, .builtin "function.__dict__", .builtin "function.__dict__#set"], #[]⟩
def x1_186 (P : Params) : Obj := ⟨.type "getset_descriptor", none, .fields #[.str "__weakref__" 403, .ref 184, .builtin "ExceptionGroup.__weakref__", .none], #[]⟩
def x1_187 (P : Params) : Obj := ⟨.type "super", none, .fields #[.ref 184, .ref 184, .ref 184], #[]⟩
def x1_188 (P : Params) : Obj := ⟨.type "builtin_function_or_method", none, .fields #[.builtin "object.__init_subclass__", .ref 184], #[]⟩
def t1 (P : Params) : BT := (.node (boot_o_0 P) (.node (boot_o_1 P) (.node (x1_3 P) (.node (boot_o_7 P) (.node (x1_15 P) (.node (x1_31 P) (.node (x1_63 P) (.node (x1_127 P) .nil .nil) .nil) (.node (x1_95 P) (.node (x1_159 P) .nil .nil) .nil)) (.node (x1_47 P) (.node (x1_79 P) (.node (x1_143 P) .nil .nil) .nil) (.node (x1_111 P) (.node (x1_175 P) .nil .nil) .nil))) (.node (x1_23 P) (.node (x1_39 P) (.node (x1_71 P) (.node (x1_135 P) .nil .nil) .nil) (.node (x1_103 P) (.node (x1_167 P) .nil .nil) .nil)) (.node (x1_55 P) (.node (x1_87 P) (.node (x1_151 P) .nil .nil) .nil) (.node (x1_119 P) (.node (x1_183 P) .nil .nil) .nil)))) (.node (x1_11 P) (.node (x1_19 P) (.node (x1_35 P) (.node (x1_67 P) (.node (x1_131 P) .nil .nil) .nil) (.node (x1_99 P) (.node (x1_163 P) .nil .nil) .nil)) (.node (x1_51 P) (.node (x1_83 P) (.node (x1_147 P) .nil .nil) .nil) (.node (x1_115 P) (.node (x1_179 P) .nil .nil) .nil))) (.node (x1_27 P) (.node (x1_43 P) (.node (x1_75 P) (.node (x1_139 P) .nil .nil) .nil) (.node (x1_107 P) (.node (x1_171 P) .nil .nil) .nil)) (.node (x1_59 P) (.node (x1_91 P) (.node (x1_155 P) .nil .nil) .nil) (.node (x1_123 P) (.node (x1_187 P) .nil .nil) .nil))))) (.node (boot_o_5 P) (.node (boot_o_9 P) (.node (x1_17 P) (.node (x1_33 P) (.node (x1_65 P) (.node (x1_129 P) .nil .nil) .nil) (.node (x1_97 P) (.node (x1_161 P) .nil .nil) .nil)) (.node (x1_49 P) (.node (x1_81 P) (.node (x1_145 P) .nil .nil) .nil) (.node (x1_113 P) (.node (x1_177 P) .nil .nil) .nil))) (.node (x1_25 P) (.node (x1_41 P) (.node (x1_73 P) (.node (x1_137 P) .nil .nil) .nil) (.node (x1_105 P) (.node (x1_169 P) .nil .nil) .nil)) (.node (x1_57 P) (.node (x1_89 P) (.node (x1_153 P) .nil .nil) .nil) (.node (x1_121 P) (.node (x1_185 P) .nil .nil) .nil)))) (.node (x1_13 P) (.node (x1_21 P) (.node (x1_37 P) (.node (x1_69 P) (.node (x1_133 P) .nil .nil) .nil) (.node (x1_101 P) (.node (x1_165 P) .nil .nil) .nil)) (.node (x1_53 P) (.node (x1_85 P) (.node (x1_149 P) .nil .nil) .nil) (.node (x1_117 P) (.node (x1_181 P) .nil .nil) .nil))) (.node (x1_29 P) (.node (x1_45 P) (.node (x1_77 P) (.node (x1_141 P) .nil .nil) .nil) (.node (x1_109 P) (.node (x1_173 P) .nil .nil) .nil)) (.node (x1_61 P) (.node (x1_93 P) (.node (x1_157 P) .nil .nil) .nil) (.node (x1_125 P) .nil .nil)))))) (.node (boot_o_2 P) (.node (boot_o_4 P) (.node (boot_o_8 P) (.node (x1_16 P) (.node (x1_32 P) (.node (x1_64 P) (.node (x1_128 P) .nil .nil) .nil) (.node (x1_96 P) (.node (x1_160 P) .nil .nil) .nil)) (.node (x1_48 P) (.node (x1_80 P) (.node (x1_144 P) .nil .nil) .nil) (.node (x1_112 P) (.node (x1_176 P) .nil .nil) .nil))) (.node (x1_24 P) (.node (x1_40 P) (.node (x1_72 P) (.node (x1_136 P) .nil .nil) .nil) (.node (x1_104 P) (.node (x1_168 P) .nil .nil) .nil)) (.node (x1_56 P) (.node (x1_88 P) (.node (x1_152 P) .nil .nil) .nil) (.node (x1_120 P) (.node (x1_184 P) .nil .nil) .nil)))) (.node (x1_12 P) (.node (x1_20 P) (.node (x1_36 P) (.node (x1_68 P) (.node (x1_132 P) .nil .nil) .nil) (.node (x1_100 P) (.node (x1_164 P) .nil .nil) .nil)) (.node (x1_52 P) (.node (x1_84 P) (.node (x1_148 P) .nil .nil) .nil) (.node (x1_116 P) (.node (x1_180 P) .nil .nil) .nil))) (.node (x1_28 P) (.node (x1_44 P) (.node (x1_76 P) (.node (x1_140 P) .nil .nil) .nil) (.node (x1_108 P) (.node (x1_172 P) .nil .nil) .nil)) (.node (x1_60 P) (.node (x1_92 P) (.node (x1_156 P) .nil .nil) .nil) (.node (x1_124 P) (.node (x1_188 P) .nil .nil) .nil))))) (.node (boot_o_6 P) (.node (boot_o_10 P) (.node (x1_18 P) (.node (x1_34 P) (.node (x1_66 P) (.node (x1_130 P) .nil .nil) .nil) (.node (x1_98 P) (.node (x1_162 P) .nil .nil) .nil)) (.node (x1_50 P) (.node (x1_82 P) (.node (x1_146 P) .nil .nil) .nil) (.node (x1_114 P) (.node (x1_178 P) .nil .nil) .nil))) (.node (x1_26 P) (.node (x1_42 P) (.node (x1_74 P) (.node (x1_138 P) .nil .nil) .nil) (.node (x1_106 P) (.node (x1_170 P) .nil .nil) .nil)) (.node (x1_58 P) (.node (x1_90 P) (.node (x1_154 P) .nil .nil) .nil) (.node (x1_122 P) (.node (x1_186 P) .nil .nil) .nil)))) (.node (x1_14 P) (.node (x1_22 P) (.node (x1_38 P) (.node (x1_70 P) (.node (x1_134 P) .nil .nil) .nil) (.node (x1_102 P) (.node (x1_166 P) .nil .nil) .nil)) (.node (x1_54 P) (.node (x1_86 P) (.node (x1_150 P) .nil .nil) .nil) (.node (x1_118 P) (.node (x1_182 P) .nil .nil) .nil))) (.node (x1_30 P) (.node (x1_46 P) (.node (x1_78 P) (.node (x1_142 P) .nil .nil) .nil) (.node (x1_110 P) (.node (x1_174 P) .nil .nil) .nil)) (.node (x1_62 P) (.node (x1_94 P) (.node (x1_158 P) .nil .nil) .nil) (.node (x1_126 P) .nil .nil)))))))
def cut1 : Cut := ⟨t1, 189, {}, ⟨0, 0, 0, 0⟩, 409, ⟨39, 0, 85, 54⟩⟩
def x2_3 (P : Params) : Obj := ⟨.type "dict", none, .dict #[⟨PyData.keyHash P "__name__", .str "__name__" 165, .str "law_narrowdraws_k02_packs_as_made" 409⟩, ⟨PyData.keyHash P "__doc__", .str "__doc__" 166, .none⟩, ⟨PyData.keyHash P "__package__", .str "__package__" 167, .none⟩, ⟨PyData.keyHash P "__loader__", .str "__loader__" 168, .builtin "__main__.__loader__#opaque"⟩, ⟨PyData.keyHash P "__spec__", .str "__spec__" 169, .none⟩, ⟨PyData.keyHash P "__annotations__", .str "__annotations__" 170, .ref 6⟩, ⟨PyData.keyHash P "__builtins__", .str "__builtins__" 171, .ref 4⟩, ⟨PyData.keyHash P "__file__", .str "__file__" 173, .str "/claim/cut.py" 172⟩, ⟨PyData.keyHash P "__cached__", .str "__cached__" 174, .none⟩, ⟨PyData.keyHash P "_wall", .str "_wall" 193, .ref 21⟩, ⟨PyData.keyHash P "PackError", .str "PackError" 213, .ref 31⟩, ⟨PyData.keyHash P "BadPack", .str "BadPack" 240, .ref 53⟩, ⟨PyData.keyHash P "LETTERS", .str "LETTERS" 244, .str "abcdefghijklmnopqrstuvwxyz" 243⟩, ⟨PyData.keyHash P "LONGEST_NAME", .str "LONGEST_NAME" 246, .int 6 245⟩, ⟨PyData.keyHash P "MOST_DAYS", .str "MOST_DAYS" 248, .int 4 247⟩, ⟨PyData.keyHash P "MOST_SLOTS", .str "MOST_SLOTS" 250, .int 12 249⟩, ⟨PyData.keyHash P "MOST_AMOUNT", .str "MOST_AMOUNT" 252, .int 3 251⟩, ⟨PyData.keyHash P "MOST_COST", .str "MOST_COST" 254, .int 99 253⟩, ⟨PyData.keyHash P "is_number", .str "is_number" 261, .ref 62⟩, ⟨PyData.keyHash P "is_within", .str "is_within" 270, .ref 69⟩, ⟨PyData.keyHash P "is_list", .str "is_list" 277, .ref 76⟩, ⟨PyData.keyHash P "is_name", .str "is_name" 283, .ref 81⟩, ⟨PyData.keyHash P "is_slot", .str "is_slot" 290, .ref 88⟩, ⟨PyData.keyHash P "are_slots", .str "are_slots" 296, .ref 93⟩, ⟨PyData.keyHash P "is_roll", .str "is_roll" 303, .ref 100⟩, ⟨PyData.keyHash P "Pack", .str "Pack" 408, .ref 184⟩, ⟨PyData.keyHash P "_law_begun", .str "_law_begun" 416, .ref 193⟩, ⟨PyData.keyHash P "_law_mixed", .str "_law_mixed" 428, .ref 200⟩, ⟨PyData.keyHash P "_law_take", .str "_law_take" 437, .ref 207⟩, ⟨PyData.keyHash P "_law_pick", .str "_law_pick" 445, .ref 214⟩, ⟨PyData.keyHash P "_law_any_of", .str "_law_any_of" 451, .ref 219⟩, ⟨PyData.keyHash P "_law_shuffled", .str "_law_shuffled" 461, .ref 226⟩, ⟨PyData.keyHash P "_law_names", .str "_law_names" 467, .ref 231⟩, ⟨PyData.keyHash P "_law_all_spots", .str "_law_all_spots" 473, .ref 236⟩, ⟨PyData.keyHash P "_law_caught", .str "_law_caught" 482, .ref 243⟩, ⟨PyData.keyHash P "_law_is_number", .str "_law_is_number" 489, .ref 250⟩, ⟨PyData.keyHash P "_law_is_short", .str "_law_is_short" 495, .ref 255⟩, ⟨PyData.keyHash P "_law_is_in", .str "_law_is_in" 504, .ref 262⟩, ⟨PyData.keyHash P "_law_are_spots", .str "_law_are_spots" 512, .ref 269⟩, ⟨PyData.keyHash P "_law_is_flow", .str "_law_is_flow" 519, .ref 276⟩, ⟨PyData.keyHash P "_law_wrong", .str "_law_wrong" 526, .ref 283⟩, ⟨PyData.keyHash P "_law_given", .str "_law_given" 536, .ref 290⟩, ⟨PyData.keyHash P "_law_bent", .str "_law_bent" 542, .ref 295⟩, ⟨PyData.keyHash P "_law_made", .str "_law_made" 553, .ref 302⟩, ⟨PyData.keyHash P "_law_is_right", .str "_law_is_right" 559, .ref 307⟩, ⟨PyData.keyHash P "_law_parts", .str "_law_parts" 566, .ref 314⟩, ⟨PyData.keyHash P "law", .str "law" 583, .ref 321⟩] 47, #[]⟩
def x2_12 (P : Params) : Obj := ⟨.none, none, .fields #[.int 1 0, .int 0 0, .ref 20, .int 5 0, .int 0 0, .ref 27, .int 7 0, .int 0 0, .ref 41, .int 19 0, .int 0 0, .ref 61, .int 21 0, .int 0 0, .ref 68, .int 23 0, .int 0 0, .ref 75, .int 25 0, .int 0 0, .ref 80, .int 29 0, .int 0 0, .ref 87, .int 31 0, .int 0 0, .ref 92, .int 35 0, .int 0 0, .ref 99, .int 39 0, .int 0 0, .ref 106, .int 87 0, .int 0 0, .ref 192, .int 90 0, .int 0 0, .ref 199, .int 99 0, .int 0 0, .ref 206, .int 105 0, .int 0 0, .ref 213, .int 107 0, .int 0 0, .ref 218, .int 109 0, .int 0 0, .ref 225, .int 114 0, .int 0 0, .ref 230, .int 123 0, .int 0 0, .ref 235, .int 128 0, .int 0 0, .ref 242, .int 135 0, .int 0 0, .ref 249, .int 137 0, .int 0 0, .ref 254, .int 141 0, .int 0 0, .ref 261, .int 143 0, .int 0 0, .ref 268, .int 150 0, .int 0 0, .ref 275, .int 154 0, .int 0 0, .ref 282, .int 162 0, .int 0 0, .ref 289, .int 169 0, .int 0 0, .ref 294, .int 184 0, .int 0 0, .ref 301, .int 196 0, .int 0 0, .ref 306, .int 200 0, .int 0 0, .ref 313, .int 202 0, .int 0 0, .ref 320], #[]⟩
def x2_189 (P : Params) : Obj := ⟨.type "tuple", none, .seq #[] 0, #[]⟩
def x2_190 (P : Params) : Obj := ⟨.none, none, .fields #[], #[]⟩
def x2_191 (P : Params) : Obj := ⟨.none, none, .func ⟨"_law_begun", "_law_begun", L2.defArgs (topS 20), .stmts (L2.defBody (topS 20)), L2.defScope (topS 20), 0, [], .none, .none, .none, .none, none, .none, .none, 0⟩, #[]⟩
def x2_192 (P : Params) : Obj := ⟨.type "code", none, .fields #[.str "_law_begun" 411, .str "_law_begun" 412, .str "/claim/cut.py" 413, .int 87 0, .int 1 0, .int 0 0, .int 0 0, .int 3 0, .ref 189, .bool true, .int 181 0, .ref 190, .none, .none, .none, .ref 191, .int 414 0, .int 87 0, .str "/claim/cut.py" 415], #[]⟩
def x2_193 (P : Params) : Obj := ⟨.type "function", none, .func ⟨"_law_begun", "_law_begun", L2.defArgs (topS 20), .stmts (L2.defBody (topS 20)), L2.defScope (topS 20), 3, [], .none, .none, .none, .str "law_narrowdraws_k02_packs_as_made" 409, none, .ref 192, .none, 0⟩, #[]⟩
def x2_194 (P : Params) : Obj := ⟨.type "tuple", none, .seq #[] 0, #[]⟩
def x2_195 (P : Params) : Obj := ⟨.none, none, .fields #[], #[]⟩
def x2_196 (P : Params) : Obj := ⟨.type "tuple", none, .seq #[.str "_law_draw" 420, .str "_law_turn" 421, .str "_law_found" 422, .str "_law_prime" 423, .str "_law_blend" 424, .str "_law_grain" 425] 0, #[]⟩
def x2_197 (P : Params) : Obj := ⟨.type "tuple", none, .seq #[] 0, #[]⟩
def x2_198 (P : Params) : Obj := ⟨.none, none, .func ⟨"_law_mixed", "_law_mixed", L2.defArgs (topS 21), .stmts (L2.defBody (topS 21)), L2.defScope (topS 21), 0, [], .none, .none, .none, .none, none, .none, .none, 0⟩, #[]⟩
def x2_199 (P : Params) : Obj := ⟨.type "code", none, .fields #[.str "_law_mixed" 417, .str "_law_mixed" 418, .str "/claim/cut.py" 419, .int 90 0, .int 1 0, .int 0 0, .int 0 0, .int 3 0, .ref 194, .bool true, .int 181 0, .ref 195, .none, .ref 196, .ref 197, .ref 198, .int 426 0, .int 90 0, .str "/claim/cut.py" 427], #[]⟩
def x2_200 (P : Params) : Obj := ⟨.type "function", none, .func ⟨"_law_mixed", "_law_mixed", L2.defArgs (topS 21), .stmts (L2.defBody (topS 21)), L2.defScope (topS 21), 3, [], .none, .none, .none, .str "law_narrowdraws_k02_packs_as_made" 409, none, .ref 199, .none, 0⟩, #[]⟩
def x2_201 (P : Params) : Obj := ⟨.type "tuple", none, .seq #[] 0, #[]⟩
def x2_202 (P : Params) : Obj := ⟨.none, none, .fields #[], #[]⟩
def x2_203 (P : Params) : Obj := ⟨.type "tuple", none, .seq #[.str "_law_draw" 432, .str "_law_size" 433, .str "_law_found" 434] 0, #[]⟩
def x2_204 (P : Params) : Obj := ⟨.type "tuple", none, .seq #[] 0, #[]⟩
def x2_205 (P : Params) : Obj := ⟨.none, none, .func ⟨"_law_take", "_law_take", L2.defArgs (topS 22), .stmts (L2.defBody (topS 22)), L2.defScope (topS 22), 0, [], .none, .none, .none, .none, none, .none, .none, 0⟩, #[]⟩
def x2_206 (P : Params) : Obj := ⟨.type "code", none, .fields #[.str "_law_take" 429, .str "_law_take" 430, .str "/claim/cut.py" 431, .int 99 0, .int 2 0, .int 0 0, .int 0 0, .int 3 0, .ref 201, .bool true, .int 181 0, .ref 202, .none, .ref 203, .ref 204, .ref 205, .int 435 0, .int 99 0, .str "/claim/cut.py" 436], #[]⟩
def x2_207 (P : Params) : Obj := ⟨.type "function", none, .func ⟨"_law_take", "_law_take", L2.defArgs (topS 22), .stmts (L2.defBody (topS 22)), L2.defScope (topS 22), 3, [], .none, .none, .none, .str "law_narrowdraws_k02_packs_as_made" 409, none, .ref 206, .none, 0⟩, #[]⟩
def x2_208 (P : Params) : Obj := ⟨.type "tuple", none, .seq #[] 0, #[]⟩
def x2_209 (P : Params) : Obj := ⟨.none, none, .fields #[], #[]⟩
def x2_210 (P : Params) : Obj := ⟨.type "tuple", none, .seq #[.str "_law_draw" 441, .str "_law_some" 442] 0, #[]⟩
def x2_211 (P : Params) : Obj := ⟨.type "tuple", none, .seq #[] 0, #[]⟩
def x2_212 (P : Params) : Obj := ⟨.none, none, .func ⟨"_law_pick", "_law_pick", L2.defArgs (topS 23), .stmts (L2.defBody (topS 23)), L2.defScope (topS 23), 0, [], .none, .none, .none, .none, none, .none, .none, 0⟩, #[]⟩
def x2_213 (P : Params) : Obj := ⟨.type "code", none, .fields #[.str "_law_pick" 438, .str "_law_pick" 439, .str "/claim/cut.py" 440, .int 105 0, .int 2 0, .int 0 0, .int 0 0, .int 3 0, .ref 208, .bool true, .int 181 0, .ref 209, .none, .ref 210, .ref 211, .ref 212, .int 443 0, .int 105 0, .str "/claim/cut.py" 444], #[]⟩
def x2_214 (P : Params) : Obj := ⟨.type "function", none, .func ⟨"_law_pick", "_law_pick", L2.defArgs (topS 23), .stmts (L2.defBody (topS 23)), L2.defScope (topS 23), 3, [], .none, .none, .none, .str "law_narrowdraws_k02_packs_as_made" 409, none, .ref 213, .none, 0⟩, #[]⟩
def x2_215 (P : Params) : Obj := ⟨.type "tuple", none, .seq #[] 0, #[]⟩
def x2_216 (P : Params) : Obj := ⟨.none, none, .fields #[], #[]⟩
def x2_217 (P : Params) : Obj := ⟨.none, none, .func ⟨"_law_any_of", "_law_any_of", L2.defArgs (topS 24), .stmts (L2.defBody (topS 24)), L2.defScope (topS 24), 0, [], .none, .none, .none, .none, none, .none, .none, 0⟩, #[]⟩
def x2_218 (P : Params) : Obj := ⟨.type "code", none, .fields #[.str "_law_any_of" 446, .str "_law_any_of" 447, .str "/claim/cut.py" 448, .int 107 0, .int 3 0, .int 0 0, .int 0 0, .int 3 0, .ref 215, .bool true, .int 181 0, .ref 216, .none, .none, .none, .ref 217, .int 449 0, .int 107 0, .str "/claim/cut.py" 450], #[]⟩
def x2_219 (P : Params) : Obj := ⟨.type "function", none, .func ⟨"_law_any_of", "_law_any_of", L2.defArgs (topS 24), .stmts (L2.defBody (topS 24)), L2.defScope (topS 24), 3, [], .none, .none, .none, .str "law_narrowdraws_k02_packs_as_made" 409, none, .ref 218, .none, 0⟩, #[]⟩
def x2_220 (P : Params) : Obj := ⟨.type "tuple", none, .seq #[] 0, #[]⟩
def x2_221 (P : Params) : Obj := ⟨.none, none, .fields #[], #[]⟩
def x2_222 (P : Params) : Obj := ⟨.type "tuple", none, .seq #[.str "_law_draw" 455, .str "_law_some" 456, .str "_law_left" 457, .str "_law_found" 458] 0, #[]⟩
def x2_223 (P : Params) : Obj := ⟨.type "tuple", none, .seq #[] 0, #[]⟩
def x2_224 (P : Params) : Obj := ⟨.none, none, .func ⟨"_law_shuffled", "_law_shuffled", L2.defArgs (topS 25), .stmts (L2.defBody (topS 25)), L2.defScope (topS 25), 0, [], .none, .none, .none, .none, none, .none, .none, 0⟩, #[]⟩
def x2_225 (P : Params) : Obj := ⟨.type "code", none, .fields #[.str "_law_shuffled" 452, .str "_law_shuffled" 453, .str "/claim/cut.py" 454, .int 109 0, .int 2 0, .int 0 0, .int 0 0, .int 3 0, .ref 220, .bool true, .int 181 0, .ref 221, .none, .ref 222, .ref 223, .ref 224, .int 459 0, .int 109 0, .str "/claim/cut.py" 460], #[]⟩
def x2_226 (P : Params) : Obj := ⟨.type "function", none, .func ⟨"_law_shuffled", "_law_shuffled", L2.defArgs (topS 25), .stmts (L2.defBody (topS 25)), L2.defScope (topS 25), 3, [], .none, .none, .none, .str "law_narrowdraws_k02_packs_as_made" 409, none, .ref 225, .none, 0⟩, #[]⟩
def x2_227 (P : Params) : Obj := ⟨.type "tuple", none, .seq #[] 0, #[]⟩
def x2_228 (P : Params) : Obj := ⟨.none, none, .fields #[], #[]⟩
def x2_229 (P : Params) : Obj := ⟨.none, none, .func ⟨"_law_names", "_law_names", L2.defArgs (topS 26), .stmts (L2.defBody (topS 26)), L2.defScope (topS 26), 0, [], .none, .none, .none, .none, none, .none, .none, 0⟩, #[]⟩
def x2_230 (P : Params) : Obj := ⟨.type "code", none, .fields #[.str "_law_names" 462, .str "_law_names" 463, .str "/claim/cut.py" 464, .int 114 0, .int 2 0, .int 0 0, .int 0 0, .int 3 0, .ref 227, .bool true, .int 181 0, .ref 228, .none, .none, .none, .ref 229, .int 465 0, .int 114 0, .str "/claim/cut.py" 466], #[]⟩
def x2_231 (P : Params) : Obj := ⟨.type "function", none, .func ⟨"_law_names", "_law_names", L2.defArgs (topS 26), .stmts (L2.defBody (topS 26)), L2.defScope (topS 26), 3, [], .none, .none, .none, .str "law_narrowdraws_k02_packs_as_made" 409, none, .ref 230, .none, 0⟩, #[]⟩
def x2_232 (P : Params) : Obj := ⟨.type "tuple", none, .seq #[] 0, #[]⟩
def x2_233 (P : Params) : Obj := ⟨.none, none, .fields #[], #[]⟩
def x2_234 (P : Params) : Obj := ⟨.none, none, .func ⟨"_law_all_spots", "_law_all_spots", L2.defArgs (topS 27), .stmts (L2.defBody (topS 27)), L2.defScope (topS 27), 0, [], .none, .none, .none, .none, none, .none, .none, 0⟩, #[]⟩
def x2_235 (P : Params) : Obj := ⟨.type "code", none, .fields #[.str "_law_all_spots" 468, .str "_law_all_spots" 469, .str "/claim/cut.py" 470, .int 123 0, .int 2 0, .int 0 0, .int 0 0, .int 3 0, .ref 232, .bool true, .int 181 0, .ref 233, .none, .none, .none, .ref 234, .int 471 0, .int 123 0, .str "/claim/cut.py" 472], #[]⟩
def x2_236 (P : Params) : Obj := ⟨.type "function", none, .func ⟨"_law_all_spots", "_law_all_spots", L2.defArgs (topS 27), .stmts (L2.defBody (topS 27)), L2.defScope (topS 27), 3, [], .none, .none, .none, .str "law_narrowdraws_k02_packs_as_made" 409, none, .ref 235, .none, 0⟩, #[]⟩
def x2_237 (P : Params) : Obj := ⟨.type "tuple", none, .seq #[] 0, #[]⟩
def x2_238 (P : Params) : Obj := ⟨.none, none, .fields #[], #[]⟩
def x2_239 (P : Params) : Obj := ⟨.type "tuple", none, .seq #[.str "_law_task" 477, .str "_law_caught_here" 478, .str "_law_error" 479] 0, #[]⟩
def x2_240 (P : Params) : Obj := ⟨.type "tuple", none, .seq #[] 0, #[]⟩
def x2_241 (P : Params) : Obj := ⟨.none, none, .func ⟨"_law_caught", "_law_caught", L2.defArgs (topS 28), .stmts (L2.defBody (topS 28)), L2.defScope (topS 28), 0, [], .none, .none, .none, .none, none, .none, .none, 0⟩, #[]⟩
def x2_242 (P : Params) : Obj := ⟨.type "code", none, .fields #[.str "_law_caught" 474, .str "_law_caught" 475, .str "/claim/cut.py" 476, .int 128 0, .int 1 0, .int 0 0, .int 0 0, .int 3 0, .ref 237, .bool true, .int 181 0, .ref 238, .none, .ref 239, .ref 240, .ref 241, .int 480 0, .int 128 0, .str "/claim/cut.py" 481], #[]⟩
def x2_243 (P : Params) : Obj := ⟨.type "function", none, .func ⟨"_law_caught", "_law_caught", L2.defArgs (topS 28), .stmts (L2.defBody (topS 28)), L2.defScope (topS 28), 3, [], .none, .none, .none, .str "law_narrowdraws_k02_packs_as_made" 409, none, .ref 242, .none, 0⟩, #[]⟩
def x2_244 (P : Params) : Obj := ⟨.type "tuple", none, .seq #[] 0, #[]⟩
def x2_245 (P : Params) : Obj := ⟨.none, none, .fields #[], #[]⟩
def x2_246 (P : Params) : Obj := ⟨.type "tuple", none, .seq #[.str "_law_item" 486] 0, #[]⟩
def x2_247 (P : Params) : Obj := ⟨.type "tuple", none, .seq #[] 0, #[]⟩
def x2_248 (P : Params) : Obj := ⟨.none, none, .func ⟨"_law_is_number", "_law_is_number", L2.defArgs (topS 29), .stmts (L2.defBody (topS 29)), L2.defScope (topS 29), 0, [], .none, .none, .none, .none, none, .none, .none, 0⟩, #[]⟩
def x2_249 (P : Params) : Obj := ⟨.type "code", none, .fields #[.str "_law_is_number" 483, .str "_law_is_number" 484, .str "/claim/cut.py" 485, .int 135 0, .int 1 0, .int 0 0, .int 0 0, .int 3 0, .ref 244, .bool true, .int 181 0, .ref 245, .none, .ref 246, .ref 247, .ref 248, .int 487 0, .int 135 0, .str "/claim/cut.py" 488], #[]⟩
def x2_250 (P : Params) : Obj := ⟨.type "function", none, .func ⟨"_law_is_number", "_law_is_number", L2.defArgs (topS 29), .stmts (L2.defBody (topS 29)), L2.defScope (topS 29), 3, [], .none, .none, .none, .str "law_narrowdraws_k02_packs_as_made" 409, none, .ref 249, .none, 0⟩, #[]⟩
def x2_251 (P : Params) : Obj := ⟨.type "tuple", none, .seq #[] 0, #[]⟩
def x2_252 (P : Params) : Obj := ⟨.none, none, .fields #[], #[]⟩
def x2_253 (P : Params) : Obj := ⟨.none, none, .func ⟨"_law_is_short", "_law_is_short", L2.defArgs (topS 30), .stmts (L2.defBody (topS 30)), L2.defScope (topS 30), 0, [], .none, .none, .none, .none, none, .none, .none, 0⟩, #[]⟩
def x2_254 (P : Params) : Obj := ⟨.type "code", none, .fields #[.str "_law_is_short" 490, .str "_law_is_short" 491, .str "/claim/cut.py" 492, .int 137 0, .int 1 0, .int 0 0, .int 0 0, .int 3 0, .ref 251, .bool true, .int 181 0, .ref 252, .none, .none, .none, .ref 253, .int 493 0, .int 137 0, .str "/claim/cut.py" 494], #[]⟩
def x2_255 (P : Params) : Obj := ⟨.type "function", none, .func ⟨"_law_is_short", "_law_is_short", L2.defArgs (topS 30), .stmts (L2.defBody (topS 30)), L2.defScope (topS 30), 3, [], .none, .none, .none, .str "law_narrowdraws_k02_packs_as_made" 409, none, .ref 254, .none, 0⟩, #[]⟩
def x2_256 (P : Params) : Obj := ⟨.type "tuple", none, .seq #[] 0, #[]⟩
def x2_257 (P : Params) : Obj := ⟨.none, none, .fields #[], #[]⟩
def x2_258 (P : Params) : Obj := ⟨.type "tuple", none, .seq #[.str "_law_item" 499, .str "_law_low" 500, .str "_law_top" 501] 0, #[]⟩
def x2_259 (P : Params) : Obj := ⟨.type "tuple", none, .seq #[] 0, #[]⟩
def x2_260 (P : Params) : Obj := ⟨.none, none, .func ⟨"_law_is_in", "_law_is_in", L2.defArgs (topS 31), .stmts (L2.defBody (topS 31)), L2.defScope (topS 31), 0, [], .none, .none, .none, .none, none, .none, .none, 0⟩, #[]⟩
def x2_261 (P : Params) : Obj := ⟨.type "code", none, .fields #[.str "_law_is_in" 496, .str "_law_is_in" 497, .str "/claim/cut.py" 498, .int 141 0, .int 3 0, .int 0 0, .int 0 0, .int 3 0, .ref 256, .bool true, .int 181 0, .ref 257, .none, .ref 258, .ref 259, .ref 260, .int 502 0, .int 141 0, .str "/claim/cut.py" 503], #[]⟩
def x2_262 (P : Params) : Obj := ⟨.type "function", none, .func ⟨"_law_is_in", "_law_is_in", L2.defArgs (topS 31), .stmts (L2.defBody (topS 31)), L2.defScope (topS 31), 3, [], .none, .none, .none, .str "law_narrowdraws_k02_packs_as_made" 409, none, .ref 261, .none, 0⟩, #[]⟩
def x2_263 (P : Params) : Obj := ⟨.type "tuple", none, .seq #[] 0, #[]⟩
def x2_264 (P : Params) : Obj := ⟨.none, none, .fields #[], #[]⟩
def x2_265 (P : Params) : Obj := ⟨.type "tuple", none, .seq #[.str "_law_item" 508, .str "_law_spot" 509] 0, #[]⟩
def x2_266 (P : Params) : Obj := ⟨.type "tuple", none, .seq #[] 0, #[]⟩
def x2_267 (P : Params) : Obj := ⟨.none, none, .func ⟨"_law_are_spots", "_law_are_spots", L2.defArgs (topS 32), .stmts (L2.defBody (topS 32)), L2.defScope (topS 32), 0, [], .none, .none, .none, .none, none, .none, .none, 0⟩, #[]⟩
def x2_268 (P : Params) : Obj := ⟨.type "code", none, .fields #[.str "_law_are_spots" 505, .str "_law_are_spots" 506, .str "/claim/cut.py" 507, .int 143 0, .int 1 0, .int 0 0, .int 0 0, .int 3 0, .ref 263, .bool true, .int 181 0, .ref 264, .none, .ref 265, .ref 266, .ref 267, .int 510 0, .int 143 0, .str "/claim/cut.py" 511], #[]⟩
def x2_269 (P : Params) : Obj := ⟨.type "function", none, .func ⟨"_law_are_spots", "_law_are_spots", L2.defArgs (topS 32), .stmts (L2.defBody (topS 32)), L2.defScope (topS 32), 3, [], .none, .none, .none, .str "law_narrowdraws_k02_packs_as_made" 409, none, .ref 268, .none, 0⟩, #[]⟩
def x2_270 (P : Params) : Obj := ⟨.type "tuple", none, .seq #[] 0, #[]⟩
def x2_271 (P : Params) : Obj := ⟨.none, none, .fields #[], #[]⟩
def x2_272 (P : Params) : Obj := ⟨.type "tuple", none, .seq #[.str "_law_item" 516] 0, #[]⟩
def x2_273 (P : Params) : Obj := ⟨.type "tuple", none, .seq #[] 0, #[]⟩
def x2_274 (P : Params) : Obj := ⟨.none, none, .func ⟨"_law_is_flow", "_law_is_flow", L2.defArgs (topS 33), .stmts (L2.defBody (topS 33)), L2.defScope (topS 33), 0, [], .none, .none, .none, .none, none, .none, .none, 0⟩, #[]⟩
def x2_275 (P : Params) : Obj := ⟨.type "code", none, .fields #[.str "_law_is_flow" 513, .str "_law_is_flow" 514, .str "/claim/cut.py" 515, .int 150 0, .int 1 0, .int 0 0, .int 0 0, .int 3 0, .ref 270, .bool true, .int 181 0, .ref 271, .none, .ref 272, .ref 273, .ref 274, .int 517 0, .int 150 0, .str "/claim/cut.py" 518], #[]⟩
def x2_276 (P : Params) : Obj := ⟨.type "function", none, .func ⟨"_law_is_flow", "_law_is_flow", L2.defArgs (topS 33), .stmts (L2.defBody (topS 33)), L2.defScope (topS 33), 3, [], .none, .none, .none, .str "law_narrowdraws_k02_packs_as_made" 409, none, .ref 275, .none, 0⟩, #[]⟩
def x2_277 (P : Params) : Obj := ⟨.type "tuple", none, .seq #[] 0, #[]⟩
def x2_278 (P : Params) : Obj := ⟨.none, none, .fields #[], #[]⟩
def x2_279 (P : Params) : Obj := ⟨.type "tuple", none, .seq #[.str "_law_given_here" 523] 0, #[]⟩
def x2_280 (P : Params) : Obj := ⟨.type "tuple", none, .seq #[] 0, #[]⟩
def x2_281 (P : Params) : Obj := ⟨.none, none, .func ⟨"_law_wrong", "_law_wrong", L2.defArgs (topS 34), .stmts (L2.defBody (topS 34)), L2.defScope (topS 34), 0, [], .none, .none, .none, .none, none, .none, .none, 0⟩, #[]⟩
def x2_282 (P : Params) : Obj := ⟨.type "code", none, .fields #[.str "_law_wrong" 520, .str "_law_wrong" 521, .str "/claim/cut.py" 522, .int 154 0, .int 1 0, .int 0 0, .int 0 0, .int 3 0, .ref 277, .bool true, .int 181 0, .ref 278, .none, .ref 279, .ref 280, .ref 281, .int 524 0, .int 154 0, .str "/claim/cut.py" 525], #[]⟩
def x2_283 (P : Params) : Obj := ⟨.type "function", none, .func ⟨"_law_wrong", "_law_wrong", L2.defArgs (topS 34), .stmts (L2.defBody (topS 34)), L2.defScope (topS 34), 3, [], .none, .none, .none, .str "law_narrowdraws_k02_packs_as_made" 409, none, .ref 282, .none, 0⟩, #[]⟩
def x2_284 (P : Params) : Obj := ⟨.type "tuple", none, .seq #[] 0, #[]⟩
def x2_285 (P : Params) : Obj := ⟨.none, none, .fields #[], #[]⟩
def x2_286 (P : Params) : Obj := ⟨.type "tuple", none, .seq #[.str "_law_draw" 530, .str "_law_kinds" 531, .str "_law_spots" 532, .str "_law_found" 533] 0, #[]⟩
def x2_287 (P : Params) : Obj := ⟨.type "tuple", none, .seq #[] 0, #[]⟩
def x2_288 (P : Params) : Obj := ⟨.none, none, .func ⟨"_law_given", "_law_given", L2.defArgs (topS 35), .stmts (L2.defBody (topS 35)), L2.defScope (topS 35), 0, [], .none, .none, .none, .none, none, .none, .none, 0⟩, #[]⟩
def x2_289 (P : Params) : Obj := ⟨.type "code", none, .fields #[.str "_law_given" 527, .str "_law_given" 528, .str "/claim/cut.py" 529, .int 162 0, .int 1 0, .int 0 0, .int 0 0, .int 3 0, .ref 284, .bool true, .int 181 0, .ref 285, .none, .ref 286, .ref 287, .ref 288, .int 534 0, .int 162 0, .str "/claim/cut.py" 535], #[]⟩
def x2_290 (P : Params) : Obj := ⟨.type "function", none, .func ⟨"_law_given", "_law_given", L2.defArgs (topS 35), .stmts (L2.defBody (topS 35)), L2.defScope (topS 35), 3, [], .none, .none, .none, .str "law_narrowdraws_k02_packs_as_made" 409, none, .ref 289, .none, 0⟩, #[]⟩
def x2_291 (P : Params) : Obj := ⟨.type "tuple", none, .seq #[] 0, #[]⟩
def x2_292 (P : Params) : Obj := ⟨.none, none, .fields #[], #[]⟩
def x2_293 (P : Params) : Obj := ⟨.none, none, .func ⟨"_law_bent", "_law_bent", L2.defArgs (topS 36), .stmts (L2.defBody (topS 36)), L2.defScope (topS 36), 0, [], .none, .none, .none, .none, none, .none, .none, 0⟩, #[]⟩
def x2_294 (P : Params) : Obj := ⟨.type "code", none, .fields #[.str "_law_bent" 537, .str "_law_bent" 538, .str "/claim/cut.py" 539, .int 169 0, .int 2 0, .int 0 0, .int 0 0, .int 3 0, .ref 291, .bool true, .int 181 0, .ref 292, .none, .none, .none, .ref 293, .int 540 0, .int 169 0, .str "/claim/cut.py" 541], #[]⟩
def x2_295 (P : Params) : Obj := ⟨.type "function", none, .func ⟨"_law_bent", "_law_bent", L2.defArgs (topS 36), .stmts (L2.defBody (topS 36)), L2.defScope (topS 36), 3, [], .none, .none, .none, .str "law_narrowdraws_k02_packs_as_made" 409, none, .ref 294, .none, 0⟩, #[]⟩
def x2_296 (P : Params) : Obj := ⟨.type "tuple", none, .seq #[] 0, #[]⟩
def x2_297 (P : Params) : Obj := ⟨.none, none, .fields #[], #[]⟩
def x2_298 (P : Params) : Obj := ⟨.type "tuple", none, .seq #[.str "_law_draw" 546, .str "_law_given_here" 547, .str "_law_spots" 548, .str "_law_passed" 549, .str "_law_found" 550] 0, #[]⟩
def x2_299 (P : Params) : Obj := ⟨.type "tuple", none, .seq #[] 0, #[]⟩
def x2_300 (P : Params) : Obj := ⟨.none, none, .func ⟨"_law_made", "_law_made", L2.defArgs (topS 37), .stmts (L2.defBody (topS 37)), L2.defScope (topS 37), 0, [], .none, .none, .none, .none, none, .none, .none, 0⟩, #[]⟩
def x2_301 (P : Params) : Obj := ⟨.type "code", none, .fields #[.str "_law_made" 543, .str "_law_made" 544, .str "/claim/cut.py" 545, .int 184 0, .int 2 0, .int 0 0, .int 0 0, .int 3 0, .ref 296, .bool true, .int 181 0, .ref 297, .none, .ref 298, .ref 299, .ref 300, .int 551 0, .int 184 0, .str "/claim/cut.py" 552], #[]⟩
def x2_302 (P : Params) : Obj := ⟨.type "function", none, .func ⟨"_law_made", "_law_made", L2.defArgs (topS 37), .stmts (L2.defBody (topS 37)), L2.defScope (topS 37), 3, [], .none, .none, .none, .str "law_narrowdraws_k02_packs_as_made" 409, none, .ref 301, .none, 0⟩, #[]⟩
def x2_303 (P : Params) : Obj := ⟨.type "tuple", none, .seq #[] 0, #[]⟩
def x2_304 (P : Params) : Obj := ⟨.none, none, .fields #[], #[]⟩
def x2_305 (P : Params) : Obj := ⟨.none, none, .func ⟨"_law_is_right", "_law_is_right", L2.defArgs (topS 38), .stmts (L2.defBody (topS 38)), L2.defScope (topS 38), 0, [], .none, .none, .none, .none, none, .none, .none, 0⟩, #[]⟩
def x2_306 (P : Params) : Obj := ⟨.type "code", none, .fields #[.str "_law_is_right" 554, .str "_law_is_right" 555, .str "/claim/cut.py" 556, .int 196 0, .int 2 0, .int 0 0, .int 0 0, .int 3 0, .ref 303, .bool true, .int 181 0, .ref 304, .none, .none, .none, .ref 305, .int 557 0, .int 196 0, .str "/claim/cut.py" 558], #[]⟩
def x2_307 (P : Params) : Obj := ⟨.type "function", none, .func ⟨"_law_is_right", "_law_is_right", L2.defArgs (topS 38), .stmts (L2.defBody (topS 38)), L2.defScope (topS 38), 3, [], .none, .none, .none, .str "law_narrowdraws_k02_packs_as_made" 409, none, .ref 306, .none, 0⟩, #[]⟩
def x2_308 (P : Params) : Obj := ⟨.type "tuple", none, .seq #[] 0, #[]⟩
def x2_309 (P : Params) : Obj := ⟨.none, none, .fields #[], #[]⟩
def x2_310 (P : Params) : Obj := ⟨.type "tuple", none, .seq #[.str "_law_given_here" 563] 0, #[]⟩
def x2_311 (P : Params) : Obj := ⟨.type "tuple", none, .seq #[] 0, #[]⟩
def x2_312 (P : Params) : Obj := ⟨.none, none, .func ⟨"_law_parts", "_law_parts", L2.defArgs (topS 39), .stmts (L2.defBody (topS 39)), L2.defScope (topS 39), 0, [], .none, .none, .none, .none, none, .none, .none, 0⟩, #[]⟩
def x2_313 (P : Params) : Obj := ⟨.type "code", none, .fields #[.str "_law_parts" 560, .str "_law_parts" 561, .str "/claim/cut.py" 562, .int 200 0, .int 1 0, .int 0 0, .int 0 0, .int 3 0, .ref 308, .bool true, .int 181 0, .ref 309, .none, .ref 310, .ref 311, .ref 312, .int 564 0, .int 200 0, .str "/claim/cut.py" 565], #[]⟩
def x2_314 (P : Params) : Obj := ⟨.type "function", none, .func ⟨"_law_parts", "_law_parts", L2.defArgs (topS 39), .stmts (L2.defBody (topS 39)), L2.defScope (topS 39), 3, [], .none, .none, .none, .str "law_narrowdraws_k02_packs_as_made" 409, none, .ref 313, .none, 0⟩, #[]⟩
def x2_315 (P : Params) : Obj := ⟨.type "tuple", none, .seq #[] 0, #[]⟩
def x2_316 (P : Params) : Obj := ⟨.none, none, .fields #[], #[]⟩
def x2_317 (P : Params) : Obj := ⟨.type "tuple", none, .seq #[.str "_law_script" 570, .str "_law_turn" 571, .str "_law_given_here" 572, .str "_law_ware" 573, .str "_law_bend" 574, .str "_law_due" 575, .str "_law_error" 576, .str "_law_is_same" 577] 0, #[]⟩
def x2_318 (P : Params) : Obj := ⟨.type "tuple", none, .seq #[.str "_law_draw" 578, .str "_law_found" 579, .str "_law_near" 580] 0, #[]⟩
def x2_319 (P : Params) : Obj := ⟨.none, none, .func ⟨"law", "law", L2.defArgs (topS 40), .stmts (L2.defBody (topS 40)), L2.defScope (topS 40), 0, [], .none, .none, .none, .none, none, .none, .none, 0⟩, #[]⟩
def x2_320 (P : Params) : Obj := ⟨.type "code", none, .fields #[.str "law" 567, .str "law" 568, .str "/claim/cut.py" 569, .int 202 0, .int 1 0, .int 0 0, .int 0 0, .int 3 0, .ref 315, .bool true, .int 181 0, .ref 316, .none, .ref 317, .ref 318, .ref 319, .int 581 0, .int 202 0, .str "/claim/cut.py" 582], #[]⟩
def x2_321 (P : Params) : Obj := ⟨.type "function", none, .func ⟨"law", "law", L2.defArgs (topS 40), .stmts (L2.defBody (topS 40)), L2.defScope (topS 40), 3, [], .none, .none, .none, .str "law_narrowdraws_k02_packs_as_made" 409, none, .ref 320, .none, 0⟩, #[]⟩
def t2 (P : Params) : BT := (.node (boot_o_0 P) (.node (boot_o_1 P) (.node (x2_3 P) (.node (boot_o_7 P) (.node (x1_15 P) (.node (x1_31 P) (.node (x1_63 P) (.node (x1_127 P) (.node (x2_255 P) .nil .nil) .nil) (.node (x2_191 P) (.node (x2_319 P) .nil .nil) .nil)) (.node (x1_95 P) (.node (x1_159 P) (.node (x2_287 P) .nil .nil) .nil) (.node (x2_223 P) .nil .nil))) (.node (x1_47 P) (.node (x1_79 P) (.node (x1_143 P) (.node (x2_271 P) .nil .nil) .nil) (.node (x2_207 P) .nil .nil)) (.node (x1_111 P) (.node (x1_175 P) (.node (x2_303 P) .nil .nil) .nil) (.node (x2_239 P) .nil .nil)))) (.node (x1_23 P) (.node (x1_39 P) (.node (x1_71 P) (.node (x1_135 P) (.node (x2_263 P) .nil .nil) .nil) (.node (x2_199 P) .nil .nil)) (.node (x1_103 P) (.node (x1_167 P) (.node (x2_295 P) .nil .nil) .nil) (.node (x2_231 P) .nil .nil))) (.node (x1_55 P) (.node (x1_87 P) (.node (x1_151 P) (.node (x2_279 P) .nil .nil) .nil) (.node (x2_215 P) .nil .nil)) (.node (x1_119 P) (.node (x1_183 P) (.node (x2_311 P) .nil .nil) .nil) (.node (x2_247 P) .nil .nil))))) (.node (x1_11 P) (.node (x1_19 P) (.node (x1_35 P) (.node (x1_67 P) (.node (x1_131 P) (.node (x2_259 P) .nil .nil) .nil) (.node (x2_195 P) .nil .nil)) (.node (x1_99 P) (.node (x1_163 P) (.node (x2_291 P) .nil .nil) .nil) (.node (x2_227 P) .nil .nil))) (.node (x1_51 P) (.node (x1_83 P) (.node (x1_147 P) (.node (x2_275 P) .nil .nil) .nil) (.node (x2_211 P) .nil .nil)) (.node (x1_115 P) (.node (x1_179 P) (.node (x2_307 P) .nil .nil) .nil) (.node (x2_243 P) .nil .nil)))) (.node (x1_27 P) (.node (x1_43 P) (.node (x1_75 P) (.node (x1_139 P) (.node (x2_267 P) .nil .nil) .nil) (.node (x2_203 P) .nil .nil)) (.node (x1_107 P) (.node (x1_171 P) (.node (x2_299 P) .nil .nil) .nil) (.node (x2_235 P) .nil .nil))) (.node (x1_59 P) (.node (x1_91 P) (.node (x1_155 P) (.node (x2_283 P) .nil .nil) .nil) (.node (x2_219 P) .nil .nil)) (.node (x1_123 P) (.node (x1_187 P) (.node (x2_315 P) .nil .nil) .nil) (.node (x2_251 P) .nil .nil)))))) (.node (boot_o_5 P) (.node (boot_o_9 P) (.node (x1_17 P) (.node (x1_33 P) (.node (x1_65 P) (.node (x1_129 P) (.node (x2_257 P) .nil .nil) .nil) (.node (x2_193 P) (.node (x2_321 P) .nil .nil) .nil)) (.node (x1_97 P) (.node (x1_161 P) (.node (x2_289 P) .nil .nil) .nil) (.node (x2_225 P) .nil .nil))) (.node (x1_49 P) (.node (x1_81 P) (.node (x1_145 P) (.node (x2_273 P) .nil .nil) .nil) (.node (x2_209 P) .nil .nil)) (.node (x1_113 P) (.node (x1_177 P) (.node (x2_305 P) .nil .nil) .nil) (.node (x2_241 P) .nil .nil)))) (.node (x1_25 P) (.node (x1_41 P) (.node (x1_73 P) (.node (x1_137 P) (.node (x2_265 P) .nil .nil) .nil) (.node (x2_201 P) .nil .nil)) (.node (x1_105 P) (.node (x1_169 P) (.node (x2_297 P) .nil .nil) .nil) (.node (x2_233 P) .nil .nil))) (.node (x1_57 P) (.node (x1_89 P) (.node (x1_153 P) (.node (x2_281 P) .nil .nil) .nil) (.node (x2_217 P) .nil .nil)) (.node (x1_121 P) (.node (x1_185 P) (.node (x2_313 P) .nil .nil) .nil) (.node (x2_249 P) .nil .nil))))) (.node (x1_13 P) (.node (x1_21 P) (.node (x1_37 P) (.node (x1_69 P) (.node (x1_133 P) (.node (x2_261 P) .nil .nil) .nil) (.node (x2_197 P) .nil .nil)) (.node (x1_101 P) (.node (x1_165 P) (.node (x2_293 P) .nil .nil) .nil) (.node (x2_229 P) .nil .nil))) (.node (x1_53 P) (.node (x1_85 P) (.node (x1_149 P) (.node (x2_277 P) .nil .nil) .nil) (.node (x2_213 P) .nil .nil)) (.node (x1_117 P) (.node (x1_181 P) (.node (x2_309 P) .nil .nil) .nil) (.node (x2_245 P) .nil .nil)))) (.node (x1_29 P) (.node (x1_45 P) (.node (x1_77 P) (.node (x1_141 P) (.node (x2_269 P) .nil .nil) .nil) (.node (x2_205 P) .nil .nil)) (.node (x1_109 P) (.node (x1_173 P) (.node (x2_301 P) .nil .nil) .nil) (.node (x2_237 P) .nil .nil))) (.node (x1_61 P) (.node (x1_93 P) (.node (x1_157 P) (.node (x2_285 P) .nil .nil) .nil) (.node (x2_221 P) .nil .nil)) (.node (x1_125 P) (.node (x2_189 P) (.node (x2_317 P) .nil .nil) .nil) (.node (x2_253 P) .nil .nil))))))) (.node (boot_o_2 P) (.node (boot_o_4 P) (.node (boot_o_8 P) (.node (x1_16 P) (.node (x1_32 P) (.node (x1_64 P) (.node (x1_128 P) (.node (x2_256 P) .nil .nil) .nil) (.node (x2_192 P) (.node (x2_320 P) .nil .nil) .nil)) (.node (x1_96 P) (.node (x1_160 P) (.node (x2_288 P) .nil .nil) .nil) (.node (x2_224 P) .nil .nil))) (.node (x1_48 P) (.node (x1_80 P) (.node (x1_144 P) (.node (x2_272 P) .nil .nil) .nil) (.node (x2_208 P) .nil .nil)) (.node (x1_112 P) (.node (x1_176 P) (.node (x2_304 P) .nil .nil) .nil) (.node (x2_240 P) .nil .nil)))) (.node (x1_24 P) (.node (x1_40 P) (.node (x1_72 P) (.node (x1_136 P) (.node (x2_264 P) .nil .nil) .nil) (.node (x2_200 P) .nil .nil)) (.node (x1_104 P) (.node (x1_168 P) (.node (x2_296 P) .nil .nil) .nil) (.node (x2_232 P) .nil .nil))) (.node (x1_56 P) (.node (x1_88 P) (.node (x1_152 P) (.node (x2_280 P) .nil .nil) .nil) (.node (x2_216 P) .nil .nil)) (.node (x1_120 P) (.node (x1_184 P) (.node (x2_312 P) .nil .nil) .nil) (.node (x2_248 P) .nil .nil))))) (.node (x2_12 P) (.node (x1_20 P) (.node (x1_36 P) (.node (x1_68 P) (.node (x1_132 P) (.node (x2_260 P) .nil .nil) .nil) (.node (x2_196 P) .nil .nil)) (.node (x1_100 P) (.node (x1_164 P) (.node (x2_292 P) .nil .nil) .nil) (.node (x2_228 P) .nil .nil))) (.node (x1_52 P) (.node (x1_84 P) (.node (x1_148 P) (.node (x2_276 P) .nil .nil) .nil) (.node (x2_212 P) .nil .nil)) (.node (x1_116 P) (.node (x1_180 P) (.node (x2_308 P) .nil .nil) .nil) (.node (x2_244 P) .nil .nil)))) (.node (x1_28 P) (.node (x1_44 P) (.node (x1_76 P) (.node (x1_140 P) (.node (x2_268 P) .nil .nil) .nil) (.node (x2_204 P) .nil .nil)) (.node (x1_108 P) (.node (x1_172 P) (.node (x2_300 P) .nil .nil) .nil) (.node (x2_236 P) .nil .nil))) (.node (x1_60 P) (.node (x1_92 P) (.node (x1_156 P) (.node (x2_284 P) .nil .nil) .nil) (.node (x2_220 P) .nil .nil)) (.node (x1_124 P) (.node (x1_188 P) (.node (x2_316 P) .nil .nil) .nil) (.node (x2_252 P) .nil .nil)))))) (.node (boot_o_6 P) (.node (boot_o_10 P) (.node (x1_18 P) (.node (x1_34 P) (.node (x1_66 P) (.node (x1_130 P) (.node (x2_258 P) .nil .nil) .nil) (.node (x2_194 P) .nil .nil)) (.node (x1_98 P) (.node (x1_162 P) (.node (x2_290 P) .nil .nil) .nil) (.node (x2_226 P) .nil .nil))) (.node (x1_50 P) (.node (x1_82 P) (.node (x1_146 P) (.node (x2_274 P) .nil .nil) .nil) (.node (x2_210 P) .nil .nil)) (.node (x1_114 P) (.node (x1_178 P) (.node (x2_306 P) .nil .nil) .nil) (.node (x2_242 P) .nil .nil)))) (.node (x1_26 P) (.node (x1_42 P) (.node (x1_74 P) (.node (x1_138 P) (.node (x2_266 P) .nil .nil) .nil) (.node (x2_202 P) .nil .nil)) (.node (x1_106 P) (.node (x1_170 P) (.node (x2_298 P) .nil .nil) .nil) (.node (x2_234 P) .nil .nil))) (.node (x1_58 P) (.node (x1_90 P) (.node (x1_154 P) (.node (x2_282 P) .nil .nil) .nil) (.node (x2_218 P) .nil .nil)) (.node (x1_122 P) (.node (x1_186 P) (.node (x2_314 P) .nil .nil) .nil) (.node (x2_250 P) .nil .nil))))) (.node (x1_14 P) (.node (x1_22 P) (.node (x1_38 P) (.node (x1_70 P) (.node (x1_134 P) (.node (x2_262 P) .nil .nil) .nil) (.node (x2_198 P) .nil .nil)) (.node (x1_102 P) (.node (x1_166 P) (.node (x2_294 P) .nil .nil) .nil) (.node (x2_230 P) .nil .nil))) (.node (x1_54 P) (.node (x1_86 P) (.node (x1_150 P) (.node (x2_278 P) .nil .nil) .nil) (.node (x2_214 P) .nil .nil)) (.node (x1_118 P) (.node (x1_182 P) (.node (x2_310 P) .nil .nil) .nil) (.node (x2_246 P) .nil .nil)))) (.node (x1_30 P) (.node (x1_46 P) (.node (x1_78 P) (.node (x1_142 P) (.node (x2_270 P) .nil .nil) .nil) (.node (x2_206 P) .nil .nil)) (.node (x1_110 P) (.node (x1_174 P) (.node (x2_302 P) .nil .nil) .nil) (.node (x2_238 P) .nil .nil))) (.node (x1_62 P) (.node (x1_94 P) (.node (x1_158 P) (.node (x2_286 P) .nil .nil) .nil) (.node (x2_222 P) .nil .nil)) (.node (x1_126 P) (.node (x2_190 P) (.node (x2_318 P) .nil .nil) .nil) (.node (x2_254 P) .nil .nil))))))))
def cut2 : Cut := ⟨t2, 322, {}, ⟨0, 0, 0, 0⟩, 584, ⟨202, 0, 224, 15⟩⟩
def ad0 : List Addr := [316, 2, 3, 31, 53, 184, 21, 50, 62, 69, 76, 81, 88, 93, 100, 115, 122, 130, 138, 146, 152, 160, 167, 174, 181, 193, 200, 207, 214, 219, 226, 231, 236, 243, 250, 255, 262, 269, 276, 283, 290, 295, 302, 307, 314, 321, 0, 1, 6, 24, 30, 37, 52, 103, 183, 9, 13, 20, 27, 41, 49, 61, 68, 75, 80, 87, 92, 99, 106, 114, 121, 129, 137, 145, 151, 159, 166, 173, 180, 192, 199, 206, 213, 218, 225, 230, 235, 242, 249, 254, 261, 268, 275, 282, 289, 294, 301, 306, 313, 320, 4, 5, 7, 8, 11, 12, 15, 16, 17, 18, 19, 22, 23, 25, 26, 29, 32, 33, 34, 35, 36, 38, 39, 40, 43, 44, 45, 46, 47, 48, 51, 54, 55, 56, 57, 58, 59, 60, 63, 64, 65, 66, 67, 70, 71, 72, 73, 74, 77, 78, 79, 82, 83, 84, 85, 86, 89, 90, 91, 94, 95, 96, 97, 98, 101, 102, 104, 105, 108, 109, 110, 111, 112, 113, 116, 117, 118, 119, 120, 123, 124, 125, 126, 127, 128, 131, 132, 133, 134, 135, 136, 139, 140, 141, 142, 143, 144, 147, 148, 149, 150, 153, 154, 155, 156, 157, 158, 161, 162, 163, 164, 165, 168, 169, 170, 171, 172, 175, 176, 177, 178, 179, 182, 185, 186, 187, 188, 189, 190, 191, 194, 195, 196, 197, 198, 201, 202, 203, 204, 205, 208, 209, 210, 211, 212, 215, 216, 217, 220, 221, 222, 223, 224, 227, 228, 229, 232, 233, 234, 237, 238, 239, 240, 241, 244, 245, 246, 247, 248, 251, 252, 253, 256, 257, 258, 259, 260, 263, 264, 265, 266, 267, 270, 271, 272, 273, 274, 277, 278, 279, 280, 281, 284, 285, 286, 287, 288, 291, 292, 293, 296, 297, 298, 299, 300, 303, 304, 305, 308, 309, 310, 311, 312, 315, 317, 318, 319]
def ad1 : List Addr := [2, 3, 31, 53, 184, 21, 50, 62, 69, 76, 81, 88, 93, 100, 115, 122, 130, 138, 146, 152, 160, 167, 174, 181, 193, 200, 207, 214, 219, 226, 231, 236, 243, 250, 255, 262, 269, 276, 283, 290, 295, 302, 307, 314, 321, 0, 1, 6, 24, 30, 37, 52, 103, 183, 9, 13, 20, 27, 41, 49, 61, 68, 75, 80, 87, 92, 99, 106, 114, 121, 129, 137, 145, 151, 159, 166, 173, 180, 192, 199, 206, 213, 218, 225, 230, 235, 242, 249, 254, 261, 268, 275, 282, 289, 294, 301, 306, 313, 320, 4, 5, 7, 8, 11, 12, 15, 16, 17, 18, 19, 22, 23, 25, 26, 29, 32, 33, 34, 35, 36, 38, 39, 40, 43, 44, 45, 46, 47, 48, 51, 54, 55, 56, 57, 58, 59, 60, 63, 64, 65, 66, 67, 70, 71, 72, 73, 74, 77, 78, 79, 82, 83, 84, 85, 86, 89, 90, 91, 94, 95, 96, 97, 98, 101, 102, 104, 105, 108, 109, 110, 111, 112, 113, 116, 117, 118, 119, 120, 123, 124, 125, 126, 127, 128, 131, 132, 133, 134, 135, 136, 139, 140, 141, 142, 143, 144, 147, 148, 149, 150, 153, 154, 155, 156, 157, 158, 161, 162, 163, 164, 165, 168, 169, 170, 171, 172, 175, 176, 177, 178, 179, 182, 185, 186, 187, 188, 189, 190, 191, 194, 195, 196, 197, 198, 201, 202, 203, 204, 205, 208, 209, 210, 211, 212, 215, 216, 217, 220, 221, 222, 223, 224, 227, 228, 229, 232, 233, 234, 237, 238, 239, 240, 241, 244, 245, 246, 247, 248, 251, 252, 253, 256, 257, 258, 259, 260, 263, 264, 265, 266, 267, 270, 271, 272, 273, 274, 277, 278, 279, 280, 281, 284, 285, 286, 287, 288, 291, 292, 293, 296, 297, 298, 299, 300, 303, 304, 305, 308, 309, 310, 311, 312, 315, 317, 318, 319]
theorem boot_is : BootIs topI cut0 := fun P => ⟨by kernel_rfl, rfl⟩
theorem pre_ : Pre topI 12 cut0 ⟨0, 0, 0, 0⟩ := by
  intro w os
  kernel_rfl
theorem blk_ : Blk topI 12 1 cut0 ⟨0, 0, 0, 0⟩ ⟨0, 0, 0, 0⟩ := by
  intro w os
  kernel_rfl
theorem seg1 : Fst topI 12 1 cut0 ⟨0, 0, 0, 0⟩ ⟨0, 0, 0, 0⟩ 1551 ((behindTheImports topI.p).take 19) cut1 := by
  intro w os
  kernel_rfl
theorem seg2 : Seg topI 631 (((behindTheImports topI.p).drop 19).take 22) cut1 cut2 := by
  intro w os
  kernel_rfl
theorem comes : Comes topI cut0 ((12 + (1 + 1551)) + 631) [] cut2 := by
  have e : (((behindTheImports topI.p).drop 19).drop 22) = [] := by kernel_rfl
  rw [← e]
  exact ((Comes.first pre_ blk_ seg1).next seg2)
end ND
/-! the head's look over addresses that are written out -/
namespace ND
open PySem PySem.W PySem.Spec PySem.Calls PyProof.Rows L2 He
def Ask.obsL (q : Ask) (a0 a1 : List Addr) (g : Addr → Option Obj) : AlT := q.on (frG g a0) (frG g a1)
def hookL (a0 a1 : List Addr) (q : Ask) : Hook where
  α := AlT
  obs := fun s => q.obsL a0 a1 s.heap.get?
  val := fun _ => q.val
  says := fun _ h => ∃ K0 K : Frag, K0.In h ∧ K.In h ∧ Told q K0 K
  of := fun _ s e => ⟨_, _, frG_in, frG_in, ⟨e⟩⟩
  keeps := fun _ _ _ ⟨K0, K, h0, h1, c⟩ k => ⟨K0, K, Frag.In.keeps h0 k, Frag.In.keeps h1 k, c⟩
theorem obsL_eq {a0 a1 : List Addr} {q : Ask} {g : Addr → Option Obj} {s : Shared} (h : ∀ a, g a = s.heap.get? a) : q.obsL a0 a1 g = (hookL a0 a1 q).obs s := by
  have e : g = s.heap.get? := funext h
  rw [e]
  rfl
end ND
namespace ND
open PySem PySem.Spec PyProof.Rows L2
def fa0 : List He.Fa := [.glo "is_number", .glo "is_within", .glo "is_list", .glo "is_name", .glo "is_slot", .glo "are_slots", .glo "is_roll", .glo "_law_begun", .glo "_law_mixed", .glo "_law_take", .glo "_law_pick", .glo "_law_any_of"]
def fa1 : List He.Fa := [.glo "_law_shuffled", .glo "_law_names", .glo "_law_all_spots", .glo "_law_caught", .glo "_law_is_number", .glo "_law_is_short", .glo "_law_is_in", .glo "_law_are_spots", .glo "_law_is_flow", .glo "_law_wrong", .glo "_law_given", .glo "_law_bent"]
def fa2 : List He.Fa := [.glo "_law_made", .glo "_law_is_right", .glo "_law_parts", .glo "law", .glo "PackError", .glo "BadPack", .glo "Pack", .free "abs", .free "all", .free "bool", .free "dict", .free "int"]
def fa3 : List He.Fa := [.free "isinstance", .free "len", .free "list", .free "max", .free "min", .free "range", .free "repr", .free "set", .free "sorted", .free "str", .free "tuple", .int "LONGEST_NAME" 6]
def fa4 : List He.Fa := [.int "MOST_DAYS" 4, .int "MOST_SLOTS" 12, .int "MOST_AMOUNT" 3, .int "MOST_COST" 99, .str "LETTERS" "abcdefghijklmnopqrstuvwxyz", .cls "Pack", .mkr "Pack", .noat "Pack" "own_slots", .noat "Pack" "own_amount", .noat "Pack" "own_cost", .noat "Pack" "own_roll", .meth "Pack" "told"]
def fa5 : List He.Fa := [.meth "Pack" "__eq__", .exc "PackError"]
def fa : List He.Fa := fa0 ++ fa1 ++ fa2 ++ fa3 ++ fa4 ++ fa5
def fn0 : List DefT := [⟨.g "is_number", "is_number", "is_number", s_is_number, 0⟩, ⟨.g "is_within", "is_within", "is_within", s_is_within, 0⟩, ⟨.g "is_list", "is_list", "is_list", s_is_list, 0⟩, ⟨.g "is_name", "is_name", "is_name", s_is_name, 0⟩, ⟨.g "is_slot", "is_slot", "is_slot", s_is_slot, 0⟩, ⟨.g "are_slots", "are_slots", "are_slots", s_are_slots, 0⟩, ⟨.g "is_roll", "is_roll", "is_roll", s_is_roll, 0⟩, ⟨.g "_law_begun", "_law_begun", "_law_begun", s__law_begun, 0⟩]
def fn1 : List DefT := [⟨.g "_law_mixed", "_law_mixed", "_law_mixed", s__law_mixed, 0⟩, ⟨.g "_law_take", "_law_take", "_law_take", s__law_take, 0⟩, ⟨.g "_law_pick", "_law_pick", "_law_pick", s__law_pick, 0⟩, ⟨.g "_law_any_of", "_law_any_of", "_law_any_of", s__law_any_of, 0⟩, ⟨.g "_law_shuffled", "_law_shuffled", "_law_shuffled", s__law_shuffled, 0⟩, ⟨.g "_law_names", "_law_names", "_law_names", s__law_names, 0⟩, ⟨.g "_law_all_spots", "_law_all_spots", "_law_all_spots", s__law_all_spots, 0⟩, ⟨.g "_law_caught", "_law_caught", "_law_caught", s__law_caught, 0⟩]
def fn2 : List DefT := [⟨.g "_law_is_number", "_law_is_number", "_law_is_number", s__law_is_number, 0⟩, ⟨.g "_law_is_short", "_law_is_short", "_law_is_short", s__law_is_short, 0⟩, ⟨.g "_law_is_in", "_law_is_in", "_law_is_in", s__law_is_in, 0⟩, ⟨.g "_law_are_spots", "_law_are_spots", "_law_are_spots", s__law_are_spots, 0⟩, ⟨.g "_law_is_flow", "_law_is_flow", "_law_is_flow", s__law_is_flow, 0⟩, ⟨.g "_law_wrong", "_law_wrong", "_law_wrong", s__law_wrong, 0⟩, ⟨.g "_law_given", "_law_given", "_law_given", s__law_given, 0⟩, ⟨.g "_law_bent", "_law_bent", "_law_bent", s__law_bent, 0⟩]
def fn3 : List DefT := [⟨.g "_law_made", "_law_made", "_law_made", s__law_made, 0⟩, ⟨.g "_law_is_right", "_law_is_right", "_law_is_right", s__law_is_right, 0⟩, ⟨.g "_law_parts", "_law_parts", "_law_parts", s__law_parts, 0⟩, ⟨.g "law", "law", "law", s_law, 0⟩, ⟨.m "Pack" "__init__", "__init__", "Pack.__init__", s_Pack___init__, 2⟩, ⟨.p "Pack" "slots", "slots", "Pack.slots", s_Pack_slots, 0⟩, ⟨.p "Pack" "amount", "amount", "Pack.amount", s_Pack_amount, 0⟩, ⟨.p "Pack" "cost", "cost", "Pack.cost", s_Pack_cost, 0⟩]
def fn4 : List DefT := [⟨.p "Pack" "roll", "roll", "Pack.roll", s_Pack_roll, 0⟩, ⟨.p "Pack" "last", "last", "Pack.last", s_Pack_last, 0⟩, ⟨.m "Pack" "told", "told", "Pack.told", s_Pack_told, 0⟩, ⟨.m "Pack" "__eq__", "__eq__", "Pack.__eq__", s_Pack___eq__, 0⟩]
def fn : List DefT := fn0 ++ fn1 ++ fn2 ++ fn3 ++ fn4
def sd_BadPack : SupD := ⟨"BadPack", "part", inClass (topS 3) 0⟩
def sd : List SupD := [sd_BadPack]
def supN : List (Str × Str) := [("BadPack", "part")]
def propN : List (Str × Str) := [("Pack", "slots"), ("Pack", "amount"), ("Pack", "cost"), ("Pack", "roll"), ("Pack", "last")]
def ocN : List Str := ["Pack"]
def oxN : List Str := ["PackError", "BadPack"]
def nxN : List Str := ["part"]
def ask : Ask := ⟨fa, fn, sd, fun K0 K => (neB K "Pack" && allB PySem.Challenge.pw_narrowdraws_k02_packs_as_made supN propN ocN oxN nxN K0 K)⟩
def names0 : List PySem.Str := ["_wall", "is_number", "is_within", "is_list", "is_name", "is_slot", "are_slots", "is_roll", "_law_begun", "_law_mixed", "_law_take", "_law_pick", "_law_any_of", "_law_shuffled", "_law_names", "_law_all_spots", "_law_caught", "_law_is_number", "_law_is_short", "_law_is_in"]
def names1 : List PySem.Str := ["_law_are_spots", "_law_is_flow", "_law_wrong", "_law_given", "_law_bent", "_law_made", "_law_is_right", "_law_parts", "PackError", "BadPack", "Pack", "LETTERS", "LONGEST_NAME", "MOST_DAYS", "MOST_SLOTS", "MOST_AMOUNT", "MOST_COST"]
def names : List PySem.Str := names0 ++ names1
abbrev R : PySem.W.OpenRow := PySem.W.OpenLaw.row PySem.Challenge.rw_narrowdraws_k02_packs_as_made
abbrev hk : PySem.W.Hook := hookL ad0 ad1 ask
def ob (s : PySem.W.SharedT) : AlT := ask.obsL ad0 ad1 (HandSHeadRun.getT s)
theorem ob_eq (s : PySem.W.SharedT) : ob s = hk.obs s.abs := obsL_eq (HandSHeadRun.getT_eq s)
theorem look1 : Look topI 2 cut2 (fun w s => HandSHeadRun.looksF R.prog (PySem.W.boot_heap w.params) s.abs) fun _ => true := by
  intro w os
  kernel_rfl
theorem look2 : Look topI 2 cut2 (fun _ s => HandSHeadRun.seenQ (PySem.W.view R.prog [40]) names (PySem.importedModules R.prog.main.body) (fun s => PySem.W.xlAt (PySem.W.view R.prog [40]) [] s && PySem.W.recOk R.toRowW.records s) s.abs) fun _ => PySem.W.openGood (PySem.W.view R.prog [40]) names := by
  intro w os
  kernel_rfl
theorem look3 : Look topI 2 cut2 (fun _ s => ob s) hk.val := by
  intro w os
  kernel_rfl
end ND
namespace ND
open PySem PySem.Spec PyProof.Rows L2
section
variable {P : Program} {w : World} {K : PySem.W.Frag} {mg : Str → Option Value} {base : Heap}
theorem draw_turn (aw ac : Addr) (r t x : Int) : putK (drawD aw ac r t) (kS "turn") (.int x) = drawD aw ac r x := rfl
theorem draw_rest (aw ac : Addr) (r t x : Int) : putK (drawD aw ac r t) (kS "rest") (.int x) = drawD aw ac x t := rfl
theorem drawD_len (aw ac : Addr) (r t : Int) : (drawD aw ac r t).length < sizeLine := by
  show 4 < sizeLine
  decide
def spMixed (K : PySem.W.Frag) : Sp := fun vs H Q _ => ∃ (d aw ac : Addr) (T : Nat), vs = [.ref d] ∧ Draw K d aw ac T H ∧ T ≤ 2 ^ 40 ∧ ∀ (n : Int) (H' : Hp), 0 ≤ n → Draw K d aw ac (T + 1) H' → Keep d d H H' → Q (.int n) H'
theorem prime_at {i : Nat} {x : V} (h : ([.int 2147483647, .int 2147483629, .int 2147483587, .int 2147483579] : List V)[i]? = some x) : ∃ p : Int, x = .int p ∧ 0 < p ∧ p < 4294967296 := by
  have m := List.mem_of_getElem? h
  simp only [List.mem_cons, List.not_mem_nil, or_false] at m
  rcases m with rfl | rfl | rfl | rfl
  · exact ⟨_, rfl, by decide, by decide⟩
  · exact ⟨_, rfl, by decide, by decide⟩
  · exact ⟨_, rfl, by decide, by decide⟩
  · exact ⟨_, rfl, by decide, by decide⟩
theorem okH__law_mixed (T : Tx P w K mg base) : GOk P w K mg base 1 "_law_mixed" ["_law_draw"] (spMixed K) := by
  refine GFun.ok (k := 0) T.d__law_mixed sc__law_mixed (fun _ _ _ _ _ _ us hl => match us, hl with | [_], _ => rfl) (fun vs H Q E h => ?_) (fun f cdv A outer s H vs Q E hr h => ?_)
  · obtain ⟨d, aw, ac, n, rfl, _⟩ := h
    rfl
  · obtain ⟨d, aw, ac, n, rfl, hD, hn, q⟩ := h
    obtain ⟨⟨ws, cs, r, t, hd, hw, hc, hws, lw, lc, hcs, hr0, ht0, htT⟩, hne⟩ := hD
    have ndw : d ≠ aw := ne_of hd hw (by intro z; cases z)
    have ndc : d ≠ ac := ne_of hd hc (by intro z; cases z)
    refine ⟨_, (pss_cons (ps_par (i := 1) (j := 2) (by rfl) sc__law_mixed.nd rfl rfl (by decide) rfl rfl (pa_cons (pe_op op_add (pe_dget (hu_of hr) (pv 0) pe_str (fun _ _ => rfl)) pe_int) (pa_cons pe_int pa_nil)) (by rfl))
      (pss_cons (ps_dput (hu_of hr) (pv 0) pe_str (pv 1) rfl)
      (pss_cons (ps_for (passes_of rfl) rfl (pi_list (pe_lst (pa_cons pe_int (pa_cons pe_int (pa_cons pe_int (pa_cons pe_int pa_nil)))))) (pg_name (i := 3) sc__law_mixed.nd rfl (Or.inl rfl)) (pss_cons (ps_set (i := 4) sc__law_mixed.nd rfl (Or.inl rfl) (pe_op op_add (pe_op op_mul pe_int (pv 1)) (pe_op op_fdivW (pv 3) pe_int)))
      (pss_cons (ps_for (passes_of rfl) rfl (pi_list (pe_dget (hu_of hr) (pv 0) pe_str (fun _ _ => rfl))) (pg_name (i := 5) sc__law_mixed.nd rfl (Or.inl rfl)) (pss_one (ps_set (i := 4) sc__law_mixed.nd rfl (Or.inl rfl) (pe_op op_mod (pe_callTy call_int1 (by rfl) T.n_int (by decide +kernel) (pa_cons (pe_op op_add (pe_op op_add (pe_op op_mul (pv 4) pe_int) (pv 5)) (pv 1)) pa_nil)) (pv 3)))))
      (pss_one (ps_set (i := 2) sc__law_mixed.nd rfl (Or.inl rfl) (pe_op op_add (pe_op op_mul (pv 2) pe_int) (pe_op op_mod (pe_callTy call_int1 (by rfl) T.n_int (by decide +kernel) (pa_cons (pe_op op_pow (pv 4) pe_int) pa_nil)) (pv 3))))))))
      (pss_one (ps_ret (pv 2)))))), ?_⟩
    refine ⟨.ref d, rfl, d, .int t, rfl, DGet.k (k := kS "turn") hd, t, 1, rfl, rfl, _, _, rfl, ?_⟩
    refine ⟨_, rfl, _, rfl, d, _, rfl, DPut.k (k := kS "turn") hd (drawD_len ..), ?_⟩
    rw [draw_turn]
    refine ⟨by decide, fun p np => ⟨p, rfl, ⟨_, SqL.of upd_same⟩, ?_⟩⟩
    have npd : p ≠ d := fun e => by rw [e, upd_same] at np; cases np
    have npc : p ≠ ac := fun e => by rw [e, upd_ne ndc.symm, hc] at np; cases np
    have npw : p ≠ aw := fun e => by rw [e, upd_ne ndw.symm, hw] at np; cases np
    have npH : H p = none := by rw [upd_ne npd] at np; exact np
    generalize hH2 : upd (upd H d (.dK (drawD aw ac r (t + 1)))) p _ = H2
    have ed : H2 d = some (.dK (drawD aw ac r (t + 1))) := by rw [← hH2, upd_ne npd.symm, upd_same]
    have ew : H2 aw = some (.lst (ws.map V.int)) := by rw [← hH2, upd_ne npw.symm, upd_ne ndw.symm]; exact hw
    have ec : H2 ac = some (.lst (cs.map V.int)) := by rw [← hH2, upd_ne npc.symm, upd_ne ndc.symm]; exact hc
    have ep : H2 p = some (.lst [.int 2147483647, .int 2147483629, .int 2147483587, .int 2147483579]) := by rw [← hH2, upd_same]
    refine for_list (xs := [.int 2147483647, .int 2147483629, .int 2147483587, .int 2147483579])
      (fun _ σ H' => ∃ (m : Int) (y3 y4 y5 : Option V), σ = [some (.ref d), some (.int (t + 1)), some (.int m), y3, y4, y5] ∧ 0 ≤ m ∧ H' = H2)
      ⟨0, none, none, none, rfl, by decide, rfl⟩ (fun _ _ _ _ h => by obtain ⟨_, _, _, _, _, _, rfl⟩ := h; exact SqL.of ep) ?_ ?_
    · rintro i x σ H' hx ⟨m, y3, y4, y5, rfl, hm, rfl⟩
      obtain ⟨pr, rfl, p0, p1⟩ := prime_at hx
      -- blend
      refine ⟨_, rfl, 69621, t + 1, rfl, rfl, .inl ⟨by decide, by decide⟩, _, rfl, pr, 23, rfl, rfl, ⟨by decide, by decide⟩, _, _, rfl, rfl, ?_⟩
      -- the inner loop
      refine ⟨_, rfl, d, .ref ac, rfl, DGet.k (k := kS "cells") ed, ac, rfl, ⟨_, SqL.of ec⟩, ?_⟩
      refine for_list (xs := cs.map V.int)
        (fun _ σ H'' => ∃ (b : Int) (y5 : Option V), σ = [some (.ref d), some (.int (t + 1)), some (.int m), some (.int pr), some (.int b), y5] ∧ 0 ≤ b ∧ b < 2 ^ 63 ∧ H'' = H')
        ⟨_, y5, rfl, ?_, ?_, rfl⟩ (fun _ _ _ _ h => by obtain ⟨_, _, _, _, _, rfl⟩ := h; exact SqL.of ec) ?_ ?_
      · have : 0 ≤ pr / 23 := Int.ediv_nonneg (by omega) (by decide)
        omega
      · have : pr / 23 ≤ pr := Int.ediv_le_self _ (by omega)
        have h3 : t ≤ 2 ^ 40 := by omega
        omega
      · rintro j z σ2 H3 hz ⟨b, y, rfl, hb0, hb1, rfl⟩
        have mz := List.mem_of_getElem? hz
        obtain ⟨g, mg', rfl⟩ := List.mem_map.mp mz
        refine ⟨_, rfl, b, 48271, rfl, rfl, .inr ⟨by decide, by decide⟩, _, rfl, _, g, rfl, rfl, _, rfl, _, t + 1, rfl, rfl, .inl ⟨_, rfl, _, rfl, _, pr, rfl, rfl, p0, ?_⟩⟩
        refine ⟨_, _, rfl, Int.emod_nonneg _ (by omega), ?_, rfl⟩
        have := Int.emod_lt_of_pos (b * 48271 + g + (t + 1)) p0
        omega
      · rintro σ2 H3 ⟨b, y, rfl, hb0, hb1, rfl⟩
        refine ⟨_, rfl, m, 2147483647, rfl, rfl, .inr ⟨by decide, by decide⟩, _, rfl, b, 5, rfl, rfl, ⟨by decide, by decide, by omega⟩, .inl ⟨_, rfl, _, rfl, _, pr, rfl, rfl, p0, _, _, rfl, rfl, ?_⟩⟩
        refine ⟨_, _, _, _, rfl, ?_, rfl⟩
        have h1 := Int.emod_nonneg (b ^ (5 : Int).toNat) (show pr ≠ 0 by omega)
        omega
    · rintro σ H' ⟨m, y3, y4, y5, rfl, hm, rfl⟩
      refine ⟨_, rfl, q m H' hm ⟨⟨ws, cs, r, t + 1, ed, ew, ec, hws, lw, lc, hcs, hr0, by omega, by omega⟩, hne⟩ ?_⟩
      intro b o h1 _ e
      rw [← hH2, upd_ne (ne_of_none e npH), upd_ne h1]
      exact e
end
section
variable {P : Program} {w : World} {K : PySem.W.Frag} {mg : Str → Option Value} {base : Heap}
def spTake (K : PySem.W.Frag) : Sp := fun vs H Q _ => ∃ (d aw ac : Addr) (T : Nat) (n : Int), vs = [.ref d, .int n] ∧ Draw K d aw ac T H ∧ T ≤ 2 ^ 40 ∧ 0 < n ∧ n < 1000000 ∧ ∀ (k : Int) (H' : Hp), 0 ≤ k → k < n → Draw K d aw ac (T + 1) H' → Keep d aw H H' → Q (.int k) H'
theorem six0 {z : Int} {zs : List Int} : seqIndex? 0 ((z :: zs).map V.int).length = some 0 := by
  simp [seqIndex?]
theorem Draw.mono {d aw ac : Addr} {T T' : Nat} {H : Hp} (h : Draw K d aw ac T H) (l : T ≤ T') : Draw K d aw ac T' H := by
  obtain ⟨⟨ws, cs, r, t, hd, hw, hc, hws, lw, lc, hcs, hr0, ht0, htT⟩, hne⟩ := h
  exact ⟨⟨ws, cs, r, t, hd, hw, hc, hws, lw, lc, hcs, hr0, ht0, by omega⟩, hne⟩
theorem okH__law_take (T : Tx P w K mg base) : GOk P w K mg base 2 "_law_take" ["_law_draw", "_law_size"] (spTake K) := by
  refine GFun.ok (k := 1) T.d__law_take sc__law_take (fun _ _ _ _ _ _ us hl => match us, hl with | [_, _], _ => rfl) (fun vs H Q E h => ?_) (fun f cdv A outer s H vs Q E hr h => ?_)
  · obtain ⟨d, aw, ac, T, n, rfl, _⟩ := h
    rfl
  · obtain ⟨d, aw, ac, m, n, rfl, hD, hm, hn0, hn1, q⟩ := h
    have hD0 := hD
    obtain ⟨⟨ws, cs, r, t, hd, hw, hc, hws, lw, lc, hcs, hr0, ht0, htT⟩, hne⟩ := hD
    have ndw : d ≠ aw := ne_of hd hw (by intro z; cases z)
    have ndc : d ≠ ac := ne_of hd hc (by intro z; cases z)
    refine ⟨_, (Evl.pss_cut (ps_if (pt_cmpR op_eq (pe_dget (hu_of hr) (pv 0) pe_str (fun _ _ => rfl)) pe_int (nomark _)) (pss_one (ps_dput (hu_of hr) (pv 0) pe_str (pe_ifExp (pt_cmpR (op_nilNe hr.units0) (pe_dget (hu_of hr) (pv 0) pe_str (fun _ _ => rfl)) (pe_lst pa_nil) (nomark _)) (pe_bm PySem.F.plainAttrs_list PySem.F.slot_list_pop PySem.F.type_list_pop mt_popAt (pe_dget (hu_of hr) (pv 0) pe_str (fun _ _ => rfl)) (pa_cons pe_int pa_nil)) (pe_g (okH__law_mixed T) (hr.mono (by decide)) (by rfl) passL (pa_cons (pv 0) pa_nil))) rfl)) pss_nil)
      (pss_cons (ps_set (i := 2) sc__law_take.nd rfl (Or.inl rfl) (pe_op op_mod (pe_callTy call_int1 (by rfl) T.n_int (by decide +kernel) (pa_cons (pe_dget (hu_of hr) (pv 0) pe_str (fun _ _ => rfl)) pa_nil)) (pv 1)))
      (pss_cons (ps_dput (hu_of hr) (pv 0) pe_str (pe_op op_fdivW (pe_dget (hu_of hr) (pv 0) pe_str (fun _ _ => rfl)) (pv 1)) rfl)
      (pss_one (ps_ret (pv 2)))))), ?_⟩
    refine ⟨fun σ H1 => σ = [some (.ref d), some (.int n), none] ∧ Draw K d aw ac (m + 1) H1 ∧ Keep d aw H H1, ?_, ?_⟩
    · refine ⟨_, rfl, d, .int r, rfl, DGet.k (k := kS "rest") hd, rfl, _, rfl, ?_⟩
      refine ite2 (fun _ => ?_) (fun _ => ⟨rfl, hD0.mono (by omega), Keep.refl⟩)
      -- the test: is there a wide number
      refine ⟨_, rfl, d, .ref aw, rfl, DGet.k (k := kS "wide") hd, Nat.zero_le _, fun p np => ?_⟩
      have s1 : Same H (upd H p (.lst [])) := fun b x e => by rw [upd_ne (ne_of_none e np)]; exact e
      refine ⟨aw, p, ws.map V.int, rfl, rfl, SqL.of (s1 _ _ hw), SqL.of upd_same, _, rfl, ?_⟩
      cases ws with
      | nil =>
        refine iteF ?_
        refine ⟨_, rfl, d, aw, ac, m, rfl, ⟨⟨[], cs, r, t, s1 _ _ hd, s1 _ _ hw, s1 _ _ hc, hws, lw, lc, hcs, hr0, ht0, htT⟩, hne⟩, hm, fun k H2 hk hD2 hK => ?_⟩
        obtain ⟨⟨ws2, cs2, r2, t2, hd2, hw2, hc2, hws2, lw2, lc2, hcs2, hr2, ht2, htT2⟩, hne2⟩ := hD2
        refine ⟨_, rfl, d, _, rfl, DPut.k (k := kS "rest") hd2 (drawD_len ..), ?_⟩
        rw [draw_rest]
        refine ⟨rfl, ⟨⟨ws2, cs2, k, t2, upd_same, by rw [upd_ne ndw.symm]; exact hw2, by rw [upd_ne ndc.symm]; exact hc2, hws2, lw2, lc2, hcs2, hk, ht2, htT2⟩, hne⟩, fun b o h1 h2 e => ?_⟩
        rw [upd_ne h1]
        exact hK b o h1 h1 (s1 b o e)
      | cons z zs =>
        refine iteT ?_
        refine ⟨_, rfl, d, .ref aw, rfl, DGet.k (k := kS "wide") (s1 _ _ hd), .inl ⟨rfl, _, SqL.of (s1 _ _ hw)⟩, aw, _, 0, 0, .int z, rfl, rfl, s1 _ _ hw, by decide, by decide, six0, rfl, ?_⟩
        refine ⟨_, rfl, d, _, rfl, DPut.k (k := kS "rest") (by rw [upd_ne ndw]; exact s1 _ _ hd) (drawD_len ..), ?_⟩
        rw [draw_rest]
        refine ⟨rfl, ⟨⟨zs, cs, z, t, upd_same, by rw [upd_ne ndw.symm, upd_same]; rfl, by rw [upd_ne ndc.symm, upd_ne hne.symm]; exact s1 _ _ hc, fun y hy => hws y (List.mem_cons_of_mem _ hy), ?_, lc, hcs, hws z List.mem_cons_self, ht0, by omega⟩, hne⟩, fun b o h1 h2 e => ?_⟩
        · rw [List.length_cons] at lw
          omega
        · rw [upd_ne h1, upd_ne h2]
          exact s1 b o e
    · rintro σ H1 ⟨rfl, hD1, hK⟩
      obtain ⟨⟨ws, cs, r, t, hd, hw, hc, hws, lw, lc, hcs, hr0, ht0, htT⟩, hne⟩ := hD1
      refine ⟨_, rfl, d, .int r, rfl, DGet.k (k := kS "rest") hd, .inl ⟨r, rfl, _, rfl, r, n, rfl, rfl, hn0, ?_⟩⟩
      refine ⟨_, rfl, d, .int r, rfl, DGet.k (k := kS "rest") hd, _, rfl, r, n, rfl, rfl, ⟨hn0, ?_⟩, _, rfl, d, _, rfl, DPut.k (k := kS "rest") hd (drawD_len ..), ?_⟩
      · have : n.natAbs < 2 ^ 9000 := Nat.lt_of_lt_of_le (show n.natAbs < 2 ^ 20 by omega) (Nat.pow_le_pow_right (by decide) (by decide))
        exact (Nat.log2_lt (by omega)).mpr this
      · rw [draw_rest]
        refine ⟨_, rfl, q _ _ (Int.emod_nonneg _ (by omega)) (Int.emod_lt_of_pos _ hn0) ⟨⟨ws, cs, r / n, t, upd_same, by rw [upd_ne ndw.symm]; exact hw, by rw [upd_ne ndc.symm]; exact hc, hws, lw, lc, hcs, Int.ediv_nonneg hr0 (by omega), ht0, htT⟩, hne⟩ fun b o h1 h2 e => ?_⟩
        rw [upd_ne h1]
        exact hK b o h1 h2 e
end
section
variable {P : Program} {w : World} {K : PySem.W.Frag} {mg : Str → Option Value} {base : Heap}
theorem orCallH {X : Cx} {f : Value} {r1 r2 : List V → Hp → VK → Prop} (a : CallR X f r1) (b : CallR X f r2) : CallR X f (fun xs H Q => r1 xs H Q ∨ r2 xs H Q) := by
  intro pins s σ H xs us Q I r h
  rcases h with h | h
  · exact a pins s σ H xs us Q I r h
  · exact b pins s σ H xs us Q I r h
/-- a list, a tuple or a text, and its items -/
def Src (K : PySem.W.Frag) (G : Hp) (v : V) (xs : List V) : Prop := (∃ a, v = .ref a ∧ (SqL K G a xs ∨ SqT K G a xs)) ∨ ∃ z : Str, v = .str z ∧ xs = z.cps.toList.map fun c => V.str ⟨#[c]⟩
theorem Src.t {G : Hp} {a : Addr} {xs : List V} (h : SqT K G a xs) : Src K G (.ref a) xs := .inl ⟨a, rfl, .inr h⟩
theorem Src.h {G : Hp} {a : Addr} {xs : List V} (h : G a = some (.lst xs)) : Src K G (.ref a) xs := .inl ⟨a, rfl, .inl (SqL.of h)⟩
theorem atI_get {α : Type} {xs : List α} {k : Int} (h0 : 0 ≤ k) (h1 : k < xs.length) : ∃ h : k.toNat < xs.length, atI xs k = some xs[k.toNat] := by
  have hk : k.toNat < xs.length := by omega
  refine ⟨hk, ?_⟩
  unfold atI ixN
  rw [if_pos h0, if_pos h1]
  exact List.getElem?_eq_getElem hk
def spPick (K : PySem.W.Frag) : Sp := fun vs H Q _ => ∃ (d aw ac : Addr) (T : Nat) (G : Hp) (v : V) (xs : List V), vs = [.ref d, v] ∧ Wd K d aw ac T G H ∧ T ≤ 2 ^ 40 ∧ Src K G v xs ∧ 0 < xs.length ∧ xs.length < 1000 ∧
  ∀ (u : V) (H' : Hp), u ∈ xs → Wk K d aw ac (T + 1) G H G H' → Q u H'
theorem okH__law_pick (T : Tx P w K mg base) : GOk P w K mg base 3 "_law_pick" ["_law_draw", "_law_some"] (spPick K) := by
  refine GFun.ok (k := 2) T.d__law_pick sc__law_pick (fun _ _ _ _ _ _ us hl => match us, hl with | [_, _], _ => rfl) (fun vs H Q E h => ?_) (fun f cdv A outer s H vs Q E hr h => ?_)
  · obtain ⟨d, aw, ac, T, G, v, xs, rfl, _⟩ := h
    rfl
  · obtain ⟨d, aw, ac, m, G, v, xs, rfl, W, hm, hs, hl0, hl1, q⟩ := h
    refine ⟨_, (pss_one (ps_ret (pe_ix ix_seq (pv 1) (pe_g (okH__law_take T) (hr.mono (by decide)) (by rfl) passL (pa_cons (pv 0) (pa_cons (pe_callB (orCallH call_len_seq call_len_str) (by rfl) T.n_len (by decide +kernel) (pa_cons (pv 1) pa_nil)) pa_nil))) (fun _ _ => rfl)))), ?_⟩
    rcases hs with ⟨a, rfl, ha⟩ | ⟨z, rfl, rfl⟩
    · have ha' : ∀ {H' : Hp}, Same G H' → (SqL K H' a xs ∨ SqT K H' a xs) := fun s => ha.elim (fun h => .inl (s.seq h)) (fun h => .inr (Evl.ex_t s h))
      refine ⟨_, rfl, _, rfl, _, rfl, .inl ⟨a, xs, rfl, ha' W.sub, d, aw, ac, m, xs.length, rfl, W.dr, hm, by omega, by omega, fun k H' hk0 hk1 hD' hK => ?_⟩⟩
      have W2 := (Wk.of W).go hD' hK
      obtain ⟨hk, e⟩ := atI_get (xs := xs) hk0 hk1
      rcases ha' W2.w.sub with h | h
      · exact .inl ⟨a, xs, k, _, rfl, rfl, h, e, q _ _ (List.getElem_mem _) W2⟩
      · exact .inr (.inl ⟨a, xs, k, _, rfl, rfl, h, e, q _ _ (List.getElem_mem _) W2⟩)
    · rw [List.length_map] at hl0 hl1
      have hz : z.length = z.cps.toList.length := by rw [Array.length_toList]; rfl
      have hzl : z.length ≤ sizeLine := by rw [hz]; exact Nat.le_of_lt (small1000 (Nat.le_of_lt hl1))
      refine ⟨_, rfl, _, rfl, _, rfl, .inr ⟨z, rfl, hzl, d, aw, ac, m, z.length, rfl, W.dr, hm, by omega, by omega, fun k H' hk0 hk1 hD' hK => ?_⟩⟩
      have W2 := (Wk.of W).go hD' hK
      rw [hz] at hk1
      obtain ⟨hk, e⟩ := atI_get (xs := z.cps.toList) hk0 hk1
      exact .inr (.inr ⟨z, k, _, rfl, rfl, hzl, e, q _ _ (List.mem_map.mpr ⟨_, List.getElem_mem hk, rfl⟩) W2⟩)
end
section
variable {K : PySem.W.Frag} {d aw ac : Addr} {T T' : Nat} {G0 H0 G H : Hp}
theorem Wd.up (W : Wd K d aw ac T G H) (h : T ≤ T') : Wd K d aw ac T' G H := ⟨W.dr.mono h, W.sub, W.nd, W.nw, W.cc⟩
theorem Wk.up (W : Wk K d aw ac T G0 H0 G H) (h : T ≤ T') : Wk K d aw ac T' G0 H0 G H := ⟨W.w.up h, W.s⟩
theorem mem_str {u : V} {xs : List Str} (h : u ∈ xs.map V.str) : ∃ z ∈ xs, u = .str z := by
  obtain ⟨z, hz, rfl⟩ := List.mem_map.mp h
  exact ⟨z, hz, rfl⟩
theorem mem_int {u : V} {xs : List Int} (h : u ∈ xs.map V.int) : ∃ z ∈ xs, u = .int z := by
  obtain ⟨z, hz, rfl⟩ := List.mem_map.mp h
  exact ⟨z, hz, rfl⟩
end
section
variable {P : Program} {w : World} {K : PySem.W.Frag} {mg : Str → Option Value} {base : Heap}
def spBegun (K : PySem.W.Frag) : Sp := fun vs H Q _ => ∃ (a : Addr) (ns : List Int), vs = [.ref a] ∧ SqL K H a (ns.map V.int) ∧ ns.length ≤ 63 ∧
  ∀ (d aw ac : Addr) (H' : Hp), Draw K d aw ac 0 H' → Same H H' → H d = none → H aw = none → Q (.ref d) H'
theorem ints_at {ns : List Int} {i : Nat} {x : V} (h : (ns.map V.int)[i]? = some x) : ∃ n, x = .int n := by
  obtain ⟨n, _, rfl⟩ := List.mem_map.mp (List.mem_of_getElem? h)
  exact ⟨n, rfl⟩
theorem same_new {H H' : Hp} {p : Addr} {o : HO} (s : Same H H') (n : H p = none) : Same H (upd H' p o) := fun b x e => by
  rw [upd_ne (ne_of_none e n)]
  exact s b x e
theorem sz63 {n : Nat} (h : n ≤ 100) : n < sizeLine := small1000 (by omega)
theorem okH__law_begun (T : Tx P w K mg base) : GOk P w K mg base 1 "_law_begun" ["_law_script"] (spBegun K) := by
  refine GFun.ok (k := 0) T.d__law_begun sc__law_begun (fun _ _ _ _ _ _ us hl => match us, hl with | [_], _ => rfl) (fun vs H Q E h => ?_) (fun f cdv A outer s H vs Q E hr h => ?_)
  · obtain ⟨a, ns, rfl, _⟩ := h
    rfl
  · obtain ⟨a, ns, rfl, hS, hl, q⟩ := h
    have hlm : (ns.map V.int).length = ns.length := List.length_map ..
    refine ⟨_, (pss_cons (ps_setLc (i := 1) (own := [("_law_grain", 2)]) (by rfl) sc__law_begun.nd rfl rfl (sw_true rfl rfl rfl (by decide +kernel)) (pi_list (pv 0)) (blkOk_by (own := [("_law_grain", 2)]) (N := N__law_begun) (sc := defScope s__law_begun) (by decide +kernel)) (fun _ _ _ _ _ => (pg_name (i := 2) sc__law_begun.nd rfl (Or.inl rfl))) (fun _ _ _ _ _ => (pts_one (pt_cmpR op_ge (pe_callB call_abs (by rfl) T.n_abs (by decide +kernel) (pa_cons (pv 2) pa_nil)) (pe_op op_pow pe_int pe_int) (nomark _)))) (fun _ _ _ _ _ => (pe_op op_sub (pe_callB call_abs (by rfl) T.n_abs (by decide +kernel) (pa_cons (pv 2) pa_nil)) (pe_op op_pow pe_int pe_int))))
      (pss_one (ps_ret (pe_disp (pps_cons pe_str (pv 1) (pps_cons pe_str (pe_lc (own := [("_law_grain", 2)]) (by rfl) sc__law_begun.nd (pi_list (pv 0)) (blkOk_by (own := [("_law_grain", 2)]) (N := N__law_begun) (sc := defScope s__law_begun) (by decide +kernel)) (fun _ _ _ _ _ => (pg_name (i := 2) sc__law_begun.nd rfl (Or.inl rfl))) (fun _ _ _ _ _ => pts_nil) (fun _ _ _ _ _ => (pe_op op_mod (pe_callTy call_int1 (by rfl) T.n_int (by decide +kernel) (pa_cons (pe_callB call_abs (by rfl) T.n_abs (by decide +kernel) (pa_cons (pv 2) pa_nil)) pa_nil)) pe_int))) (pps_cons pe_str pe_int (pps_cons pe_str pe_int pps_nil)))) (by rfl) (by rfl) (fun z => by cases z) (by decide))))), ?_⟩
    refine ⟨_, rfl, a, rfl, ⟨_, hS⟩, fun D nD => ?_⟩
    refine lc_list (xs := ns.map V.int) (fun i H' => Same H H' ∧ ∃ ws : List Int, H' D = some (.lst (ws.map V.int)) ∧ (∀ z ∈ ws, 0 ≤ z) ∧ ws.length ≤ i) ⟨same_new (Same.refl _) nD, [], upd_same, (fun _ h => nomatch h), Nat.le_refl _⟩ (fun _ _ _ h => h.1.seq hS) ?_ ?_
    · rintro i x H1 hx ⟨s1, ws, hD, hws, lws⟩
      obtain ⟨n, rfl⟩ := ints_at hx
      have li : i < 63 := by
        have := (List.getElem?_eq_some_iff.mp hx).1
        omega
      refine ⟨rfl, ?_⟩
      refine ⟨_, rfl, n, rfl, 10, 18, rfl, rfl, ⟨by decide, by decide, by decide⟩, _, _, rfl, rfl, _, rfl, ?_⟩
      refine ite2 (fun hc => ?_) (fun _ => ⟨s1, ws, hD, hws, by omega⟩)
      refine ⟨_, rfl, n, rfl, 10, 18, rfl, rfl, ⟨by decide, by decide, by decide⟩, _, _, rfl, rfl, _, hD, ?_, same_new s1 nD, ws ++ [(if n < 0 then -n else n) - 10 ^ (18 : Int).toNat], ?_, ?_, ?_⟩
      · rw [List.length_map]
        exact sz63 (by omega)
      · rw [upd_same, List.map_append]
        rfl
      · intro z hz
        rcases List.mem_append.mp hz with h | h
        · exact hws z h
        · rw [List.mem_singleton.mp h]
          have := of_decide_eq_true hc
          omega
      · rw [List.length_append]
        show ws.length + 1 ≤ i + 1
        omega
    · rintro H1 ⟨s1, ws, hD, hws, lws⟩
      rw [hlm] at lws
      -- the dict
      intro p np
      refine ⟨_, rfl, _, rfl, a, rfl, ⟨_, (same_new (Same.refl _) np).seq (s1.seq hS)⟩, fun D2 nD2 => ?_⟩
      have ne1 : D2 ≠ p := fun e => by rw [e, upd_same] at nD2; cases nD2
      have nD2' : H1 D2 = none := by rw [upd_ne ne1] at nD2; exact nD2
      have s2 : Same H1 (upd H1 p (.dK [])) := same_new (Same.refl _) np
      refine lc_list (xs := ns.map V.int) (fun i H' => Same (upd H1 p (.dK [])) H' ∧ ∃ cs : List Int, H' D2 = some (.lst (cs.map V.int)) ∧ (∀ z ∈ cs, 0 ≤ z ∧ z < 2147483629) ∧ cs.length ≤ i) ⟨same_new (Same.refl _) nD2, [], upd_same, (fun _ h => nomatch h), Nat.le_refl _⟩ (fun _ _ _ h => h.1.seq (s2.seq (s1.seq hS))) ?_ ?_
      · rintro i x H3 hx ⟨s3, cs, hD3, hcs, lcs⟩
        obtain ⟨n, rfl⟩ := ints_at hx
        have li : i < 63 := by
          have := (List.getElem?_eq_some_iff.mp hx).1
          omega
        refine ⟨rfl, ?_⟩
        refine ⟨_, rfl, n, rfl, .inl ⟨_, rfl, _, 2147483629, rfl, rfl, (show (0 : Int) < 2147483629 by decide), _, hD3, ?_, same_new s3 nD2, cs ++ [(if n < 0 then -n else n) % 2147483629], ?_, ?_, ?_⟩⟩
        · rw [List.length_map]
          exact sz63 (by omega)
        · rw [upd_same, List.map_append]
          rfl
        · intro z hz
          rcases List.mem_append.mp hz with h | h
          · exact hcs z h
          · rw [List.mem_singleton.mp h]
            exact ⟨Int.emod_nonneg _ (by decide), Int.emod_lt_of_pos _ (by decide)⟩
        · rw [List.length_append]
          show cs.length + 1 ≤ i + 1
          omega
      · rintro H3 ⟨s3, cs, hD3, hcs, lcs⟩
        rw [hlm] at lcs
        have ep : H3 p = some (.dK []) := s3 _ _ upd_same
        have eD : H3 D = some (.lst (ws.map V.int)) := s3 _ _ (s2 _ _ hD)
        refine ⟨ep, [(kS "wide", .ref D), (kS "cells", .ref D2), (kS "rest", .int 0), (kS "turn", .int 0)], rfl, (by show 4 ≤ 15; decide), ?_⟩
        have neDp : D ≠ p := ne_of_none hD np
        have neD2p : D2 ≠ p := ne1
        have nHp : H p = none := s1.free np
        refine q p D D2 _ ⟨⟨ws, cs, 0, 0, upd_same, by rw [upd_ne neDp]; exact eD, by rw [upd_ne neD2p]; exact hD3, hws, by omega, by omega, hcs, by decide, by decide, by decide⟩, ?_⟩ (same_new (s1.trans (s2.trans s3)) nHp) nHp nD
        exact ne_of_none hD nD2'
end
section
variable {P : Program} {w : World} {K : PySem.W.Frag} {mg : Str → Option Value} {base : Heap}
def spNames (K : PySem.W.Frag) : Sp := fun vs H Q _ => ∃ (d aw ac : Addr) (T : Nat) (G : Hp) (n : Nat), vs = [.ref d, .int n] ∧ Wd K d aw ac T G H ∧ T + 1000 ≤ 2 ^ 40 ∧ n ≤ 20 ∧
  ∀ (p : Addr) (zs : List Str) (G' H' : Hp), zs.length = n → zs.Nodup → (∀ z ∈ zs, NameOk z) → Wk K d aw ac (T + 10 * n) G H G' H' → Lo d aw H G' H' p (.lst (zs.map V.str)) → Q (.ref p) H'
theorem sum_sgn : ∀ cs : List Nat, ((cs.map sgn).map (·.length)).sum = cs.length
  | [] => rfl
  | c :: cs => by
    show 1 + ((cs.map sgn).map (·.length)).sum = cs.length + 1
    rw [sum_sgn cs]
    omega
theorem okH__law_names (T : Tx P w K mg base) : GOk P w K mg base 4 "_law_names" ["_law_draw", "_law_many"] (spNames K) := by
  refine GFun.ok (k := 3) T.d__law_names sc__law_names (fun _ _ _ _ _ _ us hl => match us, hl with | [_, _], _ => rfl) (fun vs H Q E h => ?_) (fun f cdv A outer s H vs Q E hr h => ?_)
  · obtain ⟨d, aw, ac, T, G, n, rfl, _⟩ := h
    rfl
  · obtain ⟨d, aw, ac, m, G, n, rfl, W, hm, hn, q⟩ := h
    refine ⟨_, (pss_cons (ps_asg (pe_tupF (pa_cons (pe_lst pa_nil) (pa_cons pe_str pa_nil))) (pg_tup rfl (pgs_cons (pg_name (i := 2) sc__law_names.nd rfl (Or.inr rfl)) (pgs_cons (pg_name (i := 3) sc__law_names.nd rfl (Or.inr rfl)) pgs_nil))))
      (pss_cons (ps_for (passes_of rfl) rfl (pi_range1 (by rfl) T.n_range (pa_cons (pv 1) pa_nil)) (pg_name (i := 4) sc__law_names.nd rfl (Or.inl rfl)) (pss_cons (ps_set (i := 5) sc__law_names.nd rfl (Or.inr rfl) (pe_g (okH__law_pick T) (hr.mono (by decide)) (by rfl) passL (pa_cons (pv 0) (pa_cons (pe_lst (pa_cons pe_str (pa_cons pe_str (pa_cons pe_str (pa_cons pe_str (pa_cons pe_str (pa_cons pe_str (pa_cons pe_str (pa_cons pe_str (pa_cons pe_str (pa_cons pe_str pa_nil))))))))))) pa_nil))))
      (Evl.pss_cut (ps_if (pt_cmpR op_eq (pe_g (okH__law_take T) (hr.mono (by decide)) (by rfl) passL (pa_cons (pv 0) (pa_cons pe_int pa_nil))) pe_int (nomark _)) (pss_one (ps_set (i := 5) sc__law_names.nd rfl (Or.inr rfl) (pe_join pe_str (pe_lc (own := [("_law_j", 6)]) (by rfl) sc__law_names.nd (pi_range1 (by rfl) T.n_range (pa_cons (pe_g (okH__law_pick T) (hr.mono (by decide)) (by rfl) passL (pa_cons (pv 0) (pa_cons (pe_lst (pa_cons pe_int (pa_cons pe_int (pa_cons pe_int pa_nil)))) pa_nil))) pa_nil)) (blkOk_by (own := [("_law_j", 6)]) (N := N__law_names) (sc := defScope s__law_names) (by decide +kernel)) (fun _ _ _ _ _ => (pg_name (i := 6) sc__law_names.nd rfl (Or.inl rfl))) (fun _ _ _ _ _ => pts_nil) (fun _ _ _ _ _ => (pe_g (okH__law_pick T) (hr.mono (by decide)) (by rfl) passL (pa_cons (pv 0) (pa_cons (pv 3) pa_nil)))))))) pss_nil)
      (pss_cons (ps_set (i := 7) sc__law_names.nd rfl (Or.inl rfl) (pe_op op_cat (pe_lst (pa_cons (pv 5) pa_nil)) (pe_lc (own := [("_law_sign", 8)]) (by rfl) sc__law_names.nd (pi_str (pv 3)) (blkOk_by (own := [("_law_sign", 8)]) (N := N__law_names) (sc := defScope s__law_names) (by decide +kernel)) (fun _ _ _ _ _ => (pg_name (i := 8) sc__law_names.nd rfl (Or.inl rfl))) (fun _ _ _ _ _ => pts_nil) (fun _ _ _ _ _ => (pe_op op_add_str (pe_slice sl_str (pv 5) po_none (po_some pe_int)) (pv 8))))))
      (pss_one (ps_expr (pe_bm PySem.F.plainAttrs_list PySem.F.slot_list_append PySem.F.type_list_append mt_append (pv 2) (pa_cons (pe_ix ix_list (pe_lc (own := [("_law_item", 9)]) (by rfl) sc__law_names.nd (pi_list (pv 7)) (blkOk_by (own := [("_law_item", 9)]) (N := N__law_names) (sc := defScope s__law_names) (by decide +kernel)) (fun _ _ _ _ _ => (pg_name (i := 9) sc__law_names.nd rfl (Or.inl rfl))) (fun _ _ _ _ _ => (pts_one (pt_cmpR (op_notIn_seqK K rfl) (pv 9) (pv 2) (by rfl)))) (fun _ _ _ _ _ => (pv 9))) pe_int (fun _ _ => rfl)) pa_nil))))))))
      (pss_one (ps_ret (pv 2))))), ?_⟩
    have W0 := Wk.of W
    refine ⟨Nat.zero_le _, fun p0 n0 => ⟨show 2 ≤ sizeLine by decide, fun p1 ob n1 hob => ?_⟩⟩
    refine ⟨p1, _, rfl, .inl (.inr ⟨ob, upd_same⟩), rfl, _, _, rfl, _, _, rfl, rfl, ?_⟩
    refine ⟨_, rfl, n, rfl, by omega, by omega, ?_⟩
    have e0 : (n : Int).toNat = n := Int.toNat_natCast n
    rw [e0]
    refine for_it walk_range (fun i σ H1 => ∃ (G1 : Hp) (zs : List Str) (a b c e g h : Option V), σ = [some (.ref d), some (.int n), some (.ref p0), some (.str letters), a, b, c, e, g, h] ∧ Wk K d aw ac (m + 10 * i) G H G1 H1 ∧ Lo d aw H G1 H1 p0 (.lst (zs.map V.str)) ∧ zs.length = i ∧ zs.Nodup ∧ ∀ z ∈ zs, NameOk z)
      ⟨G, [], none, none, none, none, none, none, rfl, (W0.tmp n0).tmp n1, (W0.lo n0).othN n1, rfl, List.nodup_nil, fun _ h => nomatch h⟩ (fun _ _ _ _ _ => trivial) ?_ ?_
    · rintro i x σ H1 H1' hi ⟨G1, zs, oa, ob, oc, oe, og, oh, rfl, W1, L1, hlen, hnd, hok⟩ ⟨rfl, rfl⟩
      refine ⟨_, rfl, (show 10 ≤ sizeLine by decide), fun pA nA => ?_⟩
      refine ⟨d, aw, ac, m + 10 * i, _, .ref pA, tenW.map V.str, rfl, (W1.new nA).w, by omega, Src.h upd_same, by decide, by decide, fun u H3 hu W3 => ?_⟩
      obtain ⟨z, hz, rfl⟩ := mem_str hu
      have W4 := (W1.new nA).trans W3
      have L4 := (L1.newN nA).wk W3
      refine ⟨fun σ' H' => ∃ (y : Str) (G' : Hp) (a b c e : Option V), σ' = [some (.ref d), some (.int n), some (.ref p0), some (.str letters), a, some (.str y), b, c, e, oh] ∧ NameOk y ∧ Wk K d aw ac (m + 10 * i + 9) G H G' H' ∧ Lo d aw H G' H' p0 (.lst (zs.map V.str)), ?_, ?_⟩
      · refine ⟨_, rfl, d, aw, ac, m + 10 * i + 1, 3, rfl, W4.w.dr, by omega, by decide, by decide, fun k H5 hk0 hk1 hD hK => ?_⟩
        have W5 := W4.go hD hK
        have W6 := W4.trans W5
        have L6 := L4.wk W5
        refine ⟨rfl, _, rfl, ?_⟩
        refine ite2 (fun _ => ?_) (fun _ => ⟨z, _, _, _, _, _, rfl, tenW_ok z hz, W6.up (by omega), L6⟩)
        refine ⟨⟨_, rfl⟩, _, rfl, (show 3 ≤ sizeLine by decide), fun pB nB => ?_⟩
        refine ⟨d, aw, ac, m + 10 * i + 1 + 1, _, .ref pB, ([1, 2, 6] : List Int).map V.int, rfl, (W6.new nB).w, by omega, Src.h upd_same, by decide, by decide, fun u H7 hu W7 => ?_⟩
        obtain ⟨j, hj, rfl⟩ := mem_int hu
        have W8 := (W6.new nB).trans W7
        have L8 := (L6.newN nB).wk W7
        have hj2 : 1 ≤ j ∧ j ≤ 6 := by
          simp only [List.mem_cons, List.not_mem_nil, or_false] at hj
          omega
        refine ⟨j, rfl, by omega, by omega, fun D nD => ?_⟩
        refine lc_it walk_range (fun t H' => ∃ cs : List Nat, cs.length = t ∧ (∀ c ∈ cs, c ∈ letters.cps.toList) ∧ Wk K d aw ac (m + 10 * i + 1 + 1 + 1 + t) G H (upd G1 pA (.lst (tenW.map V.str)) |> fun G2 => upd G2 pB (.lst (([1, 2, 6] : List Int).map V.int))) H' ∧ Lo d aw H (upd G1 pA (.lst (tenW.map V.str)) |> fun G2 => upd G2 pB (.lst (([1, 2, 6] : List Int).map V.int))) H' p0 (.lst (zs.map V.str)) ∧ Lo d aw H (upd G1 pA (.lst (tenW.map V.str)) |> fun G2 => upd G2 pB (.lst (([1, 2, 6] : List Int).map V.int))) H' D (.lst (cs.map fun c => V.str (sgn c))) ∧ p0 ≠ D)
          ⟨[], rfl, (fun _ h => nomatch h), W8.tmp nD, L8.othN nD, W8.lo nD, ne_of_none L8.h nD⟩ (fun _ _ _ _ => trivial) ?_ ?_
        · rintro t x H8 H8' ht ⟨cs, hcl, hcs, W9, L9, M9, hne⟩ ⟨rfl, rfl⟩
          refine ⟨rfl, ?_⟩
          refine ⟨_, rfl, _, rfl, d, aw, ac, _, _, .str letters, _, rfl, W9.w, by omega, .inr ⟨letters, rfl, rfl⟩, by decide, by decide, fun u H9 hu W10 => ?_⟩
          obtain ⟨c, hc, rfl⟩ := List.mem_map.mp hu
          have M10 := M9.wk W10
          refine ⟨_, M10.h, ?_, cs ++ [c], ?_, ?_, (W9.trans W10).mut M10, (L9.wk W10).oth hne, ?_, hne⟩
          · rw [List.length_map]; exact small1000 (by omega)
          · rw [List.length_append, hcl]; rfl
          · intro e he
            rcases List.mem_append.mp he with h1 | h1
            · exact hcs e h1
            · rw [List.mem_singleton.mp h1]; exact hc
          · rw [List.map_append]; exact M10.put
        · rintro H8 ⟨cs, hcl, hcs, W9, L9, M9, hne⟩
          have eM : cs.map (fun c => V.str (sgn c)) = (cs.map sgn).map V.str := by rw [List.map_map]; rfl
          refine ⟨_, D, cs.map sgn, rfl, rfl, .inl (SqL.of (by rw [← eM]; exact M9.h)), ?_, ?_⟩
          · have h1 := sum_sgn cs
            have h2 : ("" : Str).length = 0 := by decide
            rw [h1, h2]
            omega
          · refine ⟨_, _, _, _, _, _, rfl, ?_, W9.up (by omega), L9⟩
            rw [join_signs]
            exact name_of (by omega) (by omega) hcs
      · rintro σ' H2 ⟨y, G2, a2, b2, c2, e2, rfl, hy, W2, L2⟩
        refine ⟨_, rfl, (show 1 ≤ sizeLine by decide), fun pC nC => ?_⟩
        have W3 := W2.tmp (o := .lst [.str y]) nC
        have L3 := L2.othN (x := .lst [.str y]) nC
        have C3 := W2.lo (o := .lst [.str y]) nC
        refine ⟨_, rfl, _, rfl, fun D nD => ?_⟩
        refine lc_it walk_str (fun t H' => Wk K d aw ac (m + 10 * i + 9) G H G2 H' ∧ Lo d aw H G2 H' p0 (.lst (zs.map V.str)) ∧ Lo d aw H G2 H' pC (.lst [.str y]) ∧ Lo d aw H G2 H' D (.lst (((letters.cps.toList.take t).map (near1 y)).map V.str)) ∧ p0 ≠ D ∧ pC ≠ D)
          ⟨W3.tmp nD, L3.othN nD, C3.othN nD, W3.lo nD, ne_of_none L3.h nD, ne_of_none C3.h nD⟩ (fun _ _ _ _ => trivial) ?_ ?_
        · rintro t x H8 H8' ht ⟨W9, L9, C9, M9, h1, h2⟩ ⟨rfl, c, hc, rfl⟩
          refine ⟨rfl, ?_⟩
          refine ⟨_, rfl, _, rfl, y, rfl, ?_, _, rfl, _, _, rfl, rfl, ?_, _, M9.h, ?_, W9.mut M9, L9.oth h1, C9.oth h2, ?_, h1, h2⟩
          · exact Nat.le_of_lt (small1000 (by have := hy.2.1; omega))
          · have := cutS_length y none (some 5)
            have h3 := hy.2.1
            show _ + 1 ≤ sizeLine
            exact Nat.le_of_lt (small1000 (by omega))
          · rw [List.length_map, List.length_map, List.length_take, letters_len]; exact small1000 (by omega)
          · have ht2 : letters.cps.toList[t]? = some c := by rw [Array.getElem?_toList]; exact hc
            rw [List.take_add_one, ht2, List.map_append, List.map_append]
            exact M9.put
        · rintro H8 ⟨W9, L9, C9, M9, h1, h2⟩
          have eN : letters.cps.size = 26 := by decide +kernel
          rw [eN] at M9
          have eT : letters.cps.toList.take 26 = letters.cps.toList := List.take_of_length_le (by rw [letters_len]; exact Nat.le_refl _)
          rw [eT] at M9
          refine ⟨pC, D, _, _, rfl, rfl, C9.h, M9.h, ?_, fun pE nE => ?_⟩
          · rw [List.length_map, List.length_map, letters_len]; show 27 ≤ sizeLine; decide
          have W10 := W9.new (o := .lst ((nears y).map V.str)) nE
          have L10 := L9.newN (x := .lst ((nears y).map V.str)) nE
          have hE : upd G2 pE (.lst ((nears y).map V.str)) pE = some (.lst ((nears y).map V.str)) := upd_same
          refine ⟨_, rfl, .inl ⟨rfl, _, SqL.of L10.h⟩, ?_⟩
          refine ⟨_, rfl, pE, rfl, ⟨_, SqL.of (W10.w.sub _ _ hE)⟩, fun D3 nD3 => ?_⟩
          refine lc_it (walk_list (xs := (nears y).map V.str)) (fun t H' => Wk K d aw ac (m + 10 * i + 9) G H (upd G2 pE (.lst ((nears y).map V.str))) H' ∧ Lo d aw H (upd G2 pE (.lst ((nears y).map V.str))) H' p0 (.lst (zs.map V.str)) ∧ Lo d aw H (upd G2 pE (.lst ((nears y).map V.str))) H' D3 (.lst ((((nears y).take t).filter fun v => !decide (v ∈ zs)).map V.str)) ∧ p0 ≠ D3)
            ⟨W10.tmp nD3, L10.othN nD3, W10.lo nD3, ne_of_none L10.h nD3⟩ (fun _ _ _ h => SqL.of (h.1.w.sub _ _ hE)) ?_ ?_
          · rintro t x H11 H11' ht ⟨W11, L11, M11, h3⟩ ⟨rfl, hx⟩
            rw [List.getElem?_map] at hx
            obtain ⟨v, hv, rfl⟩ := Option.map_eq_some_iff.mp hx
            refine ⟨rfl, ?_⟩
            refine ⟨_, rfl, _, rfl, p0, zs.map V.str, rfl, .inl (SqL.of L11.h), rfl, flat_strs _, _, rfl, ?_⟩
            rw [List.take_add_one, hv, List.filter_append]
            have eI : inV (.str v) (zs.map V.str) = decide (v ∈ zs) := inV_strs
            refine ite2 (fun hb => ?_) (fun hb => ?_)
            · have hb' : decide (v ∈ zs) = false := by
                have : (!inV (.str v) (zs.map V.str)) = true := hb
                rw [eI] at this
                simpa using this
              refine ⟨_, rfl, _, M11.h, ?_, W11.mut M11, L11.oth h3, ?_, h3⟩
              · rw [List.length_map]
                refine Nat.lt_of_le_of_lt (List.length_filter_le _ _) ?_
                rw [List.length_take]
                exact small1000 (by
                  have : (nears y).length = 27 := by unfold nears; rw [List.length_cons, List.length_map, letters_len]
                  omega)
              · have : ([v].filter fun v => !decide (v ∈ zs)) = [v] := by simp [List.filter, hb']
                show Lo d aw H _ _ D3 (.lst (((((nears y).take t).filter fun v => !decide (v ∈ zs)) ++ ([v].filter fun v => !decide (v ∈ zs))).map V.str))
                rw [this, List.map_append]
                exact M11.put
            · have hb' : decide (v ∈ zs) = true := by
                have : ¬ (!inV (.str v) (zs.map V.str)) = true := hb
                rw [eI] at this
                simpa using this
              have : ([v].filter fun v => !decide (v ∈ zs)) = [] := by simp [List.filter, hb']
              refine ⟨W11, L11, ?_, h3⟩
              show Lo d aw H _ _ D3 (.lst (((((nears y).take t).filter fun v => !decide (v ∈ zs)) ++ ([v].filter fun v => !decide (v ∈ zs))).map V.str))
              rw [this, List.append_nil]
              exact M11
          · rintro H11 ⟨W11, L11, M11, h3⟩
            rw [List.length_map, List.take_length] at M11
            obtain ⟨v, hv1, hv2⟩ := nears_new (z := y) (fs := zs) (by omega)
            have hv3 : v ∈ (nears y).filter fun v => !decide (v ∈ zs) := List.mem_filter.mpr ⟨hv1, by simp [hv2]⟩
            cases eF : (nears y).filter (fun v => !decide (v ∈ zs)) with
            | nil => rw [eF] at hv3; cases hv3
            | cons v0 vr =>
              rw [eF] at M11
              have hm0 : v0 ∈ (nears y).filter fun v => !decide (v ∈ zs) := by rw [eF]; exact List.mem_cons_self
              have hv0 := List.mem_filter.mp hm0
              have hv0' : v0 ∉ zs := by simpa using hv0.2
              refine ⟨D3, _, 0, .str v0, rfl, rfl, SqL.of M11.h, ?_, p0, _, _, rfl, rfl, L11.h, ?_, _, zs ++ [v0], _, _, _, _, _, _, rfl, (W11.mut L11).up (by omega), ?_, ?_, ?_, ?_⟩
              · obtain ⟨hk, e⟩ := atI_get (xs := (v0 :: vr).map V.str) (k := 0) (by decide) (by simp)
                exact e
              · rw [List.length_map, hlen]; exact small1000 (by omega)
              · rw [List.map_append]; exact L11.put
              · rw [List.length_append, hlen]; rfl
              · refine List.nodup_append.mpr ⟨hnd, by simp, fun a ha b hb e => ?_⟩
                rw [List.mem_singleton.mp hb] at e
                exact hv0' (e ▸ ha)
              · intro z' hz'
                rcases List.mem_append.mp hz' with h5 | h5
                · exact hok z' h5
                · rw [List.mem_singleton.mp h5]; exact nears_ok hy hv0.1
    · rintro σ H1 ⟨G1, zs, oa, ob, oc, oe, og, oh, rfl, W1, L1, hlen, hnd, hok⟩
      exact ⟨_, rfl, q p0 zs G1 H1 hlen hnd hok W1 L1⟩
end
end ND
namespace ND
open PySem PySem.Spec PyProof.Rows L2
section
variable {P : Program} {w : World} {K : PySem.W.Frag} {mg : Str → Option Value} {base : Heap}
def F__law_take : List D → Out D := takeD
theorem ok__law_take (T : Tx P w K mg base) : GOk P w K mg base 2 "_law_take" ["_law_draw", "_law_size"] (spF K false 2 F__law_take) := (okH__law_take T).imp fun _ _ _ _ h => take_sp h
theorem gets (T : Tx P w K mg base) : ∃ g cdg, GetsL K mg "_law_caught" "_law_task" N__law_caught (defBody s__law_caught) (defScope s__law_caught) g cdg :=
  T.d__law_caught.gets sc__law_caught rfl (Or.inl rfl) (fun _ _ _ _ _ _ us hl => match us, hl with | [_], _ => rfl)
def isNames (n : Nat) (d : D) : Prop := ∃ zs : List Str, zs.length = n ∧ zs.Nodup ∧ (∀ z ∈ zs, NameOk z) ∧ d = .lst (zs.map D.str)
def namesF (ds : List D) : Out D := match ds with
  | [.drw, .int n] => if 0 ≤ n ∧ n ≤ 20 then .any (10 * n.toNat) (isNames n.toNat) .ok else .stuck
  | _ => .stuck
theorem names_sp {vs : List V} {H : Hp} {Q : VK} {E : XK} (h : spF K false 2 namesF vs H Q E) : spNames K vs H Q E := by
  obtain ⟨C, n, G, ds, _, w, r, hl, q⟩ := h
  match ds, hl, vs, r with
  | [x1, x2], _, [v1, v2], .cons h1 (.cons h2 .nil) =>
    cases h1 <;> first | exact q.elim | skip
    cases h2 <;> first | exact q.elim | skip
    rename_i k _
    unfold namesF at q
    by_cases hk : 0 ≤ k ∧ k ≤ 20
    · simp only [hk, and_self, if_true] at q
      obtain ⟨m, rfl, q⟩ := q
      obtain ⟨aw, ac, T, hD, hT, vd, va, hc, hi⟩ := C.go m (10 * k.toNat) H w.iv
      obtain ⟨k0, k1⟩ := hk
      obtain ⟨kn, rfl⟩ : ∃ kn : Nat, k = kn := ⟨k.toNat, by omega⟩
      refine ⟨C.d, aw, ac, T, G, kn, rfl, w.wd vd va hc hD, by omega, by omega, fun p zs G' H' hz hnd hok W L => ?_⟩
      have W2 := W.seal L
      have hr : Rep C (upd G' p (.lst (zs.map V.str))) (.ref p) (.lst (zs.map D.str)) := .lst (Rd.of upd_same) (repL_strs fun z hz => nameOk_sok (hok z hz)) (by rw [List.length_map, hz]; omega)
      exact q _ ⟨zs, hz, hnd, hok, rfl⟩ (.ref p) _ H' (w.wk vd va W2 (hi H' W2.w.dr W2.s.k)) hr
    · simp only [hk, if_false] at q
      exact q.elim
def F__law_names : List D → Out D := namesF
theorem ok__law_names (T : Tx P w K mg base) : GOk P w K mg base 4 "_law_names" ["_law_draw", "_law_many"] (spF K false 2 F__law_names) := (okH__law_names T).imp fun _ _ _ _ h => names_sp h
end
end ND
/-! sum of a tuple -/
namespace ND
open PySem PySem.Spec PyProof.Rows L2
open PySem.AutoSeq1 (wpAny_loadPart')
section
end
/-! enumerate of a list or a tuple -/
section
end
end ND
/-! dict(list of pairs); defs called on trees that are only seen -/
namespace ND
open PySem PySem.Spec PyProof.Rows L2
section
/-! ### trees that are seen, as parameters -/
end
end ND
/-! plain sheets, as trees of one's own -/
namespace ND
open PySem PySem.Spec PyProof.Rows L2
section
variable {K : PySem.W.Frag} {C : Cfg K} {n m : Nat} {G0 H0 G H G1 H1 : Hp} {Q : VK} {d aw a ap apk : Addr}
theorem Lo.own {p : Addr} {o : HO} (l : Lo d aw H0 G H p o) (w : Wl C n G0 H0) : Own C H0 G H p o := ⟨l.h, l.g, fun v => C.trk n H0 p w.iv v l.n0, l.n0⟩
end
section
end
section
end
end ND
/-! sorted(xs, key=lambda p: p[::-1]) of pairs -/
namespace ND
open PySem PySem.Spec PyProof.Rows L2 LamX
section
end
end ND
namespace ND
open PySem PySem.Spec PyProof.Rows L2 LamX
section
end
end ND
/-! min(xs) of data that are alike -/
namespace ND
open PySem PySem.Spec PyProof.Rows L2
section
open PySem.W PySem.SeqAt
end
section
end
end ND
/-! sorted(xs) of a list or a tuple -/
namespace ND
open PySem PySem.Spec PyProof.Rows L2
def dSortedQ (ds : List D) : Out D := match ds with
  | [.tup xs] => dSortedT [.tup xs]
  | [.lst xs] => dSorted [.lst xs]
  | _ => .stuck
def rSortQ (K : PySem.W.Frag) : List V → Hp → VK → Prop := fun xs H Q => rSortD K xs H Q ∨ rSortT K xs H Q
theorem cr_sortQ {X : Cx} (hu : X.A.units + 80 < cLine) : CallR X (.builtin "sorted") (rSortQ X.K) := by
  intro pins s σ H xs us Q I r h
  rcases h with h | h
  · exact cr_sortD hu pins s σ H xs us Q I r h
  · exact cr_sortT hu pins s σ H xs us Q I r h
theorem sc_sortedQ {K : PySem.W.Frag} {C : Cfg K} {E : XK} : SCN C E 1 (rSortQ K) dSortedQ := fun n G H vs ds Q w r hl q => by
  match ds, hl with
  | [d], _ =>
    cases d <;> first | exact q.elim | skip
    · exact .inl (sc_sorted n G H vs _ Q w r rfl q)
    · exact .inr (sc_sortedT n G H vs _ Q w r rfl q)
end ND
/-! xs.remove(k), xs a list of texts that is one's own -/
namespace ND
open PySem PySem.Spec PyProof.Rows L2
section
/-! one's own object is held still while an expression that yields no reference is computed -/
end
end ND
/-! x != [] of a list of things of any kind -/
namespace ND
open PySem PySem.Spec PyProof.Rows L2
def dNilNe (x y : D) : Out D := match x, y with
  | .lst xs, .lst [] => .ok (.bl (!xs.isEmpty))
  | _, _ => .stuck
section
variable {K : PySem.W.Frag} {C : Cfg K} {E : XK}
theorem sr_nilNe : SR C E (fun x y H Q => ∃ a b xs, x = .ref a ∧ y = .ref b ∧ SqL K H a xs ∧ SqL K H b [] ∧ Q (.bl (!xs.isEmpty)) H) dNilNe := fun n G H x y dx dy Q w rx ry q => by
  match dx, dy with
  | .lst xs, .lst [] =>
    obtain ⟨a, vs, rfl, h, t, _⟩ := rx.lst w.sub
    obtain ⟨b, us, rfl, h2, t2, _⟩ := ry.lst w.sub
    cases t2
    refine ⟨a, b, vs, rfl, rfl, .inl h, .inl h2, ?_⟩
    have e : vs.isEmpty = xs.isEmpty := by cases t <;> rfl
    rw [e]
    exact q (.bl (!xs.isEmpty)) G H (Ws.refl w) (.bl _)
  | .lst xs, .lst (y :: ys) => exact q.elim
  | .lst xs, .non => exact q.elim
  | .lst xs, .bl _ => exact q.elim
  | .lst xs, .int _ => exact q.elim
  | .lst xs, .str _ => exact q.elim
  | .lst xs, .tup _ => exact q.elim
  | .lst xs, .dct _ => exact q.elim
  | .lst xs, .ins _ _ => exact q.elim
  | .lst xs, .exc _ _ => exact q.elim
  | .lst xs, .drw => exact q.elim
  | .non, _ => exact q.elim
  | .bl _, _ => exact q.elim
  | .int _, _ => exact q.elim
  | .str _, _ => exact q.elim
  | .tup _, _ => exact q.elim
  | .dct _, _ => exact q.elim
  | .ins _ _, _ => exact q.elim
  | .exc _ _, _ => exact q.elim
  | .drw, _ => exact q.elim
/-! [..] * k -/
variable {Γ : List Md}
end
end ND
/-! [..] * k, k any number -/
namespace ND
open PySem PySem.Spec PyProof.Rows L2
section
end
end ND
/-! xs[::-1] of a list -/
namespace ND
open PySem PySem.Spec PyProof.Rows L2 HT
section
end
section
end
end ND
/-! list(d.items()) as a value -/
namespace ND
open PySem PySem.Spec PyProof.Rows L2
def theObj (h : Heap) (a : Addr) : Obj := match h.get? a with
  | some o => o
  | none => tupObj []
def putF (h : Heap) : Hp → List Addr → List (Key × V) → Hp
  | H, a :: as, p :: kvs => putF h (upd H a (.frz (theObj h a) (.tup [kV p.1, p.2]))) as kvs
  | H, _, _ => H
section
end
section
end
end ND
/-! repr of a dict whose values are data without lists -/
namespace ND
open PySem PySem.Spec PyProof.Rows L2
section
end
section
end
end ND
/-! [..] == [] of any things -/
namespace ND
open PySem PySem.Spec PyProof.Rows L2
section
end
end ND
/-! one's own objects passed on: their methods change them -/
namespace ND
open PySem PySem.Spec PyProof.Rows L2 LamX
/-- the heap without an object -/
def wo (H : Hp) (p : Addr) : Hp := fun a => if a = p then none else H a
theorem wo_self {H : Hp} {p : Addr} : wo H p p = none := if_pos rfl
theorem wo_ne {H : Hp} {p a : Addr} (h : a ≠ p) : wo H p a = H a := if_neg h
theorem wo_some {H : Hp} {p a : Addr} {o : HO} (h : wo H p a = some o) : a ≠ p ∧ H a = some o := by
  by_cases ha : a = p
  · rw [ha, wo_self] at h; cases h
  · rw [wo_ne ha] at h; exact ⟨ha, h⟩
section
variable {K : PySem.W.Frag} {C : Cfg K} {E : XK} {Γ Γ1 Γb Γc : List Md} {n m : Nat} {G0 H0 G H G1 H1 G2 H2 : Hp} {p : Addr} {o o' : HO} {d d' : D} {v : V} {σ : L2.St} {ρ : Rho} {i : Nat} {Q : VK}
theorem Ws.ent (w : Wl C n G H) : Ws C G (wo H p) n G H := ⟨w, Same.refl _, fun a u v h => (wo_some h).2, fun a h _ => h⟩
theorem Own.ent (l : Own C H0 G H p o) : Own C (wo H p) G H p o := ⟨l.h, l.g, l.v, wo_self⟩
/-! ### the promise of a method that changes its object -/
/-! ### expressions that may change what is one's own -/
def xE (φ : Rho → Out D) : Rho → Out (D × Rho) := fun ρ => (φ ρ).bind fun d => .ok (d, ρ)
def SimX (C : Cfg K) (E : XK) (Γ : List Md) (t : TE) (φ : Rho → Out (D × Rho)) : Prop := ∀ G0 H0 n G H σ ρ Q, Ws C G0 H0 n G H → Er C H0 Γ G H σ ρ → (φ ρ).wp n (fun m x => ∀ v G' H', Ws C G0 H0 m G' H' → Same G G' → Er C H0 Γ G' H' σ x.2 → Rep C G' v x.1 → Q v H') (PX C G0 H0 E) → t σ H Q
theorem SimE.x {t : TE} {φ : Rho → Out D} (h : SimE C E Γ t φ) : SimX C E Γ t (xE φ) := fun G0 H0 n G H σ ρ Q s e q =>
  h H0 n G H σ ρ _ s.w e (Out.wp_mono (fun m d k v G' H' s' r => k v G' H' (s.trans s') s'.g (e.step s') r) (fun _ _ _ z => PX.stm s z) (Out.wp_bind q))
/-- one thing, as the one slot there is -/
theorem er1 (r : Rep C G v d) : Er C H0 [.fr] G H [some v] [d] := by
  refine ⟨fun i => ?_, fun i j q hij hi hj => ?_, Nat.le_refl _, rfl, fun i a s hi => ?_⟩
  · cases i with
    | zero => exact ⟨v, rfl, r⟩
    | succ i => exact True.intro
  · cases i with
    | zero => cases hi
    | succ i => cases hi
  · cases i with
    | zero => cases hi
    | succ i => cases hi
/-! ### the method's call -/
/-! ### statements -/
end
end ND
/-! methods that change their object; objects of one's own that are only read by a def -/
namespace ND
open PySem PySem.Spec PyProof.Rows L2 LamX
section
variable {K : PySem.W.Frag} {C : Cfg K} {E : XK} {Γ Γ1 Γb Γc : List Md} {n m : Nat} {G0 H0 G H G1 H1 G2 H2 : Hp} {p : Addr} {o o' : HO} {d d' : D} {v : V} {σ : L2.St} {ρ : Rho} {i j : Nat} {Q : VK}
/-! ### read only: it stays for the while -/
theorem Ws.unb (l : Own C H0 G H p o) (w : Wl C n G H) (b : Ws C (upd G p o) H m G1 H1) : Ws C G H m (wo G1 p) H1 := by
  refine ⟨⟨fun a u h => b.w.sub a u (wo_some h).2, fun a v => ?_, fun a u h => ?_, fun a u kvs h => b.w.nf a u kvs (wo_some h).2, b.w.iv⟩, fun a u h => ?_, b.k, fun a h h1 => ?_⟩
  · by_cases ha : a = p
    · rw [ha, wo_self]
    · rw [wo_ne ha]; exact b.w.nv a v
  · have ne : a ≠ p := fun z => by
      have := w.fx a u h
      rw [z, l.g] at this
      cases this
    rw [wo_ne ne]
    exact b.w.fx a u h
  · have ne : a ≠ p := fun z => by rw [z, l.g] at h; cases h
    rw [wo_ne ne]
    exact b.g a u (by rw [upd_ne ne]; exact h)
  · by_cases ha : a = p
    · rw [ha, wo_self]
    · rw [wo_ne ha]
      exact b.o a (by rw [upd_ne ha]; exact h) h1
/-! ### what a method's body does -/
/-- the first slot alone is one's own -/
def flat1 : List Md → Bool
  | .ow _ :: r => r.all fun m => match m with
    | .ow _ => false
    | .dp _ _ => false
    | _ => true
  | _ => false
theorem flat1_at {k : Nat} (h : flat1 Γ = true) (hk : k ≠ 0) : (Γ.getD k .un).isOw = false ∧ ∀ a s, Γ.getD k .un ≠ .dp a s := by
  cases Γ with
  | nil => cases h
  | cons x r =>
    cases x <;> first | (cases h; done) | skip
    have h : (r.all fun m => match m with
      | .ow _ => false
      | .dp _ _ => false
      | _ => true) = true := h
    obtain ⟨k, rfl⟩ := Nat.exists_eq_succ_of_ne_zero hk
    rw [List.getD_cons_succ, List.getD_eq_getElem?_getD]
    cases hr : r[k]? with
    | none => exact ⟨rfl, fun _ _ z => nomatch z⟩
    | some x =>
      have := List.all_eq_true.mp h x (List.mem_of_getElem? hr)
      cases x <;> first | (cases this; done) | exact ⟨rfl, fun _ _ z => nomatch z⟩
theorem Er.base {H0' : Hp} (e : Er C H0 Γ G H σ ρ) (f1 : flat1 Γ = true) (h0 : Γ[0]? = some (.ow (some p))) (hp : H0' p = Option.none) : Er C H0' Γ G H σ ρ := by
  refine ⟨fun j => ?_, e.dj, e.lg, e.lr, fun k a s hk => ?_⟩
  · have hj := e.sl j
    cases hm : Γ.getD j .un with
    | un => exact True.intro
    | fr => rw [hm] at hj; exact hj
    | ow b =>
      by_cases h : j = 0
      · subst h
        rw [hm] at hj
        obtain ⟨q, u, f1, f2, f3, f4⟩ := hj
        have : b = some p := by
          rw [List.getD_eq_getElem?_getD, h0] at hm
          cases hm
          rfl
        subst this
        have hq : q = p := f4 p rfl
        rw [hq] at f1 f2
        exact ⟨p, u, f1, ⟨f2.h, f2.g, f2.v, hp⟩, f3, fun _ z => by cases z; rfl⟩
      · have := (flat1_at f1 h).1
        rw [hm] at this
        cases this
    | dp c s' => exact True.intro
    | lw w => rw [hm] at hj; exact hj
    | lk => rw [hm] at hj; exact hj
  · by_cases h : k = 0
    · subst h
      rw [List.getD_eq_getElem?_getD, h0] at hk
      cases hk
    · exact absurd hk ((flat1_at f1 h).2 a s)
/-! ### the method -/
end
section
end
end ND
/-! caught(lambda: x.m(..)), x one's own -/
namespace ND
open PySem PySem.Spec PyProof.Rows L2 LamX
section
end
end ND
/-! a table of the module: T.get(x, d); isinstance(x, (A, B)) -/
namespace ND
open PySem PySem.Spec PyProof.Rows L2
section
end
section
/-! ### small -/
end
end ND
/-! a list of one's own that is only read by what is called: it is one's own behind the call again -/
namespace ND
open PySem PySem.Spec PyProof.Rows L2 LamX
section
variable {K : PySem.W.Frag} {C : Cfg K} {E : XK} {Γ Γ1 Γb Γc : List Md} {n m : Nat} {G0 H0 G H G1 H1 G2 H2 : Hp} {p : Addr} {o o' : HO} {d d' : D} {v : V} {σ : L2.St} {ρ : Rho} {i j : Nat} {Q : VK}
theorem Er.frzU {a : Option Addr} (e : Er C H0 Γ G H σ ρ) (hi : Γ[i]? = some (.ow a)) (h1 : σ[i]? = some (some (.ref p))) (h2 : Own C H0 G H p o) (h3 : ORep C G o (ρ.getD i .non)) : Er C H0 (Γ.set i .fr) (upd G p o) H σ ρ := by
  have hil : i < Γ.length := (List.getElem?_eq_some_iff.mp hi).1
  have hiw : Γ.getD i .un = .ow a := by rw [List.getD_eq_getElem?_getD, hi]; rfl
  have hio : (Γ.getD i .un).isOw = true := by rw [hiw]; rfl
  refine ⟨fun j => ?_, fun j k q hjk hj hk => ?_, by rw [List.length_set]; exact e.lg, e.lr, fun k b s' hk => ?_⟩
  rotate_right
  · rw [getD_set] at hk
    by_cases hki : i = k
    · rw [if_pos ⟨hki, hil⟩] at hk; cases hk
    rw [if_neg (fun z => hki z.1)] at hk
    obtain ⟨⟨v, as, g1, g2, gz, g3, g4⟩, g5⟩ := e.dp k b s' hk
    refine ⟨⟨v, as, g1, g2.sealO (g4 i p hio h1) h2.g, gz, g3, fun j q hj hq => ?_⟩, fun j b' s2 hj => ?_⟩
    · rw [getD_set] at hj
      by_cases hji : i = j ∧ i < Γ.length
      · rw [if_pos hji] at hj; cases hj
      · rw [if_neg hji] at hj; exact g4 j q hj hq
    · rw [getD_set] at hj
      by_cases hji : i = j ∧ i < Γ.length
      · rw [if_pos hji] at hj; cases hj
      · rw [if_neg hji] at hj; exact g5 j b' s2 hj
  · have hj := e.sl j
    rw [getD_set]
    by_cases hij : i = j
    · subst hij
      rw [if_pos ⟨rfl, hil⟩]
      exact ⟨_, h1, (h3.mono (same_add h2.g)).rep upd_same⟩
    · rw [if_neg (fun z => hij z.1)]
      cases hm : Γ.getD j .un with
      | un => exact True.intro
      | fr =>
        rw [hm] at hj
        obtain ⟨v, a, b⟩ := hj
        exact ⟨v, a, b.mono (same_add h2.g)⟩
      | ow b' =>
        rw [hm] at hj
        obtain ⟨q, u, a, b, c, c2⟩ := hj
        have hne : q ≠ p := fun z => by
          subst z
          exact e.dj i j q hij hio (by rw [hm]; rfl) h1 a
        exact ⟨q, u, a, b.sealO hne, c.mono (same_add h2.g), c2⟩
      | lk =>
        rw [hm] at hj
        obtain ⟨b, g1, o', kvs, xs, g2, g3, g4, g5, g6⟩ := hj
        exact ⟨b, g1, o', kvs, xs, g2, same_add h2.g _ _ g3, g4, g5.mono (same_add h2.g), g6⟩
      | dp b s => exact True.intro
      | lw w =>
        rw [hm] at hj
        obtain ⟨v, b, x, g1, g2, g3, g4, o', kvs, xs, g5, g6, g7, g8, g9⟩ := hj
        exact ⟨v, b, x, g1, g2.mono (same_add h2.g), g3.mono (same_add h2.g), g4, o', kvs, xs, g5, (same_add h2.g) _ _ g6, g7, g8.mono (same_add h2.g), g9⟩
  · rw [getD_set] at hj hk
    have a : (Γ.getD j .un).isOw = true := by
      by_cases z : i = j ∧ i < Γ.length
      · rw [if_pos z] at hj; cases hj
      · rw [if_neg z] at hj; exact hj
    have b : (Γ.getD k .un).isOw = true := by
      by_cases z : i = k ∧ i < Γ.length
      · rw [if_pos z] at hk; cases hk
      · rw [if_neg z] at hk; exact hk
    exact e.dj j k q hjk a b
/-- there is no list and no dict in it -/
def nlD : Nat → D → Bool
  | _, .non => true
  | _, .bl _ => true
  | _, .int _ => true
  | _, .str _ => true
  | k + 1, .tup xs => xs.all (nlD k)
  | k + 1, .ins _ fs => fs.all fun f => nlD k f.2
  | k + 1, .exc _ fs => fs.all fun f => nlD k f.2
  | _, _ => false
theorem rd_woL {ws : List V} {a : Addr} {u : HO} (hp : G p = some (.lst ws)) (hu : ∀ ws, u ≠ .lst ws) (h : Rd G a u) : Rd (wo G p) a u := by
  rcases h with h | ⟨q, h⟩
  · have ne : a ≠ p := fun z => by rw [z, hp] at h; cases h; exact hu _ rfl
    exact .inl (by rw [wo_ne ne]; exact h)
  · have ne : a ≠ p := fun z => by rw [z, hp] at h; cases h
    exact .inr ⟨q, by rw [wo_ne ne]; exact h⟩
theorem gt_woL {ws : List V} {a : Addr} {vs : List V} (hp : G p = some (.lst ws)) (h : GT K G a vs) : GT K (wo G p) a vs := by
  obtain ⟨h1, q, h2, h3⟩ := h
  refine ⟨?_, q, h2, ?_⟩
  · rcases h1 with h1 | h1
    · exact .inl (rd_woL hp (fun _ z => nomatch z) h1)
    · exact .inr h1
  · rcases h3 with h3 | h3
    · have ne : a ≠ p := fun z => by rw [z, hp] at h3; cases h3
      exact .inl (by rw [wo_ne ne]; exact h3)
    · exact .inr h3
theorem ne_L {ws : List V} {a : Addr} {u : HO} (hp : G p = some (.lst ws)) (hu : ∀ ws, u ≠ .lst ws) (h : G a = some u) : wo G p a = some u := by
  have ne : a ≠ p := fun z => by rw [z, hp] at h; cases h; exact hu _ rfl
  rw [wo_ne ne]
  exact h
theorem xfs_woL {ws : List V} {a : Option Addr} {fs : List (Str × V)} (hp : G p = some (.lst ws)) (h : XFs G a fs) : XFs (wo G p) a fs := by
  cases a with
  | none => exact h
  | some a => exact ne_L hp (fun _ z => nomatch z) h
theorem repL_woL {k : Nat} (ih : ∀ {v : V} {d : D}, Rep C G v d → nlD k d = true → Rep C (wo G p) v d) : ∀ {vs : List V} {xs : List D}, RepL C G vs xs → xs.all (nlD k) = true → RepL C (wo G p) vs xs
  | _, _, .nil, _ => .nil
  | _, _, .cons h t, hp => by
    rw [List.all_cons, Bool.and_eq_true] at hp
    exact .cons (ih h hp.1) (repL_woL ih t hp.2)
theorem all_snd {k : Nat} {fs : List (Str × D)} (h : (fs.all fun f => nlD k f.2) = true) : (fs.map (·.2)).all (nlD k) = true := by
  rw [List.all_map]
  exact h
theorem rep_woL {ws : List V} (hp : G p = some (.lst ws)) : ∀ {k : Nat} {v : V} {d : D}, Rep C G v d → nlD k d = true → Rep C (wo G p) v d
  | _, _, .non, h, _ => by cases h; exact .non
  | _, _, .bl _, h, _ => by cases h; exact .bl _
  | _, _, .int _, h, _ => by cases h; exact .int _
  | _, _, .str _, h, _ => by cases h with | str _ z => exact .str _ z
  | k + 1, _, .tup xs, h, hl => by cases h with | tup h t l => exact .tup (gt_woL hp h) (repL_woL (rep_woL hp (k := k)) t hl) l
  | k + 1, _, .ins _ fs, h, hl => by cases h with | ins hc h e t => exact .ins hc (ne_L hp (fun _ z => nomatch z) h) e (repL_woL (rep_woL hp (k := k)) t (all_snd hl))
  | k + 1, _, .exc _ fs, h, hl => by
    cases h with
    | exc hc h e t =>
      obtain ⟨dd, h1, h2⟩ := h
      exact .exc hc ⟨dd, ne_L hp (fun _ z => nomatch z) h1, xfs_woL hp h2⟩ e (repL_woL (rep_woL hp (k := k)) t (all_snd hl))
  | _, _, .lst xs, _, hl => by simp [nlD] at hl
  | _, _, .dct _, _, hl => by simp [nlD] at hl
  | _, _, .drw, _, hl => by simp [nlD] at hl
  | 0, _, .tup xs, _, hl => by simp [nlD] at hl
  | 0, _, .ins _ _, _, hl => by simp [nlD] at hl
  | 0, _, .exc _ _, _, hl => by simp [nlD] at hl
/-- what comes out holds no list -/
def Out.chk : Out D → Out D
  | .ok d => bif nlD 8 d then .ok d else .stuck
  | .exc c fs => bif fs.all (fun f => nlD 8 f.2) then .exc c fs else .stuck
  | .stuck => .stuck
  | .any c P k => .any c P fun d => (k d).chk
theorem chk_wp {Q : Nat → D → Prop} {E : Nat → Str → List (Str × D) → Prop} : ∀ {o : Out D} {m : Nat}, o.chk.wp m Q E → o.wp m (fun m d => nlD 8 d = true ∧ Q m d) (fun m c fs => (fs.all fun f => nlD 8 f.2) = true ∧ E m c fs)
  | .ok d, m, h => by
    cases hd : nlD 8 d with
    | false =>
      have h' : (bif nlD 8 d then Out.ok d else .stuck).wp m Q E := h
      rw [hd] at h'
      exact h'.elim
    | true =>
      have h' : (bif nlD 8 d then Out.ok d else .stuck).wp m Q E := h
      rw [hd] at h'
      exact ⟨hd, h'⟩
  | .exc c fs, m, h => by
    cases hd : fs.all (fun f => nlD 8 f.2) with
    | false =>
      have h' : (bif fs.all (fun f => nlD 8 f.2) then (Out.exc c fs : Out D) else .stuck).wp m Q E := h
      rw [hd] at h'
      exact h'.elim
    | true =>
      have h' : (bif fs.all (fun f => nlD 8 f.2) then (Out.exc c fs : Out D) else .stuck).wp m Q E := h
      rw [hd] at h'
      exact ⟨hd, h'⟩
  | .stuck, _, h => h.elim
  | .any c P k, _, h => by
    obtain ⟨m', e, h⟩ := h
    exact ⟨m', e, fun d hd => chk_wp (h d hd)⟩
/-- the list of one's own in slot i is only read -/
def eBorL (i : Nat) (φ : Rho → Out D) : Rho → Out D := fun ρ => match ρ.getD i .non with
  | .lst _ => (φ ρ).chk
  | _ => .stuck
theorem sm_borL {te : TE} {φ : Rho → Out D} {b : Option Addr} (hi : Γ[i]? = some (.ow b)) (h : SimE C E (Γ.set i .fr) te φ) : SimE C E Γ te (eBorL i φ) := fun H0 n G H σ ρ Q w e q => by
  obtain ⟨p, o, h1, h2, h3, h4⟩ := e.ow hi
  unfold eBorL at q
  cases hd : ρ.getD i .non <;> simp only [hd] at q <;> first | exact q.elim | skip
  rename_i xs
  have e1 := e.frzU hi h1 h2 h3
  rw [hd] at h3
  have ho : ∃ ws, o = .lst ws := by
    cases o <;> first | exact ⟨_, rfl⟩ | exact h3.elim
  obtain ⟨ws, rfl⟩ := ho
  have ws1 := (Ws.ent (p := p) w).seal h2.ent rfl
  refine h _ n (upd G p (.lst ws)) H σ ρ Q ws1.w e1 (Out.wp_mono (fun m d k => ?_) (fun m c fs k => ?_) (chk_wp q))
  · exact fun v G' H' s rv => k.2 v (wo G' p) H' (Ws.unb h2 w s) (rep_woL (s.g _ _ upd_same) rv k.1)
  · exact fun a us G' H' hc s hx hm hr => k.2 a us (wo G' p) H' hc (Ws.unb h2 w s) (xfs_woL (s.g _ _ upd_same) hx) hm (repL_woL (rep_woL (s.g _ _ upd_same)) hr (all_snd k.1))
end
end ND
/-! C(k = v, ..), all by names -/
namespace ND
open PySem PySem.Spec PyProof.Rows L2 LamX
structure IOkK (P : Program) (w : World) (K : PySem.W.Frag) (mg : Str → Option Value) (base : Heap) (k : Nat) (C : Addr) (ps ks : List Str) (idx : List Nat) (sp : Sp) : Prop where
  ex : ∃ f fd, Mk K C f ∧ KBn K fd ps 1 ks (gPick idx) (gPick idx) ∧ FnOk P w K mg base (L2.CX P w) k f fd ps sp
section
variable {K : PySem.W.Frag} {x qual : Str} {st : Stmt} {dvs : List V} {f : Addr} {fd : FuncData} {ps ks : List Str} {idx : List Nat}
theorem kbI_of {params : Arguments} {body : List Stmt} {scope : Scope} {kws : List (Str × V)} (F : FunD K x qual params body scope dvs kws f fd) (hd : dvs ≠ [])
    (h : ∀ (T : Addr) (kV doc pm : Value) (an : Option Addr) (cdv ct : Value) (us its ws : List Value), us.length = 1 → its.length = dvs.length → ws.length = ks.length →
      ∃ k, bindArgs (PySem.W.fnOf x qual params body scope (.ref T) kV doc pm an cdv ct) ⟨us, ks.zip ws⟩ = seqItems? (.ref T) >>= k ∧ k (some its.toArray) = pure (ps.zip (gPick idx us ws))) : KBn K fd ps 1 ks (gPick idx) (gPick idx) := by
  obtain ⟨its, B⟩ := F.kbindsD 1 ks (fun us _ ws => gPick idx us ws) hd (fun r1 _ r3 => vals_pick (r1.append r3) idx) h
  exact B
end
section
variable {X : Cx} {k : Nat} {C : Addr} {ps ks : List Str} {idx : List Nat} {sp : Sp} {E : XK} {x : Str} {p pos : Pos} {kws : List Keyword} {tk : TA}
theorem pe_mkK0 (G : IOkK X.prog X.w X.K X.mg X.base k C ps ks idx sp) (hr : Room (k + 1) X.A) (hg : Gl X x) (hm : X.mg x = some (.ref C)) (hx : Passes (L2.CX X.prog X.w) X E) (hkw : PK X kws tk)
    (hall : (backToKw pos (keywordEach kws X.env)).all (·.1.isSome) = true := by rfl) (hks : (backToKw pos (keywordEach kws X.env)).filterMap (·.1) = ks := by rfl) (hdb : (x == ("__debug__" : Str)) = false := by decide)
    (hpl : ((backTo pos (starEach [] X.env)).any (·.1) || (backToKw pos (keywordEach kws X.env)).any (·.1.isNone)) = false := by rfl) :
    PE X (.Call (.Name x p) [] kws pos) (tMakeK C 0 ks.length sp (gPick idx) E tNil tk) := by
  obtain ⟨f, fd, M, hb, F⟩ := G.ex
  exact pe_makeK0 M F hr hg hm hb hx hkw hall hks hdb hpl
end
section
variable {K : PySem.W.Frag} {C : Cfg K} {E : XK} {Γ : List Md} {n m : Nat} {G H : Hp}
theorem sn_makeK0 {b : Bool} {c : Str} {k j : Nat} {idx jdx : List Nat} {F : List D → Out D} {ta : TA} {a : Rho → Out (List D)} (hbk : b = true → C.lk = []) (hc : c ∈ ownCls K) (ha : SimA C E Γ j ta a)
    (hix : ∀ (x : V) (zs : List V), zs.length = j → gPick idx [x] zs = x :: pickL jdx zs) (hk : ∀ ds : List D, ds.length = j → (pickL jdx ds).length = k) : SimN C E Γ (tMakeK (He.ga K c) 0 j (spI K b c k F) (gPick idx) E tNil ta) (eCall (fun ds => F (pickL jdx ds)) a) := fun H0 n G H σ ρ Q w e q => by
  show ta σ H _
  refine ha H0 n G H σ ρ _ w e (Out.wp_mono (fun m xs k1 vs G1 H1 s1 r1 hl => ?_) (fun _ _ _ z => z) (Out.wp_bind q))
  refine ⟨rfl, by rw [r1.len]; exact hl, fun x dx nx nd hne => ?_⟩
  rw [hix (.ref x) vs (by rw [r1.len]; exact hl)]
  refine ⟨C, m, G1, H1, x, dx, _, pickL jdx xs, hbk, rfl, rfl, nx, nd, hne, s1.w, r1.pick jdx, hk _ hl, hc, Out.wp_mono (fun m2 d z => ?_) (fun _ _ _ z => PX.back s1 z) k1⟩
  exact fun o G' H' s' gx hx r => ⟨rfl, z x o G' H' (s1.trans s') (s1.dm nx) gx hx r⟩
end
end ND
/-! x = a if c else b, and all that is behind it, by cases -/
namespace ND
open PySem PySem.Spec PyProof.Rows L2 LamX
section
variable {K : PySem.W.Frag} {C : Cfg K} {E : XK} {Γ Γn Γb Γc : List Md} {rm : RM} {i : Nat}
theorem ss_stuck {t : TS} : SimS rm C E Γ t sNever Γn Γb Γc := fun G0 H0 n G H σ ρ D s e q => q.elim
theorem ss_alt {tc : TT} {ta tb : TE} {t : TS} {c : Rho → Out Bool} {p1 p2 : Rho → Out Res} (hc : SimT C E Γ tc c) (ha : SimS rm C E Γ (tSeq (tAsg ta (gName i)) t) p1 Γn Γb Γc) (hb : SimS rm C E Γ (tSeq (tAsg tb (gName i)) t) p2 Γn Γb Γc) :
    SimS rm C E Γ (tSeq (tAsg (tIf tc ta tb) (gName i)) t) (sIf c p1 p2) Γn Γb Γc := fun G0 H0 n G H σ ρ D s e q => by
  have := ss_if hc ha hb G0 H0 n G H σ ρ D s e q
  unfold tIfS at this
  unfold tSeq tAsg tIf
  refine cast (congrArg (tc σ H) (funext fun b => funext fun H1 => ?_)) this
  cases b <;> rfl
end
section
variable {K : PySem.W.Frag} {C : Cfg K} {E : XK} {Γ Γn Γb Γc : List Md} {rm : RM} {i n : Nat} {G0 H0 G H : Hp} {σ : L2.St} {ρ : Rho} {v : V} {d : D} {c : Option Addr} {k : Str} {kvs : List (Key × D)}
theorem put1 (hi : Γ[i]? = some (.ow c)) (s : Ws C G0 H0 n G H) (e : Er C H0 Γ G H σ ρ) (r : Rep C G v d) (hx : ρ.getD i .non = .dct kvs) (hl : kvs.length < 99999) :
    ∃ H', Ws C G0 H0 n G H' ∧ Er C H0 Γ G H' σ (ρ.set i (.dct (putD kvs (.inr k) d))) ∧ ∀ Q : L2.St → Hp → Prop, Q σ H' → gSub (tVar i) (tC (.str k)) rSetD v σ H Q := by
  obtain ⟨p, o, h1, h2, h3, h4⟩ := e.ow hi
  rw [hx] at h3
  cases o <;> first | exact h3.elim | skip
  rename_i ks
  obtain ⟨g0, g1, g2⟩ := h3
  have hkl : ks.length = kvs.length := by simpa using congrArg List.length g1
  obtain ⟨c1, c2⟩ := rk_put (k := .inr k) r g1 g2
  have hpl := putD_len kvs (.inr k) d
  have ho : ORep C G (.dK (putK ks (.inr k) v)) (.dct (putD kvs (.inr k) d)) := ⟨by omega, c1, c2⟩
  exact ⟨_, s.mut h2 (by intro φ z; cases z), e.mut hi h1 h2 ho h4, fun Q q => ⟨_, h1, p, _, rfl, .inl ⟨ks, .inr k, h2.h, rfl, Nat.lt_of_lt_of_le (show ks.length < 100000 by omega) (by decide), rfl⟩, q⟩⟩
/-- d[k1], d[k2] = a, b -/
def sPut2 (i : Nat) (k1 k2 : Str) (a b : Rho → Out D) : Rho → Out Res := fun ρ => (a ρ).bind fun x => (b ρ).bind fun y => match ρ.getD i .non with
  | .dct kvs => bif decide (kvs.length < 99990) then .ok (.nx ((ρ.set i (.dct (putD kvs (.inr k1) x))).set i (.dct (putD (putD kvs (.inr k1) x) (.inr k2) y)))) else .stuck
  | _ => .stuck
theorem ss_put2 {ta tb : TE} {a b : Rho → Out D} {k1 k2 : Str} (hi : Γ[i]? = some (.ow c)) (ha : SimE C E Γ ta a) (hb : SimE C E Γ tb b) :
    SimS rm C E Γ (tPars 2 (tCons ta (tCons tb tNil)) (gCons (gSub (tVar i) (tC (.str k1)) rSetD) (gCons (gSub (tVar i) (tC (.str k2)) rSetD) gNil))) (sPut2 i k1 k2 a b) Γ Γb Γc := fun G0 H0 n G H σ ρ D s e q => by
  refine ha H0 n G H σ ρ _ s.w e (Out.wp_mono (fun m x k v G1 H1 s1 r1 => ?_) (fun _ _ _ z => PX.stm s z) (Out.wp_bind q))
  refine hb H0 m G1 H1 σ ρ _ s1.w (e.step s1) (Out.wp_mono (fun m2 y k2' u G2 H2 s2 r2 => ?_) (fun _ _ _ z => PX.stm (s.trans s1) z) (Out.wp_bind k))
  refine ⟨rfl, ?_⟩
  have e2 := (e.step s1).step s2
  have st := (s.trans s1).trans s2
  cases hx : ρ.getD i .non <;> simp only [hx] at k2' <;> first | exact k2'.elim | skip
  rename_i kvs
  cases hb : decide (kvs.length < 99990) with
  | false => simp only [hb, cond_false] at k2'; exact k2'.elim
  | true =>
    simp only [hb, cond_true] at k2'
    have hl := of_decide_eq_true hb
    have hil : i < ρ.length := by
      by_cases h : i < ρ.length
      · exact h
      · rw [List.getD_eq_getElem?_getD, List.getElem?_eq_none (by omega)] at hx
        cases hx
    obtain ⟨H3, s3, e3, f3⟩ := put1 (k := k1) hi st e2 (r1.mono s2.g) hx (by omega)
    have hx3 : (ρ.set i (.dct (putD kvs (.inr k1) x))).getD i .non = .dct (putD kvs (.inr k1) x) := by
      rw [List.getD_eq_getElem?_getD, List.getElem?_set_self hil]
      rfl
    have hpl := putD_len kvs (.inr k1) x
    obtain ⟨H4, s4, e4, f4⟩ := put1 (k := k2) hi s3 e3 r2 hx3 (by omega)
    exact ⟨v, _, rfl, f3 _ ⟨u, _, rfl, f4 _ ⟨rfl, k2' σ G2 H4 s4 (s1.g.trans s2.g) e4⟩⟩⟩
end
end ND
/-! an own == beside a dict -/
namespace ND
open PySem PySem.Spec PyProof.Rows L2 PySem.W
section
variable {X : Cx} {n : Nat} {ps : List Str} {sp : Sp} {E : XK}
theorem looks_typeIs {prog : Program} {w : World} {s : Shared} {a : Addr} {T : String} (h : s.TypeIs (.ref a) T) : Looks (model prog w) s.heap (typeOf (.ref a)) (.type T) := fun A Q E s' k q => by
  obtain ⟨o, ho, hc⟩ := h
  exact wpAny_typeOf (T := T) ⟨o, k _ _ ho, hc⟩ q
theorem nf_dict {K : Frag} {C : Addr} : notFirst K C (.type "dict") = true := by
  unfold notFirst
  have h : subIn K (.type "dict") (.ref C) = some false := by
    show (fastBuiltinMro "dict").map _ = _
    kernel_rfl
  rw [h]
  simp
def rOwnD (C : Addr) (sp : Sp) (E : XK) : R2 := fun x y H Q => ∃ a b dx fs kvs, x = .ref a ∧ y = .ref b ∧ H a = some (.ins C dx fs) ∧ Rd H b (.dK kvs) ∧ sp [.ref a, .ref b] H (fun v H' => ∃ r, v = .bl r ∧ Q (.bl r) H') E
theorem op_ownEqD {C : Addr} (M : MOk X.prog X.w X.K X.mg X.base n C "__eq__" ps sp) (hr : Room n X.A) (hx : Passes (L2.CX X.prog X.w) X E) (hnf : notFirst X.K C (.type "dict") = true) : OpR X (compareOp .Eq) (rOwnD C sp E) := by
  intro pins s σ H x y v u Q I rx ry hq
  obtain ⟨a, b, dx, fs, kvs, rfl, rfl, ha, hb, q⟩ := hq
  obtain ⟨f, fd, M, B, F⟩ := M.ex
  cases rx
  cases ry
  obtain ⟨mA, J, _⟩ := ins_get I.hok ha
  obtain ⟨od, J, _⟩ := J.look
  obtain ⟨_, _, vs, _, dd⟩ := dk_rd I.hok hb
  obtain ⟨m, hF⟩ := I.fr
  show wpAny (model X.prog X.w) X.A (richCompare .Eq (.ref a) (.ref b)) (EP X pins σ Q) X.xe s
  refine PySem.W.cmp_K (op := .Eq) (tb := .type "dict") hr.units0 hF I.ok.mod.kin J (looks_typeIs dd.typeIs) hnf M.at_ M.fn (wpAny_mono (run_at (A := X.A) (vs := [V.ref a, V.ref b]) ⟨hr, rfl⟩ F B hx I (.cons rfl (.cons rfl .nil)) q) (fun v s' z => ?_) fun _ _ e => e)
  obtain ⟨z, H', I', rz, r, rfl, q⟩ := z
  cases rz
  exact ⟨.bl r, H', I', rfl, q⟩
end
section
variable {K : PySem.W.Frag} {C : Cfg K} {E : XK} {Γ : List Md} {n m : Nat} {H0 G H G1 H1 : Hp} {σ : L2.St} {ρ : Rho} {Q : VK}
def dOwnD (c : Str) (F : List D → Out D) (x y : D) : Out D := match x, y with
  | .ins c' fs, .dct kvs => bif decide (c' = c) then (F [.ins c' fs, .dct kvs]).bind fun r => match r with
      | .bl z => .ok (.bl z)
      | _ => .stuck
    else .stuck
  | _, _ => .stuck
theorem sm_eqOD {b : Bool} {c : Str} {F : List D → Out D} {ta tb : TE} {x y : Rho → Out D} (hb : b = true → C.lk = []) (ha : SimE C E Γ ta x) (hy : SimE C E Γ tb y) : SimE C E Γ (tOp (rOwnD (He.ga K c) (spF K b 2 F) E) ta tb) (eOp (dOwnD c F) x y) := fun H0 n G H σ ρ Q w e q => by
  refine ha H0 n G H σ ρ _ w e (Out.wp_mono (fun m dx k v G1 H1 s1 r1 => ?_) (fun _ _ _ z => z) (Out.wp_bind q))
  refine hy H0 m G1 H1 σ ρ _ s1.w (e.step s1) (Out.wp_mono (fun m2 dy k2 u G2 H2 s2 r2 => ?_) (fun _ _ _ z => PX.back s1 z) (Out.wp_bind k))
  unfold dOwnD at k2
  cases dx <;> try exact k2.elim
  cases dy <;> try exact k2.elim
  rename_i c1 xs ys
  cases hc : decide (c1 = c) with
  | false => simp only [hc, cond_false] at k2; exact k2.elim
  | true =>
    simp only [hc, cond_true] at k2
    rw [decide_eq_true_eq] at hc
    subst hc
    have r1' := r1.mono s2.g
    obtain ⟨a, dx, fs, rfl, h1, h2, _⟩ := r1'.insI
    cases r2 with
    | dct h e2 t l =>
      refine ⟨a, _, dx, fs, _, rfl, rfl, s2.w.sub _ _ h2, rd_mono s2.w.sub h, C, m2, G2, _, hb, s2.w, .cons r1' (.cons (.dct h e2 t l) .nil), rfl, Out.wp_mono (fun m3 d k3 => ?_) (fun _ _ _ z => PX.back (s1.trans s2) z) (Out.wp_bind k2)⟩
      cases d <;> try exact k3.elim
      rename_i z
      intro v G' H' s3 r3
      cases r3
      exact ⟨z, rfl, k3 (.bl z) G' H' ((s1.trans s2).trans s3) (.bl _)⟩
end
end ND
/-! 'x' * n -/
namespace ND
open PySem PySem.Spec PyProof.Rows L2
def repS (z : Str) (n : Nat) : Str := ⟨(List.replicate n z.cps).foldl (· ++ ·) #[]⟩
def rMulS : R2 := fun x y H Q => ∃ (z : Str) (n : Int), x = .str z ∧ y = .int n ∧ (1 ≤ n ∧ n ≤ 100 ∧ 1 ≤ z.length ∧ z.length ≤ 100) ∧ (repS z n.toNat).length ≤ sizeLine ∧ Q (.str (repS z n.toNat)) H
theorem op_mulS {X : Cx} : OpR X (binaryOp .Mult) rMulS := by
  intro pins s σ H x y v u Q I rx ry h
  obtain ⟨z, n, rfl, rfl, ⟨h1, h2, h3, h4⟩, hlen, q⟩ := h
  obtain ⟨t, rfl⟩ := rx
  obtain ⟨t', rfl⟩ := ry
  have hz : (z.length == 0) = false := by
    have : z.length ≠ 0 := by omega
    simpa using this
  refine PySem.P.mul_str ?_ (fun _ _ => ?_) (fun _ _ => ?_) ?_
  · have a : ¬ n < -(2 ^ 63 : Int) := by omega
    have b : ¬ n ≥ 2 ^ 63 := by omega
    rw [decide_eq_false a, decide_eq_false b]
    rfl
  · have : (100 : Int) ≤ (2 ^ 63 - 1) / n := Int.le_ediv_of_mul_le (by omega) (by omega)
    omega
  · have : z.length * n.toNat ≤ 100 * 100 := Nat.mul_le_mul h4 (by omega)
    unfold Builtin.Str.tooLong
    have h5 : ¬ z.length * n.toNat > sizeLine := by
      have : (10000 : Nat) ≤ sizeLine := by decide
      omega
    exact decide_eq_false h5
  · rw [if_neg (by omega)]
    by_cases hn : n = 1
    · subst hn
      rw [if_pos (by rfl)]
      have e : repS z (1 : Int).toNat = z := by
        unfold repS
        show (⟨#[] ++ z.cps⟩ : Str) = z
        simp
      rw [e] at q
      exact ⟨.str z, H, I, ⟨_, rfl⟩, q⟩
    · rw [if_neg (by
        rw [hz, Bool.or_false]
        simpa using hn)]
      exact ⟨hlen, .str _, H, I.tok _, ⟨_, rfl⟩, q⟩
section
variable {K : PySem.W.Frag} {C : Cfg K} {E : XK}
def dMulS (x y : D) : Out D := match x, y with
  | .str z, .int n => bif decide (1 ≤ n ∧ n ≤ 100 ∧ 1 ≤ z.length ∧ z.length ≤ 100) && sokB (repS z n.toNat) then .ok (.str (repS z n.toNat)) else .stuck
  | _, _ => .stuck
theorem sr_mulS : SR C E rMulS dMulS := fun n G H x y dx dy Q w rx ry q => by
  cases dx <;> first | exact q.elim | skip
  cases dy <;> first | exact q.elim | skip
  rename_i a i
  obtain ⟨rfl, sa⟩ := rx.str
  obtain rfl := ry.int
  cases hh : (decide (1 ≤ i ∧ i ≤ 100 ∧ 1 ≤ a.length ∧ a.length ≤ 100) && sokB (repS a i.toNat)) with
  | false => unfold dMulS at q; simp only [hh] at q; exact q.elim
  | true =>
    unfold dMulS at q
    simp only [hh] at q
    rw [Bool.and_eq_true, decide_eq_true_eq] at hh
    have hs := sokB_ok hh.2
    exact ⟨a, i, rfl, rfl, hh.1, Nat.le_trans hs.1 (by decide), q (.str (repS a i.toNat)) G H (Ws.refl w) (.str _ hs)⟩
end
end ND
namespace ND
open PySem PySem.Spec PyProof.Rows L2
section
variable {P : Program} {w : World} {K : PySem.W.Frag} {mg : Str → Option Value} {base : Heap}
def S_is_list : Rho → Out Res := (sRet (eUn (fun d => boD (dIsSeqB d)) (eVar 0)))
def F_is_list : List D → Out D := fnD 1 S_is_list
theorem ok_is_list (T : Tx P w K mg base) : GOk P w K mg base 1 "is_list" ["thing"] (spF K false 1 F_is_list) :=
  GFun.sim (k := 0) (ψ := S_is_list) T.d_is_list sc_is_list (fun _ _ _ _ _ _ us hl => match us, hl with | [_], _ => rfl) (fun f cdv A outer s H E C hl hr => ⟨_, (pss_one (ps_ret (pe_callB call_isiT (by rfl) T.n_isinstance (by decide +kernel) (pa_cons (pv 0) (pa_cons (pe_tup (pa_cons (pe_bltn (v := .ty "list") (by rfl) T.n_list (by decide +kernel) rfl) (pa_cons (pe_bltn (v := .ty "tuple") (by rfl) T.n_tuple (by decide +kernel) rfl) pa_nil))) pa_nil))))), [], [], [],
    (ss_ret (sm_isSeq ((sm_var rfl)).v))⟩)
def S_is_name : Rho → Out Res := (sSeq (sIf (cOr (cNot (cB (eUn (fun d => boD (dIsTyB "str" d)) (eVar 0)))) (cNot (cB (eChain dLe dLe (eC (.int 1)) (eCall dLen (aCons (eVar 0) aNil)) (eC (.int 6)))))) (sRet (eC (.bl false))) sNext)
      (sRet (eCall dAll (aCons (eLc (iOf itemsS (eVar 0)) (gN 1) cYes (eOp (dInS false) (eVar 1) (eC (.str "abcdefghijklmnopqrstuvwxyz")))) aNil))))
def F_is_name : List D → Out D := fnD 2 S_is_name
theorem ok_is_name (T : Tx P w K mg base) : GOk P w K mg base 1 "is_name" ["thing"] (spF K false 1 F_is_name) :=
  GFun.sim (k := 0) (ψ := S_is_name) T.d_is_name sc_is_name (fun _ _ _ _ _ _ us hl => match us, hl with | [_], _ => rfl) (fun f cdv A outer s H E C hl hr => ⟨_, (pss_cons (ps_if (PW.pt (pw_or (pt_not (pt_val (pe_callB call_isA (by rfl) T.n_isinstance (by decide +kernel) (pa_cons (pv 0) (pa_cons (pe_bltn (v := .ty "str") (by rfl) T.n_str (by decide +kernel) rfl) pa_nil))))) (pw_or1 (pt_not (pt_chain op_le op_le pe_int (pe_callB call_lenA (by rfl) T.n_len (by decide +kernel) (pa_cons (pv 0) pa_nil)) (pe_cst (by rfl) T.c_LONGEST_NAME)))))) (pss_one (ps_ret pe_bl)) pss_nil)
      (pss_one (ps_ret (pe_callB (cr_all rfl) (by rfl) T.n_all (by decide +kernel) (pa_cons (pe_lc (own := [("sign", 1)]) (by rfl) sc_is_name.nd (pi_str (pv 0)) (blkOk_by (own := [("sign", 1)]) (N := N_is_name) (sc := defScope s_is_name) (by decide +kernel)) (fun _ _ _ _ _ => (pg_name (i := 1) sc_is_name.nd rfl (Or.inl rfl))) (fun _ _ _ _ _ => pts_nil) (fun _ _ _ _ _ => (pe_cmpR op_in_sign (pv 1) (pe_csts (by rfl) T.c_LETTERS) (by rfl)))) pa_nil))))), [], [], [],
    (ss_seq (ss_if (st_or (st_not (st_B ((sm_isTy ((sm_var rfl)).v)).v)) (st_not (st_test ((sm_chain sr_le sr_le (sm_int).v ((sm_cb sc_len (sb_cons ((sm_var rfl)).v sb_nil))).v (sm_int).v)).v))) (ss_ret sm_bl) ss_next)
      (ss_ret (sm_cb sc_all (sb_cons ((sn_lc (si_str (sm_var rfl)) (by decide) sg_name st_yes (sm_op sr_inS ((sm_var rfl)).v (sm_str).v))).v sb_nil))))⟩)
def S_is_number : Rho → Out Res := (sRet (eAnd (eUn (fun d => boD (dIsTyB "int" d)) (eVar 0)) (eNot (eUn (fun d => boD (dIsTyB "bool" d)) (eVar 0)))))
def F_is_number : List D → Out D := fnD 1 S_is_number
theorem ok_is_number (T : Tx P w K mg base) : GOk P w K mg base 1 "is_number" ["thing"] (spF K false 1 F_is_number) :=
  GFun.sim (k := 0) (ψ := S_is_number) T.d_is_number sc_is_number (fun _ _ _ _ _ _ us hl => match us, hl with | [_], _ => rfl) (fun f cdv A outer s H E C hl hr => ⟨_, (pss_one (ps_ret (pe_and (pe_callB call_isA (by rfl) T.n_isinstance (by decide +kernel) (pa_cons (pv 0) (pa_cons (pe_bltn (v := .ty "int") (by rfl) T.n_int (by decide +kernel) rfl) pa_nil))) (pe_one (pe_not (pe_callB call_isA (by rfl) T.n_isinstance (by decide +kernel) (pa_cons (pv 0) (pa_cons (pe_bltn (v := .ty "bool") (by rfl) T.n_bool (by decide +kernel) rfl) pa_nil)))))))), [], [], [],
    (ss_ret (sm_and ((sm_isTy ((sm_var rfl)).v)).v (sm_not ((sm_isTy ((sm_var rfl)).v)).v)))⟩)
def S_is_within : Rho → Out Res := (sRet (eAnd (eCall F_is_number (aCons (eVar 0) aNil)) (eChain dLe dLe (eVar 1) (eVar 0) (eVar 2))))
def F_is_within : List D → Out D := fnD 3 S_is_within
theorem ok_is_within (T : Tx P w K mg base) : GOk P w K mg base 2 "is_within" ["thing", "least", "most"] (spF K false 3 F_is_within) :=
  GFun.sim (k := 1) (ψ := S_is_within) T.d_is_within sc_is_within (fun _ _ _ _ _ _ us hl => match us, hl with | [_, _, _], _ => rfl) (fun f cdv A outer s H E C hl hr => ⟨_, (pss_one (ps_ret (pe_and (pe_g (ok_is_number T) (hr.mono (by decide)) (by rfl) (passes_call (takes_of rfl rfl rfl rfl) (fun _ _ _ _ h => h)) (pa_cons (pv 0) pa_nil)) (pe_one (pe_chain op_le op_le (pv 1) (pv 0) (pv 2)))))), [], [], [],
    (ss_ret (sm_and ((sm_call (fun h => Bool.noConfusion h) (sa_cons (sm_var rfl) sa_nil))).v (sm_chain sr_le sr_le ((sm_var rfl)).v ((sm_var rfl)).v ((sm_var rfl)).v)))⟩)
def S_is_slot : Rho → Out Res := (sRet (eAnd (eUn (fun d => boD (dIsTyB "tuple" d)) (eVar 0)) (eAnd (eOp dEq (eCall dLen (aCons (eVar 0) aNil)) (eC (.int 2))) (eAnd (eCall F_is_name (aCons (eOp dIx (eVar 0) (eC (.int 0))) aNil)) (eCall F_is_within (aCons (eOp dIx (eVar 0) (eC (.int 1))) (aCons (eC (.int 0)) (aCons (eOp dSub (eC (.int 4)) (eC (.int 1))) aNil))))))))
def F_is_slot : List D → Out D := fnD 1 S_is_slot
theorem ok_is_slot (T : Tx P w K mg base) : GOk P w K mg base 3 "is_slot" ["thing"] (spF K false 1 F_is_slot) :=
  GFun.sim (k := 2) (ψ := S_is_slot) T.d_is_slot sc_is_slot (fun _ _ _ _ _ _ us hl => match us, hl with | [_], _ => rfl) (fun f cdv A outer s H E C hl hr => ⟨_, (pss_one (ps_ret (pe_and (pe_callB call_isA (by rfl) T.n_isinstance (by decide +kernel) (pa_cons (pv 0) (pa_cons (pe_bltn (v := .ty "tuple") (by rfl) T.n_tuple (by decide +kernel) rfl) pa_nil))) (pe_and (pe_cmpR (op_eqD hr.units) (pe_callB call_lenA (by rfl) T.n_len (by decide +kernel) (pa_cons (pv 0) pa_nil)) pe_int (nomark _)) (pe_and (pe_g (ok_is_name T) (hr.mono (by decide)) (by rfl) (passes_call (takes_of rfl rfl rfl rfl) (fun _ _ _ _ h => h)) (pa_cons (pe_ix ix_seq (pv 0) pe_int (fun _ _ => rfl)) pa_nil)) (pe_one (pe_g (ok_is_within T) (hr.mono (by decide)) (by rfl) (passes_call (takes_of rfl rfl rfl rfl) (fun _ _ _ _ h => h)) (pa_cons (pe_ix ix_seq (pv 0) pe_int (fun _ _ => rfl)) (pa_cons pe_int (pa_cons (pe_op op_sub (pe_cst (by rfl) T.c_MOST_DAYS) pe_int) pa_nil)))))))))), [], [], [],
    (ss_ret (sm_and ((sm_isTy ((sm_var rfl)).v)).v (sm_and ((sm_op sr_eqD ((sm_cb sc_len (sb_cons ((sm_var rfl)).v sb_nil))).v (sm_int).v)).v (sm_and ((sm_call (fun h => Bool.noConfusion h) (sa_cons (sm_op sr_ix ((sm_var rfl)).v (sm_int).v) sa_nil))).v (sm_call (fun h => Bool.noConfusion h) (sa_cons (sm_op sr_ix ((sm_var rfl)).v (sm_int).v) (sa_cons sm_int (sa_cons (sm_op sr_sub (sm_int).v (sm_int).v) sa_nil))))))))⟩)
def S_are_slots : Rho → Out Res := (sSeq (sIf (cOr (cNot (cB (eCall F_is_list (aCons (eVar 0) aNil)))) (cOr (cNot (cB (eChain dLe dLe (eC (.int 1)) (eCall dLen (aCons (eVar 0) aNil)) (eC (.int 12))))) (cNot (cB (eCall dAll (aCons (eLc (iOf itemsQ (eVar 0)) (gN 1) cYes (eCall F_is_slot (aCons (eVar 1) aNil))) aNil)))))) (sRet (eC (.bl false))) sNext)
      (sRet (eOp dEq (eUn dSetLen (eVar 0)) (eCall dLen (aCons (eVar 0) aNil)))))
def F_are_slots : List D → Out D := fnD 2 S_are_slots
theorem ok_are_slots (T : Tx P w K mg base) : GOk P w K mg base 4 "are_slots" ["thing"] (spF K false 1 F_are_slots) :=
  GFun.sim (k := 3) (ψ := S_are_slots) T.d_are_slots sc_are_slots (fun _ _ _ _ _ _ us hl => match us, hl with | [_], _ => rfl) (fun f cdv A outer s H E C hl hr => ⟨_, (pss_cons (ps_if (PW.pt (pw_or (pt_not (pt_val (pe_g (ok_is_list T) (hr.mono (by decide)) (by rfl) (passes_call (takes_of rfl rfl rfl rfl) (fun _ _ _ _ h => h)) (pa_cons (pv 0) pa_nil)))) (pw_or (pt_not (pt_chain op_le op_le pe_int (pe_callB call_lenA (by rfl) T.n_len (by decide +kernel) (pa_cons (pv 0) pa_nil)) (pe_cst (by rfl) T.c_MOST_SLOTS))) (pw_or1 (pt_not (pt_val (pe_callB (cr_all rfl) (by rfl) T.n_all (by decide +kernel) (pa_cons (pe_lc (own := [("item", 1)]) (by rfl) sc_are_slots.nd (pi_sq (pv 0)) (blkOk_by (own := [("item", 1)]) (N := N_are_slots) (sc := defScope s_are_slots) (by decide +kernel)) (fun _ _ _ _ _ => (pg_name (i := 1) sc_are_slots.nd rfl (Or.inl rfl))) (fun _ _ _ _ _ => pts_nil) (fun _ _ _ _ _ => (pe_g (ok_is_slot T) (hr.mono (by decide)) (by rfl) passL (pa_cons (pv 1) pa_nil)))) pa_nil)))))))) (pss_one (ps_ret pe_bl)) pss_nil)
      (pss_one (ps_ret (pe_cmpR (op_eqD hr.units) (pe_callB call_lenN' (by rfl) T.n_len (by decide +kernel) (pa_cons (pe_callTy (cr_setK rfl hr.units) (by rfl) T.n_set (by decide +kernel) (pa_cons (pv 0) pa_nil)) pa_nil)) (pe_callB call_lenA (by rfl) T.n_len (by decide +kernel) (pa_cons (pv 0) pa_nil)) (nomark _))))), [], [], [],
    (ss_seq (ss_if (st_or (st_not (st_B ((sm_call (fun h => Bool.noConfusion h) (sa_cons (sm_var rfl) sa_nil))).v)) (st_or (st_not (st_test ((sm_chain sr_le sr_le (sm_int).v ((sm_cb sc_len (sb_cons ((sm_var rfl)).v sb_nil))).v (sm_int).v)).v)) (st_not (st_B ((sm_cb sc_all (sb_cons ((sn_lc (si_sq (sm_var rfl)) (by decide) sg_name st_yes (sm_call (fun h => Bool.noConfusion h) (sa_cons (sm_var rfl) sa_nil)))).v sb_nil))).v)))) (ss_ret sm_bl) ss_next)
      (ss_ret (sm_op sr_eqD ((sm_setLen ((sm_var rfl)).v)).v ((sm_cb sc_len (sb_cons ((sm_var rfl)).v sb_nil))).v)))⟩)
def S_is_roll : Rho → Out Res := (sSeq (sIf (cB (eOp dIsN (eVar 0) (eC .non))) (sRet (eC (.bl true))) sNext)
      (sRet (eAnd (eUn (fun d => boD (dIsTyB "tuple" d)) (eVar 0)) (eAnd (eOp dEq (eCall dLen (aCons (eVar 0) aNil)) (eC (.int 2))) (eAnd (eCall F_is_name (aCons (eOp dIx (eVar 0) (eC (.int 0))) aNil)) (eCall F_is_within (aCons (eOp dIx (eVar 0) (eC (.int 1))) (aCons (eC (.int 1)) (aCons (eC (.int 3)) aNil)))))))))
def F_is_roll : List D → Out D := fnD 1 S_is_roll
theorem ok_is_roll (T : Tx P w K mg base) : GOk P w K mg base 3 "is_roll" ["thing"] (spF K false 1 F_is_roll) :=
  GFun.sim (k := 2) (ψ := S_is_roll) T.d_is_roll sc_is_roll (fun _ _ _ _ _ _ us hl => match us, hl with | [_], _ => rfl) (fun f cdv A outer s H E C hl hr => ⟨_, (pss_cons (ps_if (pt_cmpR op_isN (pv 0) pe_non (nomark _)) (pss_one (ps_ret pe_bl)) pss_nil)
      (pss_one (ps_ret (pe_and (pe_callB call_isA (by rfl) T.n_isinstance (by decide +kernel) (pa_cons (pv 0) (pa_cons (pe_bltn (v := .ty "tuple") (by rfl) T.n_tuple (by decide +kernel) rfl) pa_nil))) (pe_and (pe_cmpR (op_eqD hr.units) (pe_callB call_lenA (by rfl) T.n_len (by decide +kernel) (pa_cons (pv 0) pa_nil)) pe_int (nomark _)) (pe_and (pe_g (ok_is_name T) (hr.mono (by decide)) (by rfl) (passes_call (takes_of rfl rfl rfl rfl) (fun _ _ _ _ h => h)) (pa_cons (pe_ix ix_seq (pv 0) pe_int (fun _ _ => rfl)) pa_nil)) (pe_one (pe_g (ok_is_within T) (hr.mono (by decide)) (by rfl) (passes_call (takes_of rfl rfl rfl rfl) (fun _ _ _ _ h => h)) (pa_cons (pe_ix ix_seq (pv 0) pe_int (fun _ _ => rfl)) (pa_cons pe_int (pa_cons (pe_cst (by rfl) T.c_MOST_AMOUNT) pa_nil))))))))))), [], [], [],
    (ss_seq (ss_if (st_test ((sm_op sr_isN ((sm_var rfl)).v (sm_non).v)).v) (ss_ret sm_bl) ss_next)
      (ss_ret (sm_and ((sm_isTy ((sm_var rfl)).v)).v (sm_and ((sm_op sr_eqD ((sm_cb sc_len (sb_cons ((sm_var rfl)).v sb_nil))).v (sm_int).v)).v (sm_and ((sm_call (fun h => Bool.noConfusion h) (sa_cons (sm_op sr_ix ((sm_var rfl)).v (sm_int).v) sa_nil))).v (sm_call (fun h => Bool.noConfusion h) (sa_cons (sm_op sr_ix ((sm_var rfl)).v (sm_int).v) (sa_cons sm_int (sa_cons sm_int sa_nil)))))))))⟩)
def S_Pack___init__ : Rho → Out Res := (sSeq (sIf (cNot (cB (eCall F_are_slots (aCons (eVar 1) aNil)))) (sRaise "BadPack" "part" (aCons (eC (.str "slots")) aNil)) sNext)
      (sSeq (sIf (cNot (cB (eCall F_is_within (aCons (eVar 2) (aCons (eC (.int 0)) (aCons (eC (.int 3)) aNil)))))) (sRaise "BadPack" "part" (aCons (eC (.str "amount")) aNil)) sNext)
      (sSeq (sIf (cAnd (cB (eOp dNotN (eVar 3) (eC .non))) (cNot (cB (eCall F_is_within (aCons (eVar 3) (aCons (eC (.int 0)) (aCons (eC (.int 99)) aNil))))))) (sRaise "BadPack" "part" (aCons (eC (.str "cost")) aNil)) sNext)
      (sSeq (sIf (cNot (cB (eCall F_is_roll (aCons (eVar 4) aNil)))) (sRaise "BadPack" "part" (aCons (eC (.str "roll")) aNil)) sNext)
      (sSeq (sFldS "Pack" "own_slots" 0 (eCall dTuple (aCons (eCall dSortedQ (aCons (eVar 1) aNil)) aNil)))
      (sSeq (sFldS "Pack" "own_amount" 0 (eVar 2))
      (sSeq (sFldS "Pack" "own_cost" 0 (eVar 3))
      (sFldS "Pack" "own_roll" 0 (eVar 4)))))))))
def F_Pack___init__ : List D → Out D := fnI "Pack" 5 S_Pack___init__
theorem fn_Pack___init__ (T : Tx P w K mg base) {f : Addr} {fd : FuncData} {dvs : List V} (F : FnD K "__init__" "Pack.__init__" s_Pack___init__ dvs f fd) : FnOk P w K mg base (L2.CX P w) 5 f fd ["self", "slots", "amount", "cost", "roll"] (spI K false "Pack" 4 F_Pack___init__) :=
  FunD.simI (k := 4) (j := 4) (ψ := S_Pack___init__) F sc_Pack___init__ rfl (fun cdv A outer s H E C x hl hr => ⟨_, (pss_cons (ps_if (pt_not (pt_val (pe_g (ok_are_slots T) (hr.mono (by decide)) (by rfl) (passes_call (takes_of rfl rfl rfl rfl) (fun _ _ _ _ h => h)) (pa_cons (pv 1) pa_nil)))) (pss_one (ps_raise rfl (takes_of rfl rfl rfl rfl) (pmk_sup T.s_BadPack T.g_BadPack hr (by rfl) (pa_cons pe_str pa_nil)))) pss_nil)
      (pss_cons (ps_if (pt_not (pt_val (pe_g (ok_is_within T) (hr.mono (by decide)) (by rfl) (passes_call (takes_of rfl rfl rfl rfl) (fun _ _ _ _ h => h)) (pa_cons (pv 2) (pa_cons pe_int (pa_cons (pe_cst (by rfl) T.c_MOST_AMOUNT) pa_nil)))))) (pss_one (ps_raise rfl (takes_of rfl rfl rfl rfl) (pmk_sup T.s_BadPack T.g_BadPack hr (by rfl) (pa_cons pe_str pa_nil)))) pss_nil)
      (pss_cons (ps_if (PW.pt (pw_and (pt_cmpR op_notN (pv 3) pe_non (nomark _)) (pw_and1 (pt_not (pt_val (pe_g (ok_is_within T) (hr.mono (by decide)) (by rfl) (passes_call (takes_of rfl rfl rfl rfl) (fun _ _ _ _ h => h)) (pa_cons (pv 3) (pa_cons pe_int (pa_cons (pe_cst (by rfl) T.c_MOST_COST) pa_nil))))))))) (pss_one (ps_raise rfl (takes_of rfl rfl rfl rfl) (pmk_sup T.s_BadPack T.g_BadPack hr (by rfl) (pa_cons pe_str pa_nil)))) pss_nil)
      (pss_cons (ps_if (pt_not (pt_val (pe_g (ok_is_roll T) (hr.mono (by decide)) (by rfl) (passes_call (takes_of rfl rfl rfl rfl) (fun _ _ _ _ h => h)) (pa_cons (pv 4) pa_nil)))) (pss_one (ps_raise rfl (takes_of rfl rfl rfl rfl) (pmk_sup T.s_BadPack T.g_BadPack hr (by rfl) (pa_cons pe_str pa_nil)))) pss_nil)
      (pss_cons (ps_fld (pv 0) (pe_callTy call_tupF (by rfl) T.n_tuple (by decide +kernel) (pa_cons (pe_callB (cr_sortQ (u80 hr)) (by rfl) T.n_sorted (by decide +kernel) (pa_cons (pv 1) pa_nil)) pa_nil)) rfl)
      (pss_cons (ps_fld (pv 0) (pv 2) rfl)
      (pss_cons (ps_fld (pv 0) (pv 3) rfl)
      (pss_one (ps_fld (pv 0) (pv 4) rfl))))))))), [.fr, .fr, .fr, .fr], [], [],
    (ss_seq (ss_if (st_not (st_B ((sm_call (fun h => Bool.noConfusion h) (sa_cons (sm_var rfl) sa_nil))).v)) (ss_raise T.ox_BadPack (sa_cons sm_str sa_nil)) ss_next)
      (ss_seq (ss_if (st_not (st_B ((sm_call (fun h => Bool.noConfusion h) (sa_cons (sm_var rfl) (sa_cons sm_int (sa_cons sm_int sa_nil))))).v)) (ss_raise T.ox_BadPack (sa_cons sm_str sa_nil)) ss_next)
      (ss_seq (ss_if (st_and (st_test ((sm_op sr_notN ((sm_var rfl)).v (sm_non).v)).v) (st_not (st_B ((sm_call (fun h => Bool.noConfusion h) (sa_cons (sm_var rfl) (sa_cons sm_int (sa_cons sm_int sa_nil))))).v))) (ss_raise T.ox_BadPack (sa_cons sm_str sa_nil)) ss_next)
      (ss_seq (ss_if (st_not (st_B ((sm_call (fun h => Bool.noConfusion h) (sa_cons (sm_var rfl) sa_nil))).v)) (ss_raise T.ox_BadPack (sa_cons sm_str sa_nil)) ss_next)
      (ss_seq (ss_fld T.cl_Pack T.na_Pack_own_slots rfl (sm_cb sc_tuple (sb_cons ((sn_cb sc_sortedQ (sb_cons ((sm_var rfl)).v sb_nil))).v sb_nil)))
      (ss_seq (ss_fld T.cl_Pack T.na_Pack_own_amount rfl (sm_var rfl))
      (ss_seq (ss_fld T.cl_Pack T.na_Pack_own_cost rfl (sm_var rfl))
      (ss_fld T.cl_Pack T.na_Pack_own_roll rfl (sm_var rfl)))))))))⟩)
theorem ok_Pack___init___2 (T : Tx P w K mg base) : IOk P w K mg base 5 (He.ga K "Pack") ["self", "slots", "amount", "cost", "roll"] [.non, .non] (spI K false "Pack" 4 F_Pack___init__) := by
  obtain ⟨f, fd, F, M⟩ := T.i_Pack.ex
  obtain ⟨ds, hv, hb⟩ := F.binds1 (ps := ["self", "slots", "amount", "cost", "roll"]) 3 0 (by simp) rfl (fun _ _ _ _ _ _ _ us its h1 h2 => match us, its, h1, h2 with | [_, _, _], [_, _], _, _ => ⟨_, rfl, rfl⟩)
  exact ⟨f, fd, ds, M, hb, hv, fn_Pack___init__ T F⟩
theorem ok_Pack___init___4 (T : Tx P w K mg base) : IOk P w K mg base 5 (He.ga K "Pack") ["self", "slots", "amount", "cost", "roll"] [] (spI K false "Pack" 4 F_Pack___init__) := by
  obtain ⟨f, fd, F, M⟩ := T.i_Pack.ex
  obtain ⟨ds, hv, hb⟩ := F.binds1 (ps := ["self", "slots", "amount", "cost", "roll"]) 5 2 (by simp) rfl (fun _ _ _ _ _ _ _ us its h1 h2 => match us, its, h1, h2 with | [_, _, _, _, _], [_, _], _, _ => ⟨_, rfl, rfl⟩)
  exact ⟨f, fd, ds, M, hb, hv, fn_Pack___init__ T F⟩
theorem okK_Pack___init__ (T : Tx P w K mg base) : IOkK P w K mg base 5 (He.ga K "Pack") ["self", "slots", "amount", "cost", "roll"] ["roll", "cost", "amount", "slots"] [0, 4, 3, 2, 1] (spI K false "Pack" 4 F_Pack___init__) := by
  obtain ⟨f, fd, F, M⟩ := T.i_Pack.ex
  exact ⟨f, fd, M, kbI_of F (by simp) (fun _ _ _ _ _ _ _ us its ws h1 h2 h3 => match us, its, ws, h1, h2, h3 with | [_], [_, _], [_, _, _, _], _, _, _ => ⟨_, rfl, rfl⟩), fn_Pack___init__ T F⟩
def S__law_pick : Rho → Out Res := (sRet (eOp dIx (eVar 1) (eCall F__law_take (aCons (eVar 0) (aCons (eCall dLen (aCons (eVar 1) aNil)) aNil)))))
def F__law_pick : List D → Out D := fnD 2 S__law_pick
theorem ok__law_pick (T : Tx P w K mg base) : GOk P w K mg base 3 "_law_pick" ["_law_draw", "_law_some"] (spF K false 2 F__law_pick) :=
  GFun.sim (k := 2) (ψ := S__law_pick) T.d__law_pick sc__law_pick (fun _ _ _ _ _ _ us hl => match us, hl with | [_, _], _ => rfl) (fun f cdv A outer s H E C hl hr => ⟨_, (pss_one (ps_ret (pe_ix ix_seq (pv 1) (pe_g (ok__law_take T) (hr.mono (by decide)) (by rfl) (passes_call (takes_of rfl rfl rfl rfl) (fun _ _ _ _ h => h)) (pa_cons (pv 0) (pa_cons (pe_callB call_lenA (by rfl) T.n_len (by decide +kernel) (pa_cons (pv 1) pa_nil)) pa_nil))) (fun _ _ => rfl)))), [], [], [],
    (ss_ret (sm_op sr_ix ((sm_var rfl)).v ((sm_call (fun h => Bool.noConfusion h) (sa_cons (sm_var rfl) (sa_cons (sm_cb sc_len (sb_cons ((sm_var rfl)).v sb_nil)) sa_nil)))).v))⟩)
def S__law_shuffled : Rho → Out Res := (sSeq (sPar2 2 3 (eCall dList (aCons (eVar 1) aNil)) (eLst aNil))
      (sSeq (sWhile (cB (eOp dNilNe (eVar 2) (eLst aNil))) (sAppPop 3 2 (eCall F__law_take (aCons (eVar 0) (aCons (eCall dLen (aCons (eVar 2) aNil)) aNil)))))
      (sRet (eVar 3))))
def F__law_shuffled : List D → Out D := fnD 4 S__law_shuffled
theorem ok__law_shuffled (T : Tx P w K mg base) : GOk P w K mg base 3 "_law_shuffled" ["_law_draw", "_law_some"] (spF K false 2 F__law_shuffled) :=
  GFun.sim (k := 2) (ψ := S__law_shuffled) T.d__law_shuffled sc__law_shuffled (fun _ _ _ _ _ _ us hl => match us, hl with | [_, _], _ => rfl) (fun f cdv A outer s H E C hl hr => ⟨_, (pss_cons (ps_par (i := 2) (j := 3) (by rfl) sc__law_shuffled.nd rfl rfl (by decide) rfl rfl (pa_cons (pe_callTy call_list_of (by rfl) T.n_list (by decide +kernel) (pa_cons (pv 1) pa_nil)) (pa_cons (pe_lst pa_nil) pa_nil)) (by rfl))
      (pss_cons (ps_while (passes_of rfl) (pt_cmpR (op_nilNe hr.units0) (pv 2) (pe_lst pa_nil) (nomark _)) (pss_one (ps_expr (pe_bm PySem.F.plainAttrs_list PySem.F.slot_list_append PySem.F.type_list_append mt_append (pv 3) (pa_cons (pe_bm PySem.F.plainAttrs_list PySem.F.slot_list_pop PySem.F.type_list_pop mt_popAt (pv 2) (pa_cons (pe_g (ok__law_take T) (hr.mono (by decide)) (by rfl) (passes_call (takes_of rfl rfl rfl rfl) (fun _ _ _ _ h => h)) (pa_cons (pv 0) (pa_cons (pe_callB call_lenA (by rfl) T.n_len (by decide +kernel) (pa_cons (pv 2) pa_nil)) pa_nil))) pa_nil)) pa_nil)))))
      (pss_one (ps_ret (pv 3))))), [], [], [],
    (ss_seq (ss_parNN (sn_cb sc_list (sb_cons ((sm_var rfl)).v sb_nil)) (sn_lst sa_nil))
      (ss_seq (ss_while (st_test ((sm_op sr_nilNe (sm_own rfl) ((sn_lst sa_nil)).v)).v) (ss_appPop rfl rfl (sm_call (fun h => Bool.noConfusion h) (sa_cons (sm_var rfl) (sa_cons (sm_cb sc_len (sb_cons (sm_own rfl) sb_nil)) sa_nil)))))
      (ss_go (.frz 3 rfl .refl) (ss_ret (sm_var rfl)))))⟩)
def S__law_any_of : Rho → Out Res := (sRet (eLc (iOf itemsQ (eVar 1)) (gN 3) (cB (eOp dGt (eCall F__law_take (aCons (eVar 0) (aCons (eVar 2) aNil))) (eC (.int 0)))) (eVar 3)))
def F__law_any_of : List D → Out D := fnD 4 S__law_any_of
theorem ok__law_any_of (T : Tx P w K mg base) : GOk P w K mg base 3 "_law_any_of" ["_law_draw", "_law_words", "_law_size"] (spF K false 3 F__law_any_of) :=
  GFun.sim (k := 2) (ψ := S__law_any_of) T.d__law_any_of sc__law_any_of (fun _ _ _ _ _ _ us hl => match us, hl with | [_, _, _], _ => rfl) (fun f cdv A outer s H E C hl hr => ⟨_, (pss_one (ps_ret (pe_lc (own := [("_law_item", 3)]) (by rfl) sc__law_any_of.nd (pi_sq (pv 1)) (blkOk_by (own := [("_law_item", 3)]) (N := N__law_any_of) (sc := defScope s__law_any_of) (by decide +kernel)) (fun _ _ _ _ _ => (pg_name (i := 3) sc__law_any_of.nd rfl (Or.inl rfl))) (fun _ _ _ _ _ => (pts_one (pt_cmpR op_gt (pe_g (ok__law_take T) (hr.mono (by decide)) (by rfl) passL (pa_cons (pv 0) (pa_cons (pv 2) pa_nil))) pe_int (nomark _)))) (fun _ _ _ _ _ => (pv 3))))), [], [], [],
    (ss_ret ((sn_lc (si_sq (sm_var rfl)) (by decide) sg_name (st_test ((sm_op sr_gt ((sm_call (fun h => Bool.noConfusion h) (sa_cons (sm_var rfl) (sa_cons (sm_var rfl) sa_nil)))).v (sm_int).v)).v) (sm_var rfl))).e)⟩)
end
end ND
namespace ND
open PySem PySem.Spec PyProof.Rows L2
section
variable {P : Program} {w : World} {K : PySem.W.Frag} {mg : Str → Option Value} {base : Heap}
def S_Pack_told : Rho → Out Res := (sRet (eTup (aCons (eUn (dFld "Pack" "own_slots") (eVar 0)) (aCons (eUn (dFld "Pack" "own_amount") (eVar 0)) (aCons (eUn (dFld "Pack" "own_cost") (eVar 0)) (aCons (eUn (dFld "Pack" "own_roll") (eVar 0)) aNil))))))
def F_Pack_told : List D → Out D := fnD 1 S_Pack_told
theorem ok_Pack_told (T : Tx P w K mg base) : MOk P w K mg base 1 (He.ga K "Pack") "told" ["self"] (spF K false 1 F_Pack_told) :=
  MFun.sim (k := 0) (ψ := S_Pack_told) T.m_Pack_told sc_Pack_told (fun _ _ _ _ _ _ us hl => match us, hl with | [_], _ => rfl) (fun f cdv A outer s H E C hl hr => ⟨_, (pss_one (ps_ret (pe_tupF (pa_cons (pe_fld (pv 0) rfl) (pa_cons (pe_fld (pv 0) rfl) (pa_cons (pe_fld (pv 0) rfl) (pa_cons (pe_fld (pv 0) rfl) pa_nil))))))), [], [], [],
    (ss_ret (sm_tup (sa_cons (sm_fld T.cl_Pack T.na_Pack_own_slots ((sm_var rfl)).v) (sa_cons (sm_fld T.cl_Pack T.na_Pack_own_amount ((sm_var rfl)).v) (sa_cons (sm_fld T.cl_Pack T.na_Pack_own_cost ((sm_var rfl)).v) (sa_cons (sm_fld T.cl_Pack T.na_Pack_own_roll ((sm_var rfl)).v) sa_nil))))))⟩)
def S_Pack___eq__ : Rho → Out Res := (sRet (eAnd (eUn (fun d => boD (dIsClB "Pack" d)) (eVar 1)) (eOp dEq (eMeth "Pack" "told" F_Pack_told (eVar 0) aNil) (eMeth "Pack" "told" F_Pack_told (eVar 1) aNil))))
def F_Pack___eq__ : List D → Out D := fnD 2 S_Pack___eq__
theorem ok_Pack___eq__ (T : Tx P w K mg base) : MOk P w K mg base 2 (He.ga K "Pack") "__eq__" ["self", "other"] (spF K false 2 F_Pack___eq__) :=
  MFun.sim (k := 1) (ψ := S_Pack___eq__) T.m_Pack___eq__ sc_Pack___eq__ (fun _ _ _ _ _ _ us hl => match us, hl with | [_, _], _ => rfl) (fun f cdv A outer s H E C hl hr => ⟨_, (pss_one (ps_ret (pe_and (pe_callB call_isA (by rfl) T.n_isinstance (by decide +kernel) (pa_cons (pv 1) (pa_cons (pe_cls (by rfl) T.g_Pack) pa_nil))) (pe_one (pe_cmpR (op_eqD hr.units) (pe_mtM0 (ok_Pack_told T) T.cl_Pack (hr.mono (by decide)) (passes_call (takes_of rfl rfl rfl rfl) (fun _ _ _ _ h => h)) (pv 0)) (pe_mtM0 (ok_Pack_told T) T.cl_Pack (hr.mono (by decide)) (passes_call (takes_of rfl rfl rfl rfl) (fun _ _ _ _ h => h)) (pv 1)) (nomark _)))))), [], [], [],
    (ss_ret (sm_and ((sm_isCl T.oi_Pack ((sm_var rfl)).v)).v (sm_op sr_eqD ((sm_meth (fun h => Bool.noConfusion h) (sm_var rfl) sa_nil)).v ((sm_meth (fun h => Bool.noConfusion h) (sm_var rfl) sa_nil)).v)))⟩)
def S_Pack_last : Rho → Out Res := (sRet (eCall dMax (aCons (eLc (iOf itemsT (eUn (dFld "Pack" "own_slots") (eVar 0))) (gT (gsCons (gN 1) (gsCons (gN 2) gsNil))) cYes (eVar 2)) aNil)))
def F_Pack_last : List D → Out D := fnD 3 S_Pack_last
theorem ok_Pack_last (T : Tx P w K mg base) : POk P w K mg base 1 (He.ga K "Pack") "last" (spF K false 1 F_Pack_last) :=
  PFun.sim (k := 0) (ψ := S_Pack_last) T.m_Pack_last sc_Pack_last (fun _ _ _ _ _ _ us hl => match us, hl with | [_], _ => rfl) (fun f cdv A outer s H E C hl hr => ⟨_, (pss_one (ps_ret (pe_callB (cr_max rfl) (by rfl) T.n_max (by decide +kernel) (pa_cons (pe_lc (own := [("cell", 1), ("day", 2)]) (by rfl) sc_Pack_last.nd (pi_tup (pe_fld (pv 0) rfl)) (blkOk_by (own := [("cell", 1), ("day", 2)]) (N := N_Pack_last) (sc := defScope s_Pack_last) (by decide +kernel)) (fun _ _ _ _ _ => (pg_tupK K rfl 2 rfl (pgs_cons (pg_name (i := 1) sc_Pack_last.nd rfl (Or.inl rfl)) (pgs_cons (pg_name (i := 2) sc_Pack_last.nd rfl (Or.inl rfl)) pgs_nil)))) (fun _ _ _ _ _ => pts_nil) (fun _ _ _ _ _ => (pv 2))) pa_nil)))), [], [], [],
    (ss_ret (sm_cb sc_max (sb_cons ((sn_lc (si_tup (sm_fld T.cl_Pack T.na_Pack_own_slots ((sm_var rfl)).v)) (by decide) (sg_tup (sgs_cons sg_name (sgs_cons sg_name sgs_nil)) (gs_len (gs_len gs_len0))) st_yes (sm_var rfl))).v sb_nil)))⟩)
def S_Pack_slots : Rho → Out Res := (sRet (eUn (dFld "Pack" "own_slots") (eVar 0)))
def F_Pack_slots : List D → Out D := fnD 1 S_Pack_slots
theorem ok_Pack_slots (T : Tx P w K mg base) : POk P w K mg base 1 (He.ga K "Pack") "slots" (spF K false 1 F_Pack_slots) :=
  PFun.sim (k := 0) (ψ := S_Pack_slots) T.m_Pack_slots sc_Pack_slots (fun _ _ _ _ _ _ us hl => match us, hl with | [_], _ => rfl) (fun f cdv A outer s H E C hl hr => ⟨_, (pss_one (ps_ret (pe_fld (pv 0) rfl))), [], [], [],
    (ss_ret (sm_fld T.cl_Pack T.na_Pack_own_slots ((sm_var rfl)).v))⟩)
def S_Pack_amount : Rho → Out Res := (sRet (eUn (dFld "Pack" "own_amount") (eVar 0)))
def F_Pack_amount : List D → Out D := fnD 1 S_Pack_amount
theorem ok_Pack_amount (T : Tx P w K mg base) : POk P w K mg base 1 (He.ga K "Pack") "amount" (spF K false 1 F_Pack_amount) :=
  PFun.sim (k := 0) (ψ := S_Pack_amount) T.m_Pack_amount sc_Pack_amount (fun _ _ _ _ _ _ us hl => match us, hl with | [_], _ => rfl) (fun f cdv A outer s H E C hl hr => ⟨_, (pss_one (ps_ret (pe_fld (pv 0) rfl))), [], [], [],
    (ss_ret (sm_fld T.cl_Pack T.na_Pack_own_amount ((sm_var rfl)).v))⟩)
def S_Pack_cost : Rho → Out Res := (sRet (eUn (dFld "Pack" "own_cost") (eVar 0)))
def F_Pack_cost : List D → Out D := fnD 1 S_Pack_cost
theorem ok_Pack_cost (T : Tx P w K mg base) : POk P w K mg base 1 (He.ga K "Pack") "cost" (spF K false 1 F_Pack_cost) :=
  PFun.sim (k := 0) (ψ := S_Pack_cost) T.m_Pack_cost sc_Pack_cost (fun _ _ _ _ _ _ us hl => match us, hl with | [_], _ => rfl) (fun f cdv A outer s H E C hl hr => ⟨_, (pss_one (ps_ret (pe_fld (pv 0) rfl))), [], [], [],
    (ss_ret (sm_fld T.cl_Pack T.na_Pack_own_cost ((sm_var rfl)).v))⟩)
def S_Pack_roll : Rho → Out Res := (sRet (eUn (dFld "Pack" "own_roll") (eVar 0)))
def F_Pack_roll : List D → Out D := fnD 1 S_Pack_roll
theorem ok_Pack_roll (T : Tx P w K mg base) : POk P w K mg base 1 (He.ga K "Pack") "roll" (spF K false 1 F_Pack_roll) :=
  PFun.sim (k := 0) (ψ := S_Pack_roll) T.m_Pack_roll sc_Pack_roll (fun _ _ _ _ _ _ us hl => match us, hl with | [_], _ => rfl) (fun f cdv A outer s H E C hl hr => ⟨_, (pss_one (ps_ret (pe_fld (pv 0) rfl))), [], [], [],
    (ss_ret (sm_fld T.cl_Pack T.na_Pack_own_roll ((sm_var rfl)).v))⟩)
def S__law_all_spots : Rho → Out Res := (sSeq (sSet 2 (eLst aNil))
      (sSeq (sFor (iRg1 (aCons (eVar 1) aNil)) (gN 3) (sSet 2 (eOp dCatL (eVar 2) (eLc (iOf itemsQ (eVar 0)) (gN 4) cYes (eTup (aCons (eVar 4) (aCons (eVar 3) aNil)))))))
      (sRet (eCall dSorted (aCons (eVar 2) aNil)))))
def F__law_all_spots : List D → Out D := fnD 5 S__law_all_spots
theorem ok__law_all_spots (T : Tx P w K mg base) : GOk P w K mg base 1 "_law_all_spots" ["_law_kinds", "_law_span"] (spF K false 2 F__law_all_spots) :=
  GFun.sim (k := 0) (ψ := S__law_all_spots) T.d__law_all_spots sc__law_all_spots (fun _ _ _ _ _ _ us hl => match us, hl with | [_, _], _ => rfl) (fun f cdv A outer s H E C hl hr => ⟨_, (pss_cons (ps_set (i := 2) sc__law_all_spots.nd rfl (Or.inl rfl) (pe_lst pa_nil))
      (pss_cons (ps_for (passes_of rfl) rfl (pi_range1 (by rfl) T.n_range (pa_cons (pv 1) pa_nil)) (pg_name (i := 3) sc__law_all_spots.nd rfl (Or.inr rfl)) (pss_one (ps_set (i := 2) sc__law_all_spots.nd rfl (Or.inl rfl) (pe_op op_catQ (pv 2) (pe_lc (own := [("_law_kind", 4)]) (by rfl) sc__law_all_spots.nd (pi_sq (pv 0)) (blkOk_by (own := [("_law_kind", 4)]) (N := N__law_all_spots) (sc := defScope s__law_all_spots) (by decide +kernel)) (fun _ _ _ _ _ => (pg_name (i := 4) sc__law_all_spots.nd rfl (Or.inl rfl))) (fun _ _ _ _ _ => pts_nil) (fun _ _ _ _ _ => (pe_tupF (pa_cons (pv 4) (pa_cons (pv 3) pa_nil)))))))))
      (pss_one (ps_ret (pe_callB (cr_sortD (u80 hr)) (by rfl) T.n_sorted (by decide +kernel) (pa_cons (pv 2) pa_nil)))))), [], [], [],
    (ss_seq (ss_new (sn_lst sa_nil))
      (ss_seq (ss_for (si_range1 (sb_cons ((sm_var rfl)).v sb_nil)) sg_name (ss_then (ss_new (sm_opN sr_catL (sm_own rfl) ((sn_lc (si_sq (sm_var rfl)) (by decide) sg_name st_yes (sm_tup (sa_cons (sm_var rfl) (sa_cons (sm_var rfl) sa_nil))))).v)) (.drop 3 .refl)))
      (ss_ret ((sn_cb sc_sorted (sb_cons (sm_own rfl) sb_nil))).e)))⟩)
def S__law_given : Rho → Out Res := (sSeq (sSet 1 (eCall F__law_names (aCons (eVar 0) (aCons (eC (.int 3)) aNil))))
      (sSeq (sSet 2 (eCall F__law_shuffled (aCons (eVar 0) (aCons (eCall F__law_any_of (aCons (eVar 0) (aCons (eCall F__law_all_spots (aCons (eVar 1) (aCons (eC (.int 4)) aNil))) (aCons (eCall F__law_pick (aCons (eVar 0) (aCons (eLst (aCons (eC (.int 2)) (aCons (eC (.int 9)) aNil))) aNil))) aNil)))) aNil))))
      (sSeq (sSet 3 (eDisp (pCons (eC (.str "slots")) (eIf (cB (eOp dNe (eVar 2) (eLst aNil))) (eSl dSlL (eVar 2) oNone (oSome (eCall F__law_pick (aCons (eVar 0) (aCons (eLst (aCons (eC (.int 12)) (aCons (eC (.int 2)) (aCons (eC (.int 1)) aNil)))) aNil))))) (eLst (aCons (eTup (aCons (eOp dIx (eVar 1) (eC (.int 0))) (aCons (eC (.int 0)) aNil))) aNil))) pNil)))
      (sSeq (sPut2 3 "amount" "cost" (eCall F__law_take (aCons (eVar 0) (aCons (eC (.int 4)) aNil))) (eCall F__law_pick (aCons (eVar 0) (aCons (eLst (aCons (eC .non) (aCons (eC (.int 0)) (aCons (eC (.int 1)) (aCons (eC (.int 99)) aNil))))) aNil))))
      (sSeq (sDPutO 3 (eC (.str "roll")) (eCall F__law_pick (aCons (eVar 0) (aCons (eLst (aCons (eC .non) (aCons (eTup (aCons (eOp dIx (eVar 1) (eC (.int 1))) (aCons (eC (.int 1)) aNil))) (aCons (eTup (aCons (eOp dIx (eVar 1) (eC (.int 2))) (aCons (eC (.int 3)) aNil))) aNil)))) aNil))))
      (sRet (eVar 3)))))))
def F__law_given : List D → Out D := fnD 4 S__law_given
theorem ok__law_given (T : Tx P w K mg base) : GOk P w K mg base 5 "_law_given" ["_law_draw"] (spF K false 1 F__law_given) :=
  GFun.sim (k := 4) (ψ := S__law_given) T.d__law_given sc__law_given (fun _ _ _ _ _ _ us hl => match us, hl with | [_], _ => rfl) (fun f cdv A outer s H E C hl hr => ⟨_, (pss_cons (ps_set (i := 1) sc__law_given.nd rfl (Or.inl rfl) (pe_g (ok__law_names T) (hr.mono (by decide)) (by rfl) (passes_call (takes_of rfl rfl rfl rfl) (fun _ _ _ _ h => h)) (pa_cons (pv 0) (pa_cons pe_int pa_nil))))
      (pss_cons (ps_set (i := 2) sc__law_given.nd rfl (Or.inl rfl) (pe_g (ok__law_shuffled T) (hr.mono (by decide)) (by rfl) (passes_call (takes_of rfl rfl rfl rfl) (fun _ _ _ _ h => h)) (pa_cons (pv 0) (pa_cons (pe_g (ok__law_any_of T) (hr.mono (by decide)) (by rfl) (passes_call (takes_of rfl rfl rfl rfl) (fun _ _ _ _ h => h)) (pa_cons (pv 0) (pa_cons (pe_g (ok__law_all_spots T) (hr.mono (by decide)) (by rfl) (passes_call (takes_of rfl rfl rfl rfl) (fun _ _ _ _ h => h)) (pa_cons (pv 1) (pa_cons pe_int pa_nil))) (pa_cons (pe_g (ok__law_pick T) (hr.mono (by decide)) (by rfl) (passes_call (takes_of rfl rfl rfl rfl) (fun _ _ _ _ h => h)) (pa_cons (pv 0) (pa_cons (pe_lst (pa_cons pe_int (pa_cons pe_int pa_nil))) pa_nil))) pa_nil)))) pa_nil))))
      (pss_cons (ps_set (i := 3) sc__law_given.nd rfl (Or.inl rfl) (pe_disp (pps_cons pe_str (pe_ifExp (pt_cmpR (op_neD hr.units) (pv 2) (pe_lst pa_nil) (nomark _)) (pe_slice sl_list (pv 2) po_none (po_some (pe_g (ok__law_pick T) (hr.mono (by decide)) (by rfl) (passes_call (takes_of rfl rfl rfl rfl) (fun _ _ _ _ h => h)) (pa_cons (pv 0) (pa_cons (pe_lst (pa_cons pe_int (pa_cons pe_int (pa_cons pe_int pa_nil)))) pa_nil))))) (pe_lst (pa_cons (pe_tupF (pa_cons (pe_ix ix_seq (pv 1) pe_int (fun _ _ => rfl)) (pa_cons pe_int pa_nil))) pa_nil))) pps_nil) (by rfl) (by rfl) (fun z => by cases z) (by decide)))
      (pss_cons (ps_pars (by rfl) (pa_cons (pe_g (ok__law_take T) (hr.mono (by decide)) (by rfl) (passes_call (takes_of rfl rfl rfl rfl) (fun _ _ _ _ h => h)) (pa_cons (pv 0) (pa_cons pe_int pa_nil))) (pa_cons (pe_g (ok__law_pick T) (hr.mono (by decide)) (by rfl) (passes_call (takes_of rfl rfl rfl rfl) (fun _ _ _ _ h => h)) (pa_cons (pv 0) (pa_cons (pe_lst (pa_cons pe_non (pa_cons pe_int (pa_cons pe_int (pa_cons pe_int pa_nil))))) pa_nil))) pa_nil)) (pgs_cons (pg_sub (pv 3) pe_str (set_dict (hu_of hr))) (pgs_cons (pg_sub (pv 3) pe_str (set_dict (hu_of hr))) pgs_nil)) (by rfl))
      (pss_cons (ps_dput (hu_of hr) (pv 3) pe_str (pe_g (ok__law_pick T) (hr.mono (by decide)) (by rfl) (passes_call (takes_of rfl rfl rfl rfl) (fun _ _ _ _ h => h)) (pa_cons (pv 0) (pa_cons (pe_lst (pa_cons pe_non (pa_cons (pe_tupF (pa_cons (pe_ix ix_seq (pv 1) pe_int (fun _ _ => rfl)) (pa_cons pe_int pa_nil))) (pa_cons (pe_tupF (pa_cons (pe_ix ix_seq (pv 1) pe_int (fun _ _ => rfl)) (pa_cons pe_int pa_nil))) pa_nil)))) pa_nil))) rfl)
      (pss_one (ps_ret (pv 3)))))))), [], [], [],
    (ss_seq (ss_set (sm_call (fun h => Bool.noConfusion h) (sa_cons (sm_var rfl) (sa_cons sm_int sa_nil))))
      (ss_seq (ss_set (sm_call (fun h => Bool.noConfusion h) (sa_cons (sm_var rfl) (sa_cons (sm_call (fun h => Bool.noConfusion h) (sa_cons (sm_var rfl) (sa_cons (sm_call (fun h => Bool.noConfusion h) (sa_cons (sm_var rfl) (sa_cons sm_int sa_nil))) (sa_cons (sm_call (fun h => Bool.noConfusion h) (sa_cons (sm_var rfl) (sa_cons ((sn_lst (sa_cons sm_int (sa_cons sm_int sa_nil)))).e sa_nil))) sa_nil)))) sa_nil))))
      (ss_seq (ss_new (sn_disp (sp_cons sm_str ((sm_ifN (st_test ((sm_op sr_neD ((sm_var rfl)).v ((sn_lst sa_nil)).v)).v) (sn_slL ((sm_var rfl)).v so_none (so_some ((sm_call (fun h => Bool.noConfusion h) (sa_cons (sm_var rfl) (sa_cons ((sn_lst (sa_cons sm_int (sa_cons sm_int (sa_cons sm_int sa_nil))))).e sa_nil)))).v)) (sn_lst (sa_cons (sm_tup (sa_cons (sm_op sr_ix ((sm_var rfl)).v (sm_int).v) (sa_cons sm_int sa_nil))) sa_nil)))).e sp_nil)))
      (ss_seq (ss_put2 rfl (sm_call (fun h => Bool.noConfusion h) (sa_cons (sm_var rfl) (sa_cons sm_int sa_nil))) (sm_call (fun h => Bool.noConfusion h) (sa_cons (sm_var rfl) (sa_cons ((sn_lst (sa_cons sm_non (sa_cons sm_int (sa_cons sm_int (sa_cons sm_int sa_nil)))))).e sa_nil))))
      (ss_seq (ss_dput rfl (sm_call (fun h => Bool.noConfusion h) (sa_cons (sm_var rfl) (sa_cons ((sn_lst (sa_cons sm_non (sa_cons (sm_tup (sa_cons (sm_op sr_ix ((sm_var rfl)).v (sm_int).v) (sa_cons sm_int sa_nil))) (sa_cons (sm_tup (sa_cons (sm_op sr_ix ((sm_var rfl)).v (sm_int).v) (sa_cons sm_int sa_nil))) sa_nil))))).e sa_nil))) (sm_str).v)
      (ss_go (.frz 3 rfl .refl) (ss_ret (sm_var rfl))))))))⟩)
def S__law_made : Rho → Out Res := (sSeq (sSet 2 (eOp dGet (eVar 1) (eC (.str "slots"))))
      (sSeq (sIf (cNot (cB (eUn (fun d => boD (dIsTyB "list" d)) (eVar 2)))) (sRet (eCall (fun ds => F_Pack___init__ (ds ++ [])) (aCons (eVar 2) (aCons (eOp dGet (eVar 1) (eC (.str "amount"))) (aCons (eOp dGet (eVar 1) (eC (.str "cost"))) (aCons (eOp dGet (eVar 1) (eC (.str "roll"))) aNil)))))) sNext)
      (sIf (cB (eOp dEq (eCall F__law_take (aCons (eVar 0) (aCons (eC (.int 2)) aNil))) (eC (.int 0)))) (sSeq (sSet 3 (eCall dList (aCons (eVar 2) aNil)))
      (sSeq (sIf (cB (eOp dEq (eCall F__law_take (aCons (eVar 0) (aCons (eC (.int 2)) aNil))) (eC (.int 0)))) (sSet 4 (eBorL 3 (eCall (fun ds => F_Pack___init__ (pickL [3, 2, 1, 0] ds)) (aCons (eOp dGet (eVar 1) (eC (.str "roll"))) (aCons (eOp dGet (eVar 1) (eC (.str "cost"))) (aCons (eOp dGet (eVar 1) (eC (.str "amount"))) (aCons (eVar 3) aNil))))))) (sSet 4 (eBorL 3 (eCall (fun ds => F_Pack___init__ (ds ++ [])) (aCons (eVar 3) (aCons (eOp dGet (eVar 1) (eC (.str "amount"))) (aCons (eOp dGet (eVar 1) (eC (.str "cost"))) (aCons (eOp dGet (eVar 1) (eC (.str "roll"))) aNil))))))))
      (sSeq (sIf (cB (eUn (fun d => boD (dIsTyB "list" d)) (eVar 3))) (sClear 3) sNext)
      (sRet (eVar 4))))) (sSeq (sSet 3 (eCall dTuple (aCons (eVar 2) aNil)))
      (sSeq (sIf (cB (eOp dEq (eCall F__law_take (aCons (eVar 0) (aCons (eC (.int 2)) aNil))) (eC (.int 0)))) (sSet 4 (eCall (fun ds => F_Pack___init__ (pickL [3, 2, 1, 0] ds)) (aCons (eOp dGet (eVar 1) (eC (.str "roll"))) (aCons (eOp dGet (eVar 1) (eC (.str "cost"))) (aCons (eOp dGet (eVar 1) (eC (.str "amount"))) (aCons (eVar 3) aNil)))))) (sSet 4 (eCall (fun ds => F_Pack___init__ (ds ++ [])) (aCons (eVar 3) (aCons (eOp dGet (eVar 1) (eC (.str "amount"))) (aCons (eOp dGet (eVar 1) (eC (.str "cost"))) (aCons (eOp dGet (eVar 1) (eC (.str "roll"))) aNil)))))))
      (sSeq (sIf (cB (eUn (fun d => boD (dIsTyB "list" d)) (eVar 3))) sNever sNext)
      (sRet (eVar 4))))))))
def F__law_made : List D → Out D := fnD 5 S__law_made
theorem ok__law_made (T : Tx P w K mg base) : GOk P w K mg base 7 "_law_made" ["_law_draw", "_law_given_here"] (spF K false 2 F__law_made) :=
  GFun.sim (k := 6) (ψ := S__law_made) T.d__law_made sc__law_made (fun _ _ _ _ _ _ us hl => match us, hl with | [_, _], _ => rfl) (fun f cdv A outer s H E C hl hr => ⟨_, (pss_cons (ps_set (i := 2) sc__law_made.nd rfl (Or.inl rfl) (pe_dget (hu_of hr) (pv 1) pe_str (fun _ _ => rfl)))
      (pss_cons (ps_if (pt_not (pt_val (pe_callB call_isA (by rfl) T.n_isinstance (by decide +kernel) (pa_cons (pv 2) (pa_cons (pe_bltn (v := .ty "list") (by rfl) T.n_list (by decide +kernel) rfl) pa_nil))))) (pss_one (ps_ret (pe_mk (ok_Pack___init___4 T) (hr.mono (by decide)) (by rfl) T.g_Pack (passes_call (takes_of rfl rfl rfl rfl) (fun _ _ _ _ h => h)) (pa_cons (pv 2) (pa_cons (pe_dget (hu_of hr) (pv 1) pe_str (fun _ _ => rfl)) (pa_cons (pe_dget (hu_of hr) (pv 1) pe_str (fun _ _ => rfl)) (pa_cons (pe_dget (hu_of hr) (pv 1) pe_str (fun _ _ => rfl)) pa_nil))))))) pss_nil)
      (pss_cons (ps_set (i := 3) sc__law_made.nd rfl (Or.inl rfl) (pe_ifExp (pt_cmpR (op_eqD hr.units) (pe_g (ok__law_take T) (hr.mono (by decide)) (by rfl) (passes_call (takes_of rfl rfl rfl rfl) (fun _ _ _ _ h => h)) (pa_cons (pv 0) (pa_cons pe_int pa_nil))) pe_int (nomark _)) (pe_callTy call_list_of (by rfl) T.n_list (by decide +kernel) (pa_cons (pv 2) pa_nil)) (pe_callTy call_tupF (by rfl) T.n_tuple (by decide +kernel) (pa_cons (pv 2) pa_nil))))
      (pss_cons (ps_if (pt_cmpR (op_eqD hr.units) (pe_g (ok__law_take T) (hr.mono (by decide)) (by rfl) (passes_call (takes_of rfl rfl rfl rfl) (fun _ _ _ _ h => h)) (pa_cons (pv 0) (pa_cons pe_int pa_nil))) pe_int (nomark _)) (pss_one (ps_set (i := 4) sc__law_made.nd rfl (Or.inl rfl) (pe_mkK0 (okK_Pack___init__ T) (hr.mono (by decide)) (by rfl) T.g_Pack (passes_call (takes_of rfl rfl rfl rfl) (fun _ _ _ _ h => h)) (pk_cons (pe_dget (hu_of hr) (pv 1) pe_str (fun _ _ => rfl)) (pk_cons (pe_dget (hu_of hr) (pv 1) pe_str (fun _ _ => rfl)) (pk_cons (pe_dget (hu_of hr) (pv 1) pe_str (fun _ _ => rfl)) (pk_cons (pv 3) pk_nil))))))) (pss_one (ps_set (i := 4) sc__law_made.nd rfl (Or.inl rfl) (pe_mk (ok_Pack___init___4 T) (hr.mono (by decide)) (by rfl) T.g_Pack (passes_call (takes_of rfl rfl rfl rfl) (fun _ _ _ _ h => h)) (pa_cons (pv 3) (pa_cons (pe_dget (hu_of hr) (pv 1) pe_str (fun _ _ => rfl)) (pa_cons (pe_dget (hu_of hr) (pv 1) pe_str (fun _ _ => rfl)) (pa_cons (pe_dget (hu_of hr) (pv 1) pe_str (fun _ _ => rfl)) pa_nil))))))))
      (pss_cons (ps_if (pt_val (pe_callB call_isA (by rfl) T.n_isinstance (by decide +kernel) (pa_cons (pv 3) (pa_cons (pe_bltn (v := .ty "list") (by rfl) T.n_list (by decide +kernel) rfl) pa_nil)))) (pss_one (ps_expr (pe_bm0 PySem.F.plainAttrs_list PySem.F.slot_list_clear PySem.F.type_list_clear mt_clear (pv 3)))) pss_nil)
      (pss_one (ps_ret (pv 4)))))))), [], [], [],
    (ss_seq (ss_set (sm_dget ((sm_var rfl)).v (sm_str).v))
      (ss_seq (ss_if (st_not (st_B ((sm_isTy ((sm_var rfl)).v)).v)) (ss_ret ((sn_make (dds := []) (fun h => Bool.noConfusion h) T.oc_Pack (fun _ => .nil) (sa_cons (sm_var rfl) (sa_cons (sm_dget ((sm_var rfl)).v (sm_str).v) (sa_cons (sm_dget ((sm_var rfl)).v (sm_str).v) (sa_cons (sm_dget ((sm_var rfl)).v (sm_str).v) sa_nil)))))).e) ss_next)
      (ss_alt (st_test ((sm_op sr_eqD ((sm_call (fun h => Bool.noConfusion h) (sa_cons (sm_var rfl) (sa_cons sm_int sa_nil)))).v (sm_int).v)).v) (ss_seq (ss_new (sn_cb sc_list (sb_cons ((sm_var rfl)).v sb_nil)))
      (ss_seq (ss_if (st_test ((sm_op sr_eqD ((sm_call (fun h => Bool.noConfusion h) (sa_cons (sm_var rfl) (sa_cons sm_int sa_nil)))).v (sm_int).v)).v) (ss_set (sm_borL (i := 3) rfl ((sn_makeK0 (j := 4) (idx := [0, 4, 3, 2, 1]) (jdx := [3, 2, 1, 0]) (fun h => Bool.noConfusion h) T.oc_Pack (sa_cons (sm_dget ((sm_var rfl)).v (sm_str).v) (sa_cons (sm_dget ((sm_var rfl)).v (sm_str).v) (sa_cons (sm_dget ((sm_var rfl)).v (sm_str).v) (sa_cons (sm_var rfl) sa_nil)))) (fun _ zs h => match zs, h with | [_, _, _, _], _ => rfl) (fun ds h => match ds, h with | [_, _, _, _], _ => rfl))).e)) (ss_set (sm_borL (i := 3) rfl ((sn_make (dds := []) (fun h => Bool.noConfusion h) T.oc_Pack (fun _ => .nil) (sa_cons (sm_var rfl) (sa_cons (sm_dget ((sm_var rfl)).v (sm_str).v) (sa_cons (sm_dget ((sm_var rfl)).v (sm_str).v) (sa_cons (sm_dget ((sm_var rfl)).v (sm_str).v) sa_nil)))))).e)))
      (ss_seq (ss_if (st_B ((sm_isTy (sm_own rfl))).v) (ss_clear rfl) ss_next)
      (ss_ret (sm_var rfl))))) (ss_seq (ss_set (sm_cb sc_tuple (sb_cons ((sm_var rfl)).v sb_nil)))
      (ss_seq (ss_if (st_test ((sm_op sr_eqD ((sm_call (fun h => Bool.noConfusion h) (sa_cons (sm_var rfl) (sa_cons sm_int sa_nil)))).v (sm_int).v)).v) (ss_new (sn_makeK0 (j := 4) (idx := [0, 4, 3, 2, 1]) (jdx := [3, 2, 1, 0]) (fun h => Bool.noConfusion h) T.oc_Pack (sa_cons (sm_dget ((sm_var rfl)).v (sm_str).v) (sa_cons (sm_dget ((sm_var rfl)).v (sm_str).v) (sa_cons (sm_dget ((sm_var rfl)).v (sm_str).v) (sa_cons (sm_var rfl) sa_nil)))) (fun _ zs h => match zs, h with | [_, _, _, _], _ => rfl) (fun ds h => match ds, h with | [_, _, _, _], _ => rfl))) (ss_new (sn_make (dds := []) (fun h => Bool.noConfusion h) T.oc_Pack (fun _ => .nil) (sa_cons (sm_var rfl) (sa_cons (sm_dget ((sm_var rfl)).v (sm_str).v) (sa_cons (sm_dget ((sm_var rfl)).v (sm_str).v) (sa_cons (sm_dget ((sm_var rfl)).v (sm_str).v) sa_nil)))))))
      (ss_seq (ss_if (st_B ((sm_isTy ((sm_var rfl)).v)).v) ss_stuck ss_next)
      (ss_go (.frz 4 rfl .refl) (ss_ret (sm_var rfl)))))))))⟩)
def S__law_is_short : Rho → Out Res := (sSeq (sIf (cOr (cNot (cB (eUn (fun d => boD (dIsTyB "str" d)) (eVar 0)))) (cNot (cB (eChain dLe dLe (eC (.int 1)) (eCall dLen (aCons (eVar 0) aNil)) (eC (.int 6)))))) (sRet (eC (.bl false))) sNext)
      (sRet (eOp dEq (eLc (iOf itemsS (eVar 0)) (gN 1) (cB (eOp (dInS true) (eVar 1) (eC (.str "abcdefghijklmnopqrstuvwxyz")))) (eVar 1)) (eLst aNil))))
def F__law_is_short : List D → Out D := fnD 2 S__law_is_short
theorem ok__law_is_short (T : Tx P w K mg base) : GOk P w K mg base 1 "_law_is_short" ["_law_item"] (spF K false 1 F__law_is_short) :=
  GFun.sim (k := 0) (ψ := S__law_is_short) T.d__law_is_short sc__law_is_short (fun _ _ _ _ _ _ us hl => match us, hl with | [_], _ => rfl) (fun f cdv A outer s H E C hl hr => ⟨_, (pss_cons (ps_if (PW.pt (pw_or (pt_not (pt_val (pe_callB call_isA (by rfl) T.n_isinstance (by decide +kernel) (pa_cons (pv 0) (pa_cons (pe_bltn (v := .ty "str") (by rfl) T.n_str (by decide +kernel) rfl) pa_nil))))) (pw_or1 (pt_not (pt_chain op_le op_le pe_int (pe_callB call_lenA (by rfl) T.n_len (by decide +kernel) (pa_cons (pv 0) pa_nil)) pe_int))))) (pss_one (ps_ret pe_bl)) pss_nil)
      (pss_one (ps_ret (pe_cmpR (op_eqD hr.units) (pe_lc (own := [("_law_sign", 1)]) (by rfl) sc__law_is_short.nd (pi_str (pv 0)) (blkOk_by (own := [("_law_sign", 1)]) (N := N__law_is_short) (sc := defScope s__law_is_short) (by decide +kernel)) (fun _ _ _ _ _ => (pg_name (i := 1) sc__law_is_short.nd rfl (Or.inl rfl))) (fun _ _ _ _ _ => (pts_one (pt_cmpR op_notIn_sign (pv 1) pe_str (by rfl)))) (fun _ _ _ _ _ => (pv 1))) (pe_lst pa_nil) (nomark _))))), [], [], [],
    (ss_seq (ss_if (st_or (st_not (st_B ((sm_isTy ((sm_var rfl)).v)).v)) (st_not (st_test ((sm_chain sr_le sr_le (sm_int).v ((sm_cb sc_len (sb_cons ((sm_var rfl)).v sb_nil))).v (sm_int).v)).v))) (ss_ret sm_bl) ss_next)
      (ss_ret (sm_op sr_eqD ((sn_lc (si_str (sm_var rfl)) (by decide) sg_name (st_test ((sm_op sr_notInS ((sm_var rfl)).v (sm_str).v)).v) (sm_var rfl))).v ((sn_lst sa_nil)).v)))⟩)
def S__law_is_number : Rho → Out Res := (sRet (eAnd (eUn (fun d => boD (dIsTyB "int" d)) (eVar 0)) (eNot (eUn (fun d => boD (dIsTyB "bool" d)) (eVar 0)))))
def F__law_is_number : List D → Out D := fnD 1 S__law_is_number
theorem ok__law_is_number (T : Tx P w K mg base) : GOk P w K mg base 1 "_law_is_number" ["_law_item"] (spF K false 1 F__law_is_number) :=
  GFun.sim (k := 0) (ψ := S__law_is_number) T.d__law_is_number sc__law_is_number (fun _ _ _ _ _ _ us hl => match us, hl with | [_], _ => rfl) (fun f cdv A outer s H E C hl hr => ⟨_, (pss_one (ps_ret (pe_and (pe_callB call_isA (by rfl) T.n_isinstance (by decide +kernel) (pa_cons (pv 0) (pa_cons (pe_bltn (v := .ty "int") (by rfl) T.n_int (by decide +kernel) rfl) pa_nil))) (pe_one (pe_not (pe_callB call_isA (by rfl) T.n_isinstance (by decide +kernel) (pa_cons (pv 0) (pa_cons (pe_bltn (v := .ty "bool") (by rfl) T.n_bool (by decide +kernel) rfl) pa_nil)))))))), [], [], [],
    (ss_ret (sm_and ((sm_isTy ((sm_var rfl)).v)).v (sm_not ((sm_isTy ((sm_var rfl)).v)).v)))⟩)
def S__law_is_in : Rho → Out Res := (sRet (eAnd (eCall F__law_is_number (aCons (eVar 0) aNil)) (eChain dLe dLe (eVar 1) (eVar 0) (eVar 2))))
def F__law_is_in : List D → Out D := fnD 3 S__law_is_in
theorem ok__law_is_in (T : Tx P w K mg base) : GOk P w K mg base 2 "_law_is_in" ["_law_item", "_law_low", "_law_top"] (spF K false 3 F__law_is_in) :=
  GFun.sim (k := 1) (ψ := S__law_is_in) T.d__law_is_in sc__law_is_in (fun _ _ _ _ _ _ us hl => match us, hl with | [_, _, _], _ => rfl) (fun f cdv A outer s H E C hl hr => ⟨_, (pss_one (ps_ret (pe_and (pe_g (ok__law_is_number T) (hr.mono (by decide)) (by rfl) (passes_call (takes_of rfl rfl rfl rfl) (fun _ _ _ _ h => h)) (pa_cons (pv 0) pa_nil)) (pe_one (pe_chain op_le op_le (pv 1) (pv 0) (pv 2)))))), [], [], [],
    (ss_ret (sm_and ((sm_call (fun h => Bool.noConfusion h) (sa_cons (sm_var rfl) sa_nil))).v (sm_chain sr_le sr_le ((sm_var rfl)).v ((sm_var rfl)).v ((sm_var rfl)).v)))⟩)
def S__law_are_spots : Rho → Out Res := (sSeq (sIf (cOr (cNot (cB (eUn (fun d => boD (dIsSeqB d)) (eVar 0)))) (cNot (cB (eChain dLe dLe (eC (.int 1)) (eCall dLen (aCons (eVar 0) aNil)) (eC (.int 12)))))) (sRet (eC (.bl false))) sNext)
      (sSeq (sFor (iOf itemsQ (eVar 0)) (gN 1) (sIf (cOr (cNot (cB (eUn (fun d => boD (dIsTyB "tuple" d)) (eVar 1)))) (cOr (cB (eOp dNe (eCall dLen (aCons (eVar 1) aNil)) (eC (.int 2)))) (cOr (cNot (cB (eCall F__law_is_short (aCons (eOp dIx (eVar 1) (eC (.int 0))) aNil)))) (cNot (cB (eCall F__law_is_in (aCons (eOp dIx (eVar 1) (eC (.int 1))) (aCons (eC (.int 0)) (aCons (eC (.int 3)) aNil))))))))) (sRet (eC (.bl false))) sNext))
      (sRet (eOp dEq (eUn dSetLen (eVar 0)) (eCall dLen (aCons (eVar 0) aNil))))))
def F__law_are_spots : List D → Out D := fnD 2 S__law_are_spots
theorem ok__law_are_spots (T : Tx P w K mg base) : GOk P w K mg base 3 "_law_are_spots" ["_law_item"] (spF K false 1 F__law_are_spots) :=
  GFun.sim (k := 2) (ψ := S__law_are_spots) T.d__law_are_spots sc__law_are_spots (fun _ _ _ _ _ _ us hl => match us, hl with | [_], _ => rfl) (fun f cdv A outer s H E C hl hr => ⟨_, (pss_cons (ps_if (PW.pt (pw_or (pt_not (pt_val (pe_callB call_isiT (by rfl) T.n_isinstance (by decide +kernel) (pa_cons (pv 0) (pa_cons (pe_tup (pa_cons (pe_bltn (v := .ty "list") (by rfl) T.n_list (by decide +kernel) rfl) (pa_cons (pe_bltn (v := .ty "tuple") (by rfl) T.n_tuple (by decide +kernel) rfl) pa_nil))) pa_nil))))) (pw_or1 (pt_not (pt_chain op_le op_le pe_int (pe_callB call_lenA (by rfl) T.n_len (by decide +kernel) (pa_cons (pv 0) pa_nil)) pe_int))))) (pss_one (ps_ret pe_bl)) pss_nil)
      (pss_cons (ps_for (passes_of rfl) rfl (pi_sq (pv 0)) (pg_name (i := 1) sc__law_are_spots.nd rfl (Or.inl rfl)) (pss_one (ps_if (PW.pt (pw_or (pt_not (pt_val (pe_callB call_isA (by rfl) T.n_isinstance (by decide +kernel) (pa_cons (pv 1) (pa_cons (pe_bltn (v := .ty "tuple") (by rfl) T.n_tuple (by decide +kernel) rfl) pa_nil))))) (pw_or (pt_cmpR (op_neD hr.units) (pe_callB call_lenA (by rfl) T.n_len (by decide +kernel) (pa_cons (pv 1) pa_nil)) pe_int (nomark _)) (pw_or (pt_not (pt_val (pe_g (ok__law_is_short T) (hr.mono (by decide)) (by rfl) (passes_call (takes_of rfl rfl rfl rfl) (fun _ _ _ _ h => h)) (pa_cons (pe_ix ix_seq (pv 1) pe_int (fun _ _ => rfl)) pa_nil)))) (pw_or1 (pt_not (pt_val (pe_g (ok__law_is_in T) (hr.mono (by decide)) (by rfl) (passes_call (takes_of rfl rfl rfl rfl) (fun _ _ _ _ h => h)) (pa_cons (pe_ix ix_seq (pv 1) pe_int (fun _ _ => rfl)) (pa_cons pe_int (pa_cons pe_int pa_nil))))))))))) (pss_one (ps_ret pe_bl)) pss_nil)))
      (pss_one (ps_ret (pe_cmpR (op_eqD hr.units) (pe_callB call_lenN' (by rfl) T.n_len (by decide +kernel) (pa_cons (pe_callTy (cr_setK rfl hr.units) (by rfl) T.n_set (by decide +kernel) (pa_cons (pv 0) pa_nil)) pa_nil)) (pe_callB call_lenA (by rfl) T.n_len (by decide +kernel) (pa_cons (pv 0) pa_nil)) (nomark _)))))), [], [], [],
    (ss_seq (ss_if (st_or (st_not (st_B ((sm_isSeq ((sm_var rfl)).v)).v)) (st_not (st_test ((sm_chain sr_le sr_le (sm_int).v ((sm_cb sc_len (sb_cons ((sm_var rfl)).v sb_nil))).v (sm_int).v)).v))) (ss_ret sm_bl) ss_next)
      (ss_seq (ss_for (si_sq (sm_var rfl)) sg_name (ss_then (ss_if (st_or (st_not (st_B ((sm_isTy ((sm_var rfl)).v)).v)) (st_or (st_test ((sm_op sr_neD ((sm_cb sc_len (sb_cons ((sm_var rfl)).v sb_nil))).v (sm_int).v)).v) (st_or (st_not (st_B ((sm_call (fun h => Bool.noConfusion h) (sa_cons (sm_op sr_ix ((sm_var rfl)).v (sm_int).v) sa_nil))).v)) (st_not (st_B ((sm_call (fun h => Bool.noConfusion h) (sa_cons (sm_op sr_ix ((sm_var rfl)).v (sm_int).v) (sa_cons sm_int (sa_cons sm_int sa_nil))))).v))))) (ss_ret sm_bl) ss_next) (.drop 1 .refl)))
      (ss_ret (sm_op sr_eqD ((sm_setLen ((sm_var rfl)).v)).v ((sm_cb sc_len (sb_cons ((sm_var rfl)).v sb_nil))).v))))⟩)
def S__law_is_flow : Rho → Out Res := (sSeq (sIf (cB (eOp dIsN (eVar 0) (eC .non))) (sRet (eC (.bl true))) sNext)
      (sRet (eAnd (eUn (fun d => boD (dIsTyB "tuple" d)) (eVar 0)) (eAnd (eOp dEq (eCall dLen (aCons (eVar 0) aNil)) (eC (.int 2))) (eAnd (eCall F__law_is_short (aCons (eOp dIx (eVar 0) (eC (.int 0))) aNil)) (eCall F__law_is_in (aCons (eOp dIx (eVar 0) (eC (.int 1))) (aCons (eC (.int 1)) (aCons (eC (.int 3)) aNil)))))))))
def F__law_is_flow : List D → Out D := fnD 1 S__law_is_flow
theorem ok__law_is_flow (T : Tx P w K mg base) : GOk P w K mg base 3 "_law_is_flow" ["_law_item"] (spF K false 1 F__law_is_flow) :=
  GFun.sim (k := 2) (ψ := S__law_is_flow) T.d__law_is_flow sc__law_is_flow (fun _ _ _ _ _ _ us hl => match us, hl with | [_], _ => rfl) (fun f cdv A outer s H E C hl hr => ⟨_, (pss_cons (ps_if (pt_cmpR op_isN (pv 0) pe_non (nomark _)) (pss_one (ps_ret pe_bl)) pss_nil)
      (pss_one (ps_ret (pe_and (pe_callB call_isA (by rfl) T.n_isinstance (by decide +kernel) (pa_cons (pv 0) (pa_cons (pe_bltn (v := .ty "tuple") (by rfl) T.n_tuple (by decide +kernel) rfl) pa_nil))) (pe_and (pe_cmpR (op_eqD hr.units) (pe_callB call_lenA (by rfl) T.n_len (by decide +kernel) (pa_cons (pv 0) pa_nil)) pe_int (nomark _)) (pe_and (pe_g (ok__law_is_short T) (hr.mono (by decide)) (by rfl) (passes_call (takes_of rfl rfl rfl rfl) (fun _ _ _ _ h => h)) (pa_cons (pe_ix ix_seq (pv 0) pe_int (fun _ _ => rfl)) pa_nil)) (pe_one (pe_g (ok__law_is_in T) (hr.mono (by decide)) (by rfl) (passes_call (takes_of rfl rfl rfl rfl) (fun _ _ _ _ h => h)) (pa_cons (pe_ix ix_seq (pv 0) pe_int (fun _ _ => rfl)) (pa_cons pe_int (pa_cons pe_int pa_nil))))))))))), [], [], [],
    (ss_seq (ss_if (st_test ((sm_op sr_isN ((sm_var rfl)).v (sm_non).v)).v) (ss_ret sm_bl) ss_next)
      (ss_ret (sm_and ((sm_isTy ((sm_var rfl)).v)).v (sm_and ((sm_op sr_eqD ((sm_cb sc_len (sb_cons ((sm_var rfl)).v sb_nil))).v (sm_int).v)).v (sm_and ((sm_call (fun h => Bool.noConfusion h) (sa_cons (sm_op sr_ix ((sm_var rfl)).v (sm_int).v) sa_nil))).v (sm_call (fun h => Bool.noConfusion h) (sa_cons (sm_op sr_ix ((sm_var rfl)).v (sm_int).v) (sa_cons sm_int (sa_cons sm_int sa_nil)))))))))⟩)
def S__law_wrong : Rho → Out Res := (sSeq (sIf (cNot (cB (eCall F__law_are_spots (aCons (eOp dGet (eVar 0) (eC (.str "slots"))) aNil)))) (sRet (eC (.str "slots"))) sNext)
      (sSeq (sIf (cNot (cB (eCall F__law_is_in (aCons (eOp dGet (eVar 0) (eC (.str "amount"))) (aCons (eC (.int 0)) (aCons (eC (.int 3)) aNil)))))) (sRet (eC (.str "amount"))) sNext)
      (sSeq (sIf (cAnd (cB (eOp dNotN (eOp dGet (eVar 0) (eC (.str "cost"))) (eC .non))) (cNot (cB (eCall F__law_is_in (aCons (eOp dGet (eVar 0) (eC (.str "cost"))) (aCons (eC (.int 0)) (aCons (eC (.int 99)) aNil))))))) (sRet (eC (.str "cost"))) sNext)
      (sRet (eIf (cB (eCall F__law_is_flow (aCons (eOp dGet (eVar 0) (eC (.str "roll"))) aNil))) (eC .non) (eC (.str "roll")))))))
def F__law_wrong : List D → Out D := fnD 1 S__law_wrong
theorem ok__law_wrong (T : Tx P w K mg base) : GOk P w K mg base 4 "_law_wrong" ["_law_given_here"] (spF K false 1 F__law_wrong) :=
  GFun.sim (k := 3) (ψ := S__law_wrong) T.d__law_wrong sc__law_wrong (fun _ _ _ _ _ _ us hl => match us, hl with | [_], _ => rfl) (fun f cdv A outer s H E C hl hr => ⟨_, (pss_cons (ps_if (pt_not (pt_val (pe_g (ok__law_are_spots T) (hr.mono (by decide)) (by rfl) (passes_call (takes_of rfl rfl rfl rfl) (fun _ _ _ _ h => h)) (pa_cons (pe_dget (hu_of hr) (pv 0) pe_str (fun _ _ => rfl)) pa_nil)))) (pss_one (ps_ret pe_str)) pss_nil)
      (pss_cons (ps_if (pt_not (pt_val (pe_g (ok__law_is_in T) (hr.mono (by decide)) (by rfl) (passes_call (takes_of rfl rfl rfl rfl) (fun _ _ _ _ h => h)) (pa_cons (pe_dget (hu_of hr) (pv 0) pe_str (fun _ _ => rfl)) (pa_cons pe_int (pa_cons pe_int pa_nil)))))) (pss_one (ps_ret pe_str)) pss_nil)
      (pss_cons (ps_if (PW.pt (pw_and (pt_cmpR op_notN (pe_dget (hu_of hr) (pv 0) pe_str (fun _ _ => rfl)) pe_non (nomark _)) (pw_and1 (pt_not (pt_val (pe_g (ok__law_is_in T) (hr.mono (by decide)) (by rfl) (passes_call (takes_of rfl rfl rfl rfl) (fun _ _ _ _ h => h)) (pa_cons (pe_dget (hu_of hr) (pv 0) pe_str (fun _ _ => rfl)) (pa_cons pe_int (pa_cons pe_int pa_nil))))))))) (pss_one (ps_ret pe_str)) pss_nil)
      (pss_one (ps_ret (pe_ifExp (pt_val (pe_g (ok__law_is_flow T) (hr.mono (by decide)) (by rfl) (passes_call (takes_of rfl rfl rfl rfl) (fun _ _ _ _ h => h)) (pa_cons (pe_dget (hu_of hr) (pv 0) pe_str (fun _ _ => rfl)) pa_nil))) pe_non pe_str)))))), [], [], [],
    (ss_seq (ss_if (st_not (st_B ((sm_call (fun h => Bool.noConfusion h) (sa_cons (sm_dget ((sm_var rfl)).v (sm_str).v) sa_nil))).v)) (ss_ret sm_str) ss_next)
      (ss_seq (ss_if (st_not (st_B ((sm_call (fun h => Bool.noConfusion h) (sa_cons (sm_dget ((sm_var rfl)).v (sm_str).v) (sa_cons sm_int (sa_cons sm_int sa_nil))))).v)) (ss_ret sm_str) ss_next)
      (ss_seq (ss_if (st_and (st_test ((sm_op sr_notN ((sm_dget ((sm_var rfl)).v (sm_str).v)).v (sm_non).v)).v) (st_not (st_B ((sm_call (fun h => Bool.noConfusion h) (sa_cons (sm_dget ((sm_var rfl)).v (sm_str).v) (sa_cons sm_int (sa_cons sm_int sa_nil))))).v))) (ss_ret sm_str) ss_next)
      (ss_ret (sm_if (st_B ((sm_call (fun h => Bool.noConfusion h) (sa_cons (sm_dget ((sm_var rfl)).v (sm_str).v) sa_nil))).v) sm_non sm_str)))))⟩)
def S__law_bent : Rho → Out Res := (sSeq (sPar2 2 3 (eCall dDict (aCons (eVar 1) aNil)) (eCall F__law_pick (aCons (eVar 0) (aCons (eLst (aCons (eC (.str "slots")) (aCons (eC (.str "amount")) (aCons (eC (.str "cost")) (aCons (eC (.str "roll")) aNil))))) aNil))))
      (sSeq (sSet 4 (eLst (aCons (eC .non) (aCons (eC (.bl true)) (aCons (eUn dNeg (eC (.int 1))) (aCons (eC (.int 4)) (aCons (eC (.int 100)) (aCons (eC (.int 0)) (aCons (eC (.str "")) (aCons (eC (.str "x")) (aCons (eTup aNil) (aCons (eLst aNil) (aCons (eC (.dct [])) (aCons (eTup (aCons (eC (.str "x")) (aCons (eC (.int 0)) aNil))) (aCons (eTup (aCons (eC (.str "x")) (aCons (eC (.int 4)) aNil))) (aCons (eTup (aCons (eC (.str "X")) (aCons (eC (.int 1)) aNil))) (aCons (eLst (aCons (eC (.str "x")) (aCons (eC (.int 1)) aNil))) (aCons (eC (.int 100000000000000000000000000000)) aNil))))))))))))))))))
      (sSeq (sSet 5 (eLst (aCons (eTup (aCons (eC (.str "abcdefg")) (aCons (eC (.int 0)) aNil))) (aCons (eTup (aCons (eC (.str "x")) (aCons (eC (.int 4)) aNil))) (aCons (eTup (aCons (eC (.str "x")) (aCons (eUn dNeg (eC (.int 1))) aNil))) (aCons (eTup (aCons (eC (.str "x")) (aCons (eC (.bl true)) aNil))) (aCons (eLst (aCons (eC (.str "x")) (aCons (eC (.int 0)) aNil))) (aCons (eTup (aCons (eC (.str "x")) aNil)) (aCons (eTup (aCons (eC (.str "")) (aCons (eC (.int 0)) aNil))) (aCons (eC .non) aNil))))))))))
      (sSeq (sSet 6 (eIf (cB (eUn (fun d => boD (dIsTyB "list" d)) (eOp dGet (eVar 1) (eC (.str "slots"))))) (eOp dGet (eVar 1) (eC (.str "slots"))) (eLst aNil)))
      (sSeq (sIf (cAnd (cB (eOp dEq (eVar 3) (eC (.str "slots")))) (cB (eOp dEq (eCall F__law_take (aCons (eVar 0) (aCons (eC (.int 2)) aNil))) (eC (.int 0))))) (sSeq (sSet 7 (eCall F__law_pick (aCons (eVar 0) (aCons (eOp dCatL (eVar 5) (eSl dSlL (eVar 6) oNone (oSome (eC (.int 1))))) aNil))))
      (sDPutO 2 (eC (.str "slots")) (eCall F__law_shuffled (aCons (eVar 0) (aCons (eOp dCatL (eVar 6) (eLst (aCons (eVar 7) aNil))) aNil))))) (sIf (cAnd (cB (eOp dEq (eVar 3) (eC (.str "slots")))) (cAnd (cB (eCall F__law_are_spots (aCons (eVar 6) aNil))) (cB (eOp dEq (eCall F__law_take (aCons (eVar 0) (aCons (eC (.int 2)) aNil))) (eC (.int 0)))))) (sDPutO 2 (eC (.str "slots")) (eOp dCatL (eSl dSlL (eVar 6) (oSome (eC (.int 1))) oNone) (eLst (aCons (eTup (aCons (eCall F__law_pick (aCons (eVar 0) (aCons (eLst (aCons (eC (.str "x")) (aCons (eOp dIx (eOp dIx (eVar 6) (eC (.int 0))) (eC (.int 0))) aNil))) aNil))) (aCons (eCall F__law_take (aCons (eVar 0) (aCons (eC (.int 4)) aNil))) aNil))) aNil)))) (sIf (cAnd (cB (eOp dEq (eVar 3) (eC (.str "slots")))) (cB (eOp dEq (eCall F__law_take (aCons (eVar 0) (aCons (eC (.int 3)) aNil))) (eC (.int 0))))) (sDPutO 2 (eC (.str "slots")) (eLc (iRg1 (aCons (eC (.int 13)) aNil)) (gN 8) cYes (eTup (aCons (eOp dMulS (eC (.str "q")) (eOp dAdd (eC (.int 1)) (eOp dMod (eVar 8) (eC (.int 6))))) (aCons (eOp dDiv (eVar 8) (eC (.int 6))) aNil))))) (sDPutO 2 (eVar 3) (eCall F__law_pick (aCons (eVar 0) (aCons (eVar 4) aNil)))))))
      (sRet (eVar 2)))))))
def F__law_bent : List D → Out D := fnD 9 S__law_bent
theorem ok__law_bent (T : Tx P w K mg base) : GOk P w K mg base 4 "_law_bent" ["_law_draw", "_law_given_here"] (spF K false 2 F__law_bent) :=
  GFun.sim (k := 3) (ψ := S__law_bent) T.d__law_bent sc__law_bent (fun _ _ _ _ _ _ us hl => match us, hl with | [_, _], _ => rfl) (fun f cdv A outer s H E C hl hr => ⟨_, (pss_cons (ps_par (i := 2) (j := 3) (by rfl) sc__law_bent.nd rfl rfl (by decide) rfl rfl (pa_cons (pe_callTy call_dictD (by rfl) T.n_dict (by decide +kernel) (pa_cons (pv 1) pa_nil)) (pa_cons (pe_g (ok__law_pick T) (hr.mono (by decide)) (by rfl) (passes_call (takes_of rfl rfl rfl rfl) (fun _ _ _ _ h => h)) (pa_cons (pv 0) (pa_cons (pe_lst (pa_cons pe_str (pa_cons pe_str (pa_cons pe_str (pa_cons pe_str pa_nil))))) pa_nil))) pa_nil)) (by rfl))
      (pss_cons (ps_set (i := 4) sc__law_bent.nd rfl (Or.inl rfl) (pe_lst (pa_cons pe_non (pa_cons pe_bl (pa_cons (pe_un un_neg pe_int) (pa_cons pe_int (pa_cons pe_int (pa_cons pe_int (pa_cons pe_str (pa_cons pe_str (pa_cons (pe_tupF pa_nil) (pa_cons (pe_lst pa_nil) (pa_cons pe_dnewK (pa_cons (pe_tupF (pa_cons pe_str (pa_cons pe_int pa_nil))) (pa_cons (pe_tupF (pa_cons pe_str (pa_cons pe_int pa_nil))) (pa_cons (pe_tupF (pa_cons pe_str (pa_cons pe_int pa_nil))) (pa_cons (pe_lst (pa_cons pe_str (pa_cons pe_int pa_nil))) (pa_cons (pe_op op_pow pe_int pe_int) pa_nil))))))))))))))))))
      (pss_cons (ps_set (i := 5) sc__law_bent.nd rfl (Or.inl rfl) (pe_lst (pa_cons (pe_tupF (pa_cons pe_str (pa_cons pe_int pa_nil))) (pa_cons (pe_tupF (pa_cons pe_str (pa_cons pe_int pa_nil))) (pa_cons (pe_tupF (pa_cons pe_str (pa_cons (pe_un un_neg pe_int) pa_nil))) (pa_cons (pe_tupF (pa_cons pe_str (pa_cons pe_bl pa_nil))) (pa_cons (pe_lst (pa_cons pe_str (pa_cons pe_int pa_nil))) (pa_cons (pe_tupF (pa_cons pe_str pa_nil)) (pa_cons (pe_tupF (pa_cons pe_str (pa_cons pe_int pa_nil))) (pa_cons pe_non pa_nil))))))))))
      (pss_cons (ps_set (i := 6) sc__law_bent.nd rfl (Or.inl rfl) (pe_ifExp (pt_val (pe_callB call_isA (by rfl) T.n_isinstance (by decide +kernel) (pa_cons (pe_dget (hu_of hr) (pv 1) pe_str (fun _ _ => rfl)) (pa_cons (pe_bltn (v := .ty "list") (by rfl) T.n_list (by decide +kernel) rfl) pa_nil)))) (pe_dget (hu_of hr) (pv 1) pe_str (fun _ _ => rfl)) (pe_lst pa_nil)))
      (pss_cons (ps_if (PW.pt (pw_and (pt_cmpR (op_eqD hr.units) (pv 3) pe_str (nomark _)) (pw_and1 (pt_cmpR (op_eqD hr.units) (pe_g (ok__law_take T) (hr.mono (by decide)) (by rfl) (passes_call (takes_of rfl rfl rfl rfl) (fun _ _ _ _ h => h)) (pa_cons (pv 0) (pa_cons pe_int pa_nil))) pe_int (nomark _))))) (pss_cons (ps_set (i := 7) sc__law_bent.nd rfl (Or.inl rfl) (pe_g (ok__law_pick T) (hr.mono (by decide)) (by rfl) (passes_call (takes_of rfl rfl rfl rfl) (fun _ _ _ _ h => h)) (pa_cons (pv 0) (pa_cons (pe_op op_catQ (pv 5) (pe_slice sl_list (pv 6) po_none (po_some pe_int))) pa_nil))))
      (pss_one (ps_dput (hu_of hr) (pv 2) pe_str (pe_g (ok__law_shuffled T) (hr.mono (by decide)) (by rfl) (passes_call (takes_of rfl rfl rfl rfl) (fun _ _ _ _ h => h)) (pa_cons (pv 0) (pa_cons (pe_op op_catQ (pv 6) (pe_lst (pa_cons (pv 7) pa_nil))) pa_nil))) rfl))) (pss_one (ps_if (PW.pt (pw_and (pt_cmpR (op_eqD hr.units) (pv 3) pe_str (nomark _)) (pw_and (pt_val (pe_g (ok__law_are_spots T) (hr.mono (by decide)) (by rfl) (passes_call (takes_of rfl rfl rfl rfl) (fun _ _ _ _ h => h)) (pa_cons (pv 6) pa_nil))) (pw_and1 (pt_cmpR (op_eqD hr.units) (pe_g (ok__law_take T) (hr.mono (by decide)) (by rfl) (passes_call (takes_of rfl rfl rfl rfl) (fun _ _ _ _ h => h)) (pa_cons (pv 0) (pa_cons pe_int pa_nil))) pe_int (nomark _)))))) (pss_one (ps_dput (hu_of hr) (pv 2) pe_str (pe_op op_catQ (pe_slice sl_list (pv 6) (po_some pe_int) po_none) (pe_lst (pa_cons (pe_tupF (pa_cons (pe_g (ok__law_pick T) (hr.mono (by decide)) (by rfl) (passes_call (takes_of rfl rfl rfl rfl) (fun _ _ _ _ h => h)) (pa_cons (pv 0) (pa_cons (pe_lst (pa_cons pe_str (pa_cons (pe_ix ix_seq (pe_ix ix_seq (pv 6) pe_int (fun _ _ => rfl)) pe_int (fun _ _ => rfl)) pa_nil))) pa_nil))) (pa_cons (pe_g (ok__law_take T) (hr.mono (by decide)) (by rfl) (passes_call (takes_of rfl rfl rfl rfl) (fun _ _ _ _ h => h)) (pa_cons (pv 0) (pa_cons pe_int pa_nil))) pa_nil))) pa_nil))) rfl)) (pss_one (ps_if (PW.pt (pw_and (pt_cmpR (op_eqD hr.units) (pv 3) pe_str (nomark _)) (pw_and1 (pt_cmpR (op_eqD hr.units) (pe_g (ok__law_take T) (hr.mono (by decide)) (by rfl) (passes_call (takes_of rfl rfl rfl rfl) (fun _ _ _ _ h => h)) (pa_cons (pv 0) (pa_cons pe_int pa_nil))) pe_int (nomark _))))) (pss_one (ps_dput (hu_of hr) (pv 2) pe_str (pe_lc (own := [("_law_k", 8)]) (by rfl) sc__law_bent.nd (pi_range1 (by rfl) T.n_range (pa_cons pe_int pa_nil)) (blkOk_by (own := [("_law_k", 8)]) (N := N__law_bent) (sc := defScope s__law_bent) (by decide +kernel)) (fun _ _ _ _ _ => (pg_name (i := 8) sc__law_bent.nd rfl (Or.inl rfl))) (fun _ _ _ _ _ => pts_nil) (fun _ _ _ _ _ => (pe_tupF (pa_cons (pe_op op_mulS pe_str (pe_op op_add pe_int (pe_op op_mod (pv 8) pe_int))) (pa_cons (pe_op op_fdiv (pv 8) pe_int) pa_nil))))) rfl)) (pss_one (ps_dput (hu_of hr) (pv 2) (pv 3) (pe_g (ok__law_pick T) (hr.mono (by decide)) (by rfl) (passes_call (takes_of rfl rfl rfl rfl) (fun _ _ _ _ h => h)) (pa_cons (pv 0) (pa_cons (pv 4) pa_nil))) rfl)))))))
      (pss_one (ps_ret (pv 2)))))))), [], [], [],
    (ss_seq (ss_parNE (sn_cb sc_dict (sb_cons ((sm_var rfl)).v sb_nil)) (sm_call (fun h => Bool.noConfusion h) (sa_cons (sm_var rfl) (sa_cons ((sn_lst (sa_cons sm_str (sa_cons sm_str (sa_cons sm_str (sa_cons sm_str sa_nil)))))).e sa_nil))))
      (ss_seq (ss_new (sn_lst (sa_cons sm_non (sa_cons sm_bl (sa_cons (sm_un su_neg sm_int.v) (sa_cons sm_int (sa_cons sm_int (sa_cons sm_int (sa_cons sm_str (sa_cons sm_str (sa_cons (sm_tup sa_nil) (sa_cons ((sn_lst sa_nil)).e (sa_cons (sn_dnew).e (sa_cons (sm_tup (sa_cons sm_str (sa_cons sm_int sa_nil))) (sa_cons (sm_tup (sa_cons sm_str (sa_cons sm_int sa_nil))) (sa_cons (sm_tup (sa_cons sm_str (sa_cons sm_int sa_nil))) (sa_cons ((sn_lst (sa_cons sm_str (sa_cons sm_int sa_nil)))).e (sa_cons (sm_pow ⟨by decide +kernel, by decide +kernel, by decide +kernel⟩ (by decide +kernel)) sa_nil))))))))))))))))))
      (ss_seq (ss_new (sn_lst (sa_cons (sm_tup (sa_cons sm_str (sa_cons sm_int sa_nil))) (sa_cons (sm_tup (sa_cons sm_str (sa_cons sm_int sa_nil))) (sa_cons (sm_tup (sa_cons sm_str (sa_cons (sm_un su_neg sm_int.v) sa_nil))) (sa_cons (sm_tup (sa_cons sm_str (sa_cons sm_bl sa_nil))) (sa_cons ((sn_lst (sa_cons sm_str (sa_cons sm_int sa_nil)))).e (sa_cons (sm_tup (sa_cons sm_str sa_nil)) (sa_cons (sm_tup (sa_cons sm_str (sa_cons sm_int sa_nil))) (sa_cons sm_non sa_nil))))))))))
      (ss_seq (ss_set (sm_if (st_B ((sm_isTy ((sm_dget ((sm_var rfl)).v (sm_str).v)).v)).v) (sm_dget ((sm_var rfl)).v (sm_str).v) ((sn_lst sa_nil)).e))
      (ss_seq (ss_if (st_and (st_test ((sm_op sr_eqD ((sm_var rfl)).v (sm_str).v)).v) (st_test ((sm_op sr_eqD ((sm_call (fun h => Bool.noConfusion h) (sa_cons (sm_var rfl) (sa_cons sm_int sa_nil)))).v (sm_int).v)).v)) (ss_then (ss_seq (ss_set (sm_call (fun h => Bool.noConfusion h) (sa_cons (sm_var rfl) (sa_cons ((sm_opN sr_catL (sm_own rfl) ((sn_slL ((sm_var rfl)).v so_none (so_some (sm_int).v))).v)).e sa_nil))))
      (ss_dput rfl (sm_call (fun h => Bool.noConfusion h) (sa_cons (sm_var rfl) (sa_cons ((sm_opN sr_catL ((sm_var rfl)).v ((sn_lst (sa_cons (sm_var rfl) sa_nil))).v)).e sa_nil))) (sm_str).v)) (.frz 4 rfl (.drop 7 .refl))) (ss_if (st_and (st_test ((sm_op sr_eqD ((sm_var rfl)).v (sm_str).v)).v) (st_and (st_B ((sm_call (fun h => Bool.noConfusion h) (sa_cons (sm_var rfl) sa_nil))).v) (st_test ((sm_op sr_eqD ((sm_call (fun h => Bool.noConfusion h) (sa_cons (sm_var rfl) (sa_cons sm_int sa_nil)))).v (sm_int).v)).v))) (ss_then (ss_dput rfl ((sm_opN sr_catL ((sn_slL ((sm_var rfl)).v (so_some (sm_int).v) so_none)).v ((sn_lst (sa_cons (sm_tup (sa_cons (sm_call (fun h => Bool.noConfusion h) (sa_cons (sm_var rfl) (sa_cons ((sn_lst (sa_cons sm_str (sa_cons (sm_op sr_ix ((sm_op sr_ix ((sm_var rfl)).v (sm_int).v)).v (sm_int).v) sa_nil)))).e sa_nil))) (sa_cons (sm_call (fun h => Bool.noConfusion h) (sa_cons (sm_var rfl) (sa_cons sm_int sa_nil))) sa_nil))) sa_nil))).v)).e (sm_str).v) (.frz 4 rfl .refl)) (ss_if (st_and (st_test ((sm_op sr_eqD ((sm_var rfl)).v (sm_str).v)).v) (st_test ((sm_op sr_eqD ((sm_call (fun h => Bool.noConfusion h) (sa_cons (sm_var rfl) (sa_cons sm_int sa_nil)))).v (sm_int).v)).v)) (ss_then (ss_dput rfl ((sn_lc (si_range1 (sb_cons (sm_int).v sb_nil)) (by decide) sg_name st_yes (sm_tup (sa_cons (sm_op sr_mulS (sm_str).v ((sm_op sr_add (sm_int).v ((sm_op sr_mod ((sm_var rfl)).v (sm_int).v)).v)).v) (sa_cons (sm_op sr_div ((sm_var rfl)).v (sm_int).v) sa_nil))))).e (sm_str).v) (.frz 4 rfl .refl)) (ss_go (.frz 4 rfl .refl) (ss_dput rfl (sm_call (fun h => Bool.noConfusion h) (sa_cons (sm_var rfl) (sa_cons (sm_var rfl) sa_nil))) ((sm_var rfl)).v)))))
      (ss_go (.frz 2 rfl .refl) (ss_ret (sm_var rfl))))))))⟩)
def S__law_is_right : Rho → Out Res := (sSeq (sSet 2 (eLst (aCons (eCall dTuple (aCons (eCall dSorted (aCons (eOp dGet (eVar 1) (eC (.str "slots"))) aNil)) aNil)) (aCons (eOp dGet (eVar 1) (eC (.str "amount"))) (aCons (eOp dGet (eVar 1) (eC (.str "cost"))) (aCons (eOp dGet (eVar 1) (eC (.str "roll"))) aNil))))))
      (sSeq (sApp 2 (eCall dMax (aCons (eLc (iOf itemsL (eOp dGet (eVar 1) (eC (.str "slots")))) (gN 3) cYes (eOp dIx (eVar 3) (eC (.int 1)))) aNil)))
      (sRet (eZEq (rRp (eLst (aCons (fun ρ => ((eVar 0) ρ).bind fun x => (dProp "Pack" F_Pack_slots x).nox) (aCons (fun ρ => ((eVar 0) ρ).bind fun x => (dProp "Pack" F_Pack_amount x).nox) (aCons (fun ρ => ((eVar 0) ρ).bind fun x => (dProp "Pack" F_Pack_cost x).nox) (aCons (fun ρ => ((eVar 0) ρ).bind fun x => (dProp "Pack" F_Pack_roll x).nox) (aCons (fun ρ => ((eVar 0) ρ).bind fun x => (dProp "Pack" F_Pack_last x).nox) aNil))))))) (rRp (eVar 2))))))
def F__law_is_right : List D → Out D := fnD 4 S__law_is_right
theorem ok__law_is_right (T : Tx P w K mg base) : GOkG P w K mg base 3 "_law_is_right" ["_law_ware", "_law_given_here"] (spF K false 2 F__law_is_right) :=
  GFun.simG (k := 2) (ψ := S__law_is_right) T.d__law_is_right sc__law_is_right (fun _ _ _ _ _ _ us hl => match us, hl with | [_, _], _ => rfl) (fun f cdv A outer s H E C hgd hl hr => ⟨_, (pss_cons (ps_set (i := 2) sc__law_is_right.nd rfl (Or.inl rfl) (pe_lst (pa_cons (pe_callTy call_tupF (by rfl) T.n_tuple (by decide +kernel) (pa_cons (pe_callB (cr_sortD (u80 hr)) (by rfl) T.n_sorted (by decide +kernel) (pa_cons (pe_dget (hu_of hr) (pv 1) pe_str (fun _ _ => rfl)) pa_nil)) pa_nil)) (pa_cons (pe_dget (hu_of hr) (pv 1) pe_str (fun _ _ => rfl)) (pa_cons (pe_dget (hu_of hr) (pv 1) pe_str (fun _ _ => rfl)) (pa_cons (pe_dget (hu_of hr) (pv 1) pe_str (fun _ _ => rfl)) pa_nil))))))
      (pss_cons (ps_expr (pe_bm PySem.F.plainAttrs_list PySem.F.slot_list_append PySem.F.type_list_append mt_append (pv 2) (pa_cons (pe_callB (cr_max rfl) (by rfl) T.n_max (by decide +kernel) (pa_cons (pe_lc (own := [("_law_spot", 3)]) (by rfl) sc__law_is_right.nd (pi_list (pe_dget (hu_of hr) (pv 1) pe_str (fun _ _ => rfl))) (blkOk_by (own := [("_law_spot", 3)]) (N := N__law_is_right) (sc := defScope s__law_is_right) (by decide +kernel)) (fun _ _ _ _ _ => (pg_name (i := 3) sc__law_is_right.nd rfl (Or.inl rfl))) (fun _ _ _ _ _ => pts_nil) (fun _ _ _ _ _ => (pe_ix (ix_seqK K rfl) (pv 3) pe_int (fun _ _ => rfl)))) pa_nil)) pa_nil)))
      (pss_one (ps_ret (pe_cmpR op_eq (pe_callB (call_repr' hgd hr) (by rfl) T.n_repr (by decide +kernel) (pa_cons (pe_lst (pa_cons (pe_pr (ok_Pack_slots T) T.cl_Pack (hr.mono (by decide)) passL (pv 0) rfl) (pa_cons (pe_pr (ok_Pack_amount T) T.cl_Pack (hr.mono (by decide)) passL (pv 0) rfl) (pa_cons (pe_pr (ok_Pack_cost T) T.cl_Pack (hr.mono (by decide)) passL (pv 0) rfl) (pa_cons (pe_pr (ok_Pack_roll T) T.cl_Pack (hr.mono (by decide)) passL (pv 0) rfl) (pa_cons (pe_pr (ok_Pack_last T) T.cl_Pack (hr.mono (by decide)) passL (pv 0) rfl) pa_nil)))))) pa_nil)) (pe_callB (call_repr' hgd hr) (by rfl) T.n_repr (by decide +kernel) (pa_cons (pv 2) pa_nil)) (nomark _)))))), [], [], [],
    (ss_seq (ss_new (sn_lst (sa_cons (sm_cb sc_tuple (sb_cons ((sn_cb sc_sorted (sb_cons ((sm_dget ((sm_var rfl)).v (sm_str).v)).v sb_nil))).v sb_nil)) (sa_cons (sm_dget ((sm_var rfl)).v (sm_str).v) (sa_cons (sm_dget ((sm_var rfl)).v (sm_str).v) (sa_cons (sm_dget ((sm_var rfl)).v (sm_str).v) sa_nil))))))
      (ss_seq (ss_app rfl (sm_cb sc_max (sb_cons ((sn_lc (si_list (sm_dget ((sm_var rfl)).v (sm_str).v)) (by decide) sg_name st_yes (sm_op sr_ix ((sm_var rfl)).v (sm_int).v))).v sb_nil)))
      (ss_ret (sm_zeq (sz_repr ((sn_lst (sa_cons (sm_prop (fun h => Bool.noConfusion h) (sm_var rfl)) (sa_cons (sm_prop (fun h => Bool.noConfusion h) (sm_var rfl)) (sa_cons (sm_prop (fun h => Bool.noConfusion h) (sm_var rfl)) (sa_cons (sm_prop (fun h => Bool.noConfusion h) (sm_var rfl)) (sa_cons (sm_prop (fun h => Bool.noConfusion h) (sm_var rfl)) sa_nil))))))).v) (sz_repr (sm_own rfl))))))⟩)
def S__law_parts : Rho → Out Res := (sRet (eLst (aCons (eCall dSorted (aCons (eOp dGet (eVar 0) (eC (.str "slots"))) aNil)) (aCons (eOp dGet (eVar 0) (eC (.str "amount"))) (aCons (eOp dGet (eVar 0) (eC (.str "cost"))) (aCons (eOp dGet (eVar 0) (eC (.str "roll"))) aNil))))))
def F__law_parts : List D → Out D := fnD 1 S__law_parts
theorem ok__law_parts (T : Tx P w K mg base) : GOk P w K mg base 1 "_law_parts" ["_law_given_here"] (spF K false 1 F__law_parts) :=
  GFun.sim (k := 0) (ψ := S__law_parts) T.d__law_parts sc__law_parts (fun _ _ _ _ _ _ us hl => match us, hl with | [_], _ => rfl) (fun f cdv A outer s H E C hl hr => ⟨_, (pss_one (ps_ret (pe_lst (pa_cons (pe_callB (cr_sortD (u80 hr)) (by rfl) T.n_sorted (by decide +kernel) (pa_cons (pe_dget (hu_of hr) (pv 0) pe_str (fun _ _ => rfl)) pa_nil)) (pa_cons (pe_dget (hu_of hr) (pv 0) pe_str (fun _ _ => rfl)) (pa_cons (pe_dget (hu_of hr) (pv 0) pe_str (fun _ _ => rfl)) (pa_cons (pe_dget (hu_of hr) (pv 0) pe_str (fun _ _ => rfl)) pa_nil))))))), [], [], [],
    (ss_ret ((sn_lst (sa_cons ((sn_cb sc_sorted (sb_cons ((sm_dget ((sm_var rfl)).v (sm_str).v)).v sb_nil))).e (sa_cons (sm_dget ((sm_var rfl)).v (sm_str).v) (sa_cons (sm_dget ((sm_var rfl)).v (sm_str).v) (sa_cons (sm_dget ((sm_var rfl)).v (sm_str).v) sa_nil)))))).e)⟩)
end
end ND
/-! plain laws: ground -/
namespace ND
open PySem PySem.Spec PyProof.Rows L2
/-! ### what an outcome is, at a cost of c -/
namespace Out
variable {α β : Type}
structure sp (o : Out α) (c : Nat) (Q : α → Prop) (X : Str → List (Str × D) → Prop) : Prop where
  h : ∀ n, o.wp (n + c) (fun m a => n ≤ m ∧ Q a) (fun m e fs => n ≤ m ∧ X e fs)
theorem sp_ok {a : α} {c : Nat} {Q : α → Prop} {X : Str → List (Str × D) → Prop} (h : Q a) : (Out.ok a).sp c Q X := ⟨fun n => ⟨Nat.le_add_right _ _, h⟩⟩
theorem sp_exc {c : Nat} {e : Str} {fs : List (Str × D)} {Q : α → Prop} {X : Str → List (Str × D) → Prop} (h : X e fs) : (Out.exc e fs : Out α).sp c Q X := ⟨fun n => ⟨Nat.le_add_right _ _, h⟩⟩
theorem sp_any {k c : Nat} {P : D → Prop} {f : D → Out α} {Q : α → Prop} {X : Str → List (Str × D) → Prop} (h : ∀ d, P d → (f d).sp c Q X) : (Out.any k P f).sp (k + c) Q X := ⟨fun n => ⟨n + c, by omega, fun d hd => (h d hd).h n⟩⟩
theorem wp_up {Q Q' : Nat → α → Prop} {E E' : Nat → Str → List (Str × D) → Prop} : ∀ {o : Out α} {n k : Nat}, o.wp n Q E → (∀ m a, Q m a → Q' (m + k) a) → (∀ m c fs, E m c fs → E' (m + k) c fs) → o.wp (n + k) Q' E'
  | .ok a, n, k, h, hq, _ => hq _ _ h
  | .exc c fs, n, k, h, _, he => he _ _ _ h
  | .stuck, _, _, h, _, _ => h.elim
  | .any c P f, n, k, h, hq, he => by
    obtain ⟨m, e, h⟩ := h
    exact ⟨m + k, by omega, fun d hd => wp_up (h d hd) hq he⟩
theorem sp_bind {o : Out α} {f : α → Out β} {c1 c2 : Nat} {Q : β → Prop} {X : Str → List (Str × D) → Prop} (h : o.sp c1 (fun a => (f a).sp c2 Q X) X) : (o.bind f).sp (c1 + c2) Q X := by
  constructor
  intro n
  refine bind_wp (wp_mono (fun m a k => ?_) (fun m e fs k => ?_) (by have := h.h (n + c2); rw [show n + (c1 + c2) = n + c2 + c1 by omega]; exact this))
  · obtain ⟨l, k⟩ := k
    obtain ⟨j, rfl⟩ : ∃ j, m = n + c2 + j := ⟨m - (n + c2), by omega⟩
    have := wp_up (k := j) (k.h n) (Q' := fun m a => n ≤ m ∧ Q a) (E' := fun m e fs => n ≤ m ∧ X e fs) (fun m a z => ⟨by omega, z.2⟩) (fun m e fs z => ⟨by omega, z.2⟩)
    exact this
  · exact ⟨by omega, k.2⟩
theorem sp_mono {o : Out α} {c c' : Nat} {Q Q' : α → Prop} {X X' : Str → List (Str × D) → Prop} (h : o.sp c Q X) (hc : c ≤ c') (hq : ∀ a, Q a → Q' a) (hx : ∀ e fs, X e fs → X' e fs) : o.sp c' Q' X' := by
  constructor
  intro n
  obtain ⟨j, rfl⟩ : ∃ j, c' = c + j := ⟨c' - c, by omega⟩
  rw [show n + (c + j) = n + c + j by omega]
  exact wp_up (h.h n) (fun m a z => ⟨by omega, hq _ z.2⟩) (fun m e fs z => ⟨by omega, hx _ _ z.2⟩)
theorem sp_q {o : Out α} {c : Nat} {Q Q' : α → Prop} {X : Str → List (Str × D) → Prop} (h : o.sp c Q X) (hq : ∀ a, Q a → Q' a) : o.sp c Q' X := sp_mono h (Nat.le_refl _) hq fun _ _ z => z
theorem sp_nox {o : Out α} {c : Nat} {Q : α → Prop} {X : Str → List (Str × D) → Prop} (h : o.sp c Q fun _ _ => False) : o.nox.sp c Q X := by
  constructor
  intro n
  have key : ∀ {o : Out α} {n : Nat} {Q : Nat → α → Prop} {E : Nat → Str → List (Str × D) → Prop}, o.wp n Q (fun _ _ _ => False) → o.nox.wp n Q E := by
    intro o
    induction o with
    | ok a => exact fun h => h
    | exc c fs => exact fun h => h.elim
    | stuck => exact fun h => h.elim
    | any c P k ih =>
      intro n Q E h
      obtain ⟨m, e, h⟩ := h
      exact ⟨m, e, fun d hd => ih d (h d hd)⟩
  exact key (wp_mono (fun _ _ z => z) (fun _ _ _ z => z.2.elim) (h.h n))
theorem sp_eq {o o' : Out α} {c : Nat} {Q : α → Prop} {X : Str → List (Str × D) → Prop} (e : o = o') (h : o'.sp c Q X) : o.sp c Q X := e ▸ h
/-- two steps, the costs known -/
theorem sp_then {o : Out α} {f : α → Out β} {c1 c : Nat} {P : α → Prop} {Q : β → Prop} {X : Str → List (Str × D) → Prop} (h : o.sp c1 P X) (hc : c1 ≤ c) (k : ∀ a, P a → (f a).sp (c - c1) Q X) : (o.bind f).sp c Q X := by
  have := sp_bind (c2 := c - c1) (sp_q h k)
  rw [show c1 + (c - c1) = c by omega] at this
  exact this
end Out
/-- loops whose body neither leaves nor raises -/
theorem forD_sp {γ : D → Rho → Option Rho} {b : Rho → Out Res} {P : Rho → Prop} {c : Nat} {X : Str → List (Str × D) → Prop} : ∀ {ds : List D}, (∀ x ∈ ds, ∀ ρ, P ρ → ∃ ρ1, γ x ρ = some ρ1 ∧ (b ρ1).sp c (fun r => ∃ ρ2, r = .nx ρ2 ∧ P ρ2) X) → ∀ ρ, P ρ → (forD γ b ds ρ).sp (c * ds.length) (fun r => ∃ ρ2, r = .nx ρ2 ∧ P ρ2) X
  | [], _, ρ, h => Out.sp_ok ⟨ρ, rfl, h⟩
  | x :: xs, h, ρ, hp => by
    obtain ⟨ρ1, e, hb⟩ := h x List.mem_cons_self ρ hp
    unfold forD
    simp only [e]
    rw [List.length_cons, Nat.mul_succ, Nat.add_comm]
    refine Out.sp_bind (Out.sp_q hb ?_)
    rintro r ⟨ρ2, rfl, hp2⟩
    exact forD_sp (fun y hy => h y (List.mem_cons_of_mem _ hy)) ρ2 hp2
theorem law_of_sp {N : Nat} {ψ : Rho → Out Res} {c : Nat} (hc : c ≤ budget) (h : ∀ ns : List Int, ns.length ≤ 63 → (ψ (rho0 N ns)).sp c (fun r => r = .rt (.bl true)) (fun _ _ => False)) : LawD N ψ := fun ns hl => by
  have := (h ns hl).h (budget - c)
  rw [show budget - c + c = budget by omega] at this
  refine Out.wp_mono (fun m r k => ?_) (fun _ _ _ z => z.2) this
  rw [k.2]
end ND
namespace ND
open PySem PySem.Spec PyProof.Rows L2
/-! ### comprehensions -/
/-! ### numbers, names -/
def isInt : D → Bool
  | .int _ => true
  | _ => false
theorem is_number_eq {d : D} (h : d ≠ .drw) : F_is_number [d] = .ok (.bl (isInt d)) := by
  cases d <;> first | rfl | exact absurd rfl h
theorem is_within_int {i a b : Int} : F_is_within [.int i, .int a, .int b] = .ok (.bl (decide (a ≤ i) && decide (i ≤ b))) := by
  unfold F_is_within S_is_within
  simp only [fnD, fnN, sSeq, sIf, sRet, sRetN, sDrop, sSet, sNext, sRaise, eVar, eC, eOp, eUn, eCall, eAnd, eOr, eNot, eIf, eChain, eTup, eLst, eLc, iOf, cB, cNot, cAnd, cOr, aNil, aCons, gN, Out.ok_bind, Out.exc_bind, Out.nox_ok, boD_some, List.cons_append, List.nil_append, List.append_nil, List.length_cons, List.length_nil, List.replicate, List.getD_cons_zero, List.getD_cons_succ, List.set_cons_zero, List.set_cons_succ, Nat.reduceAdd, Nat.reduceSub, Nat.reduceLeDiff, List.replicate_succ, List.replicate_zero, cond_true, cond_false, Bool.not_true, Bool.not_false, is_number_eq, isInt, dLe, d2I]
  rw [is_number_eq (by intro z; cases z)]
  simp only [fnD, fnN, sSeq, sIf, sRet, sRetN, sDrop, sSet, sNext, sRaise, eVar, eC, eOp, eUn, eCall, eAnd, eOr, eNot, eIf, eChain, eTup, eLst, eLc, iOf, cB, cNot, cAnd, cOr, aNil, aCons, gN, Out.ok_bind, Out.exc_bind, Out.nox_ok, boD_some, List.cons_append, List.nil_append, List.append_nil, List.length_cons, List.length_nil, List.replicate, List.getD_cons_zero, List.getD_cons_succ, List.set_cons_zero, List.set_cons_succ, Nat.reduceAdd, Nat.reduceSub, Nat.reduceLeDiff, List.replicate_succ, List.replicate_zero, cond_true, cond_false, Bool.not_true, Bool.not_false, isInt]
  cases h : decide (a ≤ i) <;> rfl
theorem is_within_no {d : D} {a b : Int} (h : d ≠ .drw) (hn : isInt d = false) : F_is_within [d, .int a, .int b] = .ok (.bl false) := by
  unfold F_is_within S_is_within
  simp only [fnD, fnN, sSeq, sIf, sRet, sRetN, sDrop, sSet, sNext, sRaise, eVar, eC, eOp, eUn, eCall, eAnd, eOr, eNot, eIf, eChain, eTup, eLst, eLc, iOf, cB, cNot, cAnd, cOr, aNil, aCons, gN, Out.ok_bind, Out.exc_bind, Out.nox_ok, boD_some, List.cons_append, List.nil_append, List.append_nil, List.length_cons, List.length_nil, List.replicate, List.getD_cons_zero, List.getD_cons_succ, List.set_cons_zero, List.set_cons_succ, Nat.reduceAdd, Nat.reduceSub, Nat.reduceLeDiff, List.replicate_succ, List.replicate_zero, cond_true, cond_false, Bool.not_true, Bool.not_false]
  rw [is_number_eq h, hn]
  simp only [fnD, fnN, sSeq, sIf, sRet, sRetN, sDrop, sSet, sNext, sRaise, eVar, eC, eOp, eUn, eCall, eAnd, eOr, eNot, eIf, eChain, eTup, eLst, eLc, iOf, cB, cNot, cAnd, cOr, aNil, aCons, gN, Out.ok_bind, Out.exc_bind, Out.nox_ok, boD_some, List.cons_append, List.nil_append, List.append_nil, List.length_cons, List.length_nil, List.replicate, List.getD_cons_zero, List.getD_cons_succ, List.set_cons_zero, List.set_cons_succ, Nat.reduceAdd, Nat.reduceSub, Nat.reduceLeDiff, List.replicate_succ, List.replicate_zero, cond_true, cond_false, Bool.not_true, Bool.not_false]
/-! ### slots -/
theorem ix0 {a b : D} : dIx (.tup [a, b]) (.int 0) = .ok a := rfl
theorem ix1 {a b : D} : dIx (.tup [a, b]) (.int 1) = .ok b := rfl
theorem eqInt (i j : Int) : dEq (.int i) (.int j) = .ok (.bl (decide (i = j))) := by
  by_cases h : i = j
  · subst h
    rw [decide_eq_true rfl]
    show Out.ok (D.bl (dEqB (.int i) (.int i))) = _
    congr 2
    unfold dEqB
    simp [D.py, PyData.eqv]
  · rw [decide_eq_false h]
    show Out.ok (D.bl (dEqB (.int i) (.int j))) = _
    congr 2
    unfold dEqB
    simp [D.py, PyData.eqv, h]
theorem tkeysL_spots : ∀ ss : List Spot, tkeysL (ss.map encSpot) = some (ss.map fun s => [Sum.inr s.1, Sum.inl s.2])
  | [] => rfl
  | s :: ss => by
    show (tkeys [.str s.1, .int s.2]).bind (fun k => (tkeysL (ss.map encSpot)).map fun ks => k :: ks) = _
    rw [tkeysL_spots ss]
    rfl
/-- slots that Pack takes -/
structure SlotsOk (ss : List Spot) : Prop where
  l1 : 1 ≤ ss.length
  l2 : ss.length ≤ 12
  ok : ∀ s ∈ ss, NameOk s.1 ∧ 0 ≤ s.2 ∧ s.2 ≤ 3
  nd : ss.Nodup
/-! ### packs -/
theorem canSort_spots (ss : List Spot) : canSort (ss.map encSpot) = true := by
  unfold canSort
  have key : ∀ x ∈ ss.map encSpot, ∃ s, x = encSpot s := fun x hx => by
    obtain ⟨s, _, rfl⟩ := List.mem_map.mp hx
    exact ⟨s, rfl⟩
  rw [Bool.and_eq_true, Bool.and_eq_true, Bool.or_eq_true, List.all_eq_true, List.all_eq_true]
  refine ⟨fun x hx => ?_, fun x hx => List.all_eq_true.mpr fun y hy => ?_, .inl (List.all_eq_true.mpr fun x hx => ?_)⟩
  · obtain ⟨s, rfl⟩ := key x hx
    rfl
  · obtain ⟨s, rfl⟩ := key x hx
    obtain ⟨t, rfl⟩ := key y hy
    rfl
  · obtain ⟨s, rfl⟩ := key x hx
    rfl
structure WareP (w : Ware) : Prop where
  sl : SlotsOk w.slots
  a0 : 0 ≤ w.amount
  a3 : w.amount ≤ 3
  co : ∀ c, w.cost = some c → 0 ≤ c ∧ c ≤ 99
  ro : ∀ r, w.roll = some r → NameOk r.1 ∧ 1 ≤ r.2 ∧ r.2 ≤ 3
def packD (w : Ware) : D := .ins "Pack" [("own_slots", .tup (sortD (w.slots.map encSpot))), ("own_amount", .int w.amount), ("own_cost", encOI w.cost), ("own_roll", encOS w.roll)]
theorem seq_nx {a b : Rho → Out Res} {ρ ρ' : Rho} (h : a ρ = .ok (.nx ρ')) : sSeq a b ρ = b ρ' := by
  unfold sSeq
  rw [h]
  rfl
end ND
namespace ND
open PySem PySem.Spec PyProof.Rows L2
theorem lk_hit {f : Str} {d : D} {r : List (Str × D)} : List.lookup f ((f, d) :: r) = some d := by
  rw [List.lookup_cons]
  simp
theorem lk_miss {f g : Str} {d : D} {r : List (Str × D)} (h : decide (f = g) = false) : List.lookup f ((g, d) :: r) = List.lookup f r := by
  rw [List.lookup_cons, show (f == g) = false from beq_eq_false_iff_ne.mpr (of_decide_eq_false h)]
theorem fld_of {c f : Str} {fs : List (Str × D)} {d : D} (h : fs.lookup f = some d) : dFld c f (.ins c fs) = .ok d := by
  unfold dFld
  simp [h, optD]
variable {w : Ware}
theorem pk_slots : dFld "Pack" "own_slots" (packD w) = .ok (.tup (sortD (w.slots.map encSpot))) := fld_of lk_hit
theorem pk_amount : dFld "Pack" "own_amount" (packD w) = .ok (.int w.amount) := fld_of ((lk_miss (by decide +kernel)).trans lk_hit)
theorem pk_cost : dFld "Pack" "own_cost" (packD w) = .ok (encOI w.cost) := fld_of ((lk_miss (by decide +kernel)).trans ((lk_miss (by decide +kernel)).trans lk_hit))
theorem pk_roll : dFld "Pack" "own_roll" (packD w) = .ok (encOS w.roll) := fld_of ((lk_miss (by decide +kernel)).trans ((lk_miss (by decide +kernel)).trans ((lk_miss (by decide +kernel)).trans lk_hit)))
/-- the slots in order, as spots -/
theorem sortD_spots (ss : List Spot) : ∃ ts : List Spot, ts.Perm ss ∧ sortD (ss.map encSpot) = ts.map encSpot := by
  refine ⟨ss.mergeSort fun a b => dLeB (encSpot a) (encSpot b), List.mergeSort_perm _ _, ?_⟩
  unfold sortD
  exact (List.map_mergeSort (f := encSpot) (r := fun a b => dLeB (encSpot a) (encSpot b)) (s := dLeB) fun a _ b _ => rfl).symm
theorem lc_gT {ρ : Rho} {x y : Nat} {b : Rho → Out D} {f : Spot → D} : ∀ {ss : List Spot}, (∀ s ∈ ss, b ((ρ.set x (.str s.1)).set y (.int s.2)) = .ok (f s)) → lcD (gT (gsCons (gN x) (gsCons (gN y) gsNil))) cYes b ρ (ss.map encSpot) = .ok (ss.map f)
  | [], _ => rfl
  | s :: ss, h => by
    have e : gT (gsCons (gN x) (gsCons (gN y) gsNil)) (encSpot s) ρ = some ((ρ.set x (.str s.1)).set y (.int s.2)) := rfl
    rw [List.map_cons]
    unfold lcD
    simp only [e, cYes, Out.nox_ok, Out.ok_bind, cond_true, h s List.mem_cons_self]
    rw [lc_gT fun t ht => h t (List.mem_cons_of_mem _ ht)]
    rfl
theorem ints_of {α : Type} {f : α → Int} : ∀ {xs : List α}, intsD (xs.map fun x => D.int (f x)) = some (xs.map f)
  | [] => rfl
  | x :: xs => by
    show (intsD (xs.map fun x => D.int (f x))).map _ = _
    rw [ints_of]
    rfl
theorem fold_is : ∀ {xs : List Int} {x m : Int}, m ∈ x :: xs → (∀ y ∈ x :: xs, y ≤ m) → xs.foldl max x = m
  | [], x, m, hm, _ => (List.mem_singleton.mp hm).symm
  | y :: xs, x, m, hm, hy => by
    rw [List.foldl_cons]
    have h1 := hy x List.mem_cons_self
    have h2 := hy y (List.mem_cons_of_mem _ List.mem_cons_self)
    refine fold_is ?_ fun z hz => ?_
    · rcases List.mem_cons.mp hm with e | hm
      · rw [show max x y = m by omega]
        exact List.mem_cons_self
      · rcases List.mem_cons.mp hm with e | hm
        · rw [show max x y = m by omega]
          exact List.mem_cons_self
        · exact List.mem_cons_of_mem _ hm
    · rcases List.mem_cons.mp hz with e | hz
      · omega
      · exact hy z (List.mem_cons_of_mem _ (List.mem_cons_of_mem _ hz))
theorem maxL_is {xs : List Int} {m : Int} (hm : m ∈ xs) (hy : ∀ y ∈ xs, y ≤ m) : maxL xs = some m := by
  cases xs with
  | nil => cases hm
  | cons x xs => exact congrArg some (fold_is hm hy)
theorem last_ok {w : Ware} (h : w.slots ≠ []) : F_Pack_last [packD w] = .ok (.int (lastS w.slots)) := by
  obtain ⟨ts, hp, hs⟩ := sortD_spots w.slots
  unfold F_Pack_last S_Pack_last
  have e : lcD (gT (gsCons (gN 1) (gsCons (gN 2) gsNil))) cYes (eVar 2) [packD w, .non, .non] (ts.map encSpot) = .ok (ts.map fun s => .int s.2) := lc_gT fun s hs => rfl
  have m : maxL (ts.map (·.2)) = some (lastS w.slots) := maxL_is ((hp.map (·.2)).symm.subset (lastS_mem h)) fun y hy => lastS_max ((hp.map (·.2)).subset hy)
  have e2 : dMax [.lst (ts.map fun s => D.int s.2)] = .ok (.int (lastS w.slots)) := by
    show (match (intsD _).bind maxL with | some m => _ | none => _) = _
    rw [ints_of (f := fun s : Spot => s.2)]
    show (match maxL (ts.map fun s => s.2) with | some m => _ | none => _) = _
    rw [m]
  simp only [fnD, fnN, sSeq, sIf, sRet, sRetN, sDrop, sSet, sNext, sRaise, eVar, eC, eOp, eUn, eCall, eAnd, eOr, eNot, eIf, eChain, eTup, eLst, eLc, iOf, cB, cNot, cAnd, cOr, aNil, aCons, gN, Out.ok_bind, Out.exc_bind, Out.nox_ok, boD_some, List.cons_append, List.nil_append, List.append_nil, List.length_cons, List.length_nil, List.replicate, List.getD_cons_zero, List.getD_cons_succ, List.set_cons_zero, List.set_cons_succ, Nat.reduceAdd, Nat.reduceSub, Nat.reduceLeDiff, List.replicate_succ, List.replicate_zero, cond_true, cond_false, Bool.not_true, Bool.not_false, pk_slots, itemsT, hs, e, e2]
end ND
/-! plain ground: comprehensions that draw, caught calls -/
namespace ND
open PySem PySem.Spec PyProof.Rows L2
theorem wp_cau {f : D → Out Res} {g : Str → List (Str × D) → Out Res} {Q : Nat → Res → Prop} {E : Nat → Str → List (Str × D) → Prop} : ∀ {o : Out D} {m : Nat}, o.wp m (fun m d => (f d).wp m Q E) (fun m c fs => (g c fs).wp m Q E) → (o.cau f g).wp m Q E
  | .ok d, m, h => h
  | .exc c fs, m, h => h
  | .stuck, _, h => h.elim
  | .any c P k, _, h => by
    obtain ⟨m', e, h⟩ := h
    exact ⟨m', e, fun d hd => wp_cau (h d hd)⟩
theorem sp_cau {o : Out D} {f : D → Out Res} {g : Str → List (Str × D) → Out Res} {c : Nat} {P : D → Prop} {X X' : Str → List (Str × D) → Prop} {Q : Res → Prop} (h : o.sp c P X) (hf : ∀ d, P d → (f d).sp 0 Q X') (hg : ∀ e fs, X e fs → (g e fs).sp 0 Q X') : (o.cau f g).sp c Q X' := by
  constructor
  intro n
  refine wp_cau (Out.wp_mono (fun m d k => ?_) (fun m e fs k => ?_) (h.h n))
  · have := (hf d k.2).h m
    exact Out.wp_mono (fun m' r k' => ⟨Nat.le_trans k.1 k'.1, k'.2⟩) (fun m' e fs k' => ⟨Nat.le_trans k.1 k'.1, k'.2⟩) this
  · have := (hg e fs k.2).h m
    exact Out.wp_mono (fun m' r k' => ⟨Nat.le_trans k.1 k'.1, k'.2⟩) (fun m' e fs k' => ⟨Nat.le_trans k.1 k'.1, k'.2⟩) this
/-- x = caught(lambda: ys.append(e)), ys being empty -/
theorem sp_cauApp {i j : Nat} {a : Rho → Out D} {ρ : Rho} {c : Nat} {P : D → Prop} {X X' : Str → List (Str × D) → Prop} {Q : Res → Prop} (hj : ρ.getD j .non = .lst []) (h : (a ρ).sp c P X) (hf : ∀ d, P d → Q (.nx ((ρ.set j (.lst [d])).set i .non))) (hg : ∀ e fs, X e fs → Q (.nx (ρ.set i (.exc e fs)))) : (sCauApp i j a ρ).sp c Q X' := by
  unfold sCauApp onL
  rw [hj]
  refine sp_cau h (fun d hd => ?_) (fun e fs hx => Out.sp_ok (hg e fs hx))
  exact Out.sp_ok (hf d hd)
end ND
/-! outcomes of the small pieces -/
namespace ND
open PySem PySem.Spec PyProof.Rows L2
section
variable {ρ : Rho} {X : Str → List (Str × D) → Prop} {a b : Rho → Out D} {P : D → Prop} {c c1 c2 : Nat}
theorem sp_set {i : Nat} (h : (a ρ).sp c P X) : (sSet i a ρ).sp c (fun r => ∃ d, P d ∧ r = .nx (ρ.set i d)) X :=
  Out.sp_then h (Nat.le_refl _) fun d hd => Out.sp_mono (Out.sp_ok (c := 0) ⟨d, hd, rfl⟩) (Nat.zero_le _) (fun _ z => z) fun _ _ z => z
theorem sp_call2 {F : List D → Out D} {Q : D → Prop} {x : D} (h1 : a ρ = .ok x) (h : (b ρ).sp c1 P X) (k : ∀ d, P d → (F [x, d]).sp c2 Q X) : (eCall F (aCons a (aCons b aNil)) ρ).sp (c1 + c2) Q X := by
  have e : eCall F (aCons a (aCons b aNil)) ρ = (b ρ).bind fun d => F [x, d] := by
    show Out.bind (Out.bind (a ρ) fun x => Out.bind (Out.bind (b ρ) fun y => Out.bind (Out.ok []) fun xs => .ok (y :: xs)) fun xs => .ok (x :: xs)) F = _
    rw [h1, Out.ok_bind, Out.bind_assoc, Out.bind_assoc]
    rfl
  rw [e]
  exact Out.sp_then h (Nat.le_add_right _ _) fun d hd => Out.sp_mono (k d hd) (by omega) (fun _ z => z) fun _ _ z => z
theorem if_nob {t : Rho → Out Bool} {A B : Rho → Out Res} (h : t ρ = .ok false) : sIf t A B ρ = B ρ := by
  unfold sIf
  rw [h]
  rfl
theorem if_yesb {t : Rho → Out Bool} {A B : Rho → Out Res} (h : t ρ = .ok true) : sIf t A B ρ = A ρ := by
  unfold sIf
  rw [h]
  rfl
theorem sp_cB {v : Bool} (h : (a ρ).sp c (fun d => d = .bl v) X) : (cB a ρ).sp c (fun x => x = v) X :=
  Out.sp_then h (Nat.le_refl _) fun d hd => by
    subst hd
    exact Out.sp_mono (Out.sp_ok (c := 0) rfl) (Nat.zero_le _) (fun _ z => z.symm) fun _ _ z => z
theorem sp_not {t : Rho → Out Bool} (h : (t ρ).sp c (fun x => x = true) X) : (cNot t ρ).sp c (fun x => x = false) X :=
  Out.sp_then h (Nat.le_refl _) fun d hd => by
    subst hd
    exact Out.sp_mono (Out.sp_ok (c := 0) rfl) (Nat.zero_le _) (fun _ z => z.symm) fun _ _ z => z
theorem sp_or {t u : Rho → Out Bool} (h1 : (t ρ).sp c1 (fun x => x = false) X) (h2 : (u ρ).sp c2 (fun x => x = false) X) : (cOr t u ρ).sp (c1 + c2) (fun x => x = false) X :=
  Out.sp_then h1 (Nat.le_add_right _ _) fun d hd => by
    subst hd
    exact Out.sp_mono h2 (by omega) (fun _ z => z) fun _ _ z => z
theorem sp_ifno {t : Rho → Out Bool} {A : Rho → Out Res} (h : (t ρ).sp c (fun x => x = false) X) : (sIf t A sNext ρ).sp c (fun r => ∃ ρ', r = .nx ρ' ∧ ρ' = ρ) X :=
  Out.sp_then h (Nat.le_refl _) fun d hd => by
    subst hd
    exact Out.sp_mono (Out.sp_ok (c := 0) ⟨_, rfl, rfl⟩) (Nat.zero_le _) (fun _ z => z) fun _ _ z => z
theorem sp_is {α : Type} {o : Out α} {v : α} (h : o = .ok v) : o.sp c (fun d => d = v) X := by
  rw [h]
  exact Out.sp_mono (Out.sp_ok (c := 0) rfl) (Nat.zero_le _) (fun _ z => z.symm) fun _ _ z => z
end
end ND
/-! k02: what a part is, by the program and by the law -/
namespace ND
open PySem PySem.Spec PyProof.Rows L2
section
variable {x y S : D} {xs ys : List D} {z : Str} {a b i : Int} {ss : List Spot}
/-! ### names -/
def nmB : D → Bool
  | .str z => decide (NameOk z)
  | _ => false
theorem boolsD_mp {α : Type} (p : α → Bool) : ∀ xs : List α, boolsD (xs.map fun x => .bl (p x)) = some (xs.map p)
  | [] => rfl
  | x :: xs => by
    show (boolsD (xs.map fun x => .bl (p x))).map _ = _
    rw [boolsD_mp p xs]
    rfl
theorem dAll_map {α : Type} (p : α → Bool) (xs : List α) : dAll [.lst (xs.map fun x => .bl (p x))] = .ok (.bl (xs.all p)) := by
  show (match boolsD (xs.map fun x => .bl (p x)) with | some bs => Out.ok (D.bl (bs.all id)) | none => .stuck) = _
  rw [boolsD_mp]
  show Out.ok (D.bl ((xs.map p).all id)) = _
  rw [List.all_map]
  rfl
theorem lc_mapE {α : Type} {enc f : α → D} {γ : D → Rho → Option Rho} {b : Rho → Out D} {ρ : Rho} : ∀ {xs : List α}, (∀ x ∈ xs, ∃ ρ1, γ (enc x) ρ = some ρ1 ∧ b ρ1 = .ok (f x)) → lcD γ cYes b ρ (xs.map enc) = .ok (xs.map f)
  | [], _ => rfl
  | x :: xs, h => by
    obtain ⟨ρ1, e1, e2⟩ := h x List.mem_cons_self
    rw [List.map_cons]
    unfold lcD
    simp only [e1, e2, cYes, Out.nox_ok, Out.ok_bind, cond_true]
    rw [lc_mapE fun y hy => h y (List.mem_cons_of_mem _ hy)]
    rfl
theorem lc_filE {α : Type} {enc f : α → D} {γ : D → Rho → Option Rho} {c : Rho → Out Bool} {b : Rho → Out D} {ρ : Rho} (p : α → Bool) : ∀ {xs : List α}, (∀ x ∈ xs, ∃ ρ1, γ (enc x) ρ = some ρ1 ∧ c ρ1 = .ok (p x) ∧ b ρ1 = .ok (f x)) → lcD γ c b ρ (xs.map enc) = .ok ((xs.filter p).map f)
  | [], _ => rfl
  | x :: xs, h => by
    obtain ⟨ρ1, e1, e2, e3⟩ := h x List.mem_cons_self
    have ih := lc_filE (f := f) p fun y hy => h y (List.mem_cons_of_mem _ hy)
    rw [List.map_cons]
    unfold lcD
    cases hp : p x with
    | true =>
      rw [hp] at e2
      simp only [e1, e2, e3, Out.nox_ok, Out.ok_bind, cond_true, ih]
      rw [List.filter_cons_of_pos hp]
      rfl
    | false =>
      rw [hp] at e2
      simp only [e1, e2, Out.nox_ok, Out.ok_bind, cond_false, ih]
      rw [List.filter_cons_of_neg (by rw [hp]; exact Bool.false_ne_true)]
abbrev abcL : Str := "abcdefghijklmnopqrstuvwxyz"
theorem nameOk_iff : NameOk z ↔ 1 ≤ z.length ∧ z.length ≤ 6 ∧ (z.cps.toList.all fun c => decide (c ∈ abcL.cps.toList)) = true := by
  unfold NameOk
  rw [List.all_eq_true]
  constructor
  · exact fun h => ⟨h.1, h.2.1, fun c hc => decide_eq_true (h.2.2 c hc)⟩
  · exact fun h => ⟨h.1, h.2.1, fun c hc => of_decide_eq_true (h.2.2 c hc)⟩
theorem name_str (z : Str) : F_is_name [.str z] = .ok (.bl (decide (NameOk z))) := by
  by_cases h1 : 1 ≤ z.length
  · by_cases h2 : z.length ≤ 6
    · have e1 : decide ((1 : Int) ≤ (z.length : Nat)) = true := decide_eq_true (by omega)
      have e2 : decide (((z.length : Nat) : Int) ≤ 6) = true := decide_eq_true (by omega)
      have e3 : isTyS (tyOfD (.str z)) "str" = true := rfl
      have e4 : lcD (gN 1) cYes (eOp (dInS false) (eVar 1) (eC (D.str (Str.ofString "abcdefghijklmnopqrstuvwxyz")))) [.str z, .non] (signs z) = .ok (z.cps.toList.map fun c => .bl (decide (c ∈ abcL.cps.toList))) := by
        refine lc_mapE (enc := fun c => D.str ⟨#[c]⟩) fun c hc => ⟨_, rfl, ?_⟩
        show Out.ok (D.bl (false ^^ decide (c ∈ abcL.cps.toList))) = _
        rw [Bool.false_xor]
      unfold F_is_name S_is_name
      simp only [fnD, fnN, sSeq, sIf, sRet, sRetN, sDrop, sSet, sNext, sRaise, eVar, eC, eOp, eUn, eCall, eAnd, eOr, eNot, eIf, eChain, eTup, eLst, eLc, iOf, cB, cNot, cAnd, cOr, aNil, aCons, gN, Out.ok_bind, Out.exc_bind, Out.nox_ok, boD_some, List.cons_append, List.nil_append, List.append_nil, List.length_cons, List.length_nil, List.replicate, List.getD_cons_zero, List.getD_cons_succ, List.set_cons_zero, List.set_cons_succ, Nat.reduceAdd, Nat.reduceSub, Nat.reduceLeDiff, List.replicate_succ, List.replicate_zero, cond_true, cond_false, Bool.not_true, Bool.not_false, dIsTyB, dLen, dLe, d2I, e1, e2, e3, itemsS, e4]
      rw [dAll_map]
      have : decide (NameOk z) = z.cps.toList.all fun c => decide (c ∈ abcL.cps.toList) := by
        by_cases h : NameOk z
        · rw [decide_eq_true h, (nameOk_iff.mp h).2.2]
        · rw [decide_eq_false h]
          cases hb : z.cps.toList.all fun c => decide (c ∈ abcL.cps.toList) with
          | false => rfl
          | true => exact absurd (nameOk_iff.mpr ⟨h1, h2, hb⟩) h
      rw [this]
      rfl
    · have e1 : decide ((1 : Int) ≤ (z.length : Nat)) = true := decide_eq_true (by omega)
      have e2 : decide (((z.length : Nat) : Int) ≤ 6) = false := decide_eq_false (by omega)
      have e3 : isTyS (tyOfD (.str z)) "str" = true := rfl
      unfold F_is_name S_is_name
      simp only [fnD, fnN, sSeq, sIf, sRet, sRetN, sDrop, sSet, sNext, sRaise, eVar, eC, eOp, eUn, eCall, eAnd, eOr, eNot, eIf, eChain, eTup, eLst, eLc, iOf, cB, cNot, cAnd, cOr, aNil, aCons, gN, Out.ok_bind, Out.exc_bind, Out.nox_ok, boD_some, List.cons_append, List.nil_append, List.append_nil, List.length_cons, List.length_nil, List.replicate, List.getD_cons_zero, List.getD_cons_succ, List.set_cons_zero, List.set_cons_succ, Nat.reduceAdd, Nat.reduceSub, Nat.reduceLeDiff, List.replicate_succ, List.replicate_zero, cond_true, cond_false, Bool.not_true, Bool.not_false, dIsTyB, dLen, dLe, d2I, e1, e2, e3]
      rw [decide_eq_false fun h : NameOk z => h2 h.2.1]
  · have e1 : decide ((1 : Int) ≤ (z.length : Nat)) = false := decide_eq_false (by omega)
    have e3 : isTyS (tyOfD (.str z)) "str" = true := rfl
    unfold F_is_name S_is_name
    simp only [fnD, fnN, sSeq, sIf, sRet, sRetN, sDrop, sSet, sNext, sRaise, eVar, eC, eOp, eUn, eCall, eAnd, eOr, eNot, eIf, eChain, eTup, eLst, eLc, iOf, cB, cNot, cAnd, cOr, aNil, aCons, gN, Out.ok_bind, Out.exc_bind, Out.nox_ok, boD_some, List.cons_append, List.nil_append, List.append_nil, List.length_cons, List.length_nil, List.replicate, List.getD_cons_zero, List.getD_cons_succ, List.set_cons_zero, List.set_cons_succ, Nat.reduceAdd, Nat.reduceSub, Nat.reduceLeDiff, List.replicate_succ, List.replicate_zero, cond_true, cond_false, Bool.not_true, Bool.not_false, dIsTyB, dLen, dLe, d2I, e1, e3]
    rw [decide_eq_false fun h : NameOk z => h1 h.1]
theorem name_all (h : x ≠ .drw) : F_is_name [x] = .ok (.bl (nmB x)) := by
  cases x with
  | str z => exact name_str z
  | drw => exact absurd rfl h
  | _ => rfl
theorem strs_pl {zs : List Nat} : D.pl 8 (.lst (zs.map fun c => .str ⟨#[c]⟩)) = true := by
  show (zs.map fun c => D.str ⟨#[c]⟩).all (D.pl 7) = true
  rw [List.all_eq_true]
  intro y hy
  obtain ⟨c, _, rfl⟩ := List.mem_map.mp hy
  rfl
theorem eq_nil {xs : List D} (h : D.pl 8 (.lst xs) = true) : dEq (.lst xs) (.lst []) = .ok (.bl xs.isEmpty) := by
  unfold dEq
  rw [h]
  cases xs <;> rfl
theorem short_str (z : Str) : F__law_is_short [.str z] = .ok (.bl (decide (NameOk z))) := by
  by_cases h1 : 1 ≤ z.length
  · by_cases h2 : z.length ≤ 6
    · have e1 : decide ((1 : Int) ≤ (z.length : Nat)) = true := decide_eq_true (by omega)
      have e2 : decide (((z.length : Nat) : Int) ≤ 6) = true := decide_eq_true (by omega)
      have e3 : isTyS (tyOfD (.str z)) "str" = true := rfl
      have e4 : lcD (gN 1) (cB (eOp (dInS true) (eVar 1) (eC (D.str (Str.ofString "abcdefghijklmnopqrstuvwxyz"))))) (eVar 1) [.str z, .non] (signs z) = .ok ((z.cps.toList.filter fun c => !decide (c ∈ abcL.cps.toList)).map fun c => .str ⟨#[c]⟩) := by
        refine lc_filE (enc := fun c => D.str ⟨#[c]⟩) (fun c => !decide (c ∈ abcL.cps.toList)) fun c hc => ⟨_, rfl, ?_, rfl⟩
        show Out.ok (true ^^ decide (c ∈ abcL.cps.toList)) = _
        rw [Bool.true_xor]
      have e5 := eq_nil (strs_pl (zs := z.cps.toList.filter fun c => !decide (c ∈ abcL.cps.toList)))
      unfold F__law_is_short S__law_is_short
      simp only [fnD, fnN, sSeq, sIf, sRet, sRetN, sDrop, sSet, sNext, sRaise, eVar, eC, eOp, eUn, eCall, eAnd, eOr, eNot, eIf, eChain, eTup, eLst, eLc, iOf, cB, cNot, cAnd, cOr, aNil, aCons, gN, Out.ok_bind, Out.exc_bind, Out.nox_ok, boD_some, List.cons_append, List.nil_append, List.append_nil, List.length_cons, List.length_nil, List.replicate, List.getD_cons_zero, List.getD_cons_succ, List.set_cons_zero, List.set_cons_succ, Nat.reduceAdd, Nat.reduceSub, Nat.reduceLeDiff, List.replicate_succ, List.replicate_zero, cond_true, cond_false, Bool.not_true, Bool.not_false, dIsTyB, dLen, dLe, d2I, e1, e2, e3, itemsS, e4, e5]
      have : decide (NameOk z) = ((z.cps.toList.filter fun c => !decide (c ∈ abcL.cps.toList)).map fun c => D.str ⟨#[c]⟩).isEmpty := by
        rw [List.isEmpty_map]
        by_cases h : NameOk z
        · rw [decide_eq_true h]
          symm
          rw [List.isEmpty_iff, List.filter_eq_nil_iff]
          intro c hc
          have hm : c ∈ abcL.cps.toList := h.2.2 c hc
          rw [decide_eq_true hm]
          exact Bool.false_ne_true
        · rw [decide_eq_false h]
          symm
          cases hb : (z.cps.toList.filter fun c => !decide (c ∈ abcL.cps.toList)).isEmpty with
          | false => rfl
          | true =>
            rw [List.isEmpty_iff, List.filter_eq_nil_iff] at hb
            refine absurd (⟨h1, h2, fun c hc => ?_⟩ : NameOk z) h
            by_cases hm : c ∈ abcL.cps.toList
            · exact hm
            · have := hb c hc
              rw [decide_eq_false hm] at this
              exact absurd rfl this
      rw [this]
    · have e1 : decide ((1 : Int) ≤ (z.length : Nat)) = true := decide_eq_true (by omega)
      have e2 : decide (((z.length : Nat) : Int) ≤ 6) = false := decide_eq_false (by omega)
      have e3 : isTyS (tyOfD (.str z)) "str" = true := rfl
      unfold F__law_is_short S__law_is_short
      simp only [fnD, fnN, sSeq, sIf, sRet, sRetN, sDrop, sSet, sNext, sRaise, eVar, eC, eOp, eUn, eCall, eAnd, eOr, eNot, eIf, eChain, eTup, eLst, eLc, iOf, cB, cNot, cAnd, cOr, aNil, aCons, gN, Out.ok_bind, Out.exc_bind, Out.nox_ok, boD_some, List.cons_append, List.nil_append, List.append_nil, List.length_cons, List.length_nil, List.replicate, List.getD_cons_zero, List.getD_cons_succ, List.set_cons_zero, List.set_cons_succ, Nat.reduceAdd, Nat.reduceSub, Nat.reduceLeDiff, List.replicate_succ, List.replicate_zero, cond_true, cond_false, Bool.not_true, Bool.not_false, dIsTyB, dLen, dLe, d2I, e1, e2, e3]
      rw [decide_eq_false fun h : NameOk z => h2 h.2.1]
  · have e1 : decide ((1 : Int) ≤ (z.length : Nat)) = false := decide_eq_false (by omega)
    have e3 : isTyS (tyOfD (.str z)) "str" = true := rfl
    unfold F__law_is_short S__law_is_short
    simp only [fnD, fnN, sSeq, sIf, sRet, sRetN, sDrop, sSet, sNext, sRaise, eVar, eC, eOp, eUn, eCall, eAnd, eOr, eNot, eIf, eChain, eTup, eLst, eLc, iOf, cB, cNot, cAnd, cOr, aNil, aCons, gN, Out.ok_bind, Out.exc_bind, Out.nox_ok, boD_some, List.cons_append, List.nil_append, List.append_nil, List.length_cons, List.length_nil, List.replicate, List.getD_cons_zero, List.getD_cons_succ, List.set_cons_zero, List.set_cons_succ, Nat.reduceAdd, Nat.reduceSub, Nat.reduceLeDiff, List.replicate_succ, List.replicate_zero, cond_true, cond_false, Bool.not_true, Bool.not_false, dIsTyB, dLen, dLe, d2I, e1, e3]
    rw [decide_eq_false fun h : NameOk z => h1 h.1]
theorem short_all (h : x ≠ .drw) : F__law_is_short [x] = .ok (.bl (nmB x)) := by
  cases x with
  | str z => exact short_str z
  | drw => exact absurd rfl h
  | _ => rfl
/-! ### numbers -/
def inB (a b : Int) : D → Bool
  | .int i => decide (a ≤ i) && decide (i ≤ b)
  | _ => false
theorem within_all (h : x ≠ .drw) : F_is_within [x, .int a, .int b] = .ok (.bl (inB a b x)) := by
  cases x with
  | int i => exact is_within_int
  | drw => exact absurd rfl h
  | _ => exact is_within_no h rfl
theorem num_eq {d : D} (h : d ≠ .drw) : F__law_is_number [d] = .ok (.bl (isInt d)) := by
  cases d <;> first | rfl | exact absurd rfl h
theorem in_int : F__law_is_in [.int i, .int a, .int b] = .ok (.bl (decide (a ≤ i) && decide (i ≤ b))) := by
  unfold F__law_is_in S__law_is_in
  simp only [fnD, fnN, sSeq, sIf, sRet, sRetN, sDrop, sSet, sNext, sRaise, eVar, eC, eOp, eUn, eCall, eAnd, eOr, eNot, eIf, eChain, eTup, eLst, eLc, iOf, cB, cNot, cAnd, cOr, aNil, aCons, gN, Out.ok_bind, Out.exc_bind, Out.nox_ok, boD_some, List.cons_append, List.nil_append, List.append_nil, List.length_cons, List.length_nil, List.replicate, List.getD_cons_zero, List.getD_cons_succ, List.set_cons_zero, List.set_cons_succ, Nat.reduceAdd, Nat.reduceSub, Nat.reduceLeDiff, List.replicate_succ, List.replicate_zero, cond_true, cond_false, Bool.not_true, Bool.not_false, dLe, d2I]
  rw [num_eq (by intro z; cases z)]
  simp only [fnD, fnN, sSeq, sIf, sRet, sRetN, sDrop, sSet, sNext, sRaise, eVar, eC, eOp, eUn, eCall, eAnd, eOr, eNot, eIf, eChain, eTup, eLst, eLc, iOf, cB, cNot, cAnd, cOr, aNil, aCons, gN, Out.ok_bind, Out.exc_bind, Out.nox_ok, boD_some, List.cons_append, List.nil_append, List.append_nil, List.length_cons, List.length_nil, List.replicate, List.getD_cons_zero, List.getD_cons_succ, List.set_cons_zero, List.set_cons_succ, Nat.reduceAdd, Nat.reduceSub, Nat.reduceLeDiff, List.replicate_succ, List.replicate_zero, cond_true, cond_false, Bool.not_true, Bool.not_false, isInt]
  cases h : decide (a ≤ i) <;> rfl
theorem in_no (h : x ≠ .drw) (hn : isInt x = false) : F__law_is_in [x, .int a, .int b] = .ok (.bl false) := by
  unfold F__law_is_in S__law_is_in
  simp only [fnD, fnN, sSeq, sIf, sRet, sRetN, sDrop, sSet, sNext, sRaise, eVar, eC, eOp, eUn, eCall, eAnd, eOr, eNot, eIf, eChain, eTup, eLst, eLc, iOf, cB, cNot, cAnd, cOr, aNil, aCons, gN, Out.ok_bind, Out.exc_bind, Out.nox_ok, boD_some, List.cons_append, List.nil_append, List.append_nil, List.length_cons, List.length_nil, List.replicate, List.getD_cons_zero, List.getD_cons_succ, List.set_cons_zero, List.set_cons_succ, Nat.reduceAdd, Nat.reduceSub, Nat.reduceLeDiff, List.replicate_succ, List.replicate_zero, cond_true, cond_false, Bool.not_true, Bool.not_false]
  rw [num_eq h, hn]
  simp only [fnD, fnN, sSeq, sIf, sRet, sRetN, sDrop, sSet, sNext, sRaise, eVar, eC, eOp, eUn, eCall, eAnd, eOr, eNot, eIf, eChain, eTup, eLst, eLc, iOf, cB, cNot, cAnd, cOr, aNil, aCons, gN, Out.ok_bind, Out.exc_bind, Out.nox_ok, boD_some, List.cons_append, List.nil_append, List.append_nil, List.length_cons, List.length_nil, List.replicate, List.getD_cons_zero, List.getD_cons_succ, List.set_cons_zero, List.set_cons_succ, Nat.reduceAdd, Nat.reduceSub, Nat.reduceLeDiff, List.replicate_succ, List.replicate_zero, cond_true, cond_false, Bool.not_true, Bool.not_false]
theorem in_all (h : x ≠ .drw) : F__law_is_in [x, .int a, .int b] = .ok (.bl (inB a b x)) := by
  cases x with
  | int i => exact in_int
  | drw => exact absurd rfl h
  | _ => exact in_no h rfl
/-! ### slots -/
def slB : D → Bool
  | .tup [x, y] => nmB x && inB 0 3 y
  | _ => false
/-- no draw is in a pair -/
def fineB : D → Bool
  | .drw => false
  | .tup xs => xs.all fun x => match x with
    | .drw => false
    | _ => true
  | _ => true
theorem fine_ne (h : fineB x = true) : x ≠ .drw := fun z => by
  rw [z] at h
  exact Bool.noConfusion h
theorem fine_mem (h : fineB (.tup xs) = true) {y : D} (hy : y ∈ xs) : y ≠ .drw := fun z => by
  have := List.all_eq_true.mp h y hy
  rw [z] at this
  exact Bool.noConfusion this
theorem lenNe (n : Nat) (h : n ≠ 2) : dEq (.int (n : Nat)) (.int 2) = .ok (.bl false) := by
  rw [eqInt]
  rw [decide_eq_false (by omega)]
theorem len2 : dEq (.int ((2 : Nat) : Int)) (.int 2) = .ok (.bl true) := eqInt _ _
theorem sub41 : dSub (.int 4) (.int 1) = .ok (.int 3) := rfl
theorem slot_ne (h : xs.length ≠ 2) : F_is_slot [.tup xs] = .ok (.bl false) := by
  unfold F_is_slot S_is_slot
  have e3 : isTyS (tyOfD (.tup xs)) "tuple" = true := rfl
  simp only [fnD, fnN, sSeq, sIf, sRet, sRetN, sDrop, sSet, sNext, sRaise, eVar, eC, eOp, eUn, eCall, eAnd, eOr, eNot, eIf, eChain, eTup, eLst, eLc, iOf, cB, cNot, cAnd, cOr, aNil, aCons, gN, Out.ok_bind, Out.exc_bind, Out.nox_ok, boD_some, List.cons_append, List.nil_append, List.append_nil, List.length_cons, List.length_nil, List.replicate, List.getD_cons_zero, List.getD_cons_succ, List.set_cons_zero, List.set_cons_succ, Nat.reduceAdd, Nat.reduceSub, Nat.reduceLeDiff, List.replicate_succ, List.replicate_zero, cond_true, cond_false, Bool.not_true, Bool.not_false, dIsTyB, dLen, e3, lenNe _ h]
theorem slB_ne (h : xs.length ≠ 2) : slB (.tup xs) = false := by
  match xs, h with
  | [], _ => rfl
  | [_], _ => rfl
  | [_, _], h => exact absurd rfl h
  | _ :: _ :: _ :: _, _ => rfl
theorem slot_all (h : fineB x = true) : F_is_slot [x] = .ok (.bl (slB x)) := by
  cases x with
  | drw => exact absurd rfl (fine_ne h)
  | tup xs =>
    by_cases hl : xs.length = 2
    · match xs, hl, h with
      | [p, q], _, h =>
        have e3 : isTyS (tyOfD (.tup [p, q])) "tuple" = true := rfl
        have k1 := name_all (x := p) (fine_mem h List.mem_cons_self)
        have k2 := within_all (a := 0) (b := 3) (x := q) (fine_mem h (List.mem_cons_of_mem _ List.mem_cons_self))
        unfold F_is_slot S_is_slot
        simp only [fnD, fnN, sSeq, sIf, sRet, sRetN, sDrop, sSet, sNext, sRaise, eVar, eC, eOp, eUn, eCall, eAnd, eOr, eNot, eIf, eChain, eTup, eLst, eLc, iOf, cB, cNot, cAnd, cOr, aNil, aCons, gN, Out.ok_bind, Out.exc_bind, Out.nox_ok, boD_some, List.cons_append, List.nil_append, List.append_nil, List.length_cons, List.length_nil, List.replicate, List.getD_cons_zero, List.getD_cons_succ, List.set_cons_zero, List.set_cons_succ, Nat.reduceAdd, Nat.reduceSub, Nat.reduceLeDiff, List.replicate_succ, List.replicate_zero, cond_true, cond_false, Bool.not_true, Bool.not_false, dIsTyB, dLen, e3, len2, ix0, ix1, k1, sub41]
        show _ = Out.ok (D.bl (nmB p && inB 0 3 q))
        cases hp : nmB p with
        | false => rfl
        | true =>
          simp only [fnD, fnN, sSeq, sIf, sRet, sRetN, sDrop, sSet, sNext, sRaise, eVar, eC, eOp, eUn, eCall, eAnd, eOr, eNot, eIf, eChain, eTup, eLst, eLc, iOf, cB, cNot, cAnd, cOr, aNil, aCons, gN, Out.ok_bind, Out.exc_bind, Out.nox_ok, boD_some, List.cons_append, List.nil_append, List.append_nil, List.length_cons, List.length_nil, List.replicate, List.getD_cons_zero, List.getD_cons_succ, List.set_cons_zero, List.set_cons_succ, Nat.reduceAdd, Nat.reduceSub, Nat.reduceLeDiff, List.replicate_succ, List.replicate_zero, cond_true, cond_false, Bool.not_true, Bool.not_false, k2]
          cases inB 0 3 q <;> rfl
    · rw [slot_ne hl, slB_ne hl]
  | _ => rfl
end
end ND
/-! k02: slots, rolls, what is wrong, packs -/
namespace ND
open PySem PySem.Spec PyProof.Rows L2
abbrev b__law_are_spots_1_1 : Rho → Out Res := (sIf (cOr (cNot (cB (eUn (fun d => boD (dIsTyB "tuple" d)) (eVar 1)))) (cOr (cB (eOp dNe (eCall dLen (aCons (eVar 1) aNil)) (eC (.int 2)))) (cOr (cNot (cB (eCall F__law_is_short (aCons (eOp dIx (eVar 1) (eC (.int 0))) aNil)))) (cNot (cB (eCall F__law_is_in (aCons (eOp dIx (eVar 1) (eC (.int 1))) (aCons (eC (.int 0)) (aCons (eC (.int 3)) aNil))))))))) (sRet (eC (.bl false))) sNext)
def B__law_are_spots_1 : Rho → Out Res := b__law_are_spots_1_1
abbrev s__law_are_spots_1 : Rho → Out Res := (sIf (cOr (cNot (cB (eUn (fun d => boD (dIsSeqB d)) (eVar 0)))) (cNot (cB (eChain dLe dLe (eC (.int 1)) (eCall dLen (aCons (eVar 0) aNil)) (eC (.int 12)))))) (sRet (eC (.bl false))) sNext)
abbrev s__law_are_spots_2 : Rho → Out Res := (sFor (iOf itemsQ (eVar 0)) (gN 1) B__law_are_spots_1)
abbrev s__law_are_spots_3 : Rho → Out Res := (sRet (eOp dEq (eUn dSetLen (eVar 0)) (eCall dLen (aCons (eVar 0) aNil))))
theorem S__law_are_spots_is : S__law_are_spots = sSeq s__law_are_spots_1 (sSeq s__law_are_spots_2 s__law_are_spots_3) := rfl
section
variable {x y S c r : D} {xs ys : List D} {z w : Str} {a b i : Int} {ss : List Spot} {q : Bool} {ρ : Rho}
abbrev sqD (q : Bool) (xs : List D) : D := bif q then .tup xs else .lst xs
theorem seq_items : itemsQ (sqD q xs) = .ok xs := by cases q <;> rfl
theorem seq_len : dLen [sqD q xs] = .ok (.int (xs.length : Nat)) := by cases q <;> rfl
theorem seq_list : F_is_list [sqD q xs] = .ok (.bl true) := by cases q <;> rfl
theorem seq_isB : dIsSeqB (sqD q xs) = some true := by cases q <;> rfl
theorem slB_spot (h : slB x = true) : ∃ s : Spot, x = encSpot s ∧ NameOk s.1 ∧ 0 ≤ s.2 ∧ s.2 ≤ 3 := by
  cases x with
  | tup xs =>
    match xs, h with
    | [p, q], h =>
      have h : (nmB p && inB 0 3 q) = true := h
      rw [Bool.and_eq_true] at h
      cases p <;> first | exact Bool.noConfusion h.1 | skip
      cases q <;> first | exact Bool.noConfusion h.2 | skip
      rename_i z i _
      have h2 : (decide ((0 : Int) ≤ i) && decide (i ≤ 3)) = true := h.2
      rw [Bool.and_eq_true, decide_eq_true_eq, decide_eq_true_eq] at h2
      exact ⟨(z, i), rfl, of_decide_eq_true h.1, h2.1, h2.2⟩
    | [], h => exact Bool.noConfusion h
    | [_], h => exact Bool.noConfusion h
    | _ :: _ :: _ :: _, h => exact Bool.noConfusion h
  | _ => exact Bool.noConfusion h
theorem spots_of : ∀ {xs : List D}, xs.all slB = true → ∃ ss : List Spot, xs = ss.map encSpot ∧ ∀ s ∈ ss, NameOk s.1 ∧ 0 ≤ s.2 ∧ s.2 ≤ 3
  | [], _ => ⟨[], rfl, fun _ h => (nomatch h)⟩
  | x :: xs, h => by
    rw [List.all_cons, Bool.and_eq_true] at h
    obtain ⟨s, e, h1⟩ := slB_spot h.1
    obtain ⟨ss, e2, h2⟩ := spots_of h.2
    refine ⟨s :: ss, by rw [e, e2]; rfl, fun t ht => ?_⟩
    rcases List.mem_cons.mp ht with rfl | ht
    · exact h1
    · exact h2 t ht
/-! ### the program's look at slots -/
theorem as_lc (hf : ∀ x ∈ xs, fineB x = true) : lcD (gN 1) cYes (eCall F_is_slot (aCons (eVar 1) aNil)) [S, .non] xs = .ok (xs.map fun x => .bl (slB x)) := by
  have := lc_mapE (enc := fun x : D => x) (f := fun x => .bl (slB x)) (γ := gN 1) (b := eCall F_is_slot (aCons (eVar 1) aNil)) (ρ := [S, .non]) (xs := xs) fun x hx => ⟨_, rfl, slot_all (hf x hx)⟩
  rw [List.map_id'] at this
  exact this
theorem ch_len (n : Nat) (h1 : 1 ≤ n) (h2 : n ≤ 12) : decide ((1 : Int) ≤ (n : Nat)) = true ∧ decide (((n : Nat) : Int) ≤ 12) = true := ⟨decide_eq_true (by omega), decide_eq_true (by omega)⟩
theorem as_len (h : ¬ (1 ≤ xs.length ∧ xs.length ≤ 12)) : F_are_slots [sqD q xs] = .ok (.bl false) := by
  by_cases h1 : 1 ≤ xs.length
  · have e1 : decide ((1 : Int) ≤ (xs.length : Nat)) = true := decide_eq_true (by omega)
    have e2 : decide (((xs.length : Nat) : Int) ≤ 12) = false := decide_eq_false (by omega)
    have k1 := seq_list (q := q) (xs := xs)
    have k2 := seq_len (q := q) (xs := xs)
    revert k1 k2
    generalize sqD q xs = S
    intro k1 k2
    unfold F_are_slots S_are_slots
    simp only [fnD, fnN, sSeq, sIf, sRet, sRetN, sDrop, sSet, sNext, sRaise, eVar, eC, eOp, eUn, eCall, eAnd, eOr, eNot, eIf, eChain, eTup, eLst, eLc, iOf, cB, cNot, cAnd, cOr, aNil, aCons, gN, Out.ok_bind, Out.exc_bind, Out.nox_ok, boD_some, List.cons_append, List.nil_append, List.append_nil, List.length_cons, List.length_nil, List.replicate, List.getD_cons_zero, List.getD_cons_succ, List.set_cons_zero, List.set_cons_succ, Nat.reduceAdd, Nat.reduceSub, Nat.reduceLeDiff, List.replicate_succ, List.replicate_zero, cond_true, cond_false, Bool.not_true, Bool.not_false, k1, k2, dLe, d2I, e1, e2]
  · have e1 : decide ((1 : Int) ≤ (xs.length : Nat)) = false := decide_eq_false (by omega)
    have k1 := seq_list (q := q) (xs := xs)
    have k2 := seq_len (q := q) (xs := xs)
    revert k1 k2
    generalize sqD q xs = S
    intro k1 k2
    unfold F_are_slots S_are_slots
    simp only [fnD, fnN, sSeq, sIf, sRet, sRetN, sDrop, sSet, sNext, sRaise, eVar, eC, eOp, eUn, eCall, eAnd, eOr, eNot, eIf, eChain, eTup, eLst, eLc, iOf, cB, cNot, cAnd, cOr, aNil, aCons, gN, Out.ok_bind, Out.exc_bind, Out.nox_ok, boD_some, List.cons_append, List.nil_append, List.append_nil, List.length_cons, List.length_nil, List.replicate, List.getD_cons_zero, List.getD_cons_succ, List.set_cons_zero, List.set_cons_succ, Nat.reduceAdd, Nat.reduceSub, Nat.reduceLeDiff, List.replicate_succ, List.replicate_zero, cond_true, cond_false, Bool.not_true, Bool.not_false, k1, k2, dLe, d2I, e1]
theorem as_bad (h1 : 1 ≤ xs.length) (h2 : xs.length ≤ 12) (hf : ∀ x ∈ xs, fineB x = true) (hb : xs.all slB = false) : F_are_slots [sqD q xs] = .ok (.bl false) := by
  obtain ⟨e1, e2⟩ := ch_len _ h1 h2
  have k1 := seq_list (q := q) (xs := xs)
  have k2 := seq_len (q := q) (xs := xs)
  have k3 := seq_items (q := q) (xs := xs)
  revert k1 k2 k3
  generalize sqD q xs = S
  intro k1 k2 k3
  have k4 := as_lc (S := S) hf
  unfold F_are_slots S_are_slots
  simp only [fnD, fnN, sSeq, sIf, sRet, sRetN, sDrop, sSet, sNext, sRaise, eVar, eC, eOp, eUn, eCall, eAnd, eOr, eNot, eIf, eChain, eTup, eLst, eLc, iOf, cB, cNot, cAnd, cOr, aNil, aCons, gN, Out.ok_bind, Out.exc_bind, Out.nox_ok, boD_some, List.cons_append, List.nil_append, List.append_nil, List.length_cons, List.length_nil, List.replicate, List.getD_cons_zero, List.getD_cons_succ, List.set_cons_zero, List.set_cons_succ, Nat.reduceAdd, Nat.reduceSub, Nat.reduceLeDiff, List.replicate_succ, List.replicate_zero, cond_true, cond_false, Bool.not_true, Bool.not_false, k1, k2, k3, k4, dLe, d2I, e1, e2, dAll_map, hb]
theorem set_sp (hi : itemsQ S = .ok (ss.map encSpot)) (h2 : ss.length ≤ 12) : (dSetLen S).sp 0 (fun d => ∃ n : Nat, d = .int n ∧ (n = ss.length ↔ ss.Nodup)) (fun _ _ => False) := by
  unfold dSetLen
  rw [hi, Out.ok_bind, tkeysL_spots]
  have e6 : decide ((ss.map fun s => [Sum.inr (α := Int) s.1, Sum.inl s.2]).length < 64) = true := decide_eq_true (by rw [List.length_map]; omega)
  show (bif decide ((ss.map fun s => [Sum.inr (α := Int) s.1, Sum.inl s.2]).length < 64) then Out.any 0 (setN _) Out.ok else Out.stuck).sp 0 _ _
  rw [e6]
  refine Out.sp_any (c := 0) fun d hd => ?_
  obtain ⟨n, hn, hi, rfl⟩ := hd
  refine Out.sp_ok ⟨n, rfl, ?_⟩
  rw [List.length_map] at hi
  rw [hi]
  constructor
  · intro h
    rw [List.nodup_iff_pairwise_ne, List.pairwise_map] at h
    rw [List.nodup_iff_pairwise_ne]
    exact h.imp fun hab z => hab (by rw [z])
  · intro h
    refine List.Pairwise.map _ (fun a b hab z => hab ?_) h
    have z1 := List.cons.inj z
    have z2 := List.cons.inj z1.2
    exact Prod.ext (Sum.inr.inj z1.1) (Sum.inl.inj z2.1)
theorem set_eq (hi : itemsQ S = .ok (ss.map encSpot)) (hl : dLen [S] = .ok (.int (ss.length : Nat))) (h2 : ss.length ≤ 12) (h0 : ρ.getD 0 .non = S) : (eOp dEq (eUn dSetLen (eVar 0)) (eCall dLen (aCons (eVar 0) aNil)) ρ).sp 0 (fun d => d = .bl (decide ss.Nodup)) (fun _ _ => False) := by
  show (Out.bind (Out.bind (Out.ok (ρ.getD 0 .non)) dSetLen) _).sp _ _ _
  rw [h0, Out.ok_bind]
  refine Out.sp_then (set_sp hi h2) (Nat.le_refl 0) fun d hd => ?_
  obtain ⟨n, rfl, hn⟩ := hd
  show (Out.bind (Out.bind (Out.ok [ρ.getD 0 .non]) dLen) _).sp _ _ _
  rw [h0, Out.ok_bind, hl, Out.ok_bind, eqInt]
  refine Out.sp_ok ?_
  congr 1
  by_cases h : ss.Nodup
  · rw [decide_eq_true h, decide_eq_true (by rw [hn.mpr h])]
  · rw [decide_eq_false h, decide_eq_false fun z => h (hn.mp (by omega))]
theorem as_set (h1 : 1 ≤ ss.length) (h2 : ss.length ≤ 12) (hok : ∀ s ∈ ss, NameOk s.1 ∧ 0 ≤ s.2 ∧ s.2 ≤ 3) : (F_are_slots [sqD q (ss.map encSpot)]).sp 0 (fun d => d = .bl (decide ss.Nodup)) (fun _ _ => False) := by
  have hl : (ss.map encSpot).length = ss.length := List.length_map _
  obtain ⟨e1, e2⟩ := ch_len _ h1 h2
  rw [← hl] at e1 e2
  have k1 := seq_list (q := q) (xs := ss.map encSpot)
  have k2 := seq_len (q := q) (xs := ss.map encSpot)
  have k3 := seq_items (q := q) (xs := ss.map encSpot)
  have hb : (ss.map encSpot).all slB = true := by
    rw [List.all_eq_true]
    intro x hx
    obtain ⟨s, hs, rfl⟩ := List.mem_map.mp hx
    obtain ⟨a1, a2, a3⟩ := hok s hs
    show (decide (NameOk s.1) && (decide ((0 : Int) ≤ s.2) && decide (s.2 ≤ 3))) = true
    rw [decide_eq_true a1, decide_eq_true a2, decide_eq_true a3]
    rfl
  have hf : ∀ x ∈ ss.map encSpot, fineB x = true := fun x hx => by
    obtain ⟨s, hs, rfl⟩ := List.mem_map.mp hx
    rfl
  revert k1 k2 k3
  generalize sqD q (ss.map encSpot) = S
  intro k1 k2 k3
  have k4 := as_lc (S := S) hf
  have k5 := set_eq (ρ := [S, .non]) k3 (k2.trans (by rw [hl])) h2 rfl
  rw [F_are_slots]
  unfold fnD
  refine Out.sp_then (c1 := 0) (P := fun r => r = .rt (.bl (decide ss.Nodup))) ?_ (Nat.le_refl 0) fun r hr => by subst hr; exact Out.sp_ok rfl
  have e0 : [S] ++ List.replicate (2 - [S].length) D.non = [S, .non] := rfl
  rw [e0, S_are_slots]
  have qc : (cOr (cNot (cB (eCall F_is_list (aCons (eVar 0) aNil)))) (cOr (cNot (cB (eChain dLe dLe (eC (.int 1)) (eCall dLen (aCons (eVar 0) aNil)) (eC (.int 12))))) (cNot (cB (eCall dAll (aCons (eLc (iOf itemsQ (eVar 0)) (gN 1) cYes (eCall F_is_slot (aCons (eVar 1) aNil))) aNil)))))) [S, .non] = .ok false := by
    simp only [fnD, fnN, sSeq, sIf, sRet, sRetN, sDrop, sSet, sNext, sRaise, eVar, eC, eOp, eUn, eCall, eAnd, eOr, eNot, eIf, eChain, eTup, eLst, eLc, iOf, cB, cNot, cAnd, cOr, aNil, aCons, gN, Out.ok_bind, Out.exc_bind, Out.nox_ok, boD_some, List.cons_append, List.nil_append, List.append_nil, List.length_cons, List.length_nil, List.replicate, List.getD_cons_zero, List.getD_cons_succ, List.set_cons_zero, List.set_cons_succ, Nat.reduceAdd, Nat.reduceSub, Nat.reduceLeDiff, List.replicate_succ, List.replicate_zero, cond_true, cond_false, Bool.not_true, Bool.not_false, k1, k2, k3, k4, dLe, d2I, e1, e2, dAll_map, hb]
  rw [seq_nx ((if_nob qc).trans rfl)]
  exact Out.sp_then k5 (Nat.le_refl 0) fun d hd => by subst hd; exact Out.sp_ok rfl
/-! ### the law's look at slots -/
theorem ne_of_eqD {x y : D} {b : Bool} (h : dEq x y = .ok (.bl b)) : dNe x y = .ok (.bl (!b)) := by
  unfold dEq at h
  unfold dNe
  cases hp : (D.pl 8 x && D.pl 8 y) with
  | false => rw [hp] at h; cases h
  | true =>
    rw [hp] at h
    have h : Out.ok (D.bl (dEqB x y)) = .ok (.bl b) := h
    have e : dEqB x y = b := by injection h with h; injection h
    rw [cond_true, e]
theorem sp_cond (h : fineB x = true) : (cOr (cNot (cB (eUn (fun d => boD (dIsTyB "tuple" d)) (eVar 1)))) (cOr (cB (eOp dNe (eCall dLen (aCons (eVar 1) aNil)) (eC (.int 2)))) (cOr (cNot (cB (eCall F__law_is_short (aCons (eOp dIx (eVar 1) (eC (.int 0))) aNil)))) (cNot (cB (eCall F__law_is_in (aCons (eOp dIx (eVar 1) (eC (.int 1))) (aCons (eC (.int 0)) (aCons (eC (.int 3)) aNil))))))))) [S, x] = .ok (!slB x) := by
  cases x with
  | drw => exact absurd rfl (fine_ne h)
  | tup xs =>
    have e3 : isTyS (tyOfD (.tup xs)) "tuple" = true := rfl
    by_cases hl : xs.length = 2
    · match xs, hl, h, e3 with
      | [p, q], _, h, e3 =>
        have k1 := short_all (x := p) (fine_mem h List.mem_cons_self)
        have k2 := in_all (a := 0) (b := 3) (x := q) (fine_mem h (List.mem_cons_of_mem _ List.mem_cons_self))
        have k3 := ne_of_eqD len2
        simp only [fnD, fnN, sSeq, sIf, sRet, sRetN, sDrop, sSet, sNext, sRaise, eVar, eC, eOp, eUn, eCall, eAnd, eOr, eNot, eIf, eChain, eTup, eLst, eLc, iOf, cB, cNot, cAnd, cOr, aNil, aCons, gN, Out.ok_bind, Out.exc_bind, Out.nox_ok, boD_some, List.cons_append, List.nil_append, List.append_nil, List.length_cons, List.length_nil, List.replicate, List.getD_cons_zero, List.getD_cons_succ, List.set_cons_zero, List.set_cons_succ, Nat.reduceAdd, Nat.reduceSub, Nat.reduceLeDiff, List.replicate_succ, List.replicate_zero, cond_true, cond_false, Bool.not_true, Bool.not_false, dIsTyB, dLen, e3, k3, ix0, ix1, k1]
        show _ = Out.ok (!(nmB p && inB 0 3 q))
        cases hp : nmB p with
        | false => rfl
        | true =>
          simp only [fnD, fnN, sSeq, sIf, sRet, sRetN, sDrop, sSet, sNext, sRaise, eVar, eC, eOp, eUn, eCall, eAnd, eOr, eNot, eIf, eChain, eTup, eLst, eLc, iOf, cB, cNot, cAnd, cOr, aNil, aCons, gN, Out.ok_bind, Out.exc_bind, Out.nox_ok, boD_some, List.cons_append, List.nil_append, List.append_nil, List.length_cons, List.length_nil, List.replicate, List.getD_cons_zero, List.getD_cons_succ, List.set_cons_zero, List.set_cons_succ, Nat.reduceAdd, Nat.reduceSub, Nat.reduceLeDiff, List.replicate_succ, List.replicate_zero, cond_true, cond_false, Bool.not_true, Bool.not_false, k2]
          cases inB 0 3 q <;> rfl
    · have k3 := ne_of_eqD (lenNe _ hl)
      simp only [fnD, fnN, sSeq, sIf, sRet, sRetN, sDrop, sSet, sNext, sRaise, eVar, eC, eOp, eUn, eCall, eAnd, eOr, eNot, eIf, eChain, eTup, eLst, eLc, iOf, cB, cNot, cAnd, cOr, aNil, aCons, gN, Out.ok_bind, Out.exc_bind, Out.nox_ok, boD_some, List.cons_append, List.nil_append, List.append_nil, List.length_cons, List.length_nil, List.replicate, List.getD_cons_zero, List.getD_cons_succ, List.set_cons_zero, List.set_cons_succ, Nat.reduceAdd, Nat.reduceSub, Nat.reduceLeDiff, List.replicate_succ, List.replicate_zero, cond_true, cond_false, Bool.not_true, Bool.not_false, dIsTyB, dLen, e3, k3]
      rw [slB_ne hl]
      rfl
  | _ => rfl
theorem spots_loop : ∀ (xs : List D) (l : D), (∀ x ∈ xs, fineB x = true) → ∃ l', forD (gN 1) B__law_are_spots_1 xs [S, l] = .ok (bif xs.all slB then .nx [S, l'] else .rt (.bl false))
  | [], l, _ => ⟨l, rfl⟩
  | x :: xs, l, h => by
    have hc := sp_cond (S := S) (h x List.mem_cons_self)
    cases hx : slB x with
    | false =>
      refine ⟨l, ?_⟩
      rw [hx] at hc
      have : B__law_are_spots_1 [S, x] = .ok (.rt (.bl false)) := by
        unfold B__law_are_spots_1
        exact (if_yesb hc).trans rfl
      show Out.bind (B__law_are_spots_1 [S, x]) _ = _
      rw [this, List.all_cons, hx]
      rfl
    | true =>
      obtain ⟨l', ih⟩ := spots_loop xs x fun y hy => h y (List.mem_cons_of_mem _ hy)
      refine ⟨l', ?_⟩
      rw [hx] at hc
      have : B__law_are_spots_1 [S, x] = .ok (.nx [S, x]) := by
        unfold B__law_are_spots_1
        exact (if_nob hc).trans rfl
      show Out.bind (B__law_are_spots_1 [S, x]) _ = _
      rw [this, List.all_cons, hx]
      exact ih
theorem ls_len (h : ¬ (1 ≤ xs.length ∧ xs.length ≤ 12)) : F__law_are_spots [sqD q xs] = .ok (.bl false) := by
  by_cases h1 : 1 ≤ xs.length
  · have e1 : decide ((1 : Int) ≤ (xs.length : Nat)) = true := decide_eq_true (by omega)
    have e2 : decide (((xs.length : Nat) : Int) ≤ 12) = false := decide_eq_false (by omega)
    have k1 := seq_isB (q := q) (xs := xs)
    have k2 := seq_len (q := q) (xs := xs)
    revert k1 k2
    generalize sqD q xs = S
    intro k1 k2
    unfold F__law_are_spots S__law_are_spots
    simp only [fnD, fnN, sSeq, sIf, sRet, sRetN, sDrop, sSet, sNext, sRaise, eVar, eC, eOp, eUn, eCall, eAnd, eOr, eNot, eIf, eChain, eTup, eLst, eLc, iOf, cB, cNot, cAnd, cOr, aNil, aCons, gN, Out.ok_bind, Out.exc_bind, Out.nox_ok, boD_some, List.cons_append, List.nil_append, List.append_nil, List.length_cons, List.length_nil, List.replicate, List.getD_cons_zero, List.getD_cons_succ, List.set_cons_zero, List.set_cons_succ, Nat.reduceAdd, Nat.reduceSub, Nat.reduceLeDiff, List.replicate_succ, List.replicate_zero, cond_true, cond_false, Bool.not_true, Bool.not_false, k1, k2, dLe, d2I, e1, e2]
  · have e1 : decide ((1 : Int) ≤ (xs.length : Nat)) = false := decide_eq_false (by omega)
    have k1 := seq_isB (q := q) (xs := xs)
    have k2 := seq_len (q := q) (xs := xs)
    revert k1 k2
    generalize sqD q xs = S
    intro k1 k2
    unfold F__law_are_spots S__law_are_spots
    simp only [fnD, fnN, sSeq, sIf, sRet, sRetN, sDrop, sSet, sNext, sRaise, eVar, eC, eOp, eUn, eCall, eAnd, eOr, eNot, eIf, eChain, eTup, eLst, eLc, iOf, cB, cNot, cAnd, cOr, aNil, aCons, gN, Out.ok_bind, Out.exc_bind, Out.nox_ok, boD_some, List.cons_append, List.nil_append, List.append_nil, List.length_cons, List.length_nil, List.replicate, List.getD_cons_zero, List.getD_cons_succ, List.set_cons_zero, List.set_cons_succ, Nat.reduceAdd, Nat.reduceSub, Nat.reduceLeDiff, List.replicate_succ, List.replicate_zero, cond_true, cond_false, Bool.not_true, Bool.not_false, k1, k2, dLe, d2I, e1]
theorem ls_run (h1 : 1 ≤ xs.length) (h2 : xs.length ≤ 12) (hf : ∀ x ∈ xs, fineB x = true) {P : D → Prop} (hno : xs.all slB = false → P (.bl false)) (hyes : xs.all slB = true → ∀ l, (eOp dEq (eUn dSetLen (eVar 0)) (eCall dLen (aCons (eVar 0) aNil)) [sqD q xs, l]).sp 0 P (fun _ _ => False)) : (F__law_are_spots [sqD q xs]).sp 0 P (fun _ _ => False) := by
  obtain ⟨e1, e2⟩ := ch_len _ h1 h2
  have k1 := seq_isB (q := q) (xs := xs)
  have k2 := seq_len (q := q) (xs := xs)
  have k3 := seq_items (q := q) (xs := xs)
  revert k1 k2 k3 hyes
  generalize sqD q xs = S
  intro hyes k1 k2 k3
  rw [F__law_are_spots]
  unfold fnD
  refine Out.sp_then (c1 := 0) (P := fun r => ∃ d, P d ∧ r = .rt d) ?_ (Nat.le_refl 0) fun r hr => by
    obtain ⟨d, hd, rfl⟩ := hr
    exact Out.sp_ok hd
  have e0 : [S] ++ List.replicate (2 - [S].length) D.non = [S, .non] := rfl
  rw [e0, S__law_are_spots_is]
  have qc : (cOr (cNot (cB (eUn (fun d => boD (dIsSeqB d)) (eVar 0)))) (cNot (cB (eChain dLe dLe (eC (.int 1)) (eCall dLen (aCons (eVar 0) aNil)) (eC (.int 12)))))) [S, .non] = .ok false := by
    simp only [fnD, fnN, sSeq, sIf, sRet, sRetN, sDrop, sSet, sNext, sRaise, eVar, eC, eOp, eUn, eCall, eAnd, eOr, eNot, eIf, eChain, eTup, eLst, eLc, iOf, cB, cNot, cAnd, cOr, aNil, aCons, gN, Out.ok_bind, Out.exc_bind, Out.nox_ok, boD_some, List.cons_append, List.nil_append, List.append_nil, List.length_cons, List.length_nil, List.replicate, List.getD_cons_zero, List.getD_cons_succ, List.set_cons_zero, List.set_cons_succ, Nat.reduceAdd, Nat.reduceSub, Nat.reduceLeDiff, List.replicate_succ, List.replicate_zero, cond_true, cond_false, Bool.not_true, Bool.not_false, k1, k2, dLe, d2I, e1, e2]
  rw [seq_nx ((if_nob qc).trans rfl)]
  obtain ⟨l', hlp⟩ := spots_loop (S := S) xs .non hf
  have q2 : s__law_are_spots_2 [S, .non] = .ok (bif xs.all slB then .nx [S, l'] else .rt (.bl false)) := by
    show Out.bind (Out.bind (Out.ok S) itemsQ) _ = _
    rw [Out.ok_bind, k3]
    exact hlp
  unfold sSeq
  rw [q2]
  cases hb : xs.all slB with
  | false => exact Out.sp_ok ⟨_, hno hb, rfl⟩
  | true =>
    show (Out.bind (eOp dEq (eUn dSetLen (eVar 0)) (eCall dLen (aCons (eVar 0) aNil)) [S, l']) _).sp _ _ _
    exact Out.sp_then (hyes hb l') (Nat.le_refl 0) fun d hd => Out.sp_ok ⟨d, hd, rfl⟩
theorem ls_bad (h1 : 1 ≤ xs.length) (h2 : xs.length ≤ 12) (hf : ∀ x ∈ xs, fineB x = true) (hb : xs.all slB = false) : (F__law_are_spots [sqD q xs]).sp 0 (fun d => d = .bl false) (fun _ _ => False) :=
  ls_run h1 h2 hf (fun _ => rfl) fun h => by rw [hb] at h; cases h
theorem ls_set (h1 : 1 ≤ ss.length) (h2 : ss.length ≤ 12) (hok : ∀ s ∈ ss, NameOk s.1 ∧ 0 ≤ s.2 ∧ s.2 ≤ 3) : (F__law_are_spots [sqD q (ss.map encSpot)]).sp 0 (fun d => d = .bl (decide ss.Nodup)) (fun _ _ => False) := by
  have hl : (ss.map encSpot).length = ss.length := List.length_map _
  have hb : (ss.map encSpot).all slB = true := by
    rw [List.all_eq_true]
    intro x hx
    obtain ⟨s, hs, rfl⟩ := List.mem_map.mp hx
    obtain ⟨a1, a2, a3⟩ := hok s hs
    show (decide (NameOk s.1) && (decide ((0 : Int) ≤ s.2) && decide (s.2 ≤ 3))) = true
    rw [decide_eq_true a1, decide_eq_true a2, decide_eq_true a3]
    rfl
  refine ls_run (by rw [hl]; exact h1) (by rw [hl]; exact h2) (fun x hx => ?_) (fun h => ?_) fun _ l => ?_
  · obtain ⟨s, hs, rfl⟩ := List.mem_map.mp hx
    rfl
  · rw [hb] at h
    cases h
  · exact set_eq seq_items (seq_len.trans (by rw [hl])) h2 rfl
/-- good slots or none, by both -/
theorem slots_two (hf : ∀ x ∈ xs, fineB x = true) : (∃ ss, SlotsOk ss ∧ xs = ss.map encSpot ∧ ∀ q, (F_are_slots [sqD q xs]).sp 0 (fun d => d = .bl true) (fun _ _ => False) ∧ (F__law_are_spots [sqD q xs]).sp 0 (fun d => d = .bl true) (fun _ _ => False)) ∨ (∀ q, (F_are_slots [sqD q xs]).sp 0 (fun d => d = .bl false) (fun _ _ => False) ∧ (F__law_are_spots [sqD q xs]).sp 0 (fun d => d = .bl false) (fun _ _ => False)) := by
  by_cases hl : 1 ≤ xs.length ∧ xs.length ≤ 12
  · cases hb : xs.all slB with
    | false => exact .inr fun q => ⟨sp_is (as_bad hl.1 hl.2 hf hb), ls_bad hl.1 hl.2 hf hb⟩
    | true =>
      obtain ⟨ss, rfl, hok⟩ := spots_of hb
      rw [List.length_map] at hl
      by_cases hn : ss.Nodup
      · refine .inl ⟨ss, ⟨hl.1, hl.2, hok, hn⟩, rfl, fun q => ?_⟩
        have k1 := as_set (q := q) hl.1 hl.2 hok
        have k2 := ls_set (q := q) hl.1 hl.2 hok
        rw [decide_eq_true hn] at k1 k2
        exact ⟨k1, k2⟩
      · refine .inr fun q => ?_
        have k1 := as_set (q := q) hl.1 hl.2 hok
        have k2 := ls_set (q := q) hl.1 hl.2 hok
        rw [decide_eq_false hn] at k1 k2
        exact ⟨k1, k2⟩
  · exact .inr fun q => ⟨sp_is (as_len hl), sp_is (ls_len hl)⟩
/-! ### rolls -/
def roB : D → Bool
  | .non => true
  | .tup [x, y] => nmB x && inB 1 3 y
  | _ => false
theorem roB_ne (h : xs.length ≠ 2) : roB (.tup xs) = false := by
  match xs, h with
  | [], _ => rfl
  | [_], _ => rfl
  | [_, _], h => exact absurd rfl h
  | _ :: _ :: _ :: _, _ => rfl
theorem roll_all (h : fineB x = true) : F_is_roll [x] = .ok (.bl (roB x)) := by
  cases x with
  | drw => exact absurd rfl (fine_ne h)
  | tup xs =>
    have e3 : isTyS (tyOfD (.tup xs)) "tuple" = true := rfl
    have e4 : dIsN (.tup xs) .non = .ok (.bl false) := rfl
    by_cases hl : xs.length = 2
    · match xs, hl, h, e3, e4 with
      | [p, q], _, h, e3, e4 =>
        have k1 := name_all (x := p) (fine_mem h List.mem_cons_self)
        have k2 := within_all (a := 1) (b := 3) (x := q) (fine_mem h (List.mem_cons_of_mem _ List.mem_cons_self))
        unfold F_is_roll S_is_roll
        simp only [fnD, fnN, sSeq, sIf, sRet, sRetN, sDrop, sSet, sNext, sRaise, eVar, eC, eOp, eUn, eCall, eAnd, eOr, eNot, eIf, eChain, eTup, eLst, eLc, iOf, cB, cNot, cAnd, cOr, aNil, aCons, gN, Out.ok_bind, Out.exc_bind, Out.nox_ok, boD_some, List.cons_append, List.nil_append, List.append_nil, List.length_cons, List.length_nil, List.replicate, List.getD_cons_zero, List.getD_cons_succ, List.set_cons_zero, List.set_cons_succ, Nat.reduceAdd, Nat.reduceSub, Nat.reduceLeDiff, List.replicate_succ, List.replicate_zero, cond_true, cond_false, Bool.not_true, Bool.not_false, dIsTyB, dLen, e3, e4, len2, ix0, ix1, k1]
        show _ = Out.ok (D.bl (nmB p && inB 1 3 q))
        cases hp : nmB p with
        | false => rfl
        | true =>
          simp only [fnD, fnN, sSeq, sIf, sRet, sRetN, sDrop, sSet, sNext, sRaise, eVar, eC, eOp, eUn, eCall, eAnd, eOr, eNot, eIf, eChain, eTup, eLst, eLc, iOf, cB, cNot, cAnd, cOr, aNil, aCons, gN, Out.ok_bind, Out.exc_bind, Out.nox_ok, boD_some, List.cons_append, List.nil_append, List.append_nil, List.length_cons, List.length_nil, List.replicate, List.getD_cons_zero, List.getD_cons_succ, List.set_cons_zero, List.set_cons_succ, Nat.reduceAdd, Nat.reduceSub, Nat.reduceLeDiff, List.replicate_succ, List.replicate_zero, cond_true, cond_false, Bool.not_true, Bool.not_false, k2]
          cases inB 1 3 q <;> rfl
    · unfold F_is_roll S_is_roll
      simp only [fnD, fnN, sSeq, sIf, sRet, sRetN, sDrop, sSet, sNext, sRaise, eVar, eC, eOp, eUn, eCall, eAnd, eOr, eNot, eIf, eChain, eTup, eLst, eLc, iOf, cB, cNot, cAnd, cOr, aNil, aCons, gN, Out.ok_bind, Out.exc_bind, Out.nox_ok, boD_some, List.cons_append, List.nil_append, List.append_nil, List.length_cons, List.length_nil, List.replicate, List.getD_cons_zero, List.getD_cons_succ, List.set_cons_zero, List.set_cons_succ, Nat.reduceAdd, Nat.reduceSub, Nat.reduceLeDiff, List.replicate_succ, List.replicate_zero, cond_true, cond_false, Bool.not_true, Bool.not_false, dIsTyB, dLen, e3, e4, lenNe _ hl]
      rw [roB_ne hl]
  | _ => rfl
theorem flow_all (h : fineB x = true) : F__law_is_flow [x] = .ok (.bl (roB x)) := by
  cases x with
  | drw => exact absurd rfl (fine_ne h)
  | tup xs =>
    have e3 : isTyS (tyOfD (.tup xs)) "tuple" = true := rfl
    have e4 : dIsN (.tup xs) .non = .ok (.bl false) := rfl
    by_cases hl : xs.length = 2
    · match xs, hl, h, e3, e4 with
      | [p, q], _, h, e3, e4 =>
        have k1 := short_all (x := p) (fine_mem h List.mem_cons_self)
        have k2 := in_all (a := 1) (b := 3) (x := q) (fine_mem h (List.mem_cons_of_mem _ List.mem_cons_self))
        unfold F__law_is_flow S__law_is_flow
        simp only [fnD, fnN, sSeq, sIf, sRet, sRetN, sDrop, sSet, sNext, sRaise, eVar, eC, eOp, eUn, eCall, eAnd, eOr, eNot, eIf, eChain, eTup, eLst, eLc, iOf, cB, cNot, cAnd, cOr, aNil, aCons, gN, Out.ok_bind, Out.exc_bind, Out.nox_ok, boD_some, List.cons_append, List.nil_append, List.append_nil, List.length_cons, List.length_nil, List.replicate, List.getD_cons_zero, List.getD_cons_succ, List.set_cons_zero, List.set_cons_succ, Nat.reduceAdd, Nat.reduceSub, Nat.reduceLeDiff, List.replicate_succ, List.replicate_zero, cond_true, cond_false, Bool.not_true, Bool.not_false, dIsTyB, dLen, e3, e4, len2, ix0, ix1, k1]
        show _ = Out.ok (D.bl (nmB p && inB 1 3 q))
        cases hp : nmB p with
        | false => rfl
        | true =>
          simp only [fnD, fnN, sSeq, sIf, sRet, sRetN, sDrop, sSet, sNext, sRaise, eVar, eC, eOp, eUn, eCall, eAnd, eOr, eNot, eIf, eChain, eTup, eLst, eLc, iOf, cB, cNot, cAnd, cOr, aNil, aCons, gN, Out.ok_bind, Out.exc_bind, Out.nox_ok, boD_some, List.cons_append, List.nil_append, List.append_nil, List.length_cons, List.length_nil, List.replicate, List.getD_cons_zero, List.getD_cons_succ, List.set_cons_zero, List.set_cons_succ, Nat.reduceAdd, Nat.reduceSub, Nat.reduceLeDiff, List.replicate_succ, List.replicate_zero, cond_true, cond_false, Bool.not_true, Bool.not_false, k2]
          cases inB 1 3 q <;> rfl
    · unfold F__law_is_flow S__law_is_flow
      simp only [fnD, fnN, sSeq, sIf, sRet, sRetN, sDrop, sSet, sNext, sRaise, eVar, eC, eOp, eUn, eCall, eAnd, eOr, eNot, eIf, eChain, eTup, eLst, eLc, iOf, cB, cNot, cAnd, cOr, aNil, aCons, gN, Out.ok_bind, Out.exc_bind, Out.nox_ok, boD_some, List.cons_append, List.nil_append, List.append_nil, List.length_cons, List.length_nil, List.replicate, List.getD_cons_zero, List.getD_cons_succ, List.set_cons_zero, List.set_cons_succ, Nat.reduceAdd, Nat.reduceSub, Nat.reduceLeDiff, List.replicate_succ, List.replicate_zero, cond_true, cond_false, Bool.not_true, Bool.not_false, dIsTyB, dLen, e3, e4, lenNe _ hl]
      rw [roB_ne hl]
  | _ => rfl
end
end ND
/-! k02: what is wrong; packs made; the law's makes -/
namespace ND
open PySem PySem.Spec PyProof.Rows L2
section
variable {x y S a c r d v1 v2 v3 v4 : D} {xs ys : List D} {z w : Str} {i j : Int} {ss : List Spot} {q b v : Bool} {ρ : Rho} {X : Str → List (Str × D) → Prop} {P : D → Prop} {Q : Res → Prop} {c1 c2 : Nat}
/-! ### outcomes -/
theorem set_nx {i : Nat} {a : Rho → Out D} {ρ : Rho} {d : D} (h : a ρ = .ok d) : sSet i a ρ = .ok (.nx (ρ.set i d)) := by
  unfold sSet
  rw [h, Out.ok_bind]
theorem sp_seqc {a b : Rho → Out Res} {ρ : Rho} {c1 c : Nat} {P : Rho → Prop} {Q : Res → Prop} {X : Str → List (Str × D) → Prop} (h : (a ρ).sp c1 (fun r => ∃ ρ', r = .nx ρ' ∧ P ρ') X) (hc : c1 ≤ c) (k : ∀ ρ', P ρ' → (b ρ').sp (c - c1) Q X) : (sSeq a b ρ).sp c Q X := by
  unfold sSeq
  refine Out.sp_then h hc fun r hr => ?_
  obtain ⟨ρ', rfl, hp⟩ := hr
  exact k ρ' hp
theorem call1_of {F : List D → Out D} {A : Rho → Out D} (h : A ρ = .ok d) : eCall F (aCons A aNil) ρ = F [d] := by
  unfold eCall aCons
  rw [h]
  rfl
theorem sp_guard {t : Rho → Out Bool} {e : Rho → Out D} {rest : Rho → Out Res} (h : (t ρ).sp 0 (fun x => x = v) X) (he : e ρ = .ok d) (h1 : v = true → Q (.rt d)) (h2 : v = false → (rest ρ).sp 0 Q X) : (sSeq (sIf t (sRet e) sNext) rest ρ).sp 0 Q X := by
  show (Out.bind (Out.bind (t ρ) _) _).sp _ _ _
  rw [Out.bind_assoc]
  refine Out.sp_then h (Nat.le_refl 0) fun u hu => ?_
  subst hu
  cases u with
  | true =>
    show (Out.bind (Out.bind (e ρ) _) _).sp _ _ _
    rw [he]
    exact Out.sp_ok (h1 rfl)
  | false => exact h2 rfl
theorem sp_guardX {t : Rho → Out Bool} {g : Rho → Out Res} {rest : Rho → Out Res} {e : Str} {fs : List (Str × D)} (h : (t ρ).sp 0 (fun x => x = v) X) (he : g ρ = .exc e fs) (h1 : v = true → X e fs) (h2 : v = false → (rest ρ).sp 0 Q X) : (sSeq (sIf t g sNext) rest ρ).sp 0 Q X := by
  show (Out.bind (Out.bind (t ρ) _) _).sp _ _ _
  rw [Out.bind_assoc]
  refine Out.sp_then h (Nat.le_refl 0) fun u hu => ?_
  subst hu
  cases u with
  | true =>
    show (Out.bind (g ρ) _).sp _ _ _
    rw [he]
    exact Out.sp_exc (h1 rfl)
  | false => exact h2 rfl
theorem sp_notV {t : Rho → Out Bool} (h : (t ρ).sp c1 (fun x => x = v) X) : (cNot t ρ).sp c1 (fun x => x = !v) X :=
  Out.sp_then h (Nat.le_refl _) fun d hd => by
    subst hd
    exact Out.sp_mono (Out.sp_ok (c := 0) rfl) (Nat.zero_le _) (fun _ z => z.symm) fun _ _ z => z
theorem sp_ifAny {t : Rho → Out Bool} {A B : Rho → Out Res} (h : (t ρ).sp c1 (fun _ => True) X) (ha : (A ρ).sp c2 Q X) (hb : (B ρ).sp c2 Q X) : (sIf t A B ρ).sp (c1 + c2) Q X :=
  Out.sp_then h (Nat.le_add_right _ _) fun u _ => by
    cases u
    · exact Out.sp_mono hb (by omega) (fun _ z => z) fun _ _ z => z
    · exact Out.sp_mono ha (by omega) (fun _ z => z) fun _ _ z => z
/-! ### the law's word -/
abbrev dct4 (S a c r : D) : D := .dct [(.inr "slots", S), (.inr "amount", a), (.inr "cost", c), (.inr "roll", r)]
def coB : D → Bool
  | .non => true
  | d => inB 0 99 d
def nonB : D → Bool
  | .non => true
  | _ => false
def wrongD (b : Bool) (a c r : D) : D := bif !b then .str "slots" else bif !inB 0 3 a then .str "amount" else bif !coB c then .str "cost" else bif roB r then .non else .str "roll"
theorem g_slots : eOp dGet (eVar 0) (eC (.str "slots")) [dct4 S a c r] = .ok S := by kernel_rfl
theorem g_amount : eOp dGet (eVar 0) (eC (.str "amount")) [dct4 S a c r] = .ok a := by kernel_rfl
theorem g_cost : eOp dGet (eVar 0) (eC (.str "cost")) [dct4 S a c r] = .ok c := by kernel_rfl
theorem g_roll : eOp dGet (eVar 0) (eC (.str "roll")) [dct4 S a c r] = .ok r := by kernel_rfl
theorem notN_co (h : c ≠ .drw) {F : List D → Out D} (hF : F [c, .int 0, .int 99] = .ok (.bl (inB 0 99 c))) {e : Rho → Out D} (he : e ρ = .ok c) : (cAnd (cB (eOp dNotN e (eC .non))) (cNot (cB (eCall F (aCons e (aCons (eC (.int 0)) (aCons (eC (.int 99)) aNil))))))) ρ = .ok (!coB c) := by
  have k : (cB (eOp dNotN e (eC .non))) ρ = .ok (!nonB c) := by
    unfold cB eOp
    rw [he]
    cases c <;> rfl
  have k2 : (cNot (cB (eCall F (aCons e (aCons (eC (.int 0)) (aCons (eC (.int 99)) aNil)))))) ρ = .ok (!inB 0 99 c) := by
    unfold cNot cB eCall aCons
    rw [he]
    show Out.bind (Out.bind (F [c, .int 0, .int 99]) _) _ = _
    rw [hF]
    rfl
  unfold cAnd
  rw [k, Out.ok_bind, k2]
  cases c <;> rfl
theorem call_v {F : List D → Out D} {A : Rho → Out (List D)} {ds : List D} (ha : A ρ = .ok ds) (h : (F ds).sp 0 (fun d => d = .bl b) X) : (cNot (cB (eCall F A)) ρ).sp 0 (fun x => x = !b) X := by
  refine sp_notV (sp_cB ?_)
  show (Out.bind (A ρ) F).sp _ _ _
  rw [ha]
  exact h
theorem wrong_sp (hs : (F__law_are_spots [S]).sp 0 (fun d => d = .bl b) (fun _ _ => False)) (ha : a ≠ .drw) (hc : c ≠ .drw) (hr : fineB r = true) : (F__law_wrong [dct4 S a c r]).sp 0 (fun d => d = wrongD b a c r) (fun _ _ => False) := by
  rw [F__law_wrong]
  unfold fnD
  refine Out.sp_then (c1 := 0) (P := fun r' => r' = .rt (wrongD b a c r)) ?_ (Nat.le_refl 0) fun r' hr' => by subst hr'; exact Out.sp_ok rfl
  have e0 : [dct4 S a c r] ++ List.replicate (1 - [dct4 S a c r].length) D.non = [dct4 S a c r] := rfl
  rw [e0, S__law_wrong]
  have gs := g_slots (S := S) (a := a) (c := c) (r := r)
  have ga := g_amount (S := S) (a := a) (c := c) (r := r)
  have gc := g_cost (S := S) (a := a) (c := c) (r := r)
  have gr := g_roll (S := S) (a := a) (c := c) (r := r)
  revert gs ga gc gr
  generalize dct4 S a c r = D4
  intro gs ga gc gr
  refine sp_guard (v := !b) (call_v (ds := [S]) (by unfold aCons; rw [gs]; rfl) hs) rfl (fun h => by unfold wrongD; rw [h]; rfl) fun h1 => ?_
  refine sp_guard (v := !inB 0 3 a) (call_v (ds := [a, .int 0, .int 3]) (by unfold aCons; rw [ga]; rfl) (sp_is (in_all ha))) rfl (fun h => by unfold wrongD; rw [h1, h]; rfl) fun h2 => ?_
  refine sp_guard (v := !coB c) (sp_is (notN_co hc (in_all hc) gc)) rfl (fun h => by unfold wrongD; rw [h1, h2, h]; rfl) fun h3 => ?_
  have k : (eIf (cB (eCall F__law_is_flow (aCons (eOp dGet (eVar 0) (eC (.str "roll"))) aNil))) (eC .non) (eC (.str "roll"))) [D4] = .ok (bif roB r then .non else .str "roll") := by
    have k1 : (cB (eCall F__law_is_flow (aCons (eOp dGet (eVar 0) (eC (.str "roll"))) aNil))) [D4] = .ok (roB r) := by
      unfold cB eCall aCons
      rw [gr]
      show Out.bind (F__law_is_flow [r]) _ = _
      rw [flow_all hr]
      rfl
    unfold eIf
    rw [k1]
    cases roB r <;> rfl
  unfold sRet
  rw [k]
  refine Out.sp_ok ?_
  unfold wrongD
  rw [h1, h2, h3]
  rfl
/-! ### packs -/
abbrev packV (V a c r : D) : D := .ins "Pack" [("own_slots", V), ("own_amount", a), ("own_cost", c), ("own_roll", r)]
theorem sorted_sq : dSortedQ [sqD q (ss.map encSpot)] = .ok (.lst (sortD (ss.map encSpot))) := by
  have h := canSort_spots ss
  cases q with
  | false =>
    show (bif canSort (ss.map encSpot) then Out.ok (D.lst (sortD (ss.map encSpot))) else .stuck) = _
    rw [h]
    rfl
  | true =>
    show (bif canSort (ss.map encSpot) then Out.ok (D.lst (sortD (ss.map encSpot))) else .stuck) = _
    rw [h]
    rfl
theorem raise_part : (sRaise "BadPack" "part" (aCons (eC (.str w)) aNil)) ρ = .exc "BadPack" [("part", .str w)] := rfl
theorem init_gen (hs : (F_are_slots [S]).sp 0 (fun d => d = .bl b) X) (ha : a ≠ .drw) (hc : c ≠ .drw) (hr : fineB r = true) (hX : ∀ w, wrongD b a c r = .str w → X "BadPack" [("part", .str w)]) (hok : wrongD b a c r = .non → ∃ V, dSortedQ [S] = .ok (.lst V) ∧ P (packV (.tup V) a c r)) : (F_Pack___init__ [S, a, c, r]).sp 0 P X := by
  rw [F_Pack___init__]
  unfold fnI
  refine Out.sp_then (c1 := 0) (P := fun r' => ∃ d, P d ∧ r' = .nx [d, S, a, c, r]) ?_ (Nat.le_refl 0) fun r' hr' => by
    obtain ⟨d, hd, rfl⟩ := hr'
    exact Out.sp_ok hd
  have e0 : D.ins "Pack" [] :: [S, a, c, r] ++ List.replicate (5 - ([S, a, c, r].length + 1)) D.non = [.ins "Pack" [], S, a, c, r] := rfl
  rw [e0, S_Pack___init__]
  refine sp_guardX (v := !b) (call_v (ds := [S]) rfl hs) raise_part (fun h => hX _ (by unfold wrongD; rw [h]; rfl)) fun h1 => ?_
  refine sp_guardX (v := !inB 0 3 a) (call_v (ds := [a, .int 0, .int 3]) rfl (sp_is (within_all ha))) raise_part (fun h => hX _ (by unfold wrongD; rw [h1, h]; rfl)) fun h2 => ?_
  refine sp_guardX (v := !coB c) (sp_is (notN_co (e := eVar 3) hc (within_all hc) rfl)) raise_part (fun h => hX _ (by unfold wrongD; rw [h1, h2, h]; rfl)) fun h3 => ?_
  refine sp_guardX (v := !roB r) (call_v (ds := [r]) rfl (sp_is (roll_all hr))) raise_part (fun h => hX _ (by unfold wrongD; rw [h1, h2, h3]; rw [Bool.not_eq_true'] at h; rw [h]; rfl)) fun h4 => ?_
  obtain ⟨V, hV, hP⟩ := hok (by unfold wrongD; rw [h1, h2, h3]; rw [Bool.not_eq_false'] at h4; rw [h4]; rfl)
  have q1 : sFldS "Pack" "own_slots" 0 (eCall dTuple (aCons (eCall dSortedQ (aCons (eVar 1) aNil)) aNil)) [.ins "Pack" [], S, a, c, r] = .ok (.nx [.ins "Pack" [("own_slots", .tup V)], S, a, c, r]) := by
    have k : eCall dTuple (aCons (eCall dSortedQ (aCons (eVar 1) aNil)) aNil) [.ins "Pack" [], S, a, c, r] = .ok (.tup V) := (call1_of ((call1_of rfl).trans hV)).trans rfl
    unfold sFldS
    rw [k]
    kernel_rfl
  rw [seq_nx q1, seq_nx (ρ' := [.ins "Pack" [("own_slots", .tup V), ("own_amount", a)], S, a, c, r]) (by kernel_rfl), seq_nx (ρ' := [.ins "Pack" [("own_slots", .tup V), ("own_amount", a), ("own_cost", c)], S, a, c, r]) (by kernel_rfl)]
  exact Out.sp_eq (show sFldS "Pack" "own_roll" 0 (eVar 4) [.ins "Pack" [("own_slots", .tup V), ("own_amount", a), ("own_cost", c)], S, a, c, r] = .ok (.nx [packV (.tup V) a c r, S, a, c, r]) by kernel_rfl) (Out.sp_ok ⟨_, hP, rfl⟩)
/-! ### the law's makes -/
theorem take_ok {n : Int} {X : Str → List (Str × D) → Prop} (h0 : 0 < n) (h1 : n < 1000000) : (F__law_take [.drw, .int n]).sp 1 (fun d => inR n d) X := by
  unfold F__law_take takeD
  show (if 0 < n ∧ n < 1000000 then Out.any 1 (inR n) Out.ok else Out.stuck).sp _ _ _
  rw [if_pos ⟨h0, h1⟩]
  exact Out.sp_any (c := 0) fun d hd => Out.sp_ok hd
theorem wp_chk {Q : Nat → D → Prop} {E : Nat → Str → List (Str × D) → Prop} : ∀ {o : Out D} {m : Nat}, o.wp m (fun m d => nlD 8 d = true ∧ Q m d) (fun m c fs => (fs.all fun f => nlD 8 f.2) = true ∧ E m c fs) → o.chk.wp m Q E
  | .ok d, m, h => by
    show (bif nlD 8 d then Out.ok d else .stuck).wp m Q E
    rw [h.1]
    exact h.2
  | .exc c fs, m, h => by
    show (bif fs.all (fun f => nlD 8 f.2) then (Out.exc c fs : Out D) else .stuck).wp m Q E
    rw [h.1]
    exact h.2
  | .stuck, _, h => h.elim
  | .any c P k, _, h => by
    obtain ⟨m', e, h⟩ := h
    exact ⟨m', e, fun d hd => wp_chk (h d hd)⟩
theorem sp_chk {o : Out D} (h : o.sp c1 P X) (h1 : ∀ d, P d → nlD 8 d = true) (h2 : ∀ e fs, X e fs → (fs.all fun f => nlD 8 f.2) = true) : o.chk.sp c1 P X := by
  constructor
  intro n
  exact wp_chk (Out.wp_mono (fun m d k => ⟨h1 d k.2, k⟩) (fun m e fs k => ⟨h2 e fs k.2, k⟩) (h.h n))
theorem coin {n : Int} (h0 : 0 < n) (h1 : n < 1000000) (hρ : ρ.getD 0 .non = .drw) : (cB (eOp dEq (eCall F__law_take (aCons (eVar 0) (aCons (eC (.int n)) aNil))) (eC (.int 0))) ρ).sp 1 (fun _ => True) X := by
  show (Out.bind (Out.bind (F__law_take [ρ.getD 0 .non, .int n]) _) _).sp _ _ _
  rw [hρ, Out.bind_assoc]
  refine Out.sp_then (take_ok h0 h1) (Nat.le_refl 1) fun d hd => ?_
  obtain ⟨i, _, _, rfl⟩ := hd
  show (Out.bind (dEq (.int i) (.int 0)) _).sp _ _ _
  rw [eqInt]
  exact Out.sp_ok trivial
theorem h_slots {x2 x3 x4 : D} : eOp dGet (eVar 1) (eC (.str "slots")) [.drw, dct4 S a c r, x2, x3, x4] = .ok S := by kernel_rfl
theorem h_amount {x2 x3 x4 : D} : eOp dGet (eVar 1) (eC (.str "amount")) [.drw, dct4 S a c r, x2, x3, x4] = .ok a := by kernel_rfl
theorem h_cost {x2 x3 x4 : D} : eOp dGet (eVar 1) (eC (.str "cost")) [.drw, dct4 S a c r, x2, x3, x4] = .ok c := by kernel_rfl
theorem h_roll {x2 x3 x4 : D} : eOp dGet (eVar 1) (eC (.str "roll")) [.drw, dct4 S a c r, x2, x3, x4] = .ok r := by kernel_rfl
theorem args_p {x2 x3 x4 : D} {e : Rho → Out D} (he : e [.drw, dct4 S a c r, x2, x3, x4] = .ok y) : eCall (fun ds => F_Pack___init__ (ds ++ [])) (aCons e (aCons (eOp dGet (eVar 1) (eC (.str "amount"))) (aCons (eOp dGet (eVar 1) (eC (.str "cost"))) (aCons (eOp dGet (eVar 1) (eC (.str "roll"))) aNil)))) [.drw, dct4 S a c r, x2, x3, x4] = F_Pack___init__ [y, a, c, r] := by
  unfold eCall aCons
  rw [he, h_amount, h_cost, h_roll]
  rfl
theorem args_k {x2 x3 x4 : D} : eCall (fun ds => F_Pack___init__ (pickL [3, 2, 1, 0] ds)) (aCons (eOp dGet (eVar 1) (eC (.str "roll"))) (aCons (eOp dGet (eVar 1) (eC (.str "cost"))) (aCons (eOp dGet (eVar 1) (eC (.str "amount"))) (aCons (eVar 3) aNil)))) [.drw, dct4 S a c r, x2, x3, x4] = F_Pack___init__ [x3, a, c, r] := by
  unfold eCall aCons
  rw [h_amount, h_cost, h_roll]
  rfl
theorem made_list (h : ∀ q, (F_Pack___init__ [sqD q xs, a, c, r]).sp 0 P X) (h1 : ∀ d, P d → nlD 8 d = true) (h2 : ∀ e fs, X e fs → (fs.all fun f => nlD 8 f.2) = true) : (F__law_made [.drw, dct4 (.lst xs) a c r]).sp 2 P X := by
  rw [F__law_made]
  unfold fnD
  refine Out.sp_then (c1 := 2) (P := fun r' => ∃ d, P d ∧ r' = .rt d) ?_ (Nat.le_refl 2) fun r' hr' => by
    obtain ⟨d, hd, rfl⟩ := hr'
    exact Out.sp_ok hd
  have e0 : [D.drw, dct4 (.lst xs) a c r] ++ List.replicate (5 - [D.drw, dct4 (.lst xs) a c r].length) D.non = [.drw, dct4 (.lst xs) a c r, .non, .non, .non] := rfl
  rw [e0, S__law_made]
  have q1 : sSet 2 (eOp dGet (eVar 1) (eC (.str "slots"))) [.drw, dct4 (.lst xs) a c r, .non, .non, .non] = .ok (.nx [.drw, dct4 (.lst xs) a c r, .lst xs, .non, .non]) := set_nx h_slots
  rw [seq_nx q1]
  have q2 : (cNot (cB (eUn (fun d => boD (dIsTyB "list" d)) (eVar 2)))) [.drw, dct4 (.lst xs) a c r, .lst xs, .non, .non] = .ok false := by kernel_rfl
  rw [seq_nx ((if_nob q2).trans rfl)]
  refine Out.sp_mono (c := 1 + 1) (sp_ifAny (coin (by decide) (by decide) rfl) ?_ ?_) (Nat.le_refl _) (fun _ z => z) fun _ _ z => z
  · have q3 : sSet 3 (eCall dList (aCons (eVar 2) aNil)) [.drw, dct4 (.lst xs) a c r, .lst xs, .non, .non] = .ok (.nx [.drw, dct4 (.lst xs) a c r, .lst xs, .lst xs, .non]) := set_nx rfl
    rw [seq_nx q3]
    refine sp_seqc (c1 := 1) (P := fun ρ => ∃ d, P d ∧ ρ = [.drw, dct4 (.lst xs) a c r, .lst xs, .lst xs, d]) ?_ (Nat.le_refl 1) fun ρ hρ => ?_
    · have k : ∀ {φ : Rho → Out D}, φ [.drw, dct4 (.lst xs) a c r, .lst xs, .lst xs, .non] = F_Pack___init__ [.lst xs, a, c, r] → (sSet 4 (eBorL 3 φ) [.drw, dct4 (.lst xs) a c r, .lst xs, .lst xs, .non]).sp 0 (fun r' => ∃ ρ', r' = .nx ρ' ∧ ∃ d, P d ∧ ρ' = [.drw, dct4 (.lst xs) a c r, .lst xs, .lst xs, d]) X := by
        intro φ hφ
        refine Out.sp_q (sp_set (P := P) ?_) fun r' hr' => ?_
        · show (φ _).chk.sp _ _ _
          rw [hφ]
          exact sp_chk (h false) h1 h2
        · obtain ⟨d, hd, rfl⟩ := hr'
          exact ⟨_, rfl, d, hd, rfl⟩
      exact sp_ifAny (c1 := 1) (c2 := 0) (coin (by decide) (by decide) rfl) (k args_k) (k (args_p rfl))
    · obtain ⟨d, hd, rfl⟩ := hρ
      have q4 : (sIf (cB (eUn (fun d => boD (dIsTyB "list" d)) (eVar 3))) (sClear 3) sNext) [.drw, dct4 (.lst xs) a c r, .lst xs, .lst xs, d] = .ok (.nx [.drw, dct4 (.lst xs) a c r, .lst xs, .lst [], d]) := by kernel_rfl
      rw [seq_nx q4]
      exact Out.sp_ok ⟨d, hd, rfl⟩
  · have q3 : sSet 3 (eCall dTuple (aCons (eVar 2) aNil)) [.drw, dct4 (.lst xs) a c r, .lst xs, .non, .non] = .ok (.nx [.drw, dct4 (.lst xs) a c r, .lst xs, .tup xs, .non]) := set_nx rfl
    rw [seq_nx q3]
    refine sp_seqc (c1 := 1) (P := fun ρ => ∃ d, P d ∧ ρ = [.drw, dct4 (.lst xs) a c r, .lst xs, .tup xs, d]) ?_ (Nat.le_refl 1) fun ρ hρ => ?_
    · have k : ∀ {φ : Rho → Out D}, φ [.drw, dct4 (.lst xs) a c r, .lst xs, .tup xs, .non] = F_Pack___init__ [.tup xs, a, c, r] → (sSet 4 φ [.drw, dct4 (.lst xs) a c r, .lst xs, .tup xs, .non]).sp 0 (fun r' => ∃ ρ', r' = .nx ρ' ∧ ∃ d, P d ∧ ρ' = [.drw, dct4 (.lst xs) a c r, .lst xs, .tup xs, d]) X := by
        intro φ hφ
        refine Out.sp_q (sp_set (P := P) ?_) fun r' hr' => ?_
        · rw [hφ]
          exact h true
        · obtain ⟨d, hd, rfl⟩ := hr'
          exact ⟨_, rfl, d, hd, rfl⟩
      exact sp_ifAny (c1 := 1) (c2 := 0) (coin (by decide) (by decide) rfl) (k args_k) (k (args_p rfl))
    · obtain ⟨d, hd, rfl⟩ := hρ
      have q4 : (sIf (cB (eUn (fun d => boD (dIsTyB "list" d)) (eVar 3))) sNever sNext) [.drw, dct4 (.lst xs) a c r, .lst xs, .tup xs, d] = .ok (.nx [.drw, dct4 (.lst xs) a c r, .lst xs, .tup xs, d]) := by kernel_rfl
      rw [seq_nx q4]
      exact Out.sp_ok ⟨d, hd, rfl⟩
theorem made_other (hS : dIsTyB "list" S = some false) (h : (F_Pack___init__ [S, a, c, r]).sp 0 P X) : (F__law_made [.drw, dct4 S a c r]).sp 2 P X := by
  rw [F__law_made]
  unfold fnD
  refine Out.sp_then (c1 := 0) (P := fun r' => ∃ d, P d ∧ r' = .rt d) ?_ (by decide) fun r' hr' => by
    obtain ⟨d, hd, rfl⟩ := hr'
    exact Out.sp_mono (Out.sp_ok (c := 0) hd) (Nat.zero_le _) (fun _ z => z) fun _ _ z => z
  have e0 : [D.drw, dct4 S a c r] ++ List.replicate (5 - [D.drw, dct4 S a c r].length) D.non = [.drw, dct4 S a c r, .non, .non, .non] := rfl
  rw [e0, S__law_made]
  have q1 : sSet 2 (eOp dGet (eVar 1) (eC (.str "slots"))) [.drw, dct4 S a c r, .non, .non, .non] = .ok (.nx [.drw, dct4 S a c r, S, .non, .non]) := set_nx h_slots
  rw [seq_nx q1]
  have q2 : (cNot (cB (eUn (fun d => boD (dIsTyB "list" d)) (eVar 2)))) [.drw, dct4 S a c r, S, .non, .non] = .ok true := by
    unfold cNot cB eUn
    show Out.bind (Out.bind (boD (dIsTyB "list" S)) _) _ = _
    rw [hS]
    rfl
  unfold sSeq
  rw [if_yesb q2]
  unfold sRet
  rw [args_p (y := S) rfl, Out.bind_assoc]
  exact Out.sp_then h (Nat.le_refl 0) fun d hd => Out.sp_ok ⟨d, hd, rfl⟩
end
end ND
/-! k02: what is drawn -/
namespace ND
open PySem PySem.Spec PyProof.Rows L2
abbrev b__law_all_spots_1_1 : Rho → Out Res := (sSet 2 (eOp dCatL (eVar 2) (eLc (iOf itemsQ (eVar 0)) (gN 4) cYes (eTup (aCons (eVar 4) (aCons (eVar 3) aNil))))))
def B__law_all_spots_1 : Rho → Out Res := b__law_all_spots_1_1
abbrev s__law_all_spots_1 : Rho → Out Res := (sSet 2 (eLst aNil))
abbrev s__law_all_spots_2 : Rho → Out Res := (sFor (iRg1 (aCons (eVar 1) aNil)) (gN 3) B__law_all_spots_1)
abbrev s__law_all_spots_3 : Rho → Out Res := (sRet (eCall dSorted (aCons (eVar 2) aNil)))
theorem S__law_all_spots_is : S__law_all_spots = sSeq s__law_all_spots_1 (sSeq s__law_all_spots_2 s__law_all_spots_3) := rfl
abbrev s__law_given_1 : Rho → Out Res := (sSet 1 (eCall F__law_names (aCons (eVar 0) (aCons (eC (.int 3)) aNil))))
abbrev s__law_given_2 : Rho → Out Res := (sSet 2 (eCall F__law_shuffled (aCons (eVar 0) (aCons (eCall F__law_any_of (aCons (eVar 0) (aCons (eCall F__law_all_spots (aCons (eVar 1) (aCons (eC (.int 4)) aNil))) (aCons (eCall F__law_pick (aCons (eVar 0) (aCons (eLst (aCons (eC (.int 2)) (aCons (eC (.int 9)) aNil))) aNil))) aNil)))) aNil))))
abbrev s__law_given_3 : Rho → Out Res := (sSet 3 (eDisp (pCons (eC (.str "slots")) (eIf (cB (eOp dNe (eVar 2) (eLst aNil))) (eSl dSlL (eVar 2) oNone (oSome (eCall F__law_pick (aCons (eVar 0) (aCons (eLst (aCons (eC (.int 12)) (aCons (eC (.int 2)) (aCons (eC (.int 1)) aNil)))) aNil))))) (eLst (aCons (eTup (aCons (eOp dIx (eVar 1) (eC (.int 0))) (aCons (eC (.int 0)) aNil))) aNil))) pNil)))
abbrev s__law_given_4 : Rho → Out Res := (sPut2 3 "amount" "cost" (eCall F__law_take (aCons (eVar 0) (aCons (eC (.int 4)) aNil))) (eCall F__law_pick (aCons (eVar 0) (aCons (eLst (aCons (eC .non) (aCons (eC (.int 0)) (aCons (eC (.int 1)) (aCons (eC (.int 99)) aNil))))) aNil))))
abbrev s__law_given_5 : Rho → Out Res := (sDPutO 3 (eC (.str "roll")) (eCall F__law_pick (aCons (eVar 0) (aCons (eLst (aCons (eC .non) (aCons (eTup (aCons (eOp dIx (eVar 1) (eC (.int 1))) (aCons (eC (.int 1)) aNil))) (aCons (eTup (aCons (eOp dIx (eVar 1) (eC (.int 2))) (aCons (eC (.int 3)) aNil))) aNil)))) aNil))))
abbrev s__law_given_6 : Rho → Out Res := (sRet (eVar 3))
theorem S__law_given_is : S__law_given = sSeq s__law_given_1 (sSeq s__law_given_2 (sSeq s__law_given_3 (sSeq s__law_given_4 (sSeq s__law_given_5 s__law_given_6)))) := rfl
theorem erase_perm {α : Type} : ∀ {l : List α} {i : Nat} (h : i < l.length), (l[i] :: l.eraseIdx i).Perm l
  | x :: l, 0, _ => .refl _
  | x :: l, i + 1, h => by
    have h' : i < l.length := by simpa using h
    exact (List.Perm.swap _ _ _).trans ((erase_perm h').cons x)
theorem atI_memD {xs : List D} {i : Int} (h0 : 0 ≤ i) (h1 : i < xs.length) : ∃ x ∈ xs, L2.atI xs i = some x := by
  refine ⟨xs[i.toNat]'(by omega), List.getElem_mem _, ?_⟩
  unfold L2.atI L2.ixN
  rw [if_pos h0, if_pos h1]
  exact List.getElem?_eq_getElem (by omega)
theorem pick_ok {xs : List D} {X : Str → List (Str × D) → Prop} (h0 : 0 < xs.length) (h1 : xs.length < 1000000) : (F__law_pick [.drw, .lst xs]).sp 1 (fun d => d ∈ xs) X := by
  unfold F__law_pick S__law_pick
  simp only [fnD, fnN, sSeq, sIf, sRet, sRetN, sDrop, sSet, sNext, sRaise, eVar, eC, eOp, eUn, eCall, eAnd, eOr, eNot, eIf, eChain, eTup, eLst, eLc, iOf, cB, cNot, cAnd, cOr, aNil, aCons, gN, Out.ok_bind, Out.exc_bind, Out.nox_ok, boD_some, List.cons_append, List.nil_append, List.append_nil, List.length_cons, List.length_nil, List.replicate, List.getD_cons_zero, List.getD_cons_succ, List.set_cons_zero, List.set_cons_succ, Nat.reduceAdd, Nat.reduceSub, Nat.reduceLeDiff, List.replicate_succ, List.replicate_zero, cond_true, cond_false, Bool.not_true, Bool.not_false, dLen, Out.bind_assoc]
  refine Out.sp_then (take_ok (by omega) (by omega)) (Nat.le_refl 1) fun d hd => ?_
  obtain ⟨i, i0, i1, rfl⟩ := hd
  obtain ⟨x, hx, e⟩ := atI_memD i0 i1
  have k : dIx (.lst xs) (.int i) = .ok x := by
    show optD (L2.atI xs i) = _
    rw [e]
    rfl
  simp only [fnD, fnN, sSeq, sIf, sRet, sRetN, sDrop, sSet, sNext, sRaise, eVar, eC, eOp, eUn, eCall, eAnd, eOr, eNot, eIf, eChain, eTup, eLst, eLc, iOf, cB, cNot, cAnd, cOr, aNil, aCons, gN, Out.ok_bind, Out.exc_bind, Out.nox_ok, boD_some, List.cons_append, List.nil_append, List.append_nil, List.length_cons, List.length_nil, List.replicate, List.getD_cons_zero, List.getD_cons_succ, List.set_cons_zero, List.set_cons_succ, Nat.reduceAdd, Nat.reduceSub, Nat.reduceLeDiff, List.replicate_succ, List.replicate_zero, cond_true, cond_false, Bool.not_true, Bool.not_false, k]
  exact Out.sp_ok hx
abbrev shB : Rho → Out Res := sAppPop 3 2 (eCall F__law_take (aCons (eVar 0) (aCons (eCall dLen (aCons (eVar 2) aNil)) aNil)))
abbrev shC : Rho → Out Bool := cB (eOp dNilNe (eVar 2) (eLst aNil))
theorem sh_any {a : D} : ∀ (k : Nat) (ys acc : List D), ys.length < k → ys.length + acc.length < 1000 →
    (whD shC shB k [.drw, a, .lst ys, .lst acc]).sp ys.length (fun r => ∃ zs : List D, zs.Perm (acc ++ ys) ∧ r = .nx [.drw, a, .lst [], .lst zs]) (fun _ _ => False)
  | 0, ys, acc, h, _ => absurd h (Nat.not_lt_zero _)
  | k + 1, ys, acc, h, hl => by
    unfold whD
    have hc : shC [.drw, a, .lst ys, .lst acc] = .ok (!ys.isEmpty) := by
      show cB (eOp dNilNe (eVar 2) (eLst aNil)) _ = _
      simp only [fnD, fnN, sSeq, sIf, sRet, sRetN, sDrop, sSet, sNext, sRaise, eVar, eC, eOp, eUn, eCall, eAnd, eOr, eNot, eIf, eChain, eTup, eLst, eLc, iOf, cB, cNot, cAnd, cOr, aNil, aCons, gN, Out.ok_bind, Out.exc_bind, Out.nox_ok, boD_some, List.cons_append, List.nil_append, List.append_nil, List.length_cons, List.length_nil, List.replicate, List.getD_cons_zero, List.getD_cons_succ, List.set_cons_zero, List.set_cons_succ, Nat.reduceAdd, Nat.reduceSub, Nat.reduceLeDiff, List.replicate_succ, List.replicate_zero, cond_true, cond_false, Bool.not_true, Bool.not_false, dNilNe]
    rw [hc, Out.ok_bind]
    cases ys with
    | nil =>
      rw [List.append_nil]
      exact Out.sp_ok ⟨acc, .refl _, rfl⟩
    | cons y ys =>
      have hl1 : (y :: ys).length = ys.length + 1 := rfl
      have hb : (shB [.drw, a, .lst (y :: ys), .lst acc]).sp 1 (fun r => ∃ (i : Nat) (x : D), (y :: ys)[i]? = some x ∧ r = .nx [.drw, a, .lst ((y :: ys).eraseIdx i), .lst (acc ++ [x])]) (fun _ _ => False) := by
        show (Out.bind _ _).sp _ _ _
        simp only [fnD, fnN, sSeq, sIf, sRet, sRetN, sDrop, sSet, sNext, sRaise, eVar, eC, eOp, eUn, eCall, eAnd, eOr, eNot, eIf, eChain, eTup, eLst, eLc, iOf, cB, cNot, cAnd, cOr, aNil, aCons, gN, Out.ok_bind, Out.exc_bind, Out.nox_ok, boD_some, List.cons_append, List.nil_append, List.append_nil, List.length_cons, List.length_nil, List.replicate, List.getD_cons_zero, List.getD_cons_succ, List.set_cons_zero, List.set_cons_succ, Nat.reduceAdd, Nat.reduceSub, Nat.reduceLeDiff, List.replicate_succ, List.replicate_zero, cond_true, cond_false, Bool.not_true, Bool.not_false, dLen, Out.bind_assoc]
        refine Out.sp_then (take_ok (by omega) (by omega)) (Nat.le_refl 1) fun d hd => ?_
        obtain ⟨i, i0, i1, rfl⟩ := hd
        have hi : i.toNat < (y :: ys).length := by omega
        show (if 0 ≤ i ∧ acc.length < 100000 then (match (y :: ys)[i.toNat]? with | some y' => Out.ok (Res.nx [.drw, a, .lst ((y :: ys).eraseIdx i.toNat), .lst (acc ++ [y'])]) | none => .stuck) else .stuck).sp _ _ _
        rw [if_pos ⟨i0, by omega⟩, List.getElem?_eq_getElem hi]
        exact Out.sp_ok ⟨i.toNat, _, List.getElem?_eq_getElem hi, rfl⟩
      show (Out.bind _ _).sp _ _ _
      rw [hl1, Nat.add_comm]
      refine Out.sp_bind (Out.sp_q hb fun r hr => ?_)
      obtain ⟨i, x, hx, rfl⟩ := hr
      have hi := (List.getElem?_eq_some_iff.mp hx).1
      have he : ((y :: ys).eraseIdx i).length = ys.length := by rw [List.length_eraseIdx_of_lt hi]; rfl
      have := sh_any (a := a) k ((y :: ys).eraseIdx i) (acc ++ [x]) (by omega) (by rw [List.length_append, he]; show ys.length + (acc.length + 1) < 1000; omega)
      rw [he] at this
      refine Out.sp_q this fun r hr => ?_
      obtain ⟨zs, hz, rfl⟩ := hr
      refine ⟨zs, hz.trans ?_, rfl⟩
      rw [List.append_assoc]
      refine List.Perm.append_left acc ?_
      have e : x = (y :: ys)[i] := by
        rw [List.getElem?_eq_getElem hi] at hx
        exact (Option.some.inj hx).symm
      rw [e]
      exact erase_perm hi
theorem shuffled_any {xs : List D} (hl : xs.length < 1000) : (F__law_shuffled [.drw, .lst xs]).sp xs.length (fun d => ∃ zs : List D, zs.Perm xs ∧ d = .lst zs) (fun _ _ => False) := by
  unfold F__law_shuffled S__law_shuffled fnD
  refine Out.sp_then (c1 := xs.length) (P := fun r => ∃ zs : List D, zs.Perm xs ∧ r = .rt (.lst zs)) ?_ (Nat.le_refl _) fun r hr => ?_
  · rw [seq_nx (ρ' := [.drw, .lst xs, .lst xs, .lst []]) rfl]
    unfold sSeq
    refine Out.sp_then (c1 := xs.length) (sh_any (a := .lst xs) 100001 xs [] (by omega) (by show xs.length + 0 < 1000; omega)) (Nat.le_refl _) fun r hr => ?_
    obtain ⟨zs, hz, rfl⟩ := hr
    exact Out.sp_ok ⟨zs, hz, rfl⟩
  · obtain ⟨zs, hz, rfl⟩ := hr
    exact Out.sp_ok ⟨zs, hz, rfl⟩
section
variable {x y S a c r d v1 v2 v3 v4 : D} {xs ys : List D} {zs : List Str} {z w k1 k2 : Str} {i j : Int} {ss ts us acc : List Spot} {q b v : Bool} {ρ ρ1 ρ2 : Rho} {X : Str → List (Str × D) → Prop} {P P2 : D → Prop} {Q : Res → Prop} {c1 c2 : Nat}
theorem names_ok : (F__law_names [.drw, .int 3]).sp 30 (fun d => isNames 3 d) X := by
  show (if (0 : Int) ≤ 3 ∧ (3 : Int) ≤ 20 then Out.any (10 * (3 : Int).toNat) (isNames (3 : Int).toNat) Out.ok else Out.stuck).sp _ _ _
  rw [if_pos ⟨by decide, by decide⟩]
  exact Out.sp_any (c := 0) fun d hd => Out.sp_ok hd
theorem forD_cons {γ : D → Rho → Option Rho} {B : Rho → Out Res} (h : γ x ρ = some ρ1) (hb : B ρ1 = .ok (.nx ρ2)) : forD γ B (x :: xs) ρ = forD γ B xs ρ2 := by
  show (match γ x ρ with | none => _ | some ρ1 => _) = _
  rw [h]
  show Out.bind (B ρ1) _ = _
  rw [hb]
  rfl
theorem catLq {A B : List D} (h : A.length + B.length ≤ 100000) : dCatL (.lst A) (.lst B) = .ok (.lst (A ++ B)) := by
  show (bif decide (A.length + B.length ≤ 100000) then Out.ok (D.lst (A ++ B)) else .stuck) = _
  rw [decide_eq_true h]
  rfl
def asAt (zs : List Str) (d : Int) : List Spot := zs.map fun z => (z, d)
theorem asp_step {l4 : D} {dt : Int} (hz : zs.length ≤ 20) (hl : acc.length ≤ 1000) : B__law_all_spots_1 [.lst (zs.map .str), .int 4, .lst (acc.map encSpot), .int dt, l4] = .ok (.nx [.lst (zs.map .str), .int 4, .lst ((acc ++ asAt zs dt).map encSpot), .int dt, l4]) := by
  have k : eLc (iOf itemsQ (eVar 0)) (gN 4) cYes (eTup (aCons (eVar 4) (aCons (eVar 3) aNil))) [.lst (zs.map .str), .int 4, .lst (acc.map encSpot), .int dt, l4] = .ok (.lst ((asAt zs dt).map encSpot)) := by
    have h := lc_mapE (enc := D.str) (f := fun z => encSpot (z, dt)) (γ := gN 4) (b := eTup (aCons (eVar 4) (aCons (eVar 3) aNil))) (ρ := [.lst (zs.map .str), .int 4, .lst (acc.map encSpot), .int dt, l4]) (xs := zs) fun z _ => ⟨_, rfl, rfl⟩
    unfold eLc iOf
    show Out.bind (lcD _ _ _ _ (zs.map .str)) _ = _
    rw [h]
    unfold asAt
    rw [List.map_map]
    rfl
  unfold B__law_all_spots_1
  refine (set_nx (d := .lst ((acc ++ asAt zs dt).map encSpot)) ?_).trans rfl
  unfold eOp
  show Out.bind (Out.ok (D.lst (acc.map encSpot))) _ = _
  rw [Out.ok_bind, k, Out.ok_bind, catLq (by rw [List.length_map, List.length_map]; unfold asAt; rw [List.length_map]; omega), List.map_append]
def asAll (zs : List Str) : List Spot := (((([] ++ asAt zs 0) ++ asAt zs 1) ++ asAt zs 2) ++ asAt zs 3)
theorem all_spots_F (hz : zs.length ≤ 20) : F__law_all_spots [.lst (zs.map .str), .int 4] = .ok (.lst (sortD ((asAll zs).map encSpot))) := by
  have la : ∀ d, (asAt zs d).length = zs.length := fun d => by unfold asAt; rw [List.length_map]
  have q1 : s__law_all_spots_2 [.lst (zs.map .str), .int 4, .lst ([].map encSpot), .non, .non] = .ok (.nx [.lst (zs.map .str), .int 4, .lst ((asAll zs).map encSpot), .int 3, .non]) := by
    unfold s__law_all_spots_2 sFor
    show forD (gN 3) B__law_all_spots_1 [.int 0, .int 1, .int 2, .int 3] [.lst (zs.map .str), .int 4, .lst ([].map encSpot), .non, .non] = _
    rw [forD_cons (γ := gN 3) rfl (asp_step hz (by decide)), forD_cons (γ := gN 3) rfl (asp_step hz (by rw [List.length_append, la]; show 0 + _ ≤ 1000; omega)), forD_cons (γ := gN 3) rfl (asp_step hz (by rw [List.length_append, List.length_append, la, la]; show 0 + _ + _ ≤ 1000; omega)), forD_cons (γ := gN 3) rfl (asp_step hz (by rw [List.length_append, List.length_append, List.length_append, la, la, la]; show 0 + _ + _ + _ ≤ 1000; omega))]
    rfl
  unfold F__law_all_spots fnD
  have e0 : [D.lst (zs.map .str), .int 4] ++ List.replicate (5 - [D.lst (zs.map .str), .int 4].length) D.non = [.lst (zs.map .str), .int 4, .non, .non, .non] := rfl
  rw [e0, S__law_all_spots_is, seq_nx (ρ' := [.lst (zs.map .str), .int 4, .lst ([].map encSpot), .non, .non]) rfl, seq_nx q1]
  have k : dSorted [.lst ((asAll zs).map encSpot)] = .ok (.lst (sortD ((asAll zs).map encSpot))) := by
    show (bif canSort ((asAll zs).map encSpot) then Out.ok (D.lst (sortD ((asAll zs).map encSpot))) else .stuck) = _
    rw [canSort_spots]
    rfl
  have k2 : eCall dSorted (aCons (eVar 2) aNil) [.lst (zs.map .str), .int 4, .lst ((asAll zs).map encSpot), .int 3, .non] = .ok (.lst (sortD ((asAll zs).map encSpot))) := (call1_of rfl).trans k
  unfold s__law_all_spots_3 sRet
  rw [k2]
  rfl
/-! ### some of them -/
theorem any_lc {n : Int} (h0 : 0 < n) (h1 : n < 1000000) {L l : D} : ∀ ts : List Spot, (lcD (gN 3) (cB (eOp dGt (eCall F__law_take (aCons (eVar 0) (aCons (eVar 2) aNil))) (eC (.int 0)))) (eVar 3) [.drw, L, .int n, l] (ts.map encSpot)).sp ts.length (fun ys => ∃ us : List Spot, us.Sublist ts ∧ ys = us.map encSpot) X
  | [] => Out.sp_ok ⟨[], .slnil, rfl⟩
  | t :: ts => by
    have ih := any_lc h0 h1 (L := L) (l := l) ts
    rw [List.map_cons]
    unfold lcD
    have hc : (cB (eOp dGt (eCall F__law_take (aCons (eVar 0) (aCons (eVar 2) aNil))) (eC (.int 0))) [.drw, L, .int n, encSpot t]).sp 1 (fun _ => True) (fun _ _ => False) := by
      show (Out.bind (Out.bind (F__law_take [.drw, .int n]) _) _).sp _ _ _
      rw [Out.bind_assoc]
      refine Out.sp_then (take_ok h0 h1) (Nat.le_refl 1) fun d hd => ?_
      obtain ⟨i, _, _, rfl⟩ := hd
      exact Out.sp_ok trivial
    show (Out.bind (Out.nox (cB _ [.drw, L, .int n, encSpot t])) _).sp _ _ _
    rw [List.length_cons, Nat.add_comm]
    refine Out.sp_then (c1 := 1) (Out.sp_nox hc) (Nat.le_add_right 1 _) fun u _ => ?_
    have e1 : 1 + ts.length - 1 = ts.length := by omega
    rw [e1]
    cases u with
    | true =>
      show (Out.bind (lcD _ _ _ _ (ts.map encSpot)) _).sp _ _ _
      refine Out.sp_then ih (Nat.le_refl _) fun ys hys => ?_
      obtain ⟨us, hu, rfl⟩ := hys
      rw [Nat.sub_self]
      exact Out.sp_ok ⟨t :: us, hu.cons_cons t, rfl⟩
    | false =>
      refine Out.sp_q ih fun ys hys => ?_
      obtain ⟨us, hu, rfl⟩ := hys
      exact ⟨us, hu.cons t, rfl⟩
theorem any_of_ok {n : Int} (h0 : 0 < n) (h1 : n < 1000000) : (F__law_any_of [.drw, .lst (ts.map encSpot), .int n]).sp ts.length (fun d => ∃ us : List Spot, us.Sublist ts ∧ d = .lst (us.map encSpot)) X := by
  unfold F__law_any_of S__law_any_of fnD
  show (Out.bind (Out.bind (Out.bind (lcD _ _ _ [.drw, .lst (ts.map encSpot), .int n, .non] (ts.map encSpot)) _) _) _).sp _ _ _
  rw [Out.bind_assoc, Out.bind_assoc]
  refine Out.sp_then (any_lc h0 h1 ts) (Nat.le_refl _) fun ys hys => ?_
  obtain ⟨us, hu, rfl⟩ := hys
  exact Out.sp_mono (Out.sp_ok (c := 0) ⟨us, hu, rfl⟩) (Nat.zero_le _) (fun _ z => z) fun _ _ z => z
theorem asAll_len : (asAll zs).length = 4 * zs.length := by
  unfold asAll asAt
  simp only [List.length_append, List.length_map, List.length_nil]
  omega
theorem asAll_mem {s : Spot} (h : s ∈ asAll zs) : s.1 ∈ zs ∧ 0 ≤ s.2 ∧ s.2 ≤ 3 := by
  have at_ : ∀ d, s ∈ asAt zs d → s.1 ∈ zs ∧ s.2 = d := fun d hd => by
    obtain ⟨z, hz, rfl⟩ := List.mem_map.mp hd
    exact ⟨hz, rfl⟩
  unfold asAll at h
  simp only [List.mem_append, List.not_mem_nil, false_or] at h
  rcases h with ((h | h) | h) | h
  · obtain ⟨a, b⟩ := at_ _ h
    exact ⟨a, by omega, by omega⟩
  · obtain ⟨a, b⟩ := at_ _ h
    exact ⟨a, by omega, by omega⟩
  · obtain ⟨a, b⟩ := at_ _ h
    exact ⟨a, by omega, by omega⟩
  · obtain ⟨a, b⟩ := at_ _ h
    exact ⟨a, by omega, by omega⟩
theorem asAll_nd (h : zs.Nodup) : (asAll zs).Nodup := by
  have n1 : ∀ d, (asAt zs d).Nodup := fun d => List.Pairwise.map _ (fun a b hab z => hab (congrArg Prod.fst z)) h
  have df : ∀ d e, d ≠ e → ∀ s ∈ asAt zs d, s ∉ asAt zs e := fun d e hde s h1 h2 => by
    obtain ⟨z, _, rfl⟩ := List.mem_map.mp h1
    obtain ⟨z', _, e2⟩ := List.mem_map.mp h2
    exact hde (congrArg Prod.snd e2).symm
  unfold asAll
  rw [List.nil_append]
  have ap : ∀ {A B : List Spot}, A.Nodup → B.Nodup → (∀ s ∈ A, s ∉ B) → (A ++ B).Nodup := fun a b hd => List.nodup_append.mpr ⟨a, b, fun s h1 t h2 e => hd s h1 (e ▸ h2)⟩
  refine ap (ap (ap (n1 0) (n1 1) (df 0 1 (by decide))) (n1 2) fun s hs => ?_) (n1 3) fun s hs => ?_
  · rcases List.mem_append.mp hs with hs | hs
    · exact df 0 2 (by decide) s hs
    · exact df 1 2 (by decide) s hs
  · rcases List.mem_append.mp hs with hs | hs
    · rcases List.mem_append.mp hs with hs | hs
      · exact df 0 3 (by decide) s hs
      · exact df 1 3 (by decide) s hs
    · exact df 2 3 (by decide) s hs
/-! ### small pieces -/
theorem disp1 {e : Rho → Out D} : eDisp (pCons (eC (.str w)) e pNil) ρ = (e ρ).bind fun y => .ok (.dct [(.inr w, y)]) := by
  show Out.bind (Out.bind (Out.ok (D.str w)) _) _ = _
  rw [Out.ok_bind]
  show Out.bind (Out.bind (e ρ) _) _ = _
  rw [Out.bind_assoc]
  rfl
theorem sp_put2 {A B : Rho → Out D} {kvs : List (Key × D)} {n : Nat} (ha : (A ρ).sp c1 P X) (hb : (B ρ).sp c2 P2 X) (hg : ρ.getD n .non = .dct kvs) (hl : kvs.length < 99990) : (sPut2 n k1 k2 A B ρ).sp (c1 + c2) (fun r => ∃ x y, P x ∧ P2 y ∧ r = .nx ((ρ.set n (.dct (putD kvs (.inr k1) x))).set n (.dct (putD (putD kvs (.inr k1) x) (.inr k2) y)))) X := by
  unfold sPut2
  refine Out.sp_then ha (Nat.le_add_right _ _) fun x hx => ?_
  refine Out.sp_then hb (by omega) fun y hy => ?_
  rw [hg]
  simp only [hl, decide_true, cond_true]
  exact Out.sp_mono (Out.sp_ok (c := 0) ⟨x, y, hx, hy, rfl⟩) (Nat.zero_le _) (fun _ z => z) fun _ _ z => z
theorem sp_dput {B V : Rho → Out D} {kvs : List (Key × D)} {n : Nat} (hv : (V ρ).sp c1 P X) (hb : B ρ = .ok (.str w)) (hg : ρ.getD n .non = .dct kvs) (hl : kvs.length < 99999) : (sDPutO n B V ρ).sp c1 (fun r => ∃ y, P y ∧ r = .nx (ρ.set n (.dct (putD kvs (.inr w) y)))) X := by
  unfold sDPutO
  refine Out.sp_then hv (Nat.le_refl _) fun y hy => ?_
  rw [hb, Out.ok_bind, hg]
  simp only [keyOfD, hl, decide_true, cond_true]
  exact Out.sp_mono (Out.sp_ok (c := 0) ⟨y, hy, rfl⟩) (Nat.zero_le _) (fun _ z => z) fun _ _ z => z
theorem cut_to {α : Type} (xs : List α) (n : Nat) : cutL xs none (some (n : Int)) = xs.take (min n xs.length) := by
  unfold cutL
  rw [HT.sIx_nat]
  show (xs.drop 0).take (_ - 0) = _
  rw [List.drop_zero, Nat.sub_zero]
theorem pick_at {A : Rho → Out D} {L : List D} (h0 : 0 < L.length) (h1 : L.length < 1000000) (hρ : ρ.getD 0 .non = .drw) (hA : A ρ = .ok (.lst L)) : (eCall F__law_pick (aCons (eVar 0) (aCons A aNil)) ρ).sp 1 (fun d => d ∈ L) X := by
  have e : eCall F__law_pick (aCons (eVar 0) (aCons A aNil)) ρ = F__law_pick [.drw, .lst L] := by
    unfold eCall aCons
    show Out.bind (Out.bind (Out.ok (ρ.getD 0 .non)) _) _ = _
    rw [hρ, hA]
    rfl
  rw [e]
  exact pick_ok h0 h1
def decS : D → Spot
  | .tup [.str z, .int i] => (z, i)
  | _ => ("", 0)
/-! ### the parts of a pack are drawn -/
theorem slots_drawn {zs : List Str} (hz : zs.length = 3) (hn : zs.Nodup) (hok : ∀ z ∈ zs, NameOk z) {x2 x3 : D} : (s__law_given_2 [.drw, .lst (zs.map .str), x2, x3]).sp 25 (fun r => ∃ us : List Spot, us.Nodup ∧ us.length ≤ 12 ∧ (∀ s ∈ us, NameOk s.1 ∧ 0 ≤ s.2 ∧ s.2 ≤ 3) ∧ r = .nx [.drw, .lst (zs.map .str), .lst (us.map encSpot), x3]) (fun _ _ => False) := by
  obtain ⟨ts, hp, hs⟩ := sortD_spots (asAll zs)
  have hlen : ts.length = 12 := by rw [hp.length_eq, asAll_len, hz]
  have ka : eCall F__law_all_spots (aCons (eVar 1) (aCons (eC (.int 4)) aNil)) [.drw, .lst (zs.map .str), x2, x3] = .ok (.lst (ts.map encSpot)) := by
    have := all_spots_F (zs := zs) (by omega)
    rw [hs] at this
    exact this
  unfold s__law_given_2
  refine Out.sp_q (sp_set (P := fun d => ∃ us : List Spot, us.Nodup ∧ us.length ≤ 12 ∧ (∀ s ∈ us, NameOk s.1 ∧ 0 ≤ s.2 ∧ s.2 ≤ 3) ∧ d = .lst (us.map encSpot)) ?_) fun r hr => ?_
  rotate_left
  · obtain ⟨d, ⟨us, h1, h2, h3, rfl⟩, rfl⟩ := hr
    exact ⟨us, h1, h2, h3, rfl⟩
  refine Out.sp_mono (c := 13 + 12) (sp_call2 (c1 := 13) (c2 := 12) (F := F__law_shuffled) (x := .drw) rfl (P := fun d => ∃ us : List Spot, us.Sublist ts ∧ d = .lst (us.map encSpot)) ?_ fun d hd => ?_) (Nat.le_refl _) (fun _ z => z) fun _ _ z => z
  · have e : eCall F__law_any_of (aCons (eVar 0) (aCons (eCall F__law_all_spots (aCons (eVar 1) (aCons (eC (.int 4)) aNil))) (aCons (eCall F__law_pick (aCons (eVar 0) (aCons (eLst (aCons (eC (.int 2)) (aCons (eC (.int 9)) aNil))) aNil))) aNil))) [.drw, .lst (zs.map .str), x2, x3] = (eCall F__law_pick (aCons (eVar 0) (aCons (eLst (aCons (eC (.int 2)) (aCons (eC (.int 9)) aNil))) aNil)) [.drw, .lst (zs.map .str), x2, x3]).bind fun d => F__law_any_of [.drw, .lst (ts.map encSpot), d] := by
      revert ka
      generalize eCall F__law_all_spots (aCons (eVar 1) (aCons (eC (.int 4)) aNil)) = A
      generalize eCall F__law_pick (aCons (eVar 0) (aCons (eLst (aCons (eC (.int 2)) (aCons (eC (.int 9)) aNil))) aNil)) = B
      intro ka
      show Out.bind (Out.bind (Out.ok D.drw) _) _ = _
      rw [Out.ok_bind]
      show Out.bind (Out.bind (Out.bind (A _) _) _) _ = _
      rw [ka, Out.ok_bind]
      show Out.bind (Out.bind (Out.bind (Out.bind (B _) _) _) _) _ = _
      rw [Out.bind_assoc, Out.bind_assoc, Out.bind_assoc]
      rfl
    rw [e]
    refine Out.sp_then (c1 := 1) (pick_at (L := [.int 2, .int 9]) (by decide) (by decide) rfl rfl) (by decide) fun d hd => ?_
    have : ∃ n : Int, 0 < n ∧ n < 1000000 ∧ d = .int n := by
      rcases List.mem_cons.mp hd with rfl | hd
      · exact ⟨2, by decide, by decide, rfl⟩
      · exact ⟨9, by decide, by decide, List.mem_singleton.mp hd⟩
    obtain ⟨n, n0, n1, rfl⟩ := this
    have := any_of_ok (ts := ts) (X := fun _ _ => False) n0 n1
    rw [hlen] at this
    exact this
  · obtain ⟨us, hu, rfl⟩ := hd
    have hul : us.length ≤ 12 := by have := hu.length_le; omega
    refine Out.sp_mono (shuffled_any (xs := us.map encSpot) (by rw [List.length_map]; omega)) (by rw [List.length_map]; exact hul) (fun d hd => ?_) fun _ _ z => z
    obtain ⟨ws, hw, rfl⟩ := hd
    have : ∃ us' : List Spot, us'.Perm us ∧ ws = us'.map encSpot := by
      have all : ∀ x ∈ ws, encSpot (decS x) = x := fun x hx => by
        obtain ⟨s, _, e⟩ := List.mem_map.mp (hw.subset hx)
        rw [← e]
        rfl
      refine ⟨ws.map decS, ?_, ?_⟩
      · have := hw.map decS
        rw [List.map_map] at this
        have e : decS ∘ encSpot = id := funext fun s => rfl
        rw [e, List.map_id] at this
        exact this
      · rw [List.map_map]
        exact (List.map_id' ws).symm.trans (List.map_congr_left fun x hx => (all x hx).symm)
    obtain ⟨us', hp', rfl⟩ := this
    have nd : us.Nodup := hu.nodup (hp.nodup_iff.mpr (asAll_nd hn))
    refine ⟨us', hp'.nodup_iff.mpr nd, by rw [hp'.length_eq]; exact hul, fun s hs => ?_, rfl⟩
    obtain ⟨m1, m2, m3⟩ := asAll_mem (hp.subset (hu.subset (hp'.subset hs)))
    exact ⟨hok _ m1, m2, m3⟩
end
end ND
/-! texts of data are plain texts -/
namespace ND
open PySem PySem.Spec PyProof.Rows L2
/-- all signs are code points -/
def CpL (l : List Nat) : Prop := ∀ c ∈ l, c < 0x110000
def CpS (z : Str) : Prop := CpL z.cps.toList
theorem cpL_app {a b : List Nat} (h1 : CpL a) (h2 : CpL b) : CpL (a ++ b) := fun c hc => by
  rcases List.mem_append.mp hc with h | h
  · exact h1 c h
  · exact h2 c h
theorem cpL_dec {l : List Nat} (h : (l.all fun c => decide (c < 0x110000)) = true) : CpL l := fun c hc => of_decide_eq_true (List.all_eq_true.mp h c hc)
theorem cpS_app {a b : Str} (h1 : CpS a) (h2 : CpS b) : CpS (a ++ b) := by
  have e : (a ++ b).cps.toList = a.cps.toList ++ b.cps.toList := by
    show (a.cps ++ b.cps).toList = _
    simp
  unfold CpS
  rw [e]
  exact cpL_app h1 h2
theorem cpS_dec {z : Str} (h : (z.cps.toList.all fun c => decide (c < 0x110000)) = true) : CpS z := cpL_dec h
theorem cpL_chars (l : List Char) : CpL (l.map Char.toNat) := fun c hc => by
  obtain ⟨x, _, rfl⟩ := List.mem_map.mp hc
  have := x.valid
  have h2 : x.toNat = x.val.toNat := rfl
  rcases this with h | h
  · have : x.val.toNat < 55296 := h
    omega
  · obtain ⟨_, h⟩ := h
    have : x.val.toNat < 1114112 := h
    omega
theorem cpS_of (s : String) : CpS (Str.ofString s) := by
  unfold CpS
  rw [Str.ofString_eq_toList]
  exact cpL_chars _
theorem cpL_repr {q c : Nat} (hq : q < 0x110000) (hc : c < 0x110000) : CpL (Builtin.Str.reprChar q c) := by
  have hx : ∀ w : Nat, CpL (List.replicate (w - ((Nat.toDigits 16 c).map Char.toNat).length) 48 ++ (Nat.toDigits 16 c).map Char.toNat) := fun w => cpL_app (fun x hx => by rw [(List.mem_replicate.mp hx).2]; decide) (cpL_chars _)
  unfold Builtin.Str.reprChar
  dsimp only
  split
  · exact fun x hx => by
      simp only [List.mem_cons, List.not_mem_nil, or_false] at hx
      rcases hx with rfl | rfl
      · decide
      · exact hc
  split
  · exact cpL_dec (by decide)
  split
  · exact cpL_dec (by decide)
  split
  · exact cpL_dec (by decide)
  split
  · exact fun x hx => by
      rw [List.mem_singleton.mp hx]
      exact hc
  split
  · exact cpL_app (cpL_dec (by decide)) (hx 2)
  split
  · exact cpL_app (cpL_dec (by decide)) (hx 4)
  · exact cpL_app (cpL_dec (by decide)) (hx 8)
theorem cpL_fold {q : Nat} (hq : q < 0x110000) : ∀ (l : List Nat) (acc : Array Nat), CpL l → CpL acc.toList → CpL (l.foldl (fun out c => out ++ (Builtin.Str.reprChar q c).toArray) acc).toList
  | [], acc, _, h => h
  | c :: r, acc, hl, h => by
    rw [List.foldl_cons]
    refine cpL_fold hq r _ (fun x hx => hl x (List.mem_cons_of_mem _ hx)) ?_
    rw [Array.toList_append]
    exact cpL_app h (cpL_repr hq (hl c List.mem_cons_self))
theorem cpS_repr {x : Str} (h : CpS x) : CpS (reprText x) := by
  have hq : reprQuote x < 0x110000 := by
    unfold reprQuote
    split <;> decide
  unfold CpS reprText
  dsimp only
  rw [Array.toList_push, ← Array.foldl_toList]
  refine cpL_app (cpL_fold hq _ _ h fun c hc => ?_) fun c hc => ?_
  · have hc : c ∈ [reprQuote x] := hc
    rw [List.mem_singleton.mp hc]; exact hq
  · rw [List.mem_singleton.mp hc]; exact hq
theorem cpS_join : ∀ {ts : List Str}, (∀ t ∈ ts, CpS t) → CpS ((", " : Str).join ts)
  | [], _ => cpS_dec (by decide +kernel)
  | [x], h => h x List.mem_cons_self
  | x :: y :: r, h => by
    show CpS (x ++ (", " : Str) ++ ((", " : Str).join (y :: r)))
    exact cpS_app (cpS_app (h x List.mem_cons_self) (cpS_dec (by decide +kernel))) (cpS_join fun t ht => h t (List.mem_cons_of_mem _ ht))
/-! ### data -/
mutual
def cpB : PyData → Bool
  | .none => true
  | .bool _ => true
  | .int _ => true
  | .str x => PyData.strOk x
  | .list xs => cpBL xs
  | .tuple xs => cpBL xs
  | .dict kvs => cpBK kvs
def cpBL : List PyData → Bool
  | [] => true
  | x :: xs => cpB x && cpBL xs
def cpBK : List (PyData × PyData) → Bool
  | [] => true
  | (k, v) :: r => (cpB k && cpB v) && cpBK r
end
theorem cpS_ok {x : Str} (h : PyData.strOk x = true) : CpS x := fun c hc => by
  have h0 : x.cps.all (· < 0x110000) = true := h
  have := (Array.all_eq_true_iff_forall_mem.mp h0) c (Array.mem_toList_iff.mp hc)
  simpa using this
theorem strOk_cp {x : Str} (h : CpS x) : PyData.strOk x = true := by
  unfold PyData.strOk
  rw [← Array.all_toList, List.all_eq_true]
  exact fun c hcm => decide_eq_true (h c hcm)
theorem cpS_from : ∀ {ts : List Str} {k : Nat} {acc : Str}, (∀ t ∈ ts, CpS t) → CpS acc → CpS (textFrom k acc ts)
  | [], _, _, _, h => h
  | t :: ts, k, acc, h, ha => by
    show CpS (textFrom (k + 1) (acc ++ (if k > 0 then ", " else "" : String) ++ t) ts)
    refine cpS_from (fun x hx => h x (List.mem_cons_of_mem _ hx)) (cpS_app (cpS_app ha ?_) (h t List.mem_cons_self))
    split <;> exact cpS_of _
mutual
theorem cp_shown : ∀ d : PyData, cpB d = true → CpS d.shown
  | .none, _ => cpS_dec (by decide +kernel)
  | .bool b, _ => by cases b <;> exact cpS_dec (by decide +kernel)
  | .int i, _ => by
    show CpS (toString i : String)
    exact cpS_of _
  | .str x, h => by
    rw [cpB] at h
    show CpS (reprText x)
    exact cpS_repr (cpS_ok h)
  | .list xs, h => by
    rw [cpB] at h
    show CpS (textFrom 0 "[" (PyData.shownAll xs) ++ "]")
    exact cpS_app (cpS_from (cp_shownAll xs h) (cpS_dec (by decide +kernel))) (cpS_dec (by decide +kernel))
  | .tuple xs, h => by
    rw [cpB] at h
    show CpS (("(" : Str) ++ Str.join ", " (PyData.shownAll xs) ++ (if (PyData.shownAll xs).length == 1 then ",)" else ")" : String))
    refine cpS_app (cpS_app (cpS_dec (by decide +kernel)) (cpS_join (cp_shownAll xs h))) ?_
    split <;> exact cpS_of _
  | .dict kvs, h => by
    rw [cpB] at h
    show CpS (("{" : Str) ++ Str.join ", " (PyData.shownKv kvs) ++ "}")
    exact cpS_app (cpS_app (cpS_dec (by decide +kernel)) (cpS_join (cp_shownKv kvs h))) (cpS_dec (by decide +kernel))
theorem cp_shownAll : ∀ xs : List PyData, cpBL xs = true → ∀ t ∈ PyData.shownAll xs, CpS t
  | [], _, _, h => nomatch h
  | x :: xs, h, t, ht => by
    rw [cpBL, Bool.and_eq_true] at h
    rcases List.mem_cons.mp ht with rfl | ht
    · exact cp_shown x h.1
    · exact cp_shownAll xs h.2 t ht
theorem cp_shownKv : ∀ kvs : List (PyData × PyData), cpBK kvs = true → ∀ t ∈ PyData.shownKv kvs, CpS t
  | [], _, _, h => nomatch h
  | (k, v) :: r, h, t, ht => by
    rw [cpBK, Bool.and_eq_true, Bool.and_eq_true] at h
    rcases List.mem_cons.mp ht with rfl | ht
    · exact cpS_app (cpS_app (cp_shown k h.1.1) (cpS_dec (by decide +kernel))) (cp_shown v h.1.2)
    · exact cp_shownKv r h.2 t ht
end
/-- data whose text is plain and short -/
structure Tok (k b : Nat) (d : D) : Prop where
  s : Shw k b d
  c : cpB d.py = true
theorem Tok.mono {k b k' b' : Nat} {d : D} (h : Tok k b d) (hk : k ≤ k') (hb : b ≤ b') : Tok k' b' d := ⟨h.s.mono hk hb, h.c⟩
theorem tok_non {k b : Nat} : Tok k b .non := ⟨shw_non, rfl⟩
theorem tok_int {k b : Nat} {i : Int} (h : i.natAbs < 10 ^ 30) : Tok k b (.int i) := ⟨shw_int h, rfl⟩
theorem tok_str {k b : Nat} {z : Str} (h : SOk z) (hl : z.length ≤ b) : Tok k b (.str z) := ⟨shw_str h hl, h.2⟩
theorem cpBL_all : ∀ {xs : List D}, (∀ x ∈ xs, cpB x.py = true) → cpBL (D.py.pyL xs) = true
  | [], _ => rfl
  | x :: xs, h => by
    show (cpB x.py && cpBL (D.py.pyL xs)) = true
    rw [h x List.mem_cons_self, cpBL_all fun y hy => h y (List.mem_cons_of_mem _ hy)]
    rfl
theorem tok_lst {k b m c : Nat} {xs : List D} (h : ∀ x ∈ xs, Tok k b x) (hl : xs.length ≤ m) (hc : m * (b + 1) ≤ c) : Tok (k + 1) c (.lst xs) :=
  ⟨shw_lst (fun x hx => (h x hx).s) hl hc, by show cpB (.list (D.py.pyL xs)) = true; rw [cpB]; exact cpBL_all fun x hx => (h x hx).c⟩
theorem tok_tup {k b m c : Nat} {xs : List D} (h : ∀ x ∈ xs, Tok k b x) (hl : xs.length ≤ m) (hc : m * (b + 1) ≤ c) : Tok (k + 1) c (.tup xs) :=
  ⟨shw_tup (fun x hx => (h x hx).s) hl hc, by show cpB (.tuple (D.py.pyL xs)) = true; rw [cpB]; exact cpBL_all fun x hx => (h x hx).c⟩
theorem sok_of {d : PyData} (h1 : d.leavesShort 40 = true) (h2 : d.bulk ≤ 2000) (h3 : cpB d = true) : sokB d.shown = true := by
  have hb := PyData.shown_le_bulk 40 (by decide) _ h1
  unfold sokB
  rw [Bool.and_eq_true, decide_eq_true_eq]
  exact ⟨by omega, strOk_cp (cp_shown d h3)⟩
theorem txt_of {k b : Nat} {d : D} (h : Tok k b d) (hk : k ≤ 8) (hb : b ≤ 2000) : ∃ z, dRp d = .ok z ∧ sokB z = true := by
  have h2 := h.s.bk
  exact ⟨_, dRp_of h.s hk (by omega), sok_of h.s.ls (by omega) h.c⟩
/-! ### dicts -/
end ND
/-! k02: the parts of a pack that is right -/
namespace ND
open PySem PySem.Spec PyProof.Rows L2
section
variable {o x : D} {k : Nat}
theorem eqv_str (a b : Str) : dEqB (.str a) (.str b) = decide (a = b) := by
  unfold dEqB
  simp [D.py, PyData.eqv]
  try rfl
theorem all_self : ∀ {xs : List D}, (∀ x ∈ xs, dEqB x x = true) → PyData.eqvAll (D.py.pyL xs) (D.py.pyL xs) = true
  | [], _ => rfl
  | x :: xs, h => by
    show (PyData.eqv x.py x.py && PyData.eqvAll (D.py.pyL xs) (D.py.pyL xs)) = true
    rw [all_self fun y hy => h y (List.mem_cons_of_mem _ hy), show PyData.eqv x.py x.py = true from h x List.mem_cons_self]
    rfl
theorem eq_self : ∀ {k : Nat} {d : D}, D.pl k d = true → dEqB d d = true
  | _, .non, _ => rfl
  | _, .bl b, _ => by cases b <;> rfl
  | _, .int i, _ => by
    have := eqInt i i
    unfold dEq at this
    rw [show D.pl 8 (.int i) = true from rfl] at this
    simpa using this
  | _, .str z, _ => by rw [eqv_str]; exact decide_eq_true rfl
  | k + 1, .lst xs, h => by
    have h' : xs.all (D.pl k) = true := h
    rw [List.all_eq_true] at h'
    show PyData.eqvAll (D.py.pyL xs) (D.py.pyL xs) = true
    exact all_self fun x hx => eq_self (h' x hx)
  | k + 1, .tup xs, h => by
    have h' : xs.all (D.pl k) = true := h
    rw [List.all_eq_true] at h'
    show PyData.eqvAll (D.py.pyL xs) (D.py.pyL xs) = true
    exact all_self fun x hx => eq_self (h' x hx)
  | 0, .lst _, h => by simp [D.pl] at h
  | 0, .tup _, h => by simp [D.pl] at h
  | 0, .dct _, h => by simp [D.pl] at h
  | 0, .ins _ _, h => by simp [D.pl] at h
  | 0, .exc _ _, h => by simp [D.pl] at h
  | 0, .drw, h => by simp [D.pl] at h
  | k + 1, .dct _, h => by simp [D.pl] at h
  | k + 1, .ins _ _, h => by simp [D.pl] at h
  | k + 1, .exc _ _, h => by simp [D.pl] at h
  | k + 1, .drw, h => by simp [D.pl] at h
end
section
variable {x y S a c r d : D} {xs ys : List D} {ss : List Spot} {w v : Ware} {ρ : Rho} {X : Str → List (Str × D) → Prop} {P P2 : D → Prop} {q : Bool}
theorem spots_pl {ss : List Spot} : D.pl 8 (.lst (ss.map encSpot)) = true := by
  show (ss.map encSpot).all (D.pl 7) = true
  rw [List.all_eq_true]
  intro x hx
  obtain ⟨s, _, rfl⟩ := List.mem_map.mp hx
  rfl
/-! ### a right pack's parts are drawn -/
theorem slots_part {z0 z1 z2 : Str} (h0 : NameOk z0) {us : List Spot} (hn : us.Nodup) (hl : us.length ≤ 12) (hok : ∀ s ∈ us, NameOk s.1 ∧ 0 ≤ s.2 ∧ s.2 ≤ 3) {x3 : D} : ((eIf (cB (eOp dNe (eVar 2) (eLst aNil))) (eSl dSlL (eVar 2) oNone (oSome (eCall F__law_pick (aCons (eVar 0) (aCons (eLst (aCons (eC (.int 12)) (aCons (eC (.int 2)) (aCons (eC (.int 1)) aNil)))) aNil))))) (eLst (aCons (eTup (aCons (eOp dIx (eVar 1) (eC (.int 0))) (aCons (eC (.int 0)) aNil))) aNil))) [.drw, .lst [.str z0, .str z1, .str z2], .lst (us.map encSpot), x3]).sp 1 (fun d => ∃ ss, SlotsOk ss ∧ d = .lst (ss.map encSpot)) X := by
  have kc : (cB (eOp dNe (eVar 2) (eLst aNil))) [.drw, .lst [.str z0, .str z1, .str z2], .lst (us.map encSpot), x3] = .ok (!(us.map encSpot).isEmpty) := by
    have := ne_of_eqD (eq_nil (spots_pl (ss := us)))
    unfold cB eOp
    show Out.bind (dNe (.lst (us.map encSpot)) (.lst [])) _ = _
    rw [this]
    rfl
  unfold eIf
  rw [kc, Out.ok_bind]
  cases us with
  | nil =>
    refine Out.sp_mono (Out.sp_ok (c := 0) ⟨[(z0, 0)], ⟨by show 1 ≤ 1; decide, by show 1 ≤ 12; decide, fun s hs => ?_, List.nodup_cons.mpr ⟨fun h => (nomatch h), List.nodup_nil⟩⟩, rfl⟩) (Nat.zero_le _) (fun _ z => z) fun _ _ z => z
    rw [List.mem_singleton.mp hs]
    exact ⟨h0, by show (0 : Int) ≤ 0; decide, by show (0 : Int) ≤ 3; decide⟩
  | cons u us =>
    show ((eSl dSlL (eVar 2) oNone (oSome (eCall F__law_pick (aCons (eVar 0) (aCons (eLst (aCons (eC (.int 12)) (aCons (eC (.int 2)) (aCons (eC (.int 1)) aNil)))) aNil))))) _).sp _ _ _
    have e : (eSl dSlL (eVar 2) oNone (oSome (eCall F__law_pick (aCons (eVar 0) (aCons (eLst (aCons (eC (.int 12)) (aCons (eC (.int 2)) (aCons (eC (.int 1)) aNil)))) aNil))))) [.drw, .lst [.str z0, .str z1, .str z2], .lst ((u :: us).map encSpot), x3] = (eCall F__law_pick (aCons (eVar 0) (aCons (eLst (aCons (eC (.int 12)) (aCons (eC (.int 2)) (aCons (eC (.int 1)) aNil)))) aNil)) [.drw, .lst [.str z0, .str z1, .str z2], .lst ((u :: us).map encSpot), x3]).bind fun d => match d with
      | .int i => .ok (.lst (cutL ((u :: us).map encSpot) none (some i)))
      | _ => .stuck := by
      generalize eCall F__law_pick (aCons (eVar 0) (aCons (eLst (aCons (eC (.int 12)) (aCons (eC (.int 2)) (aCons (eC (.int 1)) aNil)))) aNil)) = A
      unfold eSl oSome
      show Out.bind (Out.ok (D.lst ((u :: us).map encSpot))) _ = _
      rw [Out.ok_bind]
      show Out.bind (Out.ok none) _ = _
      rw [Out.ok_bind, Out.bind_assoc]
      congr 1
      funext d
      cases d <;> rfl
    rw [e]
    refine Out.sp_then (pick_at (L := [.int 12, .int 2, .int 1]) (by decide) (by decide) rfl rfl) (Nat.le_refl 1) fun d hd => ?_
    have : ∃ n : Nat, 1 ≤ n ∧ d = .int (n : Int) := by
      rcases List.mem_cons.mp hd with rfl | hd
      · exact ⟨12, by decide, rfl⟩
      rcases List.mem_cons.mp hd with rfl | hd
      · exact ⟨2, by decide, rfl⟩
      · exact ⟨1, by decide, List.mem_singleton.mp hd⟩
    obtain ⟨n, n1, rfl⟩ := this
    show (Out.ok (D.lst (cutL ((u :: us).map encSpot) none (some (n : Int))))).sp _ _ _
    rw [cut_to, ← List.map_take]
    have hs : ((u :: us).take (min n ((u :: us).map encSpot).length)).Sublist (u :: us) := List.take_sublist _ _
    refine Out.sp_ok ⟨_, ⟨?_, ?_, fun s h => hok s (hs.subset h), hs.nodup hn⟩, rfl⟩
    · rw [List.length_take, List.length_map, List.length_cons]
      omega
    · have := hs.length_le
      omega
theorem given_ok : (F__law_given [.drw]).sp 60 (fun d => ∃ w, WareP w ∧ d = encWare w) (fun _ _ => False) := by
  rw [F__law_given]
  unfold fnD
  refine Out.sp_then (c1 := 60) (P := fun r' => ∃ w, WareP w ∧ r' = .rt (encWare w)) ?_ (Nat.le_refl _) fun r' hr' => by
    obtain ⟨w, hw, rfl⟩ := hr'
    exact Out.sp_ok ⟨w, hw, rfl⟩
  have e0 : [D.drw] ++ List.replicate (4 - [D.drw].length) D.non = [.drw, .non, .non, .non] := rfl
  rw [e0, S__law_given_is]
  refine sp_seqc (c1 := 30) (P := fun ρ => ∃ zs : List Str, zs.length = 3 ∧ zs.Nodup ∧ (∀ z ∈ zs, NameOk z) ∧ ρ = [.drw, .lst (zs.map .str), .non, .non]) ?_ (by decide) fun ρ hρ => ?_
  · refine Out.sp_q (sp_set (P := fun d => isNames 3 d) ?_) fun r hr => ?_
    · exact Out.sp_mono (sp_call2 (c1 := 0) (c2 := 30) (F := F__law_names) (x := .drw) rfl (sp_is (v := .int 3) rfl) fun d hd => by subst hd; exact names_ok) (by decide) (fun _ z => z) fun _ _ z => z
    · obtain ⟨d, ⟨zs, h1, h2, h3, rfl⟩, rfl⟩ := hr
      exact ⟨_, rfl, zs, h1, h2, h3, rfl⟩
  obtain ⟨zs, hz, hnd, hok, rfl⟩ := hρ
  refine sp_seqc (c1 := 25) (P := fun ρ => ∃ us : List Spot, us.Nodup ∧ us.length ≤ 12 ∧ (∀ s ∈ us, NameOk s.1 ∧ 0 ≤ s.2 ∧ s.2 ≤ 3) ∧ ρ = [.drw, .lst (zs.map .str), .lst (us.map encSpot), .non]) ?_ (by decide) fun ρ hρ => ?_
  · refine Out.sp_q (slots_drawn hz hnd hok) fun r hr => ?_
    obtain ⟨us, h1, h2, h3, rfl⟩ := hr
    exact ⟨_, rfl, us, h1, h2, h3, rfl⟩
  obtain ⟨us, u1, u2, u3, rfl⟩ := hρ
  match zs, hz, hok with
  | [z0, z1, z2], _, hok =>
    have k0 := hok z0 List.mem_cons_self
    have k1 := hok z1 (List.mem_cons_of_mem _ List.mem_cons_self)
    have k2 := hok z2 (List.mem_cons_of_mem _ (List.mem_cons_of_mem _ List.mem_cons_self))
    show ((sSeq s__law_given_3 (sSeq s__law_given_4 (sSeq s__law_given_5 s__law_given_6))) [.drw, .lst [.str z0, .str z1, .str z2], .lst (us.map encSpot), .non]).sp _ _ _
    refine sp_seqc (c1 := 1) (P := fun ρ => ∃ ss, SlotsOk ss ∧ ρ = [.drw, .lst [.str z0, .str z1, .str z2], .lst (us.map encSpot), .dct [(.inr "slots", .lst (ss.map encSpot))]]) ?_ (by decide) fun ρ hρ => ?_
    · unfold s__law_given_3
      refine Out.sp_q (sp_set (P := fun d => ∃ ss, SlotsOk ss ∧ d = .dct [(.inr "slots", .lst (ss.map encSpot))]) ?_) fun r hr => ?_
      · rw [disp1]
        refine Out.sp_then (slots_part k0 u1 u2 u3) (Nat.le_refl 1) fun d hd => ?_
        obtain ⟨ss, h, rfl⟩ := hd
        exact Out.sp_ok ⟨ss, h, rfl⟩
      · obtain ⟨d, ⟨ss, h, rfl⟩, rfl⟩ := hr
        exact ⟨_, rfl, ss, h, rfl⟩
    obtain ⟨ss, hss, rfl⟩ := hρ
    generalize hL : D.lst (us.map encSpot) = L
    generalize hSl : D.lst (ss.map encSpot) = SL
    refine sp_seqc (c1 := 2) (P := fun ρ => ∃ am co, 0 ≤ am ∧ am ≤ 3 ∧ (∀ c, co = some c → 0 ≤ c ∧ c ≤ 99) ∧ ρ = [.drw, .lst [.str z0, .str z1, .str z2], L, .dct [(.inr "slots", SL), (.inr "amount", .int am), (.inr "cost", encOI co)]]) ?_ (by decide) fun ρ hρ => ?_
    · refine Out.sp_q (sp_put2 (c1 := 1) (c2 := 1) (n := 3) (kvs := [(.inr "slots", SL)]) (k1 := "amount") (k2 := "cost") (P := fun d => inR 4 d) (P2 := fun d => d ∈ [D.non, .int 0, .int 1, .int 99]) ?_ (pick_at (L := [.non, .int 0, .int 1, .int 99]) (by decide) (by decide) rfl rfl) rfl (by show 1 < 99990; decide)) fun r hr => ?_
      · exact Out.sp_mono (sp_call2 (c1 := 0) (c2 := 1) (F := F__law_take) (x := .drw) rfl (sp_is (v := .int 4) rfl) fun d hd => by subst hd; exact take_ok (by decide) (by decide)) (by decide) (fun _ z => z) fun _ _ z => z
      · obtain ⟨p, y, ⟨am, a0, a1, rfl⟩, hy, rfl⟩ := hr
        have : ∃ co : Option Int, y = encOI co ∧ ∀ c, co = some c → 0 ≤ c ∧ c ≤ 99 := by
          rcases List.mem_cons.mp hy with rfl | hy
          · exact ⟨none, rfl, fun c h => nomatch h⟩
          rcases List.mem_cons.mp hy with rfl | hy
          · exact ⟨some 0, rfl, fun c h => by cases h; exact ⟨by decide, by decide⟩⟩
          rcases List.mem_cons.mp hy with rfl | hy
          · exact ⟨some 1, rfl, fun c h => by cases h; exact ⟨by decide, by decide⟩⟩
          · exact ⟨some 99, List.mem_singleton.mp hy, fun c h => by cases h; exact ⟨by decide, by decide⟩⟩
        obtain ⟨co, rfl, hco⟩ := this
        refine ⟨_, rfl, am, co, a0, by omega, hco, ?_⟩
        generalize encOI co = C
        kernel_rfl
    obtain ⟨am, co, a0, a1, hco, rfl⟩ := hρ
    refine sp_seqc (c1 := 1) (P := fun ρ => ∃ ro : Option Spot, (∀ s, ro = some s → NameOk s.1 ∧ 1 ≤ s.2 ∧ s.2 ≤ 3) ∧ ρ = [.drw, .lst [.str z0, .str z1, .str z2], L, .dct [(.inr "slots", SL), (.inr "amount", .int am), (.inr "cost", encOI co), (.inr "roll", encOS ro)]]) ?_ (by decide) fun ρ hρ => ?_
    · refine Out.sp_q (sp_dput (c1 := 1) (n := 3) (w := "roll") (kvs := [(.inr "slots", SL), (.inr "amount", .int am), (.inr "cost", encOI co)]) (P := fun d => d ∈ [D.non, .tup [.str z1, .int 1], .tup [.str z2, .int 3]]) (pick_at (L := [.non, .tup [.str z1, .int 1], .tup [.str z2, .int 3]]) (by show 0 < 3; decide) (by show 3 < 1000000; decide) rfl rfl) rfl rfl (by show 3 < 99999; decide)) fun r hr => ?_
      obtain ⟨y, hy, rfl⟩ := hr
      have : ∃ ro : Option Spot, y = encOS ro ∧ ∀ s, ro = some s → NameOk s.1 ∧ 1 ≤ s.2 ∧ s.2 ≤ 3 := by
        rcases List.mem_cons.mp hy with rfl | hy
        · exact ⟨none, rfl, fun c h => nomatch h⟩
        rcases List.mem_cons.mp hy with rfl | hy
        · exact ⟨some (z1, 1), rfl, fun s h => by cases h; exact ⟨k1, by show (1 : Int) ≤ 1; decide, by show (1 : Int) ≤ 3; decide⟩⟩
        · exact ⟨some (z2, 3), List.mem_singleton.mp hy, fun s h => by cases h; exact ⟨k2, by show (1 : Int) ≤ 3; decide, by show (3 : Int) ≤ 3; decide⟩⟩
      obtain ⟨ro, rfl, hro⟩ := this
      refine ⟨_, rfl, ro, hro, ?_⟩
      generalize encOI co = C
      generalize encOS ro = R
      kernel_rfl
    obtain ⟨ro, hro, rfl⟩ := hρ
    refine Out.sp_mono (Out.sp_ok (c := 0) ⟨{ slots := ss, amount := am, cost := co, roll := ro }, ⟨hss, a0, a1, hco, hro⟩, ?_⟩) (Nat.zero_le _) (fun _ z => z) fun _ _ z => z
    rw [← hSl]
    rfl
/-! ### it is taken -/
theorem ware_wrong (h : WareP w) : wrongD true (.int w.amount) (encOI w.cost) (encOS w.roll) = .non := by
  have e1 : inB 0 3 (.int w.amount) = true := by
    show (decide ((0 : Int) ≤ w.amount) && decide (w.amount ≤ 3)) = true
    rw [decide_eq_true h.a0, decide_eq_true h.a3]
    rfl
  have e2 : coB (encOI w.cost) = true := by
    cases hc : w.cost with
    | none => rfl
    | some c =>
      obtain ⟨c0, c1⟩ := h.co c hc
      show (decide ((0 : Int) ≤ c) && decide (c ≤ 99)) = true
      rw [decide_eq_true c0, decide_eq_true c1]
      rfl
  have e3 : roB (encOS w.roll) = true := by
    cases hc : w.roll with
    | none => rfl
    | some c =>
      obtain ⟨k, c0, c1⟩ := h.ro c hc
      show (decide (NameOk c.1) && (decide ((1 : Int) ≤ c.2) && decide (c.2 ≤ 3))) = true
      rw [decide_eq_true k, decide_eq_true c0, decide_eq_true c1]
      rfl
  unfold wrongD
  rw [e1, e2, e3]
  rfl
theorem oi_ne : encOI w.cost ≠ .drw := by cases w.cost <;> exact fun z => nomatch z
theorem os_fine : fineB (encOS w.roll) = true := by cases w.roll <;> rfl
theorem slots_good (h : SlotsOk ss) : ∀ q, (F_are_slots [sqD q (ss.map encSpot)]).sp 0 (fun d => d = .bl true) (fun _ _ => False) ∧ (F__law_are_spots [sqD q (ss.map encSpot)]).sp 0 (fun d => d = .bl true) (fun _ _ => False) := fun q => by
  have k1 := as_set (q := q) h.l1 h.l2 h.ok
  have k2 := ls_set (q := q) h.l1 h.l2 h.ok
  rw [decide_eq_true h.nd] at k1 k2
  exact ⟨k1, k2⟩
theorem pack_sq (h : WareP w) (q : Bool) : (F_Pack___init__ [sqD q (w.slots.map encSpot), .int w.amount, encOI w.cost, encOS w.roll]).sp 0 (fun d => d = packD w) (fun _ _ => False) := by
  refine init_gen (b := true) (slots_good h.sl q).1 (fun z => nomatch z) oi_ne os_fine (fun w' hw => ?_) fun _ => ⟨_, sorted_sq, rfl⟩
  rw [ware_wrong h] at hw
  cases hw
theorem nl_pack : nlD 8 (packD w) = true := by
  obtain ⟨ts, _, hs⟩ := sortD_spots w.slots
  have k : nlD 7 (.tup (sortD (w.slots.map encSpot))) = true := by
    rw [hs]
    show (ts.map encSpot).all (nlD 6) = true
    rw [List.all_eq_true]
    intro x hx
    obtain ⟨s, _, rfl⟩ := List.mem_map.mp hx
    rfl
  show (nlD 7 (.tup (sortD (w.slots.map encSpot))) && (nlD 7 (.int w.amount) && (nlD 7 (encOI w.cost) && (nlD 7 (encOS w.roll) && true)))) = true
  rw [k]
  cases w.cost <;> cases w.roll <;> rfl
theorem made_ware (h : WareP w) : (F__law_made [.drw, encWare w]).sp 2 (fun d => d = packD w) (fun _ _ => False) :=
  made_list (pack_sq h) (fun d hd => by subst hd; exact nl_pack) fun _ _ h => h.elim
theorem wrong_ware (h : WareP w) : (F__law_wrong [encWare w]).sp 0 (fun d => d = .non) (fun _ _ => False) := by
  have := wrong_sp (S := .lst (w.slots.map encSpot)) (a := .int w.amount) (c := encOI w.cost) (r := encOS w.roll) (slots_good h.sl false).2 (fun z => nomatch z) oi_ne os_fine
  rw [ware_wrong h] at this
  exact this
end
end ND
/-! k02: a pack tells its parts; packs compared -/
namespace ND
open PySem PySem.Spec PyProof.Rows L2
section
variable {w v : Ware} {S a c r x y N : D} {xs ys : List D} {F : List D → Out D}
theorem eOp_ok {f : D → D → Out D} {a b : Rho → Out D} {ρ : Rho} {x y : D} (h1 : a ρ = .ok x) (h2 : b ρ = .ok y) : eOp f a b ρ = f x y := by
  unfold eOp
  rw [h1, Out.ok_bind, h2]
  rfl
theorem dg_slots : dGet (dct4 S a c r) (.str "slots") = .ok S := by kernel_rfl
theorem dg_amount : dGet (dct4 S a c r) (.str "amount") = .ok a := by kernel_rfl
theorem dg_cost : dGet (dct4 S a c r) (.str "cost") = .ok c := by kernel_rfl
theorem dg_roll : dGet (dct4 S a c r) (.str "roll") = .ok r := by kernel_rfl
theorem fp_slots : F_Pack_slots [packD w] = .ok (.tup (sortD (w.slots.map encSpot))) := by
  unfold F_Pack_slots S_Pack_slots
  simp only [fnD, fnN, sSeq, sIf, sRet, sRetN, sDrop, sSet, sNext, sRaise, eVar, eC, eOp, eUn, eCall, eAnd, eOr, eNot, eIf, eChain, eTup, eLst, eLc, iOf, cB, cNot, cAnd, cOr, aNil, aCons, gN, Out.ok_bind, Out.exc_bind, Out.nox_ok, boD_some, List.cons_append, List.nil_append, List.append_nil, List.length_cons, List.length_nil, List.replicate, List.getD_cons_zero, List.getD_cons_succ, List.set_cons_zero, List.set_cons_succ, Nat.reduceAdd, Nat.reduceSub, Nat.reduceLeDiff, List.replicate_succ, List.replicate_zero, cond_true, cond_false, Bool.not_true, Bool.not_false, pk_slots]
theorem fp_amount : F_Pack_amount [packD w] = .ok (.int w.amount) := by
  unfold F_Pack_amount S_Pack_amount
  simp only [fnD, fnN, sSeq, sIf, sRet, sRetN, sDrop, sSet, sNext, sRaise, eVar, eC, eOp, eUn, eCall, eAnd, eOr, eNot, eIf, eChain, eTup, eLst, eLc, iOf, cB, cNot, cAnd, cOr, aNil, aCons, gN, Out.ok_bind, Out.exc_bind, Out.nox_ok, boD_some, List.cons_append, List.nil_append, List.append_nil, List.length_cons, List.length_nil, List.replicate, List.getD_cons_zero, List.getD_cons_succ, List.set_cons_zero, List.set_cons_succ, Nat.reduceAdd, Nat.reduceSub, Nat.reduceLeDiff, List.replicate_succ, List.replicate_zero, cond_true, cond_false, Bool.not_true, Bool.not_false, pk_amount]
theorem fp_cost : F_Pack_cost [packD w] = .ok (encOI w.cost) := by
  unfold F_Pack_cost S_Pack_cost
  simp only [fnD, fnN, sSeq, sIf, sRet, sRetN, sDrop, sSet, sNext, sRaise, eVar, eC, eOp, eUn, eCall, eAnd, eOr, eNot, eIf, eChain, eTup, eLst, eLc, iOf, cB, cNot, cAnd, cOr, aNil, aCons, gN, Out.ok_bind, Out.exc_bind, Out.nox_ok, boD_some, List.cons_append, List.nil_append, List.append_nil, List.length_cons, List.length_nil, List.replicate, List.getD_cons_zero, List.getD_cons_succ, List.set_cons_zero, List.set_cons_succ, Nat.reduceAdd, Nat.reduceSub, Nat.reduceLeDiff, List.replicate_succ, List.replicate_zero, cond_true, cond_false, Bool.not_true, Bool.not_false, pk_cost]
theorem fp_roll : F_Pack_roll [packD w] = .ok (encOS w.roll) := by
  unfold F_Pack_roll S_Pack_roll
  simp only [fnD, fnN, sSeq, sIf, sRet, sRetN, sDrop, sSet, sNext, sRaise, eVar, eC, eOp, eUn, eCall, eAnd, eOr, eNot, eIf, eChain, eTup, eLst, eLc, iOf, cB, cNot, cAnd, cOr, aNil, aCons, gN, Out.ok_bind, Out.exc_bind, Out.nox_ok, boD_some, List.cons_append, List.nil_append, List.append_nil, List.length_cons, List.length_nil, List.replicate, List.getD_cons_zero, List.getD_cons_succ, List.set_cons_zero, List.set_cons_succ, Nat.reduceAdd, Nat.reduceSub, Nat.reduceLeDiff, List.replicate_succ, List.replicate_zero, cond_true, cond_false, Bool.not_true, Bool.not_false, pk_roll]
theorem prop_of {d : D} (h : F [packD w] = .ok d) : (dProp "Pack" F (packD w)).nox = .ok d := by
  have e : dProp "Pack" F (packD w) = F [packD w] := by
    unfold dProp packD
    simp
  rw [e, h]
  rfl
theorem pack_told : F_Pack_told [packD w] = .ok (.tup [.tup (sortD (w.slots.map encSpot)), .int w.amount, encOI w.cost, encOS w.roll]) := by
  unfold F_Pack_told S_Pack_told
  simp only [fnD, fnN, sSeq, sIf, sRet, sRetN, sDrop, sSet, sNext, sRaise, eVar, eC, eOp, eUn, eCall, eAnd, eOr, eNot, eIf, eChain, eTup, eLst, eLc, iOf, cB, cNot, cAnd, cOr, aNil, aCons, gN, Out.ok_bind, Out.exc_bind, Out.nox_ok, boD_some, List.cons_append, List.nil_append, List.append_nil, List.length_cons, List.length_nil, List.replicate, List.getD_cons_zero, List.getD_cons_succ, List.set_cons_zero, List.set_cons_succ, Nat.reduceAdd, Nat.reduceSub, Nat.reduceLeDiff, List.replicate_succ, List.replicate_zero, cond_true, cond_false, Bool.not_true, Bool.not_false, pk_slots, pk_amount, pk_cost, pk_roll]
/-! ### it is right -/
theorem max_due (h : w.slots ≠ []) : dMax [.lst (w.slots.map fun s => D.int s.2)] = .ok (.int (lastS w.slots)) := by
  have m : maxL (w.slots.map (·.2)) = some (lastS w.slots) := maxL_is (lastS_mem h) fun y hy => lastS_max hy
  show (match (intsD _).bind maxL with | some m => _ | none => _) = _
  rw [ints_of (f := fun s : Spot => s.2)]
  show (match maxL (w.slots.map fun s => s.2) with | some m => _ | none => _) = _
  rw [m]
theorem last_small (h : WareP w) : (lastS w.slots).natAbs < 10 ^ 30 := by
  have ne : w.slots ≠ [] := fun z => by
    have := h.sl.l1
    rw [z] at this
    exact absurd this (by decide)
  have := lastS_mem ne
  obtain ⟨s, hs, e⟩ := List.mem_map.mp this
  obtain ⟨_, h0, h3⟩ := h.sl.ok s hs
  have e : s.2 = lastS w.slots := e
  rw [← e]
  have : (10 : Nat) ^ 30 = 1000000000000000000000000000000 := by decide
  omega
theorem tok_spot {s : Spot} (h : NameOk s.1) (h0 : 0 ≤ s.2) (h3 : s.2 ≤ 3) : Tok 1 14 (encSpot s) := by
  refine tok_tup (k := 0) (b := 6) (m := 2) (fun x hx => ?_) (by show 2 ≤ 2; decide) (by decide)
  rcases List.mem_cons.mp hx with rfl | hx
  · exact tok_str (nameOk_sok h) h.2.1
  · rw [List.mem_singleton.mp hx]
    refine tok_int ?_
    have : (10 : Nat) ^ 30 = 1000000000000000000000000000000 := by decide
    omega
theorem tok_due (h : WareP w) : Tok 3 1000 (.lst [.tup (sortD (w.slots.map encSpot)), .int w.amount, encOI w.cost, encOS w.roll, .int (lastS w.slots)]) := by
  obtain ⟨ts, hp, hs⟩ := sortD_spots w.slots
  have e30 : (10 : Nat) ^ 30 = 1000000000000000000000000000000 := by decide
  have k1 : Tok 2 180 (.tup (sortD (w.slots.map encSpot))) := by
    rw [hs]
    refine tok_tup (k := 1) (b := 14) (m := 12) (fun x hx => ?_) (by rw [List.length_map, hp.length_eq]; exact h.sl.l2) (by decide)
    obtain ⟨s, hs', rfl⟩ := List.mem_map.mp hx
    obtain ⟨a1, a2, a3⟩ := h.sl.ok s (hp.subset hs')
    exact tok_spot a1 a2 a3
  have k2 : Tok 2 180 (.int w.amount) := tok_int (by have := h.a0; have := h.a3; omega)
  have k3 : Tok 2 180 (encOI w.cost) := by
    cases hc : w.cost with
    | none => exact tok_non
    | some c =>
      obtain ⟨c0, c1⟩ := h.co c hc
      exact tok_int (by omega)
  have k4 : Tok 2 180 (encOS w.roll) := by
    cases hc : w.roll with
    | none => exact tok_non
    | some s =>
      obtain ⟨a1, a2, a3⟩ := h.ro s hc
      exact (tok_spot a1 (by omega) a3).mono (by decide) (by decide)
  have k5 : Tok 2 180 (.int (lastS w.slots)) := tok_int (last_small h)
  refine tok_lst (k := 2) (b := 180) (m := 5) (fun x hx => ?_) (by show 5 ≤ 5; decide) (by decide)
  simp only [List.mem_cons, List.not_mem_nil, or_false] at hx
  rcases hx with rfl | rfl | rfl | rfl | rfl
  · exact k1
  · exact k2
  · exact k3
  · exact k4
  · exact k5
theorem ware_ne (h : WareP w) : w.slots ≠ [] := fun z => by
  have := h.sl.l1
  rw [z] at this
  exact absurd this (by decide)
theorem right_ware (h : WareP w) : F__law_is_right [packD w, encWare w] = .ok (.bl true) := by
  obtain ⟨z, hz, _⟩ := txt_of (tok_due h) (by decide) (by decide)
  have ne := ware_ne h
  have p1 := prop_of (w := w) fp_slots
  have p2 := prop_of (w := w) fp_amount
  have p3 := prop_of (w := w) fp_cost
  have p4 := prop_of (w := w) fp_roll
  have p5 := prop_of (w := w) (last_ok ne)
  have g1 : dGet (encWare w) (.str "slots") = .ok (.lst (w.slots.map encSpot)) := dg_slots
  have g2 : dGet (encWare w) (.str "amount") = .ok (.int w.amount) := dg_amount
  have g3 : dGet (encWare w) (.str "cost") = .ok (encOI w.cost) := dg_cost
  have g4 : dGet (encWare w) (.str "roll") = .ok (encOS w.roll) := dg_roll
  have s1 : dSorted [.lst (w.slots.map encSpot)] = .ok (.lst (sortD (w.slots.map encSpot))) := by
    show (bif canSort (w.slots.map encSpot) then Out.ok (D.lst (sortD (w.slots.map encSpot))) else .stuck) = _
    rw [canSort_spots]
    rfl
  have m1 := max_due ne
  have l1 : ∀ A B C : D, lcD (gN 3) cYes (eOp dIx (eVar 3) (eC (.int 1))) [A, B, C, .non] (w.slots.map encSpot) = .ok (w.slots.map fun s => .int s.2) := fun A B C => lc_mapE (enc := encSpot) (f := fun s => .int s.2) fun s _ => ⟨_, rfl, rfl⟩
  revert p1 p2 p3 p4 p5 g1 g2 g3 g4 hz
  generalize packD w = PK
  generalize encWare w = EW
  generalize hT : sortD (w.slots.map encSpot) = T at *
  generalize encOI w.cost = C
  generalize encOS w.roll = R
  intro hz p1 p2 p3 p4 p5 g1 g2 g3 g4
  have q1 : eLst (aCons (eCall dTuple (aCons (eCall dSorted (aCons (eOp dGet (eVar 1) (eC (.str "slots"))) aNil)) aNil)) (aCons (eOp dGet (eVar 1) (eC (.str "amount"))) (aCons (eOp dGet (eVar 1) (eC (.str "cost"))) (aCons (eOp dGet (eVar 1) (eC (.str "roll"))) aNil)))) [PK, EW, .non, .non] = .ok (.lst [.tup T, .int w.amount, C, R]) := by
    simp only [fnD, fnN, sSeq, sIf, sRet, sRetN, sDrop, sSet, sNext, sRaise, eVar, eC, eOp, eUn, eCall, eAnd, eOr, eNot, eIf, eChain, eTup, eLst, eLc, iOf, cB, cNot, cAnd, cOr, aNil, aCons, gN, Out.ok_bind, Out.exc_bind, Out.nox_ok, boD_some, List.cons_append, List.nil_append, List.append_nil, List.length_cons, List.length_nil, List.replicate, List.getD_cons_zero, List.getD_cons_succ, List.set_cons_zero, List.set_cons_succ, Nat.reduceAdd, Nat.reduceSub, Nat.reduceLeDiff, List.replicate_succ, List.replicate_zero, cond_true, cond_false, Bool.not_true, Bool.not_false, g1, g2, g3, g4, s1, dTuple]
  have q2 : eCall dMax (aCons (eLc (iOf itemsL (eOp dGet (eVar 1) (eC (.str "slots")))) (gN 3) cYes (eOp dIx (eVar 3) (eC (.int 1)))) aNil) [PK, EW, .lst [.tup T, .int w.amount, C, R], .non] = .ok (.int (lastS w.slots)) := by
    have k : eLc (iOf itemsL (eOp dGet (eVar 1) (eC (.str "slots")))) (gN 3) cYes (eOp dIx (eVar 3) (eC (.int 1))) [PK, EW, .lst [.tup T, .int w.amount, C, R], .non] = .ok (.lst (w.slots.map fun s => .int s.2)) := by
      have gg : (iOf itemsL (eOp dGet (eVar 1) (eC (.str "slots")))) [PK, EW, .lst [.tup T, .int w.amount, C, R], .non] = .ok (w.slots.map encSpot) := by
        simp only [fnD, fnN, sSeq, sIf, sRet, sRetN, sDrop, sSet, sNext, sRaise, eVar, eC, eOp, eUn, eCall, eAnd, eOr, eNot, eIf, eChain, eTup, eLst, eLc, iOf, cB, cNot, cAnd, cOr, aNil, aCons, gN, Out.ok_bind, Out.exc_bind, Out.nox_ok, boD_some, List.cons_append, List.nil_append, List.append_nil, List.length_cons, List.length_nil, List.replicate, List.getD_cons_zero, List.getD_cons_succ, List.set_cons_zero, List.set_cons_succ, Nat.reduceAdd, Nat.reduceSub, Nat.reduceLeDiff, List.replicate_succ, List.replicate_zero, cond_true, cond_false, Bool.not_true, Bool.not_false, g1, itemsL]
      unfold eLc
      rw [gg, Out.ok_bind, l1]
      rfl
    exact (call1_of k).trans m1
  rw [F__law_is_right]
  unfold fnD
  have e0 : [PK, EW] ++ List.replicate (4 - [PK, EW].length) D.non = [PK, EW, .non, .non] := rfl
  rw [e0, S__law_is_right, seq_nx (set_nx q1)]
  have q3 : sApp 2 (eCall dMax (aCons (eLc (iOf itemsL (eOp dGet (eVar 1) (eC (.str "slots")))) (gN 3) cYes (eOp dIx (eVar 3) (eC (.int 1)))) aNil)) ([PK, EW, .non, .non].set 2 (.lst [.tup T, .int w.amount, C, R])) = .ok (.nx [PK, EW, .lst [.tup T, .int w.amount, C, R, .int (lastS w.slots)], .non]) := by
    show sApp 2 _ [PK, EW, .lst [.tup T, .int w.amount, C, R], .non] = _
    unfold sApp
    rw [q2]
    rfl
  rw [seq_nx q3]
  have q4 : eLst (aCons (fun ρ => ((eVar 0) ρ).bind fun x => (dProp "Pack" F_Pack_slots x).nox) (aCons (fun ρ => ((eVar 0) ρ).bind fun x => (dProp "Pack" F_Pack_amount x).nox) (aCons (fun ρ => ((eVar 0) ρ).bind fun x => (dProp "Pack" F_Pack_cost x).nox) (aCons (fun ρ => ((eVar 0) ρ).bind fun x => (dProp "Pack" F_Pack_roll x).nox) (aCons (fun ρ => ((eVar 0) ρ).bind fun x => (dProp "Pack" F_Pack_last x).nox) aNil))))) [PK, EW, .lst [.tup T, .int w.amount, C, R, .int (lastS w.slots)], .non] = .ok (.lst [.tup T, .int w.amount, C, R, .int (lastS w.slots)]) := by
    simp only [fnD, fnN, sSeq, sIf, sRet, sRetN, sDrop, sSet, sNext, sRaise, eVar, eC, eOp, eUn, eCall, eAnd, eOr, eNot, eIf, eChain, eTup, eLst, eLc, iOf, cB, cNot, cAnd, cOr, aNil, aCons, gN, Out.ok_bind, Out.exc_bind, Out.nox_ok, boD_some, List.cons_append, List.nil_append, List.append_nil, List.length_cons, List.length_nil, List.replicate, List.getD_cons_zero, List.getD_cons_succ, List.set_cons_zero, List.set_cons_succ, Nat.reduceAdd, Nat.reduceSub, Nat.reduceLeDiff, List.replicate_succ, List.replicate_zero, cond_true, cond_false, Bool.not_true, Bool.not_false, p1, p2, p3, p4, p5]
  have q5 : eZEq (rRp (eLst (aCons (fun ρ => ((eVar 0) ρ).bind fun x => (dProp "Pack" F_Pack_slots x).nox) (aCons (fun ρ => ((eVar 0) ρ).bind fun x => (dProp "Pack" F_Pack_amount x).nox) (aCons (fun ρ => ((eVar 0) ρ).bind fun x => (dProp "Pack" F_Pack_cost x).nox) (aCons (fun ρ => ((eVar 0) ρ).bind fun x => (dProp "Pack" F_Pack_roll x).nox) (aCons (fun ρ => ((eVar 0) ρ).bind fun x => (dProp "Pack" F_Pack_last x).nox) aNil))))))) (rRp (eVar 2)) [PK, EW, .lst [.tup T, .int w.amount, C, R, .int (lastS w.slots)], .non] = .ok (.bl true) := by
    unfold eZEq rRp
    rw [q4, Out.ok_bind, hz, Out.ok_bind]
    show Out.bind (Out.bind (Out.ok (D.lst [.tup T, .int w.amount, C, R, .int (lastS w.slots)])) dRp) _ = _
    rw [Out.ok_bind, hz, Out.ok_bind, decide_eq_true rfl]
  unfold sRet
  rw [q5]
  rfl
/-! ### compared -/
abbrev partsL (w : Ware) : List D := [.lst (sortD (w.slots.map encSpot)), .int w.amount, encOI w.cost, encOS w.roll]
abbrev toldL (w : Ware) : List D := [.tup (sortD (w.slots.map encSpot)), .int w.amount, encOI w.cost, encOS w.roll]
def sameW (w v : Ware) : Bool := dEqB (.lst (partsL w)) (.lst (partsL v))
theorem sorted_pl {ss : List Spot} {k : Nat} : (sortD (ss.map encSpot)).all (D.pl (k + 2)) = true := by
  obtain ⟨ts, _, hs⟩ := sortD_spots ss
  rw [hs, List.all_eq_true]
  intro x hx
  obtain ⟨s, _, rfl⟩ := List.mem_map.mp hx
  rfl
theorem pl_four {A a c r : D} (h1 : D.pl 7 A = true) (h2 : D.pl 7 a = true) (h3 : D.pl 7 c = true) (h4 : D.pl 7 r = true) : ([A, a, c, r] : List D).all (D.pl 7) = true := by
  rw [List.all_cons, List.all_cons, List.all_cons, List.all_cons, h1, h2, h3, h4]
  rfl
theorem oi_pl : D.pl 7 (encOI w.cost) = true := by cases w.cost <;> rfl
theorem os_pl : D.pl 7 (encOS w.roll) = true := by cases w.roll <;> rfl
theorem parts_pl : D.pl 8 (.lst (partsL w)) = true := pl_four (show (sortD (w.slots.map encSpot)).all (D.pl 6) = true from sorted_pl) rfl oi_pl os_pl
theorem told_pl : D.pl 8 (.tup (toldL w)) = true := pl_four (show (sortD (w.slots.map encSpot)).all (D.pl 6) = true from sorted_pl) rfl oi_pl os_pl
theorem eq_pl {x y : D} (hx : D.pl 8 x = true) (hy : D.pl 8 y = true) : dEq x y = .ok (.bl (dEqB x y)) := by
  unfold dEq
  rw [hx, hy]
  rfl
theorem ware_parts : F__law_parts [encWare w] = .ok (.lst (partsL w)) := by
  have g1 : dGet (encWare w) (.str "slots") = .ok (.lst (w.slots.map encSpot)) := dg_slots
  have g2 : dGet (encWare w) (.str "amount") = .ok (.int w.amount) := dg_amount
  have g3 : dGet (encWare w) (.str "cost") = .ok (encOI w.cost) := dg_cost
  have g4 : dGet (encWare w) (.str "roll") = .ok (encOS w.roll) := dg_roll
  have s1 : dSorted [.lst (w.slots.map encSpot)] = .ok (.lst (sortD (w.slots.map encSpot))) := by
    show (bif canSort (w.slots.map encSpot) then Out.ok (D.lst (sortD (w.slots.map encSpot))) else .stuck) = _
    rw [canSort_spots]
    rfl
  revert g1 g2 g3 g4
  generalize encWare w = EW
  intro g1 g2 g3 g4
  unfold F__law_parts S__law_parts
  simp only [fnD, fnN, sSeq, sIf, sRet, sRetN, sDrop, sSet, sNext, sRaise, eVar, eC, eOp, eUn, eCall, eAnd, eOr, eNot, eIf, eChain, eTup, eLst, eLc, iOf, cB, cNot, cAnd, cOr, aNil, aCons, gN, Out.ok_bind, Out.exc_bind, Out.nox_ok, boD_some, List.cons_append, List.nil_append, List.append_nil, List.length_cons, List.length_nil, List.replicate, List.getD_cons_zero, List.getD_cons_succ, List.set_cons_zero, List.set_cons_succ, Nat.reduceAdd, Nat.reduceSub, Nat.reduceLeDiff, List.replicate_succ, List.replicate_zero, cond_true, cond_false, Bool.not_true, Bool.not_false, g1, g2, g3, g4, s1]
theorem same_eq : dEq (.lst (partsL w)) (.lst (partsL v)) = .ok (.bl (sameW w v)) := eq_pl parts_pl parts_pl
theorem same_refl : sameW w w = true := eq_self parts_pl
theorem pack_eq : F_Pack___eq__ [packD w, packD v] = .ok (.bl (sameW w v)) := by
  have e1 : dIsClB "Pack" (packD v) = some true := by kernel_rfl
  have e2 := pack_told (w := w)
  have e3 := pack_told (w := v)
  have e4 : dEq (.tup (toldL w)) (.tup (toldL v)) = .ok (.bl (sameW w v)) := by
    rw [eq_pl told_pl told_pl]
    congr 2
  have m1 : eMeth "Pack" "told" F_Pack_told (eVar 0) aNil [packD w, packD v] = .ok (.tup (toldL w)) := by
    unfold eMeth
    show _ = _
    rw [← e2]
    rfl
  have m2 : eMeth "Pack" "told" F_Pack_told (eVar 1) aNil [packD w, packD v] = .ok (.tup (toldL v)) := by
    unfold eMeth
    show _ = _
    rw [← e3]
    rfl
  have k : eOp dEq (eMeth "Pack" "told" F_Pack_told (eVar 0) aNil) (eMeth "Pack" "told" F_Pack_told (eVar 1) aNil) [packD w, packD v] = .ok (.bl (sameW w v)) := (eOp_ok m1 m2).trans e4
  rw [F_Pack___eq__]
  unfold fnD
  have e0 : [packD w, packD v] ++ List.replicate (2 - [packD w, packD v].length) D.non = [packD w, packD v] := rfl
  rw [e0, S_Pack___eq__]
  unfold sRet eAnd
  have k0 : eUn (fun d => boD (dIsClB "Pack" d)) (eVar 1) [packD w, packD v] = .ok (.bl true) := by
    show boD (dIsClB "Pack" (packD v)) = _
    rw [e1]
    rfl
  rw [k0]
  show Out.bind (Out.bind (eOp dEq _ _ [packD w, packD v]) _) _ = _
  rw [k]
  rfl
theorem own_is {n b : Bool} (h : sameW w v = b) : dOwn "Pack" F_Pack___eq__ n (packD w) (packD v) = .ok (.bl (n ^^ b)) := by
  have e := pack_eq (w := w) (v := v)
  rw [h] at e
  revert e
  unfold packD
  intro e
  unfold dOwn
  simp only [decide_true, Bool.and_self, cond_true]
  rw [e]
  rfl
theorem ownD_is : dOwnD "Pack" F_Pack___eq__ (packD w) (encWare v) = .ok (.bl false) := by
  have e : F_Pack___eq__ [packD w, encWare v] = .ok (.bl false) := by
    generalize packD w = PK
    unfold encWare
    kernel_rfl
  revert e
  unfold packD encWare
  intro e
  unfold dOwnD
  simp only [decide_true, cond_true]
  rw [e]
  rfl
end
end ND
/-! k02: one part otherwise -/
namespace ND
open PySem PySem.Spec PyProof.Rows L2
abbrev s__law_bent_1 : Rho → Out Res := (sPar2 2 3 (eCall dDict (aCons (eVar 1) aNil)) (eCall F__law_pick (aCons (eVar 0) (aCons (eLst (aCons (eC (.str "slots")) (aCons (eC (.str "amount")) (aCons (eC (.str "cost")) (aCons (eC (.str "roll")) aNil))))) aNil))))
abbrev s__law_bent_2 : Rho → Out Res := (sSet 4 (eLst (aCons (eC .non) (aCons (eC (.bl true)) (aCons (eUn dNeg (eC (.int 1))) (aCons (eC (.int 4)) (aCons (eC (.int 100)) (aCons (eC (.int 0)) (aCons (eC (.str "")) (aCons (eC (.str "x")) (aCons (eTup aNil) (aCons (eLst aNil) (aCons (eC (.dct [])) (aCons (eTup (aCons (eC (.str "x")) (aCons (eC (.int 0)) aNil))) (aCons (eTup (aCons (eC (.str "x")) (aCons (eC (.int 4)) aNil))) (aCons (eTup (aCons (eC (.str "X")) (aCons (eC (.int 1)) aNil))) (aCons (eLst (aCons (eC (.str "x")) (aCons (eC (.int 1)) aNil))) (aCons (eC (.int 100000000000000000000000000000)) aNil))))))))))))))))))
abbrev s__law_bent_3 : Rho → Out Res := (sSet 5 (eLst (aCons (eTup (aCons (eC (.str "abcdefg")) (aCons (eC (.int 0)) aNil))) (aCons (eTup (aCons (eC (.str "x")) (aCons (eC (.int 4)) aNil))) (aCons (eTup (aCons (eC (.str "x")) (aCons (eUn dNeg (eC (.int 1))) aNil))) (aCons (eTup (aCons (eC (.str "x")) (aCons (eC (.bl true)) aNil))) (aCons (eLst (aCons (eC (.str "x")) (aCons (eC (.int 0)) aNil))) (aCons (eTup (aCons (eC (.str "x")) aNil)) (aCons (eTup (aCons (eC (.str "")) (aCons (eC (.int 0)) aNil))) (aCons (eC .non) aNil))))))))))
abbrev s__law_bent_4 : Rho → Out Res := (sSet 6 (eIf (cB (eUn (fun d => boD (dIsTyB "list" d)) (eOp dGet (eVar 1) (eC (.str "slots"))))) (eOp dGet (eVar 1) (eC (.str "slots"))) (eLst aNil)))
abbrev s__law_bent_5 : Rho → Out Res := (sIf (cAnd (cB (eOp dEq (eVar 3) (eC (.str "slots")))) (cB (eOp dEq (eCall F__law_take (aCons (eVar 0) (aCons (eC (.int 2)) aNil))) (eC (.int 0))))) (sSeq (sSet 7 (eCall F__law_pick (aCons (eVar 0) (aCons (eOp dCatL (eVar 5) (eSl dSlL (eVar 6) oNone (oSome (eC (.int 1))))) aNil)))) (sDPutO 2 (eC (.str "slots")) (eCall F__law_shuffled (aCons (eVar 0) (aCons (eOp dCatL (eVar 6) (eLst (aCons (eVar 7) aNil))) aNil))))) (sIf (cAnd (cB (eOp dEq (eVar 3) (eC (.str "slots")))) (cAnd (cB (eCall F__law_are_spots (aCons (eVar 6) aNil))) (cB (eOp dEq (eCall F__law_take (aCons (eVar 0) (aCons (eC (.int 2)) aNil))) (eC (.int 0)))))) (sDPutO 2 (eC (.str "slots")) (eOp dCatL (eSl dSlL (eVar 6) (oSome (eC (.int 1))) oNone) (eLst (aCons (eTup (aCons (eCall F__law_pick (aCons (eVar 0) (aCons (eLst (aCons (eC (.str "x")) (aCons (eOp dIx (eOp dIx (eVar 6) (eC (.int 0))) (eC (.int 0))) aNil))) aNil))) (aCons (eCall F__law_take (aCons (eVar 0) (aCons (eC (.int 4)) aNil))) aNil))) aNil)))) (sIf (cAnd (cB (eOp dEq (eVar 3) (eC (.str "slots")))) (cB (eOp dEq (eCall F__law_take (aCons (eVar 0) (aCons (eC (.int 3)) aNil))) (eC (.int 0))))) (sDPutO 2 (eC (.str "slots")) (eLc (iRg1 (aCons (eC (.int 13)) aNil)) (gN 8) cYes (eTup (aCons (eOp dMulS (eC (.str "q")) (eOp dAdd (eC (.int 1)) (eOp dMod (eVar 8) (eC (.int 6))))) (aCons (eOp dDiv (eVar 8) (eC (.int 6))) aNil))))) (sDPutO 2 (eVar 3) (eCall F__law_pick (aCons (eVar 0) (aCons (eVar 4) aNil)))))))
abbrev s__law_bent_6 : Rho → Out Res := (sRet (eVar 2))
theorem S__law_bent_is : S__law_bent = sSeq s__law_bent_1 (sSeq s__law_bent_2 (sSeq s__law_bent_3 (sSeq s__law_bent_4 (sSeq s__law_bent_5 s__law_bent_6)))) := rfl
section
variable {w v : Ware} {S a c r d x y N nm : D} {xs ys : List D} {ss : List Spot} {n c1 c2 : Nat} {ρ : Rho} {X : Str → List (Str × D) → Prop} {Q : Res → Prop} {z : Str}
theorem sp_ifP {t : Rho → Out Bool} {A B : Rho → Out Res} {R : Prop} (h : (t ρ).sp c1 (fun b => b = true → R) X) (ha : R → (A ρ).sp c2 Q X) (hb : (B ρ).sp c2 Q X) : (sIf t A B ρ).sp (c1 + c2) Q X :=
  Out.sp_then h (Nat.le_add_right _ _) fun u hu => by
    cases u
    · exact Out.sp_mono hb (by omega) (fun _ z => z) fun _ _ z => z
    · exact Out.sp_mono (ha (hu rfl)) (by omega) (fun _ z => z) fun _ _ z => z
theorem sp_andT {t u : Rho → Out Bool} {R : Prop} (h1 : (t ρ).sp c1 (fun _ => True) X) (h2 : (u ρ).sp c2 (fun b => b = true → R) X) : (cAnd t u ρ).sp (c1 + c2) (fun b => b = true → R) X :=
  Out.sp_then h1 (Nat.le_add_right _ _) fun d _ => by
    cases d
    · exact Out.sp_mono (Out.sp_ok (c := 0) (fun z => nomatch z)) (Nat.zero_le _) (fun _ z => z) fun _ _ z => z
    · exact Out.sp_mono h2 (by omega) (fun _ z => z) fun _ _ z => z
theorem sp_andL {t u : Rho → Out Bool} {R : Prop} (h1 : (t ρ).sp c1 (fun b => b = true → R) X) (h2 : (u ρ).sp c2 (fun _ => True) X) : (cAnd t u ρ).sp (c1 + c2) (fun b => b = true → R) X :=
  Out.sp_then h1 (Nat.le_add_right _ _) fun d hd => by
    cases d
    · exact Out.sp_mono (Out.sp_ok (c := 0) (fun z => nomatch z)) (Nat.zero_le _) (fun _ z => z) fun _ _ z => z
    · exact Out.sp_mono h2 (by omega) (fun _ _ _ => hd rfl) fun _ _ z => z
theorem put_slots : putD [(.inr "slots", S), (.inr "amount", a), (.inr "cost", c), (.inr "roll", r)] (.inr "slots") y = [(.inr "slots", y), (.inr "amount", a), (.inr "cost", c), (.inr "roll", r)] := by kernel_rfl
theorem put_amount : putD [(.inr "slots", S), (.inr "amount", a), (.inr "cost", c), (.inr "roll", r)] (.inr "amount") y = [(.inr "slots", S), (.inr "amount", y), (.inr "cost", c), (.inr "roll", r)] := by kernel_rfl
theorem put_cost : putD [(.inr "slots", S), (.inr "amount", a), (.inr "cost", c), (.inr "roll", r)] (.inr "cost") y = [(.inr "slots", S), (.inr "amount", a), (.inr "cost", y), (.inr "roll", r)] := by kernel_rfl
theorem put_roll : putD [(.inr "slots", S), (.inr "amount", a), (.inr "cost", c), (.inr "roll", r)] (.inr "roll") y = [(.inr "slots", S), (.inr "amount", a), (.inr "cost", c), (.inr "roll", y)] := by kernel_rfl
/-! ### near parts -/
/-- what may stand for slots -/
def SeqN (n : Nat) (S : D) : Prop := (∃ xs, S = .lst xs ∧ xs.length ≤ n ∧ ∀ x ∈ xs, fineB x = true) ∨ (dIsTyB "list" S = some false ∧ F_are_slots [S] = .ok (.bl false) ∧ F__law_are_spots [S] = .ok (.bl false))
structure NearP (n : Nat) (d : D) : Prop where
  ex : ∃ S a c r, d = dct4 S a c r ∧ SeqN n S ∧ a ≠ .drw ∧ c ≠ .drw ∧ fineB r = true
theorem SeqN.up {m : Nat} (h : SeqN n S) (hm : n ≤ m) : SeqN m S := by
  rcases h with ⟨xs, h1, h2, h3⟩ | h
  · exact .inl ⟨xs, h1, Nat.le_trans h2 hm, h3⟩
  · exact .inr h
theorem spot_fine {ss : List Spot} : ∀ x ∈ ss.map encSpot, fineB x = true := fun x hx => by
  obtain ⟨s, _, rfl⟩ := List.mem_map.mp hx
  rfl
theorem near_ware (h : WareP w) : NearP 12 (encWare w) := ⟨⟨.lst (w.slots.map encSpot), .int w.amount, encOI w.cost, encOS w.roll, rfl, .inl ⟨_, rfl, by rw [List.length_map]; exact h.sl.l2, spot_fine⟩, fun z => (nomatch z), oi_ne, os_fine⟩⟩
abbrev oddL : List D := [.non, .bl true, .int (-1), .int 4, .int 100, .int 0, .str "", .str "x", .tup [], .lst [], .dct [], .tup [.str "x", .int 0], .tup [.str "x", .int 4], .tup [.str "X", .int 1], .lst [.str "x", .int 1], .int 100000000000000000000000000000]
abbrev freshL : List D := [.tup [.str "abcdefg", .int 0], .tup [.str "x", .int 4], .tup [.str "x", .int (-1)], .tup [.str "x", .bl true], .lst [.str "x", .int 0], .tup [.str "x"], .tup [.str "", .int 0], .non]
theorem odd_fine : ∀ y ∈ oddL, fineB y = true := by
  rw [← List.all_eq_true]
  rfl
theorem fresh_fine : ∀ y ∈ freshL, fineB y = true := by
  rw [← List.all_eq_true]
  rfl
theorem odd_seq (h : y ∈ oddL) : SeqN 2 y := by
  simp only [oddL, List.mem_cons, List.not_mem_nil, or_false] at h
  rcases h with rfl | rfl | rfl | rfl | rfl | rfl | rfl | rfl | rfl | rfl | rfl | rfl | rfl | rfl | rfl | rfl
  · exact .inr ⟨by kernel_rfl, by kernel_rfl, by kernel_rfl⟩
  · exact .inr ⟨by kernel_rfl, by kernel_rfl, by kernel_rfl⟩
  · exact .inr ⟨by kernel_rfl, by kernel_rfl, by kernel_rfl⟩
  · exact .inr ⟨by kernel_rfl, by kernel_rfl, by kernel_rfl⟩
  · exact .inr ⟨by kernel_rfl, by kernel_rfl, by kernel_rfl⟩
  · exact .inr ⟨by kernel_rfl, by kernel_rfl, by kernel_rfl⟩
  · exact .inr ⟨by kernel_rfl, by kernel_rfl, by kernel_rfl⟩
  · exact .inr ⟨by kernel_rfl, by kernel_rfl, by kernel_rfl⟩
  · exact .inr ⟨by kernel_rfl, by kernel_rfl, by kernel_rfl⟩
  · exact .inl ⟨_, rfl, by decide, fun x h => nomatch h⟩
  · exact .inr ⟨by kernel_rfl, by kernel_rfl, by kernel_rfl⟩
  · exact .inr ⟨by kernel_rfl, by kernel_rfl, by kernel_rfl⟩
  · exact .inr ⟨by kernel_rfl, by kernel_rfl, by kernel_rfl⟩
  · exact .inr ⟨by kernel_rfl, by kernel_rfl, by kernel_rfl⟩
  · exact .inl ⟨_, rfl, by decide, by rw [← List.all_eq_true]; rfl⟩
  · exact .inr ⟨by kernel_rfl, by kernel_rfl, by kernel_rfl⟩
/-! ### the four ways -/
abbrev rhoB (D4 d nm : D) (xs : List D) (x7 : D) : Rho := [.drw, D4, d, nm, .lst oddL, .lst freshL, .lst xs, x7, .non]
abbrev FinB (D4 nm : D) (xs : List D) (n : Nat) : Res → Prop := fun q => ∃ d x7, NearP n d ∧ q = .nx (rhoB D4 d nm xs x7)
theorem near_put (hs : SeqN n y) (ha : a ≠ .drw) (hc : c ≠ .drw) (hr : fineB r = true) : NearP n (.dct (putD [(.inr "slots", S), (.inr "amount", a), (.inr "cost", c), (.inr "roll", r)] (.inr "slots") y)) := by
  rw [put_slots]
  exact ⟨⟨y, a, c, r, rfl, hs, ha, hc, hr⟩⟩
theorem bent_a (hx : xs.length ≤ n) (hn : n ≤ 30) (hf : ∀ x ∈ xs, fineB x = true) (ha : a ≠ .drw) (hc : c ≠ .drw) (hr : fineB r = true) : ((sSeq (sSet 7 (eCall F__law_pick (aCons (eVar 0) (aCons (eOp dCatL (eVar 5) (eSl dSlL (eVar 6) oNone (oSome (eC (.int 1))))) aNil)))) (sDPutO 2 (eC (.str "slots")) (eCall F__law_shuffled (aCons (eVar 0) (aCons (eOp dCatL (eVar 6) (eLst (aCons (eVar 7) aNil))) aNil))))) (rhoB (dct4 S a c r) (dct4 S a c r) nm xs .non)).sp 40 (FinB (dct4 S a c r) nm xs (n + 1)) (fun _ _ => False) := by
  generalize hD : dct4 S a c r = D4
  refine sp_seqc (c1 := 1) (P := fun ρ => ∃ d, fineB d = true ∧ ρ = rhoB D4 D4 nm xs d) ?_ (by decide) fun ρ hρ => ?_
  · have hA : eOp dCatL (eVar 5) (eSl dSlL (eVar 6) oNone (oSome (eC (.int 1)))) (rhoB D4 D4 nm xs .non) = .ok (.lst (freshL ++ xs.take (min 1 xs.length))) := by
      have e := cut_to xs 1
      have e : cutL xs none (some 1) = xs.take (min 1 xs.length) := e
      have k : eOp dCatL (eVar 5) (eSl dSlL (eVar 6) oNone (oSome (eC (.int 1)))) (rhoB D4 D4 nm xs .non) = dCatL (.lst freshL) (.lst (cutL xs none (some 1))) := eOp_ok rfl rfl
      rw [k, e]
      exact catLq (by rw [List.length_take]; show 8 + _ ≤ 100000; omega)
    refine Out.sp_q (sp_set (P := fun d => d ∈ freshL ++ xs.take (min 1 xs.length)) (pick_at (L := freshL ++ xs.take (min 1 xs.length)) (by rw [List.length_append]; show 0 < 8 + _; omega) (by rw [List.length_append, List.length_take]; show 8 + _ < 1000000; omega) rfl hA)) fun q hq => ?_
    obtain ⟨d, hd, rfl⟩ := hq
    refine ⟨_, rfl, d, ?_, rfl⟩
    rcases List.mem_append.mp hd with hd | hd
    · exact fresh_fine d hd
    · exact hf d (List.mem_of_mem_take hd)
  · obtain ⟨d, hd, rfl⟩ := hρ
    have hA : eOp dCatL (eVar 6) (eLst (aCons (eVar 7) aNil)) (rhoB D4 D4 nm xs d) = .ok (.lst (xs ++ [d])) := by
      have k : eOp dCatL (eVar 6) (eLst (aCons (eVar 7) aNil)) (rhoB D4 D4 nm xs d) = dCatL (.lst xs) (.lst [d]) := eOp_ok rfl rfl
      rw [k]
      exact catLq (by show xs.length + 1 ≤ 100000; omega)
    have hl : (xs ++ [d]).length ≤ n + 1 := by rw [List.length_append]; show xs.length + 1 ≤ n + 1; omega
    have hv : (eCall F__law_shuffled (aCons (eVar 0) (aCons (eOp dCatL (eVar 6) (eLst (aCons (eVar 7) aNil))) aNil)) (rhoB D4 D4 nm xs d)).sp 39 (fun y => ∃ zs : List D, zs.Perm (xs ++ [d]) ∧ y = .lst zs) (fun _ _ => False) :=
      Out.sp_mono (sp_call2 (c1 := 0) (c2 := n + 1) (F := F__law_shuffled) (x := .drw) rfl (sp_is (v := .lst (xs ++ [d])) hA) fun d' hd' => by subst hd'; exact Out.sp_mono (shuffled_any (by omega)) hl (fun _ z => z) fun _ _ z => z) (by omega) (fun _ z => z) fun _ _ z => z
    subst hD
    refine Out.sp_q (sp_dput (c1 := 39) (n := 2) (w := "slots") (kvs := [(.inr "slots", S), (.inr "amount", a), (.inr "cost", c), (.inr "roll", r)]) hv rfl rfl (by show 4 < 99999; decide)) fun q hq => ?_
    obtain ⟨y, ⟨zs, hz, rfl⟩, rfl⟩ := hq
    refine ⟨_, d, near_put (S := S) (y := .lst zs) (.inl ⟨zs, rfl, by rw [hz.length_eq]; exact hl, fun x hx => ?_⟩) ha hc hr, rfl⟩
    rcases List.mem_append.mp (hz.subset hx) with hx | hx
    · exact hf x hx
    · rw [List.mem_singleton.mp hx]
      exact hd
theorem dix_head : dIx (.lst (x :: xs)) (.int 0) = .ok x := by
  show optD (L2.atI (x :: xs) 0) = _
  unfold L2.atI L2.ixN
  rw [if_pos (by decide), if_pos (by rw [List.length_cons]; omega)]
  rfl
theorem bent_b (hs : SlotsOk ss) (hx : ss.length ≤ n) (ha : a ≠ .drw) (hc : c ≠ .drw) (hr : fineB r = true) : ((sDPutO 2 (eC (.str "slots")) (eOp dCatL (eSl dSlL (eVar 6) (oSome (eC (.int 1))) oNone) (eLst (aCons (eTup (aCons (eCall F__law_pick (aCons (eVar 0) (aCons (eLst (aCons (eC (.str "x")) (aCons (eOp dIx (eOp dIx (eVar 6) (eC (.int 0))) (eC (.int 0))) aNil))) aNil))) (aCons (eCall F__law_take (aCons (eVar 0) (aCons (eC (.int 4)) aNil))) aNil))) aNil)))) (rhoB (dct4 S a c r) (dct4 S a c r) nm (ss.map encSpot) .non)).sp 40 (FinB (dct4 S a c r) nm (ss.map encSpot) (n + 1)) (fun _ _ => False) := by
  have hl1 := hs.l1
  cases ss with
  | nil => exact absurd hl1 (by decide)
  | cons s ss =>
    have k1 : eSl dSlL (eVar 6) (oSome (eC (.int 1))) oNone (rhoB (dct4 S a c r) (dct4 S a c r) nm ((s :: ss).map encSpot) .non) = .ok (.lst (cutL ((s :: ss).map encSpot) (some 1) none)) := rfl
    have k2 : (eCall F__law_pick (aCons (eVar 0) (aCons (eLst (aCons (eC (.str "x")) (aCons (eOp dIx (eOp dIx (eVar 6) (eC (.int 0))) (eC (.int 0))) aNil))) aNil)) (rhoB (dct4 S a c r) (dct4 S a c r) nm ((s :: ss).map encSpot) .non)).sp 1 (fun d => d ∈ [D.str "x", .str s.1]) (fun _ _ => False) := pick_at (L := [.str "x", .str s.1]) (by show 0 < 2; decide) (by show 2 < 1000000; decide) rfl (by
      have g : eOp dIx (eVar 6) (eC (.int 0)) (rhoB (dct4 S a c r) (dct4 S a c r) nm ((s :: ss).map encSpot) .non) = .ok (encSpot s) := (eOp_ok rfl rfl).trans dix_head
      have g2 : eOp dIx (eOp dIx (eVar 6) (eC (.int 0))) (eC (.int 0)) (rhoB (dct4 S a c r) (dct4 S a c r) nm ((s :: ss).map encSpot) .non) = .ok (.str s.1) := (eOp_ok g rfl).trans rfl
      unfold eLst aCons
      rw [g2]
      rfl)
    have k3 : (eCall F__law_take (aCons (eVar 0) (aCons (eC (.int 4)) aNil)) (rhoB (dct4 S a c r) (dct4 S a c r) nm ((s :: ss).map encSpot) .non)).sp 1 (fun d => inR 4 d) (fun _ _ => False) := Out.sp_mono (sp_call2 (c1 := 0) (c2 := 1) (F := F__law_take) (x := .drw) rfl (sp_is (v := .int 4) rfl) fun d hd => by subst hd; exact take_ok (by decide) (by decide)) (by decide) (fun _ z => z) fun _ _ z => z
    have hv : (eOp dCatL (eSl dSlL (eVar 6) (oSome (eC (.int 1))) oNone) (eLst (aCons (eTup (aCons (eCall F__law_pick (aCons (eVar 0) (aCons (eLst (aCons (eC (.str "x")) (aCons (eOp dIx (eOp dIx (eVar 6) (eC (.int 0))) (eC (.int 0))) aNil))) aNil))) (aCons (eCall F__law_take (aCons (eVar 0) (aCons (eC (.int 4)) aNil))) aNil))) aNil)) (rhoB (dct4 S a c r) (dct4 S a c r) nm ((s :: ss).map encSpot) .non)).sp 40 (fun y => ∃ p q, p ∈ [D.str "x", .str s.1] ∧ inR 4 q ∧ y = .lst (cutL ((s :: ss).map encSpot) (some 1) none ++ [.tup [p, q]])) (fun _ _ => False) := by
      revert k1 k2 k3
      generalize eCall F__law_pick (aCons (eVar 0) (aCons (eLst (aCons (eC (.str "x")) (aCons (eOp dIx (eOp dIx (eVar 6) (eC (.int 0))) (eC (.int 0))) aNil))) aNil)) = A
      generalize eCall F__law_take (aCons (eVar 0) (aCons (eC (.int 4)) aNil)) = B
      generalize eSl dSlL (eVar 6) (oSome (eC (.int 1))) oNone = CC
      generalize rhoB (dct4 S a c r) (dct4 S a c r) nm ((s :: ss).map encSpot) .non = ρ
      have hcl := cutL_len ((s :: ss).map encSpot) (some 1) none
      rw [List.length_map] at hcl
      revert hcl
      generalize cutL ((s :: ss).map encSpot) (some 1) none = T
      intro hcl k1 k2 k3
      have e : eOp dCatL CC (eLst (aCons (eTup (aCons A (aCons B aNil))) aNil)) ρ = (A ρ).bind fun p => (B ρ).bind fun q => dCatL (.lst T) (.lst [.tup [p, q]]) := by
        simp only [eOp, eLst, eTup, aCons, aNil, Out.bind_assoc, Out.ok_bind, k1]
      rw [e]
      refine Out.sp_then k2 (by decide) fun p hp => ?_
      refine Out.sp_then k3 (by decide) fun q hq => ?_
      rw [catLq (by show T.length + 1 ≤ 100000; have := hs.l2; omega)]
      exact Out.sp_mono (Out.sp_ok (c := 0) ⟨p, q, hp, hq, rfl⟩) (Nat.zero_le _) (fun _ z => z) fun _ _ z => z
    refine Out.sp_q (sp_dput (c1 := 40) (n := 2) (w := "slots") (kvs := [(.inr "slots", S), (.inr "amount", a), (.inr "cost", c), (.inr "roll", r)]) hv rfl rfl (by show 4 < 99999; decide)) fun q' hq => ?_
    obtain ⟨y, ⟨p, q, hp, hq, rfl⟩, rfl⟩ := hq
    refine ⟨_, .non, near_put (S := S) (.inl ⟨_, rfl, ?_, fun x hx => ?_⟩) ha hc hr, rfl⟩
    · have hcl := cutL_len ((s :: ss).map encSpot) (some 1) none
      rw [List.length_map] at hcl
      rw [List.length_append]
      show _ + 1 ≤ n + 1
      omega
    · rcases List.mem_append.mp hx with hx | hx
      · unfold cutL at hx
        exact spot_fine x (List.mem_of_mem_drop (List.mem_of_mem_take hx))
      · rw [List.mem_singleton.mp hx]
        obtain ⟨i, _, _, rfl⟩ := hq
        rcases List.mem_cons.mp hp with rfl | hp
        · rfl
        · rw [List.mem_singleton.mp hp]
          rfl
abbrev qL : List D := (List.range 13).map fun k => .tup [.str (repS "q" (1 + k % 6)), .int ((k / 6 : Nat) : Int)]
theorem bent_c (hn : 13 ≤ n + 1) (ha : a ≠ .drw) (hc : c ≠ .drw) (hr : fineB r = true) : ((sDPutO 2 (eC (.str "slots")) (eLc (iRg1 (aCons (eC (.int 13)) aNil)) (gN 8) cYes (eTup (aCons (eOp dMulS (eC (.str "q")) (eOp dAdd (eC (.int 1)) (eOp dMod (eVar 8) (eC (.int 6))))) (aCons (eOp dDiv (eVar 8) (eC (.int 6))) aNil))))) (rhoB (dct4 S a c r) (dct4 S a c r) nm xs .non)).sp 40 (FinB (dct4 S a c r) nm xs (n + 1)) (fun _ _ => False) := by
  have hv : eLc (iRg1 (aCons (eC (.int 13)) aNil)) (gN 8) cYes (eTup (aCons (eOp dMulS (eC (.str "q")) (eOp dAdd (eC (.int 1)) (eOp dMod (eVar 8) (eC (.int 6))))) (aCons (eOp dDiv (eVar 8) (eC (.int 6))) aNil))) (rhoB (dct4 S a c r) (dct4 S a c r) nm xs .non) = .ok (.lst qL) := by
    generalize dct4 S a c r = D4
    kernel_rfl
  refine Out.sp_q (sp_dput (c1 := 40) (n := 2) (w := "slots") (P := fun y => y = .lst qL) (kvs := [(.inr "slots", S), (.inr "amount", a), (.inr "cost", c), (.inr "roll", r)]) (sp_is hv) rfl rfl (by show 4 < 99999; decide)) fun q' hq => ?_
  obtain ⟨y, rfl, rfl⟩ := hq
  refine ⟨_, .non, near_put (S := S) (.inl ⟨_, rfl, by rw [List.length_map, List.length_range]; exact hn, fun x hx => ?_⟩) ha hc hr, rfl⟩
  obtain ⟨k, _, rfl⟩ := List.mem_map.mp hx
  rfl
theorem bent_d (hn : 2 ≤ n + 1) (hS : SeqN n S) (ha : a ≠ .drw) (hc : c ≠ .drw) (hr : fineB r = true) (hnm : nm ∈ [D.str "slots", .str "amount", .str "cost", .str "roll"]) : ((sDPutO 2 (eVar 3) (eCall F__law_pick (aCons (eVar 0) (aCons (eVar 4) aNil)))) (rhoB (dct4 S a c r) (dct4 S a c r) nm xs .non)).sp 40 (FinB (dct4 S a c r) nm xs (n + 1)) (fun _ _ => False) := by
  have hp : (eCall F__law_pick (aCons (eVar 0) (aCons (eVar 4) aNil)) (rhoB (dct4 S a c r) (dct4 S a c r) nm xs .non)).sp 40 (fun y => y ∈ oddL) (fun _ _ => False) := Out.sp_mono (pick_at (L := oddL) (by decide) (by decide) rfl rfl) (by decide) (fun _ z => z) fun _ _ z => z
  have hS' := hS.up (Nat.le_succ n)
  simp only [List.mem_cons, List.not_mem_nil, or_false] at hnm
  rcases hnm with rfl | rfl | rfl | rfl
  · refine Out.sp_q (sp_dput (c1 := 40) (n := 2) (w := "slots") (kvs := [(.inr "slots", S), (.inr "amount", a), (.inr "cost", c), (.inr "roll", r)]) hp rfl rfl (by show 4 < 99999; decide)) fun q' hq => ?_
    obtain ⟨y, hy, rfl⟩ := hq
    exact ⟨_, .non, near_put (S := S) ((odd_seq hy).up hn) ha hc hr, rfl⟩
  · refine Out.sp_q (sp_dput (c1 := 40) (n := 2) (w := "amount") (kvs := [(.inr "slots", S), (.inr "amount", a), (.inr "cost", c), (.inr "roll", r)]) hp rfl rfl (by show 4 < 99999; decide)) fun q' hq => ?_
    obtain ⟨y, hy, rfl⟩ := hq
    refine ⟨_, .non, ?_, rfl⟩
    rw [put_amount]
    exact ⟨⟨S, y, c, r, rfl, hS', fine_ne (odd_fine y hy), hc, hr⟩⟩
  · refine Out.sp_q (sp_dput (c1 := 40) (n := 2) (w := "cost") (kvs := [(.inr "slots", S), (.inr "amount", a), (.inr "cost", c), (.inr "roll", r)]) hp rfl rfl (by show 4 < 99999; decide)) fun q' hq => ?_
    obtain ⟨y, hy, rfl⟩ := hq
    refine ⟨_, .non, ?_, rfl⟩
    rw [put_cost]
    exact ⟨⟨S, a, y, r, rfl, hS', ha, fine_ne (odd_fine y hy), hr⟩⟩
  · refine Out.sp_q (sp_dput (c1 := 40) (n := 2) (w := "roll") (kvs := [(.inr "slots", S), (.inr "amount", a), (.inr "cost", c), (.inr "roll", r)]) hp rfl rfl (by show 4 < 99999; decide)) fun q' hq => ?_
    obtain ⟨y, hy, rfl⟩ := hq
    refine ⟨_, .non, ?_, rfl⟩
    rw [put_roll]
    exact ⟨⟨S, a, c, y, rfl, hS', ha, hc, odd_fine y hy⟩⟩
/-! ### the def -/
theorem name_is {w' : Str} {D4 : D} {x7 : D} (hnm : nm ∈ [D.str "slots", .str "amount", .str "cost", .str "roll"]) : (cB (eOp dEq (eVar 3) (eC (.str "slots"))) (rhoB D4 D4 nm xs x7)).sp 0 (fun _ => True) (fun _ _ => False) := by
  have : ∃ z, nm = .str z := by
    simp only [List.mem_cons, List.not_mem_nil, or_false] at hnm
    rcases hnm with rfl | rfl | rfl | rfl <;> exact ⟨_, rfl⟩
  obtain ⟨z, rfl⟩ := this
  have e : cB (eOp dEq (eVar 3) (eC (.str "slots"))) (rhoB D4 D4 (.str z) xs x7) = .ok (dEqB (.str z) (.str "slots")) := by
    unfold cB
    have k : eOp dEq (eVar 3) (eC (.str "slots")) (rhoB D4 D4 (.str z) xs x7) = .ok (.bl (dEqB (.str z) (.str "slots"))) := (eOp_ok rfl rfl).trans (eq_pl rfl rfl)
    rw [k]
    rfl
  rw [e]
  exact Out.sp_ok trivial
theorem spots_tell {D4 : D} (hf : ∀ x ∈ xs, fineB x = true) : (cB (eCall F__law_are_spots (aCons (eVar 6) aNil)) (rhoB D4 D4 nm xs .non)).sp 0 (fun b => b = true → ∃ ss, SlotsOk ss ∧ xs = ss.map encSpot) (fun _ _ => False) := by
  have e : eCall F__law_are_spots (aCons (eVar 6) aNil) (rhoB D4 D4 nm xs .non) = F__law_are_spots [.lst xs] := call1_of rfl
  rcases slots_two hf with ⟨ss, h1, h2, h3⟩ | h
  · refine Out.sp_q (sp_cB (v := true) ?_) fun b hb hb' => ⟨ss, h1, h2⟩
    rw [e]
    exact (h3 false).2
  · refine Out.sp_q (sp_cB (v := false) ?_) fun b hb hb' => by rw [hb] at hb'; cases hb'
    rw [e]
    exact (h false).2
theorem coinT {D4 : D} {n : Int} {x7 : D} (h0 : 0 < n) (h1 : n < 1000000) {R : Prop} (hR : R) : (cB (eOp dEq (eCall F__law_take (aCons (eVar 0) (aCons (eC (.int n)) aNil))) (eC (.int 0))) (rhoB D4 D4 nm xs x7)).sp 1 (fun b => b = true → R) (fun _ _ => False) := Out.sp_q (coin h0 h1 rfl) fun _ _ _ => hR
theorem bent_five (hn : 12 ≤ n) (hn2 : n ≤ 30) (hS : SeqN n S) (ha : a ≠ .drw) (hc : c ≠ .drw) (hr : fineB r = true) (hnm : nm ∈ [D.str "slots", .str "amount", .str "cost", .str "roll"]) (hx : xs.length ≤ n) (hf : ∀ x ∈ xs, fineB x = true) : (s__law_bent_5 (rhoB (dct4 S a c r) (dct4 S a c r) nm xs .non)).sp 43 (FinB (dct4 S a c r) nm xs (n + 1)) (fun _ _ => False) := by
  unfold s__law_bent_5
  have hA := bent_a (S := S) (nm := nm) hx hn2 hf ha hc hr
  have hC := bent_c (S := S) (nm := nm) (xs := xs) (n := n) (by omega) ha hc hr
  have hD := bent_d (xs := xs) (n := n) (by omega) hS ha hc hr hnm
  refine Out.sp_mono (c := 1 + 42) (sp_ifP (R := True) (c1 := 1) (c2 := 42) (sp_andT (c1 := 0) (c2 := 1) (name_is (w' := "") hnm) (coinT (by decide) (by decide) trivial)) (fun _ => Out.sp_mono hA (by decide) (fun _ z => z) fun _ _ z => z) ?_) (by decide) (fun _ z => z) fun _ _ z => z
  refine Out.sp_mono (c := 1 + 41) (sp_ifP (R := ∃ ss, SlotsOk ss ∧ xs = ss.map encSpot) (c1 := 1) (c2 := 41) (sp_andT (c1 := 0) (c2 := 1) (name_is (w' := "") hnm) (sp_andL (c1 := 0) (c2 := 1) (spots_tell hf) (coin (by decide) (by decide) rfl))) (fun h => by
    obtain ⟨ss, hs, e⟩ := h
    have := bent_b (S := S) (nm := nm) (n := n) (ss := ss) hs (by rw [e, List.length_map] at hx; exact hx) ha hc hr
    rw [← e] at this
    exact Out.sp_mono this (by decide) (fun _ z => z) fun _ _ z => z) ?_) (by decide) (fun _ z => z) fun _ _ z => z
  exact Out.sp_mono (c := 1 + 40) (sp_ifP (R := True) (c1 := 1) (c2 := 40) (sp_andT (c1 := 0) (c2 := 1) (name_is (w' := "") hnm) (coinT (by decide) (by decide) trivial)) (fun _ => hC) hD) (by decide) (fun _ z => z) fun _ _ z => z
theorem bent_ok (hn : 12 ≤ n) (hn2 : n ≤ 30) (h : NearP n d) : (F__law_bent [.drw, d]).sp 44 (NearP (n + 1)) (fun _ _ => False) := by
  obtain ⟨S, a, c, r, rfl, hS, ha, hc, hr⟩ := h.ex
  rw [F__law_bent]
  unfold fnD
  refine Out.sp_then (c1 := 44) (P := fun q => ∃ d, NearP (n + 1) d ∧ q = .rt d) ?_ (Nat.le_refl _) fun q hq => by
    obtain ⟨d, hd, rfl⟩ := hq
    exact Out.sp_ok hd
  have e0 : [D.drw, dct4 S a c r] ++ List.replicate (9 - [D.drw, dct4 S a c r].length) D.non = [.drw, dct4 S a c r, .non, .non, .non, .non, .non, .non, .non] := rfl
  rw [e0, S__law_bent_is]
  refine sp_seqc (c1 := 1) (P := fun ρ => ∃ nm, nm ∈ [D.str "slots", .str "amount", .str "cost", .str "roll"] ∧ ρ = [.drw, dct4 S a c r, dct4 S a c r, nm, .non, .non, .non, .non, .non]) ?_ (by decide) fun ρ hρ => ?_
  · unfold s__law_bent_1 sPar2
    have k : eCall dDict (aCons (eVar 1) aNil) [.drw, dct4 S a c r, .non, .non, .non, .non, .non, .non, .non] = .ok (dct4 S a c r) := rfl
    rw [k, Out.ok_bind]
    refine Out.sp_then (pick_at (L := [.str "slots", .str "amount", .str "cost", .str "roll"]) (by decide) (by decide) rfl rfl) (Nat.le_refl _) fun nm hnm => ?_
    exact Out.sp_ok ⟨_, rfl, nm, hnm, rfl⟩
  obtain ⟨nm, hnm, rfl⟩ := hρ
  have q2 : s__law_bent_2 [.drw, dct4 S a c r, dct4 S a c r, nm, .non, .non, .non, .non, .non] = .ok (.nx [.drw, dct4 S a c r, dct4 S a c r, nm, .lst oddL, .non, .non, .non, .non]) := set_nx (by kernel_rfl)
  rw [seq_nx q2]
  have q3 : s__law_bent_3 [.drw, dct4 S a c r, dct4 S a c r, nm, .lst oddL, .non, .non, .non, .non] = .ok (.nx [.drw, dct4 S a c r, dct4 S a c r, nm, .lst oddL, .lst freshL, .non, .non, .non]) := set_nx (by kernel_rfl)
  rw [seq_nx q3]
  have q4 : ∃ xs, xs.length ≤ n ∧ (∀ x ∈ xs, fineB x = true) ∧ s__law_bent_4 [.drw, dct4 S a c r, dct4 S a c r, nm, .lst oddL, .lst freshL, .non, .non, .non] = .ok (.nx (rhoB (dct4 S a c r) (dct4 S a c r) nm xs .non)) := by
    have g : eOp dGet (eVar 1) (eC (.str "slots")) [.drw, dct4 S a c r, dct4 S a c r, nm, .lst oddL, .lst freshL, .non, .non, .non] = .ok S := (eOp_ok rfl rfl).trans dg_slots
    rcases hS with ⟨xs, rfl, h1, h2⟩ | ⟨h1, _⟩
    · refine ⟨xs, h1, h2, set_nx ?_⟩
      have k : (cB (eUn (fun d => boD (dIsTyB "list" d)) (eOp dGet (eVar 1) (eC (.str "slots"))))) [.drw, dct4 (.lst xs) a c r, dct4 (.lst xs) a c r, nm, .lst oddL, .lst freshL, .non, .non, .non] = .ok true := by
        unfold cB eUn
        rw [g]
        rfl
      unfold eIf
      rw [k]
      exact g
    · refine ⟨[], Nat.zero_le _, fun x h => (nomatch h), set_nx ?_⟩
      have k : (cB (eUn (fun d => boD (dIsTyB "list" d)) (eOp dGet (eVar 1) (eC (.str "slots"))))) [.drw, dct4 S a c r, dct4 S a c r, nm, .lst oddL, .lst freshL, .non, .non, .non] = .ok false := by
        unfold cB eUn
        rw [g, Out.ok_bind, h1]
        rfl
      unfold eIf
      rw [k]
      rfl
  obtain ⟨xs, hx, hf, q4⟩ := q4
  rw [seq_nx q4]
  refine sp_seqc (c1 := 43) (P := fun ρ => ∃ d x7, NearP (n + 1) d ∧ ρ = rhoB (dct4 S a c r) d nm xs x7) ?_ (by decide) fun ρ hρ => ?_
  · refine Out.sp_q (bent_five hn hn2 hS ha hc hr hnm hx hf) fun q hq => ?_
    obtain ⟨d, x7, hd, rfl⟩ := hq
    exact ⟨_, rfl, d, x7, hd, rfl⟩
  · obtain ⟨d, x7, hd, rfl⟩ := hρ
    exact Out.sp_mono (Out.sp_ok (c := 0) ⟨d, hd, rfl⟩) (Nat.zero_le _) (fun _ z => z) fun _ _ z => z
end
end ND
namespace ND
open PySem PySem.Spec PyProof.Rows L2
section
variable {P : Program} {w : World} {K : PySem.W.Frag} {mg : Str → Option Value} {base : Heap}
def S_law : Rho → Out Res := (sSeq (sFor (iRg1 (aCons (eOp dAdd (eC (.int 4)) (eCall dMin2 (aCons (eCall dLen (aCons (eVar 0) aNil)) (aCons (eC (.int 16)) aNil)))) aNil)) (gN 2) (sSeq (sSet 3 (eCall F__law_given (aCons (eVar 1) aNil)))
      (sSeq (sSet 4 (eCall F__law_made (aCons (eVar 1) (aCons (eVar 3) aNil))))
      (sSeq (sIf (cOr (cNot (cB (eCall F__law_is_right (aCons (eVar 4) (aCons (eVar 3) aNil))))) (cB (eOp dNotN (eCall F__law_wrong (aCons (eVar 3) aNil)) (eC .non)))) (sRet (eC (.bl false))) sNext)
      (sSeq (sSet 5 (eIf (cB (eOp dEq (eCall F__law_take (aCons (eVar 1) (aCons (eC (.int 3)) aNil))) (eC (.int 0)))) (eCall F__law_given (aCons (eVar 1) aNil)) (eCall dDict (aCons (eVar 3) aNil))))
      (sSeq (sFor (iRg1 (aCons (eCall F__law_pick (aCons (eVar 1) (aCons (eLst (aCons (eC (.int 1)) (aCons (eC (.int 1)) (aCons (eC (.int 2)) aNil)))) aNil))) aNil)) (gN 6) (sSet 5 (eCall F__law_bent (aCons (eVar 1) (aCons (eVar 5) aNil)))))
      (sSeq (sPars (wCons 7 (eCall F__law_wrong (aCons (eVar 5) aNil)) (wCons 8 (eLst aNil) wNil)))
      (sSeq (sCauApp 9 8 (eCall F__law_made (aCons (eVar 1) (aCons (eVar 5) aNil))))
      (sSeq (sIf (cAnd (cB (eOp dNotN (eVar 7) (eC .non))) (cOr (cNot (cB (eUn (fun d => boD (dIsClB "BadPack" d)) (eVar 9)))) (cB (eOp dNe (eUn (dXf "part") (eVar 9)) (eVar 7))))) (sRet (eC (.bl false))) sNext)
      (sSeq (sIf (cB (eOp dIsN (eVar 7) (eC .non))) (sSeq (sSet 10 (eOp dEq (eCall F__law_parts (aCons (eVar 5) aNil)) (eCall F__law_parts (aCons (eVar 3) aNil))))
      (sIf (cOr (cB (eOp dNotN (eVar 9) (eC .non))) (cOr (cNot (cB (eCall F__law_is_right (aCons (eOp dIx (eVar 8) (eC (.int 0))) (aCons (eVar 5) aNil))))) (cB (eOp dNe (eOp (dOwn "Pack" F_Pack___eq__ false) (eOp dIx (eVar 8) (eC (.int 0))) (eVar 4)) (eVar 10))))) (sRet (eC (.bl false))) sNext)) sNext)
      (sSeq (sIf (cNot (cB (eOp (dOwn "Pack" F_Pack___eq__ false) (eCall (fun ds => F_Pack___init__ (ds ++ [.non, .non])) (aCons (eOp dGet (eVar 3) (eC (.str "slots"))) (aCons (eC (.int 1)) aNil))) (eCall (fun ds => F_Pack___init__ (ds ++ [])) (aCons (eOp dGet (eVar 3) (eC (.str "slots"))) (aCons (eC (.int 1)) (aCons (eC .non) (aCons (eC .non) aNil)))))))) (sRet (eC (.bl false))) sNext)
      (sIf (cOr (cB (eOp (dOwnD "Pack" F_Pack___eq__) (eVar 4) (eVar 3))) (cB (eOp (dOwn "Pack" F_Pack___eq__ true) (eVar 4) (eCall F__law_made (aCons (eVar 1) (aCons (eVar 3) aNil)))))) (sRet (eC (.bl false))) sNext))))))))))))
      (sRet (eC (.bl true))))
theorem ok_law (T : Tx P w K mg base) {fd : FuncData} (F : FnP K "law" "law" s_law (He.ga K "law") fd) (hL : LawD 11 S_law) : FnG P w K mg base 10 (He.ga K "law") fd ["_law_script"] (spLw K) := by
  obtain ⟨g, cdg, GL⟩ := gets T
  refine LFun.okG (k := 9) T.l_law F sc_law (fun vs H Q E h => ?_) (fun A outer s H vs Q E hgd hr h => ?_)
  · obtain ⟨a, ns, rfl, _⟩ := h
    rfl
  · obtain ⟨a, ns, rfl, _⟩ := id h
    exact ⟨_, (pss_cons (ps_set (i := 1) sc_law.nd rfl (Or.inr rfl) (pe_g (show GOk P w K mg base 1 "_law_begun" ["_law_script"] (spBg K) from okH__law_begun T) (hr.mono (by decide)) (by rfl) (passes_call (takes_of rfl rfl rfl rfl) (fun _ _ _ _ h => h)) (pa_cons (pv 0) pa_nil)))
      (pss_cons (ps_for (passes_of rfl) rfl (pi_range1 (by rfl) T.n_range (pa_cons (pe_op op_add pe_int (pe_callB (call_min2 rfl) (by rfl) T.n_min (by decide +kernel) (pa_cons (pe_callB call_lenA (by rfl) T.n_len (by decide +kernel) (pa_cons (pv 0) pa_nil)) (pa_cons pe_int pa_nil)))) pa_nil)) (pg_name (i := 2) sc_law.nd rfl (Or.inl rfl)) (pss_cons (ps_set (i := 3) sc_law.nd rfl (Or.inl rfl) (pe_g (ok__law_given T) (hr.mono (by decide)) (by rfl) (passes_call (takes_of rfl rfl rfl rfl) (fun _ _ _ _ h => h)) (pa_cons (pv 1) pa_nil)))
      (pss_cons (ps_set (i := 4) sc_law.nd rfl (Or.inl rfl) (pe_g (ok__law_made T) (hr.mono (by decide)) (by rfl) (passes_call (takes_of rfl rfl rfl rfl) (fun _ _ _ _ h => h)) (pa_cons (pv 1) (pa_cons (pv 3) pa_nil))))
      (pss_cons (ps_if (PW.pt (pw_or (pt_not (pt_val (pe_gg (ok__law_is_right T) hgd (hr.mono (by decide)) (by rfl) (passes_call (takes_of rfl rfl rfl rfl) (fun _ _ _ _ h => h)) (pa_cons (pv 4) (pa_cons (pv 3) pa_nil))))) (pw_or1 (pt_cmpR op_notN (pe_g (ok__law_wrong T) (hr.mono (by decide)) (by rfl) (passes_call (takes_of rfl rfl rfl rfl) (fun _ _ _ _ h => h)) (pa_cons (pv 3) pa_nil)) pe_non (nomark _))))) (pss_one (ps_ret pe_bl)) pss_nil)
      (pss_cons (ps_set (i := 5) sc_law.nd rfl (Or.inr rfl) (pe_ifExp (pt_cmpR (op_eqD hr.units) (pe_g (ok__law_take T) (hr.mono (by decide)) (by rfl) (passes_call (takes_of rfl rfl rfl rfl) (fun _ _ _ _ h => h)) (pa_cons (pv 1) (pa_cons pe_int pa_nil))) pe_int (nomark _)) (pe_g (ok__law_given T) (hr.mono (by decide)) (by rfl) (passes_call (takes_of rfl rfl rfl rfl) (fun _ _ _ _ h => h)) (pa_cons (pv 1) pa_nil)) (pe_callTy call_dictD (by rfl) T.n_dict (by decide +kernel) (pa_cons (pv 3) pa_nil))))
      (pss_cons (ps_for (passes_of rfl) rfl (pi_range1 (by rfl) T.n_range (pa_cons (pe_g (ok__law_pick T) (hr.mono (by decide)) (by rfl) (passes_call (takes_of rfl rfl rfl rfl) (fun _ _ _ _ h => h)) (pa_cons (pv 1) (pa_cons (pe_lst (pa_cons pe_int (pa_cons pe_int (pa_cons pe_int pa_nil)))) pa_nil))) pa_nil)) (pg_name (i := 6) sc_law.nd rfl (Or.inl rfl)) (pss_one (ps_set (i := 5) sc_law.nd rfl (Or.inr rfl) (pe_g (ok__law_bent T) (hr.mono (by decide)) (by rfl) (passes_call (takes_of rfl rfl rfl rfl) (fun _ _ _ _ h => h)) (pa_cons (pv 1) (pa_cons (pv 5) pa_nil))))))
      (pss_cons (ps_pars (by rfl) (pa_cons (pe_g (ok__law_wrong T) (hr.mono (by decide)) (by rfl) (passes_call (takes_of rfl rfl rfl rfl) (fun _ _ _ _ h => h)) (pa_cons (pv 5) pa_nil)) (pa_cons (pe_lst pa_nil) pa_nil)) (pgs_cons (pg_name (i := 7) sc_law.nd rfl (Or.inl rfl)) (pgs_cons (pg_name (i := 8) sc_law.nd rfl (Or.inr rfl)) pgs_nil)) (by rfl))
      (pss_cons (ps_set (i := 9) sc_law.nd rfl (Or.inl rfl) (pe_lamP (k := 7) (T := tbsOf K) (P := tabOf K "law") (by rfl) GL (keep_gives rfl T.g_PackError rfl (by decide) rfl rfl) T.l_law.tb rfl T.l_law.mm (tb_uniq T.l_law.nd T.l_law.mm) (hr.mono (by decide)) (LamX.lamS_by (sc := defScope s_law) (by decide +kernel)) rfl (fun _ _ _ _ _ => rfl) (fun A outer s H E f c hr => (pe_bm PySem.F.plainAttrs_list PySem.F.slot_list_append PySem.F.type_list_append mt_append (pv 8) (pa_cons (pe_g (ok__law_made T) (hr.mono (by decide)) (by rfl) (passes_call (takes_of rfl rfl rfl rfl) (fun _ _ _ _ h => h)) (pa_cons (pv 1) (pa_cons (pv 5) pa_nil))) pa_nil)))))
      (pss_cons (ps_if (PW.pt (pw_and (pt_cmpR op_notN (pv 7) pe_non (nomark _)) (pw_and1 (PW.pt (pw_or (pt_not (pt_val (pe_callB call_isA (by rfl) T.n_isinstance (by decide +kernel) (pa_cons (pv 9) (pa_cons (pe_cls (by rfl) T.g_BadPack) pa_nil))))) (pw_or1 (pt_cmpR (op_neD hr.units) (pe_xk (pv 9)) (pv 7) (nomark _)))))))) (pss_one (ps_ret pe_bl)) pss_nil)
      (pss_cons (ps_if (pt_cmpR op_isN (pv 7) pe_non (nomark _)) (pss_cons (ps_set (i := 10) sc_law.nd rfl (Or.inl rfl) (pe_cmpR (op_eqD hr.units) (pe_g (ok__law_parts T) (hr.mono (by decide)) (by rfl) (passes_call (takes_of rfl rfl rfl rfl) (fun _ _ _ _ h => h)) (pa_cons (pv 5) pa_nil)) (pe_g (ok__law_parts T) (hr.mono (by decide)) (by rfl) (passes_call (takes_of rfl rfl rfl rfl) (fun _ _ _ _ h => h)) (pa_cons (pv 3) pa_nil)) (nomark _)))
      (pss_one (ps_if (PW.pt (pw_or (pt_cmpR op_notN (pv 9) pe_non (nomark _)) (pw_or (pt_not (pt_val (pe_gg (ok__law_is_right T) hgd (hr.mono (by decide)) (by rfl) (passes_call (takes_of rfl rfl rfl rfl) (fun _ _ _ _ h => h)) (pa_cons (pe_ix ix_seq (pv 8) pe_int (fun _ _ => rfl)) (pa_cons (pv 5) pa_nil))))) (pw_or1 (pt_cmpR (op_neD hr.units) (pe_cmpR (op_ownEq (ok_Pack___eq__ T) (hr.mono (by decide)) (passes_call (takes_of rfl rfl rfl rfl) (fun _ _ _ _ h => h))) (pe_ix ix_seq (pv 8) pe_int (fun _ _ => rfl)) (pv 4) (nomark _)) (pv 10) (nomark _)))))) (pss_one (ps_ret pe_bl)) pss_nil))) pss_nil)
      (pss_cons (ps_if (pt_not (pt_cmpR (op_ownEq (ok_Pack___eq__ T) (hr.mono (by decide)) (passes_call (takes_of rfl rfl rfl rfl) (fun _ _ _ _ h => h))) (pe_mk (ok_Pack___init___2 T) (hr.mono (by decide)) (by rfl) T.g_Pack (passes_call (takes_of rfl rfl rfl rfl) (fun _ _ _ _ h => h)) (pa_cons (pe_dget (hu_of hr) (pv 3) pe_str (fun _ _ => rfl)) (pa_cons pe_int pa_nil))) (pe_mk (ok_Pack___init___4 T) (hr.mono (by decide)) (by rfl) T.g_Pack (passes_call (takes_of rfl rfl rfl rfl) (fun _ _ _ _ h => h)) (pa_cons (pe_dget (hu_of hr) (pv 3) pe_str (fun _ _ => rfl)) (pa_cons pe_int (pa_cons pe_non (pa_cons pe_non pa_nil))))) (nomark _))) (pss_one (ps_ret pe_bl)) pss_nil)
      (pss_one (ps_if (PW.pt (pw_or (pt_cmpR (op_ownEqD (ok_Pack___eq__ T) (hr.mono (by decide)) (passes_call (takes_of rfl rfl rfl rfl) (fun _ _ _ _ h => h)) nf_dict) (pv 4) (pv 3) (nomark _)) (pw_or1 (pt_cmpR (op_ownNe (ok_Pack___eq__ T) T.ne_Pack.1 T.ne_Pack.2 (hr.mono (by decide)) (passes_call (takes_of rfl rfl rfl rfl) (fun _ _ _ _ h => h))) (pv 4) (pe_g (ok__law_made T) (hr.mono (by decide)) (by rfl) (passes_call (takes_of rfl rfl rfl rfl) (fun _ _ _ _ h => h)) (pa_cons (pv 1) (pa_cons (pv 3) pa_nil))) (nomark _))))) (pss_one (ps_ret pe_bl)) pss_nil)))))))))))))
      (pss_one (ps_ret pe_bl)))), law_run (N := N_law) (Γn := []) (Γb := []) (Γc := []) T.ct (by decide) (fun C hl0 => have hl : true = true → C.lk = [] := fun _ => hl0
    (ss_seq (ss_for (si_range1 (sb_cons ((sm_op sr_add (sm_int).v ((sm_cb sc_min2 (sb_cons ((sm_cb sc_len (sb_cons ((sm_var rfl)).v sb_nil))).v (sb_cons (sm_int).v sb_nil)))).v)).v sb_nil)) sg_name (ss_then (ss_seq (ss_set (sm_call (fun h => Bool.noConfusion h) (sa_cons (sm_var rfl) sa_nil)))
      (ss_seq (ss_set (sm_call (fun h => Bool.noConfusion h) (sa_cons (sm_var rfl) (sa_cons (sm_var rfl) sa_nil))))
      (ss_seq (ss_if (st_or (st_not (st_B ((sm_call (fun h => Bool.noConfusion h) (sa_cons (sm_var rfl) (sa_cons (sm_var rfl) sa_nil)))).v)) (st_test ((sm_op sr_notN ((sm_call (fun h => Bool.noConfusion h) (sa_cons (sm_var rfl) sa_nil))).v (sm_non).v)).v)) (ss_ret sm_bl) ss_next)
      (ss_seq (ss_set (sm_if (st_test ((sm_op sr_eqD ((sm_call (fun h => Bool.noConfusion h) (sa_cons (sm_var rfl) (sa_cons sm_int sa_nil)))).v (sm_int).v)).v) (sm_call (fun h => Bool.noConfusion h) (sa_cons (sm_var rfl) sa_nil)) ((sn_cb sc_dict (sb_cons ((sm_var rfl)).v sb_nil))).e))
      (ss_seq (ss_for (si_range1 (sb_cons ((sm_call (fun h => Bool.noConfusion h) (sa_cons (sm_var rfl) (sa_cons ((sn_lst (sa_cons sm_int (sa_cons sm_int (sa_cons sm_int sa_nil))))).e sa_nil)))).v sb_nil)) sg_name (ss_then (ss_set (sm_call (fun h => Bool.noConfusion h) (sa_cons (sm_var rfl) (sa_cons (sm_var rfl) sa_nil)))) (.drop 6 .refl)))
      (ss_seq (ss_pars (sw_consE (sm_call (fun h => Bool.noConfusion h) (sa_cons (sm_var rfl) sa_nil)) (sw_consN (sn_lst sa_nil) sw_nil)))
      (ss_seq (ss_cauApp T.l_law.mm rfl (fun E => (sm_call (fun h => Bool.noConfusion h) (sa_cons (sm_var rfl) (sa_cons (sm_var rfl) sa_nil)))))
      (ss_seq (ss_if (st_and (st_test ((sm_op sr_notN ((sm_var rfl)).v (sm_non).v)).v) (st_or (st_not (st_B ((sm_isCl T.oi_BadPack ((sm_var rfl)).v)).v)) (st_test ((sm_op sr_neD ((sm_xf T.nx_part ((sm_var rfl)).v)).v ((sm_var rfl)).v)).v))) (ss_ret sm_bl) ss_next)
      (ss_seq (ss_if (st_test ((sm_op sr_isN ((sm_var rfl)).v (sm_non).v)).v) (ss_then (ss_seq (ss_set (sm_op sr_eqD ((sm_call (fun h => Bool.noConfusion h) (sa_cons (sm_var rfl) sa_nil))).v ((sm_call (fun h => Bool.noConfusion h) (sa_cons (sm_var rfl) sa_nil))).v))
      (ss_if (st_or (st_test ((sm_op sr_notN ((sm_var rfl)).v (sm_non).v)).v) (st_or (st_not (st_B ((sm_call (fun h => Bool.noConfusion h) (sa_cons (sm_op sr_ix (sm_own rfl) (sm_int).v) (sa_cons (sm_var rfl) sa_nil)))).v)) (st_test ((sm_op sr_neD ((sm_eqO (fun h => Bool.noConfusion h) (sm_op sr_ix (sm_own rfl) (sm_int).v) (sm_var rfl))).v ((sm_var rfl)).v)).v))) (ss_ret sm_bl) ss_next)) (.drop 10 .refl)) ss_next)
      (ss_seq (ss_if (st_not (st_test ((sm_eqO (fun h => Bool.noConfusion h) ((sn_make (dds := [.non, .non]) (fun h => Bool.noConfusion h) T.oc_Pack (fun _ => (.cons .non (.cons .non .nil))) (sa_cons (sm_dget ((sm_var rfl)).v (sm_str).v) (sa_cons sm_int sa_nil)))).e ((sn_make (dds := []) (fun h => Bool.noConfusion h) T.oc_Pack (fun _ => .nil) (sa_cons (sm_dget ((sm_var rfl)).v (sm_str).v) (sa_cons sm_int (sa_cons sm_non (sa_cons sm_non sa_nil)))))).e)).v)) (ss_ret sm_bl) ss_next)
      (ss_if (st_or (st_test ((sm_eqOD (fun h => Bool.noConfusion h) (sm_var rfl) (sm_var rfl))).v) (st_test ((sm_eqO (fun h => Bool.noConfusion h) (sm_var rfl) (sm_call (fun h => Bool.noConfusion h) (sa_cons (sm_var rfl) (sa_cons (sm_var rfl) sa_nil))))).v)) (ss_ret sm_bl) ss_next))))))))))) (.drop 2 (.drop 3 (.drop 4 (.drop 5 (.drop 7 (.drop 8 (.drop 9 .refl)))))))))
      (ss_ret sm_bl))) hL h⟩
end
end ND
/-! k02: the law -/
namespace ND
open PySem PySem.Spec PyProof.Rows L2
abbrev b_law_2_1 : Rho → Out Res := (sSet 5 (eCall F__law_bent (aCons (eVar 1) (aCons (eVar 5) aNil))))
def B_law_2 : Rho → Out Res := b_law_2_1
abbrev b_law_1_1 : Rho → Out Res := (sSet 3 (eCall F__law_given (aCons (eVar 1) aNil)))
abbrev b_law_1_2 : Rho → Out Res := (sSet 4 (eCall F__law_made (aCons (eVar 1) (aCons (eVar 3) aNil))))
abbrev b_law_1_3 : Rho → Out Res := (sIf (cOr (cNot (cB (eCall F__law_is_right (aCons (eVar 4) (aCons (eVar 3) aNil))))) (cB (eOp dNotN (eCall F__law_wrong (aCons (eVar 3) aNil)) (eC .non)))) (sRet (eC (.bl false))) sNext)
abbrev b_law_1_4 : Rho → Out Res := (sSet 5 (eIf (cB (eOp dEq (eCall F__law_take (aCons (eVar 1) (aCons (eC (.int 3)) aNil))) (eC (.int 0)))) (eCall F__law_given (aCons (eVar 1) aNil)) (eCall dDict (aCons (eVar 3) aNil))))
abbrev b_law_1_5 : Rho → Out Res := (sFor (iRg1 (aCons (eCall F__law_pick (aCons (eVar 1) (aCons (eLst (aCons (eC (.int 1)) (aCons (eC (.int 1)) (aCons (eC (.int 2)) aNil)))) aNil))) aNil)) (gN 6) B_law_2)
abbrev b_law_1_6 : Rho → Out Res := (sPars (wCons 7 (eCall F__law_wrong (aCons (eVar 5) aNil)) (wCons 8 (eLst aNil) wNil)))
abbrev b_law_1_7 : Rho → Out Res := (sCauApp 9 8 (eCall F__law_made (aCons (eVar 1) (aCons (eVar 5) aNil))))
abbrev b_law_1_8 : Rho → Out Res := (sIf (cAnd (cB (eOp dNotN (eVar 7) (eC .non))) (cOr (cNot (cB (eUn (fun d => boD (dIsClB "BadPack" d)) (eVar 9)))) (cB (eOp dNe (eUn (dXf "part") (eVar 9)) (eVar 7))))) (sRet (eC (.bl false))) sNext)
abbrev b_law_1_9 : Rho → Out Res := (sIf (cB (eOp dIsN (eVar 7) (eC .non))) (sSeq (sSet 10 (eOp dEq (eCall F__law_parts (aCons (eVar 5) aNil)) (eCall F__law_parts (aCons (eVar 3) aNil)))) (sIf (cOr (cB (eOp dNotN (eVar 9) (eC .non))) (cOr (cNot (cB (eCall F__law_is_right (aCons (eOp dIx (eVar 8) (eC (.int 0))) (aCons (eVar 5) aNil))))) (cB (eOp dNe (eOp (dOwn "Pack" F_Pack___eq__ false) (eOp dIx (eVar 8) (eC (.int 0))) (eVar 4)) (eVar 10))))) (sRet (eC (.bl false))) sNext)) sNext)
abbrev b_law_1_10 : Rho → Out Res := (sIf (cNot (cB (eOp (dOwn "Pack" F_Pack___eq__ false) (eCall (fun ds => F_Pack___init__ (ds ++ [.non, .non])) (aCons (eOp dGet (eVar 3) (eC (.str "slots"))) (aCons (eC (.int 1)) aNil))) (eCall (fun ds => F_Pack___init__ (ds ++ [])) (aCons (eOp dGet (eVar 3) (eC (.str "slots"))) (aCons (eC (.int 1)) (aCons (eC .non) (aCons (eC .non) aNil)))))))) (sRet (eC (.bl false))) sNext)
abbrev b_law_1_11 : Rho → Out Res := (sIf (cOr (cB (eOp (dOwnD "Pack" F_Pack___eq__) (eVar 4) (eVar 3))) (cB (eOp (dOwn "Pack" F_Pack___eq__ true) (eVar 4) (eCall F__law_made (aCons (eVar 1) (aCons (eVar 3) aNil)))))) (sRet (eC (.bl false))) sNext)
def B_law_1 : Rho → Out Res := sSeq b_law_1_1 (sSeq b_law_1_2 (sSeq b_law_1_3 (sSeq b_law_1_4 (sSeq b_law_1_5 (sSeq b_law_1_6 (sSeq b_law_1_7 (sSeq b_law_1_8 (sSeq b_law_1_9 (sSeq b_law_1_10 b_law_1_11)))))))))
abbrev s_law_1 : Rho → Out Res := (sFor (iRg1 (aCons (eOp dAdd (eC (.int 4)) (eCall dMin2 (aCons (eCall dLen (aCons (eVar 0) aNil)) (aCons (eC (.int 16)) aNil)))) aNil)) (gN 2) B_law_1)
abbrev s_law_2 : Rho → Out Res := (sRet (eC (.bl true)))
theorem S_law_is : S_law = sSeq s_law_1 s_law_2 := rfl
section
variable {w v : Ware} {S a c r d x y N nm a2 a3 a4 a5 a6 a7 a8 a9 a10 : D} {xs ys : List D} {ss : List Spot} {n c1 c2 : Nat} {ρ : Rho} {X : Str → List (Str × D) → Prop} {Q : Res → Prop} {z : Str} {b : Bool}
/-! ### right, or one is wrong -/
theorem wrongD_or : wrongD b a c r = .non ∨ ∃ z, wrongD b a c r = .str z := by
  unfold wrongD
  cases b <;> cases inB 0 3 a <;> cases coB c <;> cases roB r <;> first | exact .inl rfl | exact .inr ⟨_, rfl⟩
theorem wrongD_non (h : wrongD b a c r = .non) : b = true ∧ inB 0 3 a = true ∧ coB c = true ∧ roB r = true := by
  revert h
  unfold wrongD
  cases b <;> cases inB 0 3 a <;> cases coB c <;> cases roB r <;> intro h <;> first | exact ⟨rfl, rfl, rfl, rfl⟩ | cases h
theorem ware_of (hs : SlotsOk ss) (ha : inB 0 3 a = true) (hc : coB c = true) (hr : roB r = true) : ∃ w, WareP w ∧ dct4 (.lst (ss.map encSpot)) a c r = encWare w := by
  have k1 : ∃ i : Int, a = .int i ∧ 0 ≤ i ∧ i ≤ 3 := by
    cases a <;> first | exact Bool.noConfusion ha | skip
    rename_i i
    have ha : (decide ((0 : Int) ≤ i) && decide (i ≤ 3)) = true := ha
    rw [Bool.and_eq_true, decide_eq_true_eq, decide_eq_true_eq] at ha
    exact ⟨i, rfl, ha.1, ha.2⟩
  have k2 : ∃ co : Option Int, c = encOI co ∧ ∀ i, co = some i → 0 ≤ i ∧ i ≤ 99 := by
    cases c <;> first | exact Bool.noConfusion hc | skip
    · exact ⟨none, rfl, fun i h => nomatch h⟩
    rename_i i
    have hc : (decide ((0 : Int) ≤ i) && decide (i ≤ 99)) = true := hc
    rw [Bool.and_eq_true, decide_eq_true_eq, decide_eq_true_eq] at hc
    exact ⟨some i, rfl, fun j h => by cases h; exact hc⟩
  have k3 : ∃ ro : Option Spot, r = encOS ro ∧ ∀ s, ro = some s → NameOk s.1 ∧ 1 ≤ s.2 ∧ s.2 ≤ 3 := by
    cases r <;> first | exact Bool.noConfusion hr | skip
    · exact ⟨none, rfl, fun i h => nomatch h⟩
    rename_i ts
    match ts, hr with
    | [], h => exact Bool.noConfusion h
    | [_], h => exact Bool.noConfusion h
    | _ :: _ :: _ :: _, h => exact Bool.noConfusion h
    | [p, q], h =>
      have h : (nmB p && inB 1 3 q) = true := h
      rw [Bool.and_eq_true] at h
      cases p <;> first | exact Bool.noConfusion h.1 | skip
      cases q <;> first | exact Bool.noConfusion h.2 | skip
      rename_i z i _
      have h2 : (decide ((1 : Int) ≤ i) && decide (i ≤ 3)) = true := h.2
      rw [Bool.and_eq_true, decide_eq_true_eq, decide_eq_true_eq] at h2
      exact ⟨some (z, i), rfl, fun s hs => by cases hs; exact ⟨of_decide_eq_true h.1, h2.1, h2.2⟩⟩
  obtain ⟨i, rfl, i0, i1⟩ := k1
  obtain ⟨co, rfl, hco⟩ := k2
  obtain ⟨ro, rfl, hro⟩ := k3
  exact ⟨⟨ss, i, co, ro⟩, ⟨hs, i0, i1, hco, hro⟩, rfl⟩
/-- what BadPack tells -/
abbrev badX (z : Str) : Str → List (Str × D) → Prop := fun e fs => e = ("BadPack" : Str) ∧ fs = [(("part" : Str), D.str z)]
theorem init_bad (hs : (F_are_slots [S]).sp 0 (fun d => d = .bl b) (fun _ _ => False)) (ha : a ≠ .drw) (hc : c ≠ .drw) (hr : fineB r = true) (hw : wrongD b a c r = .str z) : (F_Pack___init__ [S, a, c, r]).sp 0 (fun _ => False) (badX z) := by
  refine init_gen (b := b) (Out.sp_mono hs (Nat.le_refl _) (fun _ z => z) fun _ _ z => z.elim) ha hc hr (fun w' hw' => ?_) fun h => ?_
  · rw [hw] at hw'
    cases hw'
    exact ⟨rfl, rfl⟩
  · rw [hw] at h
    cases h
theorem near_case (h : NearP n d) : (∃ w, WareP w ∧ d = encWare w) ∨ (∃ z, (F__law_wrong [d]).sp 0 (fun x => x = .str z) (fun _ _ => False) ∧ (F__law_made [.drw, d]).sp 2 (fun _ => False) (badX z)) := by
  obtain ⟨S, a, c, r, rfl, hS, ha, hc, hr⟩ := h.ex
  rcases hS with ⟨xs, rfl, hl, hf⟩ | ⟨h1, h2, h3⟩
  · have key : ∀ b, (∀ q, (F_are_slots [sqD q xs]).sp 0 (fun d => d = .bl b) (fun _ _ => False) ∧ (F__law_are_spots [sqD q xs]).sp 0 (fun d => d = .bl b) (fun _ _ => False)) → ∀ z, wrongD b a c r = .str z → (F__law_wrong [dct4 (.lst xs) a c r]).sp 0 (fun x => x = .str z) (fun _ _ => False) ∧ (F__law_made [.drw, dct4 (.lst xs) a c r]).sp 2 (fun _ => False) (badX z) := fun b hb z hz => by
      constructor
      · have := wrong_sp (S := .lst xs) (hb false).2 ha hc hr
        rw [hz] at this
        exact this
      · refine made_list (fun q => init_bad (hb q).1 ha hc hr hz) (fun _ h => h.elim) fun e fs h => ?_
        obtain ⟨rfl, rfl⟩ := h
        rfl
    rcases slots_two hf with ⟨ss, g1, g2, g3⟩ | g
    · rcases wrongD_or (b := true) (a := a) (c := c) (r := r) with hw | ⟨z, hz⟩
      · obtain ⟨_, w2, w3, w4⟩ := wrongD_non hw
        rw [g2]
        exact .inl (ware_of g1 w2 w3 w4)
      · exact .inr ⟨z, key true g3 z hz⟩
    · exact .inr ⟨"slots", key false g "slots" rfl⟩
  · refine .inr ⟨"slots", ?_, ?_⟩
    · exact wrong_sp (b := false) (sp_is h3) ha hc hr
    · exact made_other h1 (init_bad (b := false) (sp_is h2) ha hc hr rfl)
/-! ### the turn -/
abbrev rhoP (N : D) : Rho → Prop := fun ρ => ∃ a2 a3 a4 a5 a6 a7 a8 a9 a10, ρ = [N, .drw, a2, a3, a4, a5, a6, a7, a8, a9, a10]
theorem sp_pars2 {A B : Rho → Out D} {i j c1 c2 : Nat} {P Q : D → Prop} (h1 : (A ρ).sp c1 P X) (h2 : (B ρ).sp c2 Q X) : (sPars (wCons i A (wCons j B wNil)) ρ).sp (c1 + c2) (fun r => ∃ x y, P x ∧ Q y ∧ r = .nx ((ρ.set i x).set j y)) X := by
  show (Out.bind (Out.bind (A ρ) _) _).sp _ _ _
  rw [Out.bind_assoc]
  refine Out.sp_then h1 (Nat.le_add_right _ _) fun x hx => ?_
  show (Out.bind (Out.bind (B ρ) _) _).sp _ _ _
  rw [Out.bind_assoc]
  refine Out.sp_then h2 (by omega) fun y hy => ?_
  exact Out.sp_mono (Out.sp_ok (c := 0) ⟨x, y, hx, hy, rfl⟩) (Nat.zero_le _) (fun _ z => z) fun _ _ z => z
theorem forD_ix {γ : D → Rho → Option Rho} {b : Rho → Out Res} {P : Nat → Rho → Prop} {c m : Nat} {X : Str → List (Str × D) → Prop} : ∀ {ds : List D} {i : Nat}, i + ds.length ≤ m → (∀ i, i < m → ∀ x ρ, P i ρ → ∃ ρ1, γ x ρ = some ρ1 ∧ (b ρ1).sp c (fun r => ∃ ρ2, r = .nx ρ2 ∧ P (i + 1) ρ2) X) → ∀ ρ, P i ρ → (forD γ b ds ρ).sp (c * ds.length) (fun r => ∃ ρ2 j, r = .nx ρ2 ∧ j ≤ m ∧ P j ρ2) X
  | [], i, hl, _, ρ, h => Out.sp_ok ⟨ρ, i, rfl, by simpa using hl, h⟩
  | x :: xs, i, hl, h, ρ, hp => by
    rw [List.length_cons] at hl
    obtain ⟨ρ1, e, hb⟩ := h i (by omega) x ρ hp
    unfold forD
    simp only [e]
    rw [List.length_cons, Nat.mul_succ, Nat.add_comm]
    refine Out.sp_bind (Out.sp_q hb ?_)
    rintro r ⟨ρ2, rfl, hp2⟩
    exact forD_ix (by omega) h ρ2 hp2
theorem bends_ok (h : NearP 12 d) : (b_law_1_5 [N, .drw, a2, a3, a4, d, a6, a7, a8, a9, a10]).sp 89 (fun q => ∃ d' a6 n, NearP n d' ∧ q = .nx [N, .drw, a2, a3, a4, d', a6, a7, a8, a9, a10]) (fun _ _ => False) := by
  unfold b_law_1_5 sFor
  refine Out.sp_then (c1 := 1) (P := fun ds => ds.length ≤ 2) ?_ (by decide) fun ds hds => ?_
  · have e : iRg1 (aCons (eCall F__law_pick (aCons (eVar 1) (aCons (eLst (aCons (eC (.int 1)) (aCons (eC (.int 1)) (aCons (eC (.int 2)) aNil)))) aNil))) aNil) [N, .drw, a2, a3, a4, d, a6, a7, a8, a9, a10] = (F__law_pick [.drw, .lst [.int 1, .int 1, .int 2]]).bind fun x => match ([x] : List D) with
      | [.int j] => if j ≤ 100000 ∧ -100000 ≤ j then .ok (rangeD 0 j.toNat) else .stuck
      | _ => .stuck := by
      show Out.bind (Out.bind (F__law_pick [.drw, .lst [.int 1, .int 1, .int 2]]) _) _ = _
      rw [Out.bind_assoc]
      rfl
    rw [e]
    refine Out.sp_then (c1 := 1) (pick_ok (by decide) (by decide)) (Nat.le_refl _) fun x hx => ?_
    simp only [List.mem_cons, List.not_mem_nil, or_false] at hx
    rcases hx with rfl | rfl | rfl
    · exact Out.sp_ok (show (rangeD 0 1).length ≤ 2 by decide)
    · exact Out.sp_ok (show (rangeD 0 1).length ≤ 2 by decide)
    · exact Out.sp_ok (show (rangeD 0 2).length ≤ 2 by decide)
  · have hb : ∀ i, i < 2 → ∀ (x : D) ρ, (∃ d a6, NearP (12 + i) d ∧ ρ = [N, .drw, a2, a3, a4, d, a6, a7, a8, a9, a10]) → ∃ ρ1, gN 6 x ρ = some ρ1 ∧ (B_law_2 ρ1).sp 44 (fun r => ∃ ρ2, r = .nx ρ2 ∧ ∃ d a6, NearP (12 + (i + 1)) d ∧ ρ2 = [N, .drw, a2, a3, a4, d, a6, a7, a8, a9, a10]) (fun _ _ => False) := by
      intro i hi x ρ hρ
      obtain ⟨d, b6, hd, rfl⟩ := hρ
      refine ⟨_, rfl, ?_⟩
      have hk := bent_ok (n := 12 + i) (by omega) (by omega) hd
      unfold B_law_2
      refine Out.sp_q (sp_set (i := 5) (P := NearP (12 + i + 1)) (a := eCall F__law_bent (aCons (eVar 1) (aCons (eVar 5) aNil))) (ρ := [N, .drw, a2, a3, a4, d, x, a7, a8, a9, a10]) (Out.sp_eq rfl hk)) fun q hq => ?_
      obtain ⟨d', hd', rfl⟩ := hq
      exact ⟨_, rfl, d', x, hd', rfl⟩
    refine Out.sp_mono (forD_ix (i := 0) (m := 2) (P := fun i ρ => ∃ d a6, NearP (12 + i) d ∧ ρ = [N, .drw, a2, a3, a4, d, a6, a7, a8, a9, a10]) (c := 44) (by omega) hb _ ⟨d, a6, h, rfl⟩) (by omega) (fun q hq => ?_) fun _ _ z => z
    obtain ⟨ρ2, j, rfl, _, d', b6, hd', rfl⟩ := hq
    exact ⟨d', b6, _, hd', rfl⟩
/-- the end of a turn: what is passed is taken once more -/
theorem pack_one (h : WareP w) : (b_law_1_10 [N, .drw, a2, encWare w, packD w, a5, a6, a7, a8, a9, a10]).sp 0 (fun q => ∃ ρ', q = .nx ρ' ∧ ρ' = [N, .drw, a2, encWare w, packD w, a5, a6, a7, a8, a9, a10]) (fun _ _ => False) := by
  have h1 : WareP ⟨w.slots, 1, none, none⟩ := ⟨h.sl, by show (0 : Int) ≤ 1; decide, by show (1 : Int) ≤ 3; decide, fun c z => (nomatch z), fun c z => (nomatch z)⟩
  have k := pack_sq h1 false
  have k : (F_Pack___init__ [.lst (w.slots.map encSpot), .int 1, .non, .non]).sp 0 (fun d => d = packD ⟨w.slots, 1, none, none⟩) (fun _ _ => False) := k
  have g : dGet (encWare w) (.str "slots") = .ok (.lst (w.slots.map encSpot)) := dg_slots
  have o := own_is (n := false) (same_refl (w := ⟨w.slots, 1, none, none⟩))
  revert k o
  generalize packD ⟨w.slots, 1, none, none⟩ = P1
  intro k o
  unfold b_law_1_10
  refine sp_ifno (sp_not (sp_cB (v := true) ?_))
  have e : eOp (dOwn "Pack" F_Pack___eq__ false) (eCall (fun ds => F_Pack___init__ (ds ++ [.non, .non])) (aCons (eOp dGet (eVar 3) (eC (.str "slots"))) (aCons (eC (.int 1)) aNil))) (eCall (fun ds => F_Pack___init__ (ds ++ [])) (aCons (eOp dGet (eVar 3) (eC (.str "slots"))) (aCons (eC (.int 1)) (aCons (eC .non) (aCons (eC .non) aNil))))) [N, .drw, a2, encWare w, packD w, a5, a6, a7, a8, a9, a10] = (F_Pack___init__ [.lst (w.slots.map encSpot), .int 1, .non, .non]).bind fun x => (F_Pack___init__ [.lst (w.slots.map encSpot), .int 1, .non, .non]).bind fun y => dOwn "Pack" F_Pack___eq__ false x y := by
    have g3 : eOp dGet (eVar 3) (eC (.str "slots")) [N, .drw, a2, encWare w, packD w, a5, a6, a7, a8, a9, a10] = .ok (.lst (w.slots.map encSpot)) := (eOp_ok rfl rfl).trans g
    revert g3
    generalize [N, .drw, a2, encWare w, packD w, a5, a6, a7, a8, a9, a10] = ρ
    intro g3
    have u1 : eCall (fun ds => F_Pack___init__ (ds ++ [.non, .non])) (aCons (eOp dGet (eVar 3) (eC (.str "slots"))) (aCons (eC (.int 1)) aNil)) ρ = F_Pack___init__ [.lst (w.slots.map encSpot), .int 1, .non, .non] := by
      unfold eCall aCons
      rw [g3]
      rfl
    have u2 : eCall (fun ds => F_Pack___init__ (ds ++ [])) (aCons (eOp dGet (eVar 3) (eC (.str "slots"))) (aCons (eC (.int 1)) (aCons (eC .non) (aCons (eC .non) aNil)))) ρ = F_Pack___init__ [.lst (w.slots.map encSpot), .int 1, .non, .non] := by
      unfold eCall aCons
      rw [g3]
      rfl
    unfold eOp at u1 u2 ⊢
    rw [u1, u2]
  rw [e]
  refine Out.sp_then k (Nat.le_refl 0) fun x hx => ?_
  subst hx
  refine Out.sp_then k (Nat.le_refl 0) fun y hy => ?_
  subst hy
  exact sp_is o
theorem pack_again (h : WareP w) : (b_law_1_11 [N, .drw, a2, encWare w, packD w, a5, a6, a7, a8, a9, a10]).sp 2 (fun q => ∃ ρ', q = .nx ρ' ∧ ρ' = [N, .drw, a2, encWare w, packD w, a5, a6, a7, a8, a9, a10]) (fun _ _ => False) := by
  have k := made_ware h
  have o1 := ownD_is (w := w) (v := w)
  have o2 := own_is (n := true) (same_refl (w := w))
  revert k o1 o2
  generalize packD w = PW
  generalize encWare w = EW
  intro k o1 o2
  unfold b_law_1_11
  refine Out.sp_mono (c := 0 + 2) (sp_ifno (sp_or (c1 := 0) (c2 := 2) (sp_cB (v := false) (sp_is ?_)) (sp_cB (v := false) ?_))) (Nat.le_refl _) (fun _ z => z) fun _ _ z => z
  · exact (eOp_ok rfl rfl).trans o1
  · have e : eOp (dOwn "Pack" F_Pack___eq__ true) (eVar 4) (eCall F__law_made (aCons (eVar 1) (aCons (eVar 3) aNil))) [N, .drw, a2, EW, PW, a5, a6, a7, a8, a9, a10] = (F__law_made [.drw, EW]).bind fun y => dOwn "Pack" F_Pack___eq__ true PW y := rfl
    rw [e]
    refine Out.sp_then k (Nat.le_refl _) fun y hy => ?_
    subst hy
    exact Out.sp_mono (sp_is (c := 0) o2) (Nat.zero_le _) (fun _ z => z) fun _ _ z => z
/-- the parts are wrong -/
theorem near_bad (hw : (F__law_wrong [d]).sp 0 (fun x => x = .str z) (fun _ _ => False)) (hm : (F__law_made [.drw, d]).sp 2 (fun _ => False) (badX z)) {rest : Rho → Out Res} (hr : ∀ a7 a8 a9, (rest [N, .drw, a2, a3, a4, d, a6, a7, a8, a9, a10]).sp 2 Q (fun _ _ => False)) : ((sSeq b_law_1_6 (sSeq b_law_1_7 (sSeq b_law_1_8 (sSeq b_law_1_9 rest)))) [N, .drw, a2, a3, a4, d, a6, a7, a8, a9, a10]).sp 4 Q (fun _ _ => False) := by
  refine sp_seqc (c1 := 0) (P := fun ρ => ρ = [N, .drw, a2, a3, a4, d, a6, .str z, .lst [], a9, a10]) ?_ (by decide) fun ρ hρ => ?_
  · refine Out.sp_q (sp_pars2 (i := 7) (j := 8) (c1 := 0) (c2 := 0) (P := fun x => x = .str z) (Q := fun y => y = .lst []) (A := eCall F__law_wrong (aCons (eVar 5) aNil)) (B := eLst aNil) (Out.sp_eq (call1_of rfl) hw) (sp_is rfl)) fun q hq => ?_
    obtain ⟨x, y, rfl, rfl, rfl⟩ := hq
    exact ⟨_, rfl, rfl⟩
  subst hρ
  refine sp_seqc (c1 := 2) (P := fun ρ => ρ = [N, .drw, a2, a3, a4, d, a6, .str z, .lst [], .exc "BadPack" [("part", .str z)], a10]) ?_ (by decide) fun ρ hρ => ?_
  · refine sp_cauApp (P := fun _ => False) (X := badX z) (a := eCall F__law_made (aCons (eVar 1) (aCons (eVar 5) aNil))) rfl ?_ (fun _ h => h.elim) fun e fs h => ?_
    · exact Out.sp_eq rfl hm
    · obtain ⟨rfl, rfl⟩ := h
      exact ⟨_, rfl, rfl⟩
  subst hρ
  have q8 : b_law_1_8 [N, .drw, a2, a3, a4, d, a6, .str z, .lst [], .exc "BadPack" [("part", .str z)], a10] = .ok (.nx [N, .drw, a2, a3, a4, d, a6, .str z, .lst [], .exc "BadPack" [("part", .str z)], a10]) := by
    unfold b_law_1_8
    have k1 : eUn (dXf "part") (eVar 9) [N, .drw, a2, a3, a4, d, a6, .str z, .lst [], .exc "BadPack" [("part", .str z)], a10] = .ok (.str z) := by kernel_rfl
    have k2 : cB (eOp dNe (eUn (dXf "part") (eVar 9)) (eVar 7)) [N, .drw, a2, a3, a4, d, a6, .str z, .lst [], .exc "BadPack" [("part", .str z)], a10] = .ok false := by
      unfold cB
      have e := ne_of_eqD (eq_pl (x := .str z) (y := .str z) rfl rfl)
      rw [eq_self (k := 8) (d := .str z) rfl] at e
      have : eOp dNe (eUn (dXf "part") (eVar 9)) (eVar 7) [N, .drw, a2, a3, a4, d, a6, .str z, .lst [], .exc "BadPack" [("part", .str z)], a10] = .ok (.bl false) := (eOp_ok k1 rfl).trans e
      rw [this]
      rfl
    have k3 : cNot (cB (eUn (fun d => boD (dIsClB "BadPack" d)) (eVar 9))) [N, .drw, a2, a3, a4, d, a6, .str z, .lst [], .exc "BadPack" [("part", .str z)], a10] = .ok false := by kernel_rfl
    refine (if_nob ?_).trans rfl
    unfold cAnd cOr
    rw [k3, k2]
    rfl
  rw [seq_nx q8]
  have q9 : b_law_1_9 [N, .drw, a2, a3, a4, d, a6, .str z, .lst [], .exc "BadPack" [("part", .str z)], a10] = .ok (.nx [N, .drw, a2, a3, a4, d, a6, .str z, .lst [], .exc "BadPack" [("part", .str z)], a10]) := by
    unfold b_law_1_9
    exact (if_nob rfl).trans rfl
  rw [seq_nx q9]
  exact hr _ _ _
/-- the parts are right -/
theorem near_good (hv : WareP v) {rest : Rho → Out Res} (hr : ∀ a7 a8 a9 a10, (rest [N, .drw, a2, encWare w, packD w, encWare v, a6, a7, a8, a9, a10]).sp 2 Q (fun _ _ => False)) : ((sSeq b_law_1_6 (sSeq b_law_1_7 (sSeq b_law_1_8 (sSeq b_law_1_9 rest)))) [N, .drw, a2, encWare w, packD w, encWare v, a6, a7, a8, a9, a10]).sp 4 Q (fun _ _ => False) := by
  have hw := wrong_ware hv
  have hm := made_ware hv
  have p1 := ware_parts (w := v)
  have p2 := ware_parts (w := w)
  have p3 := same_eq (w := v) (v := w)
  have p4 := right_ware hv
  have p5 := own_is (n := false) (w := v) (v := w) rfl
  revert hw hm p1 p2 p3 p4 p5 hr
  generalize packD w = PW
  generalize packD v = PV
  generalize encWare w = EW
  generalize encWare v = EV
  generalize partsL w = LW
  generalize partsL v = LV
  generalize sameW v w = SA
  intro hr hw hm p1 p2 p3 p4 p5
  refine sp_seqc (c1 := 0) (P := fun ρ => ρ = [N, .drw, a2, EW, PW, EV, a6, .non, .lst [], a9, a10]) ?_ (by decide) fun ρ hρ => ?_
  · refine Out.sp_q (sp_pars2 (i := 7) (j := 8) (c1 := 0) (c2 := 0) (P := fun x => x = .non) (Q := fun y => y = .lst []) (A := eCall F__law_wrong (aCons (eVar 5) aNil)) (B := eLst aNil) (Out.sp_eq (call1_of rfl) hw) (sp_is rfl)) fun q hq => ?_
    obtain ⟨x, y, rfl, rfl, rfl⟩ := hq
    exact ⟨_, rfl, rfl⟩
  subst hρ
  refine sp_seqc (c1 := 2) (P := fun ρ => ρ = [N, .drw, a2, EW, PW, EV, a6, .non, .lst [PV], .non, a10]) ?_ (by decide) fun ρ hρ => ?_
  · refine sp_cauApp (P := fun d => d = PV) (X := fun _ _ => False) (a := eCall F__law_made (aCons (eVar 1) (aCons (eVar 5) aNil))) rfl ?_ (fun d h => ?_) fun e fs h => h.elim
    · exact Out.sp_eq rfl hm
    · subst h
      exact ⟨_, rfl, rfl⟩
  subst hρ
  have q8 : b_law_1_8 [N, .drw, a2, EW, PW, EV, a6, .non, .lst [PV], .non, a10] = .ok (.nx [N, .drw, a2, EW, PW, EV, a6, .non, .lst [PV], .non, a10]) := by
    unfold b_law_1_8
    exact (if_nob rfl).trans rfl
  rw [seq_nx q8]
  have q9 : b_law_1_9 [N, .drw, a2, EW, PW, EV, a6, .non, .lst [PV], .non, a10] = .ok (.nx [N, .drw, a2, EW, PW, EV, a6, .non, .lst [PV], .non, .bl SA]) := by
    unfold b_law_1_9
    refine (if_yesb rfl).trans ?_
    have u1 : eCall F__law_parts (aCons (eVar 5) aNil) [N, .drw, a2, EW, PW, EV, a6, .non, .lst [PV], .non, a10] = .ok (.lst LV) := (call1_of rfl).trans p1
    have u2 : eCall F__law_parts (aCons (eVar 3) aNil) [N, .drw, a2, EW, PW, EV, a6, .non, .lst [PV], .non, a10] = .ok (.lst LW) := (call1_of rfl).trans p2
    rw [seq_nx (set_nx ((eOp_ok u1 u2).trans p3))]
    show sIf _ _ _ [N, .drw, a2, EW, PW, EV, a6, .non, .lst [PV], .non, .bl SA] = _
    have u3 : eCall F__law_is_right (aCons (eOp dIx (eVar 8) (eC (.int 0))) (aCons (eVar 5) aNil)) [N, .drw, a2, EW, PW, EV, a6, .non, .lst [PV], .non, .bl SA] = .ok (.bl true) := by
      have : eCall F__law_is_right (aCons (eOp dIx (eVar 8) (eC (.int 0))) (aCons (eVar 5) aNil)) [N, .drw, a2, EW, PW, EV, a6, .non, .lst [PV], .non, .bl SA] = F__law_is_right [PV, EV] := rfl
      rw [this, p4]
    have u4 : eOp (dOwn "Pack" F_Pack___eq__ false) (eOp dIx (eVar 8) (eC (.int 0))) (eVar 4) [N, .drw, a2, EW, PW, EV, a6, .non, .lst [PV], .non, .bl SA] = .ok (.bl SA) := by
      refine ((eOp_ok (x := PV) (y := PW) rfl rfl).trans p5).trans ?_
      rw [Bool.false_xor]
    have u5 : eOp dNe (eOp (dOwn "Pack" F_Pack___eq__ false) (eOp dIx (eVar 8) (eC (.int 0))) (eVar 4)) (eVar 10) [N, .drw, a2, EW, PW, EV, a6, .non, .lst [PV], .non, .bl SA] = .ok (.bl false) := by
      refine (eOp_ok u4 rfl).trans ?_
      cases SA <;> rfl
    refine (if_nob ?_).trans rfl
    unfold cOr cNot cB
    rw [u3, u5]
    rfl
  rw [seq_nx q9]
  exact hr _ _ _ _
theorem turn_body : (B_law_1 [N, .drw, a2, a3, a4, a5, a6, a7, a8, a9, a10]).sp 300 (fun q => ∃ ρ', q = .nx ρ' ∧ rhoP N ρ') (fun _ _ => False) := by
  unfold B_law_1
  refine sp_seqc (c1 := 60) (P := fun ρ => ∃ w, WareP w ∧ ρ = [N, .drw, a2, encWare w, a4, a5, a6, a7, a8, a9, a10]) ?_ (by decide) fun ρ hρ => ?_
  · refine Out.sp_q (sp_set (P := fun d => ∃ w, WareP w ∧ d = encWare w) (Out.sp_eq (call1_of rfl) given_ok)) fun q hq => ?_
    obtain ⟨d, ⟨w, hw, rfl⟩, rfl⟩ := hq
    exact ⟨_, rfl, w, hw, rfl⟩
  obtain ⟨w, hw, rfl⟩ := hρ
  refine sp_seqc (c1 := 2) (P := fun ρ => ρ = [N, .drw, a2, encWare w, packD w, a5, a6, a7, a8, a9, a10]) ?_ (by decide) fun ρ hρ => ?_
  · have k := made_ware hw
    revert k
    generalize packD w = PW
    generalize encWare w = EW
    intro k
    refine Out.sp_q (sp_set (P := fun d => d = PW) (a := eCall F__law_made (aCons (eVar 1) (aCons (eVar 3) aNil))) (Out.sp_eq rfl k)) fun q hq => ?_
    obtain ⟨d, rfl, rfl⟩ := hq
    exact ⟨_, rfl, rfl⟩
  subst hρ
  refine sp_seqc (c1 := 0) (P := fun ρ => ρ = [N, .drw, a2, encWare w, packD w, a5, a6, a7, a8, a9, a10]) ?_ (by decide) fun ρ hρ => ?_
  · have k1 := right_ware hw
    have k2 := wrong_ware hw
    revert k1 k2
    generalize packD w = PW
    generalize encWare w = EW
    intro k1 k2
    refine sp_ifno (sp_or (c1 := 0) (c2 := 0) (sp_not (sp_cB (v := true) (sp_is ?_))) (sp_cB (v := false) ?_))
    · have : eCall F__law_is_right (aCons (eVar 4) (aCons (eVar 3) aNil)) [N, .drw, a2, EW, PW, a5, a6, a7, a8, a9, a10] = F__law_is_right [PW, EW] := rfl
      rw [this, k1]
    · have e : eOp dNotN (eCall F__law_wrong (aCons (eVar 3) aNil)) (eC .non) [N, .drw, a2, EW, PW, a5, a6, a7, a8, a9, a10] = (F__law_wrong [EW]).bind fun x => dNotN x .non := rfl
      rw [e]
      refine Out.sp_then k2 (Nat.le_refl 0) fun x hx => ?_
      subst hx
      exact sp_is rfl
  subst hρ
  refine sp_seqc (c1 := 61) (P := fun ρ => ∃ d, NearP 12 d ∧ ρ = [N, .drw, a2, encWare w, packD w, d, a6, a7, a8, a9, a10]) ?_ (by decide) fun ρ hρ => ?_
  · have k1 := near_ware hw
    revert k1
    generalize packD w = PW
    have hD : ∃ kvs, encWare w = .dct kvs := ⟨_, rfl⟩
    obtain ⟨kvs, hD⟩ := hD
    rw [hD]
    intro k1
    refine Out.sp_q (sp_set (P := fun d => NearP 12 d) ?_) fun q hq => ?_
    · unfold eIf
      refine Out.sp_then (c1 := 1) (P := fun _ => True) ?_ (by decide) fun u _ => ?_
      · have e : cB (eOp dEq (eCall F__law_take (aCons (eVar 1) (aCons (eC (.int 3)) aNil))) (eC (.int 0))) [N, .drw, a2, .dct kvs, PW, a5, a6, a7, a8, a9, a10] = cB (eOp dEq (eCall F__law_take (aCons (eVar 0) (aCons (eC (.int 3)) aNil))) (eC (.int 0))) [.drw] := rfl
        rw [e]
        exact coin (by decide) (by decide) rfl
      · cases u with
        | true =>
          refine Out.sp_mono (Out.sp_eq (call1_of rfl) given_ok) (Nat.le_refl _) (fun d hd => ?_) fun _ _ z => z
          obtain ⟨v, hv, rfl⟩ := hd
          exact near_ware hv
        | false => exact Out.sp_mono (Out.sp_ok (c := 0) k1) (Nat.zero_le _) (fun _ z => z) fun _ _ z => z
    · obtain ⟨d, hd, rfl⟩ := hq
      exact ⟨_, rfl, d, hd, rfl⟩
  obtain ⟨d, hd, rfl⟩ := hρ
  refine sp_seqc (c1 := 89) (P := fun ρ => ∃ d a6 n, NearP n d ∧ ρ = [N, .drw, a2, encWare w, packD w, d, a6, a7, a8, a9, a10]) ?_ (by decide) fun ρ hρ => ?_
  · refine Out.sp_q (bends_ok hd) fun q hq => ?_
    obtain ⟨d', b6, n, h, rfl⟩ := hq
    exact ⟨_, rfl, d', b6, n, h, rfl⟩
  obtain ⟨d, b6, n, hd, rfl⟩ := hρ
  have fin : ∀ d a6 a7 a8 a9 a10, ((sSeq b_law_1_10 b_law_1_11) [N, .drw, a2, encWare w, packD w, d, a6, a7, a8, a9, a10]).sp 2 (fun q => ∃ ρ', q = .nx ρ' ∧ rhoP N ρ') (fun _ _ => False) := fun d a6 a7 a8 a9 a10 => by
    refine sp_seqc (c1 := 0) (pack_one hw) (by decide) fun ρ hρ => ?_
    subst hρ
    refine Out.sp_q (pack_again hw) fun q hq => ?_
    obtain ⟨_, rfl, rfl⟩ := hq
    exact ⟨_, rfl, _, _, _, _, _, _, _, _, _, rfl⟩
  rcases near_case hd with ⟨v, hv, rfl⟩ | ⟨z, h1, h2⟩
  · exact Out.sp_mono (near_good hv fun a7 a8 a9 a10 => fin _ _ a7 a8 a9 a10) (by decide) (fun _ z => z) fun _ _ z => z
  · exact Out.sp_mono (near_bad h1 h2 fun a7 a8 a9 => fin _ _ a7 a8 a9 _) (by decide) (fun _ z => z) fun _ _ z => z
theorem law_plain : LawD 11 S_law := by
  refine law_of_sp (c := 300 * 20) (by decide) fun ns hl => ?_
  rw [S_law_is]
  have hr : ∃ k : Nat, k ≤ 20 ∧ iRg1 (aCons (eOp dAdd (eC (.int 4)) (eCall dMin2 (aCons (eCall dLen (aCons (eVar 0) aNil)) (aCons (eC (.int 16)) aNil)))) aNil) (rho0 11 ns) = .ok (rangeD 0 k) := by
    by_cases hc : (16 : Int) < (ns.map D.int).length
    · have e : dMin2 [.int (ns.map D.int).length, .int 16] = .ok (.int 16) := by
        show Out.ok (D.int (if (16 : Int) < (ns.map D.int).length then 16 else (ns.map D.int).length)) = _
        rw [if_pos hc]
      refine ⟨20, by decide, ?_⟩
      unfold iRg1 rho0
      simp only [fnD, fnN, sSeq, sIf, sRet, sRetN, sDrop, sSet, sNext, sRaise, eVar, eC, eOp, eUn, eCall, eAnd, eOr, eNot, eIf, eChain, eTup, eLst, eLc, iOf, cB, cNot, cAnd, cOr, aNil, aCons, gN, Out.ok_bind, Out.exc_bind, Out.nox_ok, boD_some, List.cons_append, List.nil_append, List.append_nil, List.length_cons, List.length_nil, List.replicate, List.getD_cons_zero, List.getD_cons_succ, List.set_cons_zero, List.set_cons_succ, Nat.reduceAdd, Nat.reduceSub, Nat.reduceLeDiff, List.replicate_succ, List.replicate_zero, cond_true, cond_false, Bool.not_true, Bool.not_false, dLen, e, dAdd, d2I]
      rfl
    · have e : dMin2 [.int (ns.map D.int).length, .int 16] = .ok (.int (ns.map D.int).length) := by
        show Out.ok (D.int (if (16 : Int) < (ns.map D.int).length then 16 else (ns.map D.int).length)) = _
        rw [if_neg hc]
      refine ⟨4 + (ns.map D.int).length, by omega, ?_⟩
      unfold iRg1 rho0
      simp only [fnD, fnN, sSeq, sIf, sRet, sRetN, sDrop, sSet, sNext, sRaise, eVar, eC, eOp, eUn, eCall, eAnd, eOr, eNot, eIf, eChain, eTup, eLst, eLc, iOf, cB, cNot, cAnd, cOr, aNil, aCons, gN, Out.ok_bind, Out.exc_bind, Out.nox_ok, boD_some, List.cons_append, List.nil_append, List.append_nil, List.length_cons, List.length_nil, List.replicate, List.getD_cons_zero, List.getD_cons_succ, List.set_cons_zero, List.set_cons_succ, Nat.reduceAdd, Nat.reduceSub, Nat.reduceLeDiff, List.replicate_succ, List.replicate_zero, cond_true, cond_false, Bool.not_true, Bool.not_false, dLen, e, dAdd, d2I]
      rw [if_pos (by omega)]
      congr 2
  obtain ⟨k, hk, hr⟩ := hr
  refine sp_seqc (c1 := 300 * k) (P := rhoP (.lst (ns.map D.int))) ?_ (by omega) fun ρ' hp => ?_
  rotate_left
  · obtain ⟨a2, a3, a4, a5, a6, a7, a8, a9, a10, rfl⟩ := hp
    exact Out.sp_ok rfl
  unfold s_law_1 sFor
  rw [hr, Out.ok_bind]
  refine Out.sp_mono (forD_sp (b := B_law_1) (P := rhoP (.lst (ns.map D.int))) (c := 300) (fun x hx ρ hp => ?_) _ ⟨_, _, _, _, _, _, _, _, _, rfl⟩) (by unfold rangeD; rw [List.length_map, List.length_range]; exact Nat.le_refl _) (fun _ z => z) (fun _ _ z => z)
  obtain ⟨a2, a3, a4, a5, a6, a7, a8, a9, a10, rfl⟩ := hp
  exact ⟨_, rfl, turn_body⟩
end
end ND
namespace ND
open PySem PySem.Spec PyProof.Rows L2
section
variable {w : World} {K0 K : PySem.W.Frag} {h base : Heap} {mg : Str → Option Value}
theorem gloF (X : K.In h) (G : h.Ns mainGlobals mg) (c : Told ask K0 K) (i : Nat) {x : Str} (e : fa[i]? = some (.glo x)) : mg x = some (.ref (He.ga K x)) := He.glo_ok X G (c.fact i e)
theorem gloN (c : Told ask K0 K) (i : Nat) {x : Str} (e : fa[i]? = some (.glo x)) : PySem.W.nsIn K mainGlobals x = some (some (.ref (He.ga K x))) := He.eqO_ok (c.fact i e)
theorem neF_Pack (c : Told ask K0 K) : PySem.W.findIn K (.ref (He.ga K "Pack")) "__ne__" = some (some (.builtin "object.__ne__")) ∧ PySem.W.subIn K (.ref (He.ga K "Pack")) (.type "object") = some true := neB_ok (He.ba c.p.2.2).1
theorem allF (c : Told ask K0 K) : allB PySem.Challenge.pw_narrowdraws_k02_packs_as_made supN propN ocN oxN nxN K0 K = true := (He.ba c.p.2.2).2
theorem supsF (c : Told ask K0 K) : (supN.all fun p => supChk PySem.Challenge.pw_narrowdraws_k02_packs_as_made K p.1 p.2) = true := (He.ba (allF c)).1
theorem propsF (c : Told ask K0 K) : (propN.all fun p => propB K p.1 p.2) = true := (He.ba (He.ba (allF c)).2).1
theorem ocF (c : Told ask K0 K) : (ocN.all fun c => (ownCls K).contains c) = true := (He.ba (He.ba (He.ba (allF c)).2).2).1
theorem oxF (c : Told ask K0 K) : (oxN.all fun c => (ownX K).contains c) = true := (He.ba (He.ba (He.ba (He.ba (allF c)).2).2).2).1
theorem nxF (c : Told ask K0 K) : (nxN.all fun f => nxB K f) = true := (He.ba (He.ba (He.ba (He.ba (He.ba (allF c)).2).2).2).2).1
theorem ctF (c : Told ask K0 K) : ctB K = true := (He.ba (He.ba (He.ba (He.ba (He.ba (He.ba (allF c)).2).2).2).2).2).1
theorem nlF (c : Told ask K0 K) : noLists K = true := (He.ba (He.ba (He.ba (He.ba (He.ba (He.ba (He.ba (allF c)).2).2).2).2).2).2).1
theorem tbF (c : Told ask K0 K) : tabsB K0 K = true := (He.ba (He.ba (He.ba (He.ba (He.ba (He.ba (He.ba (He.ba (allF c)).2).2).2).2).2).2).2).1
theorem ndF (c : Told ask K0 K) : decide ((tbsOf K).map (·.1)).Nodup = true := (He.ba (He.ba (He.ba (He.ba (He.ba (He.ba (He.ba (He.ba (allF c)).2).2).2).2).2).2).2).2
theorem ocM (c : Told ask K0 K) {x : Str} (h : x ∈ ocN) : x ∈ ownCls K := List.contains_iff_mem.mp (List.all_eq_true.mp (ocF c) x h)
theorem oxM (c : Told ask K0 K) {x : Str} (h : x ∈ oxN) : x ∈ ownX K := List.contains_iff_mem.mp (List.all_eq_true.mp (oxF c) x h)
theorem fok_part : FldOk "part" := ⟨by decide, by decide, by decide, by decide, by decide, by decide⟩
theorem tx_of (X : K.In h) (G : h.Ns mainGlobals mg) (c : Told ask K0 K) (tb : ∀ p ∈ csOf K, LamX.TabB base mg p.1 p.2) : Tx PySem.Challenge.pw_narrowdraws_k02_packs_as_made w K mg base where
  d_is_number := c.gfun 0 rfl (gloF X G c 0 rfl)
  d_is_within := c.gfun 1 rfl (gloF X G c 1 rfl)
  d_is_list := c.gfun 2 rfl (gloF X G c 2 rfl)
  d_is_name := c.gfun 3 rfl (gloF X G c 3 rfl)
  d_is_slot := c.gfun 4 rfl (gloF X G c 4 rfl)
  d_are_slots := c.gfun 5 rfl (gloF X G c 5 rfl)
  d_is_roll := c.gfun 6 rfl (gloF X G c 6 rfl)
  d__law_begun := c.gfun 7 rfl (gloF X G c 7 rfl)
  d__law_mixed := c.gfun 8 rfl (gloF X G c 8 rfl)
  d__law_take := c.gfun 9 rfl (gloF X G c 9 rfl)
  d__law_pick := c.gfun 10 rfl (gloF X G c 10 rfl)
  d__law_any_of := c.gfun 11 rfl (gloF X G c 11 rfl)
  d__law_shuffled := c.gfun 12 rfl (gloF X G c 12 rfl)
  d__law_names := c.gfun 13 rfl (gloF X G c 13 rfl)
  d__law_all_spots := c.gfun 14 rfl (gloF X G c 14 rfl)
  d__law_caught := c.gfun 15 rfl (gloF X G c 15 rfl)
  d__law_is_number := c.gfun 16 rfl (gloF X G c 16 rfl)
  d__law_is_short := c.gfun 17 rfl (gloF X G c 17 rfl)
  d__law_is_in := c.gfun 18 rfl (gloF X G c 18 rfl)
  d__law_are_spots := c.gfun 19 rfl (gloF X G c 19 rfl)
  d__law_is_flow := c.gfun 20 rfl (gloF X G c 20 rfl)
  d__law_wrong := c.gfun 21 rfl (gloF X G c 21 rfl)
  d__law_given := c.gfun 22 rfl (gloF X G c 22 rfl)
  d__law_bent := c.gfun 23 rfl (gloF X G c 23 rfl)
  d__law_made := c.gfun 24 rfl (gloF X G c 24 rfl)
  d__law_is_right := c.gfun 25 rfl (gloF X G c 25 rfl)
  d__law_parts := c.gfun 26 rfl (gloF X G c 26 rfl)
  d_law := c.gfun 27 rfl (gloF X G c 27 rfl)
  n_abs := He.free_ok X G (c.fact 31 (f := .free "abs") rfl)
  n_all := He.free_ok X G (c.fact 32 (f := .free "all") rfl)
  n_bool := He.free_ok X G (c.fact 33 (f := .free "bool") rfl)
  n_dict := He.free_ok X G (c.fact 34 (f := .free "dict") rfl)
  n_int := He.free_ok X G (c.fact 35 (f := .free "int") rfl)
  n_isinstance := He.free_ok X G (c.fact 36 (f := .free "isinstance") rfl)
  n_len := He.free_ok X G (c.fact 37 (f := .free "len") rfl)
  n_list := He.free_ok X G (c.fact 38 (f := .free "list") rfl)
  n_max := He.free_ok X G (c.fact 39 (f := .free "max") rfl)
  n_min := He.free_ok X G (c.fact 40 (f := .free "min") rfl)
  n_range := He.free_ok X G (c.fact 41 (f := .free "range") rfl)
  n_repr := He.free_ok X G (c.fact 42 (f := .free "repr") rfl)
  n_set := He.free_ok X G (c.fact 43 (f := .free "set") rfl)
  n_sorted := He.free_ok X G (c.fact 44 (f := .free "sorted") rfl)
  n_str := He.free_ok X G (c.fact 45 (f := .free "str") rfl)
  n_tuple := He.free_ok X G (c.fact 46 (f := .free "tuple") rfl)
  c_LETTERS := He.str_ok X G (c.fact 52 (f := .str "LETTERS" "abcdefghijklmnopqrstuvwxyz") rfl)
  c_LONGEST_NAME := He.int_ok X G (c.fact 47 (f := .int "LONGEST_NAME" 6) rfl)
  c_MOST_DAYS := He.int_ok X G (c.fact 48 (f := .int "MOST_DAYS" 4) rfl)
  c_MOST_SLOTS := He.int_ok X G (c.fact 49 (f := .int "MOST_SLOTS" 12) rfl)
  c_MOST_AMOUNT := He.int_ok X G (c.fact 50 (f := .int "MOST_AMOUNT" 3) rfl)
  c_MOST_COST := He.int_ok X G (c.fact 51 (f := .int "MOST_COST" 99) rfl)
  g_PackError := gloF X G c 28 rfl
  g_BadPack := gloF X G c 29 rfl
  g_Pack := gloF X G c 30 rfl
  i_Pack := c.ifun 28 rfl (He.mkr_ok (c.fact 54 (f := .mkr "Pack") rfl))
  cl_Pack := He.cls_ok (c.fact 53 (f := .cls "Pack") rfl)
  oc_Pack := ocM c (by decide)
  na_Pack_own_slots := He.noat_ok (c.fact 55 (f := .noat "Pack" "own_slots") rfl)
  na_Pack_own_amount := He.noat_ok (c.fact 56 (f := .noat "Pack" "own_amount") rfl)
  na_Pack_own_cost := He.noat_ok (c.fact 57 (f := .noat "Pack" "own_cost") rfl)
  na_Pack_own_roll := He.noat_ok (c.fact 58 (f := .noat "Pack" "own_roll") rfl)
  m_Pack_slots := c.pfun 29 rfl (propB_ok (List.all_eq_true.mp (propsF c) ("Pack", "slots") (by decide)))
  m_Pack_amount := c.pfun 30 rfl (propB_ok (List.all_eq_true.mp (propsF c) ("Pack", "amount") (by decide)))
  m_Pack_cost := c.pfun 31 rfl (propB_ok (List.all_eq_true.mp (propsF c) ("Pack", "cost") (by decide)))
  m_Pack_roll := c.pfun 32 rfl (propB_ok (List.all_eq_true.mp (propsF c) ("Pack", "roll") (by decide)))
  m_Pack_last := c.pfun 33 rfl (propB_ok (List.all_eq_true.mp (propsF c) ("Pack", "last") (by decide)))
  m_Pack_told := c.mfun 34 rfl (He.meth_ok (c.fact 59 (f := .meth "Pack" "told") rfl))
  m_Pack___eq__ := c.mfun 35 rfl (He.meth_ok (c.fact 60 (f := .meth "Pack" "__eq__") rfl))
  oi_PackError := List.mem_append_right _ (oxM c (by decide))
  ox_PackError := oxM c (by decide)
  e_PackError := He.exc_ok (c.fact 61 (f := .exc "PackError") rfl)
  oi_BadPack := List.mem_append_right _ (oxM c (by decide))
  ox_BadPack := oxM c (by decide)
  s_BadPack := supC_of (d := sd_BadPack) (List.all_eq_true.mp (supsF c) ("BadPack", "part") (by decide)) (c.sup 0 rfl) fok_part (by decide +kernel) rfl rfl rfl (by decide) (fun _ _ _ _ _ _ _ _ _ => ⟨rfl, rfl⟩)
  oi_Pack := List.mem_append_left _ (ocM c (by decide))
  ne_Pack := neF_Pack c
  ct := ctB_ok (ctF c)
  nx_part := nxB_ok (List.all_eq_true.mp (nxF c) "part" (by decide))
  l_law := c.lfun 27 rfl (gloF X G c 27 rfl) (by decide) (gloN c 27 rfl) (of_decide_eq_true (ndF c)) tb
end
end ND
open PySem PySem.W PySem.Calls PyProof.Rows
theorem PySem.Challenge.cw_narrowdraws_k02_packs_as_made_holds : PySem.Challenge.rw_narrowdraws_k02_packs_as_made.Holds := by
  w_on; o_law
  refine ND.head_cut (i := ND.topI) (r := OpenLaw.row PySem.Challenge.rw_narrowdraws_k02_packs_as_made) (q := view (OpenLaw.row PySem.Challenge.rw_narrowdraws_k02_packs_as_made).prog [40]) (H := ND.hk) (ob := ND.ob)  (loose := ND.names) (d := HandSHeadRun.topDef (OpenLaw.row PySem.Challenge.rw_narrowdraws_k02_packs_as_made).prog 40) (kwd := []) rfl ND.ob_eq
    (by kernel_rfl) (fun s => by kernel_rfl) ND.boot_is ND.comes ND.look1 ND.look2 ND.look3 (by kernel_rfl) (by kernel_rfl) (by kernel_rfl) (by rfl) (by first | assumption | decide +kernel) (by decide +kernel) ⟨rfl, rfl, rfl, rfl, rfl, by decide +kernel⟩ ?hw ?hc
  case hw => w_witness2
  case hc =>
    refine ND.walk_TG (l := PySem.Challenge.rw_narrowdraws_k02_packs_as_made) (n := 63) (k := 10) (x := "_law_script") rfl (by decide) (by kernel_rfl) ⟨rfl, by decide, by decide⟩ ?F
    intro w mg fa h Y G hmg0
    obtain ⟨K0, K, KX0, KX, c⟩ := Y
    have hmg : mg ("law" : PySem.Str) = some (.ref fa) := by
      have e : (HandSHeadRun.topDef (OpenLaw.row PySem.Challenge.rw_narrowdraws_k02_packs_as_made).prog 40).name = ("law" : PySem.Str) := by kernel_rfl
      rw [← e]
      exact hmg0
    obtain ⟨sn, ck⟩ := c.seen 27 (d := ⟨.g "law", "law", "law", ND.s_law, 0⟩) rfl
    obtain ⟨fd, F⟩ := ND.DefT.funD sn ck
    have e := hmg.symm.trans (ND.gloF KX G c 27 rfl)
    cases e
    have b := L2.FunD.bindsA (ps := ["_law_script"]) F fun _ _ _ _ _ _ us hl => match us, hl with | [_], _ => rfl
    exact ⟨K0, K, fd, ND.spLw K, KX, ND.heads_of KX0 KX (ND.tbF c), fun s v => b s [v] rfl, fun H a ns hl hT hS => ⟨a, ns, rfl, ND.noLists_rd (ND.nlF c) hS, hl, ND.tabs_nil hT, fun _ => rfl⟩, fun base hK hN tb => ND.ok_law (P := PySem.Challenge.pw_narrowdraws_k02_packs_as_made) (w := w) (ND.tx_of KX G c tb) F ND.law_plain⟩
