import PyProof.Rows.All
import Wide.All
import OpenK.AllK
import Wide.FinOn
import KE.KExcSuper
import HandS.ForMost
import HandS.Exc
import HandS.ExcInit
import HandS.ExcCtx
import KE.KExcIs
import KE.GoesMore
import KE.GoesComp
import HandS.Hot
import HandS.HotCalls
import HandS.ExcField
import HandS.IsInst
import HandS.Defaults
import HandS.Head0
import HandS.Head1
import HandS.Head2
import HandS.HeadEnd
import HandS.HeadHook1
import HandS.HeadHook2
import HandS.Property
import HandS.Wide
import HandS.Conv
import HandS.Iter
import HandS.Flow
import HandS.OwnEq
import HandS.Codes
import HandS.NoneIn
import HandS.Star
import HandS.Style
import PySem.Challenge.RW_textbetween_k30_growths_add
set_option Elab.async false
set_option linter.all false
set_option maxRecDepth 100000
set_option maxHeartbeats 0
/-! Own errors over ValueError through one class between, whose own maker calls super's with a text and then keeps one or two values. -/
namespace PySem
namespace ErX
open PySem.W PySem.Calls PyProof.Rows PySem.HandSPX
/-! ### the texts -/
def arg0 (x : Str) (p : Pos) : Arg := { arg := x, annotation := none, pos := p }
def prms (xs : List Arg) : Arguments := { posonlyargs := [], args := xs, vararg := none, kwonlyargs := [], kw_defaults := [], kwarg := none, defaults := [] }
def supSt (msg : Str) (j : Nat) (p0 p1 p2 p3 p4 p5 : Pos) : Stmt := .Expr (.Call (.Attribute (.Call (.Name "super" p0) [] [] p1) "__init__" p2) [.Constant (.str msg) j p3] [] p4) p5
def fldSt (x : Str) (p0 p1 p2 p3 : Pos) : Stmt := .Assign [.Attribute (.Name "self" p0) x p1] (.Name x p2) p3
def scp (xs : List Str) : Scope := { kind := .function, names := ((("self" : Str), NameKind.local) :: (xs.map fun x => (x, NameKind.local))) ++ [(("__class__" : Str), NameKind.free), (("super" : Str), NameKind.globalImplicit)], isGenerator := false, isCoroutine := false, more := [] }
/-- the world around, as the making asks it -/
structure Wd (prog : Program) (K : Frag) (mg : Str → Option Value) (h : Heap) : Prop where
  kin : K.In h
  lim : h.NoLimit
  glob : h.Ns mainGlobals mg
  blt : ∃ mb, h.Ns builtinsNs mb ∧ mb "super" = some (.type "super")
  sup : mg "super" = none
  top : (prog.main.scope.names.lookup ("super" : Str)).isSome = false
  tp : nsIn K cStatics "thirdparty.any" = some none
theorem Wd.keeps {prog : Program} {K : Frag} {mg : Str → Option Value} {h h' : Heap} (W : Wd prog K mg h) (k : ∀ b o, h.get? b = some o → h'.get? b = some o) : Wd prog K mg h' :=
  ⟨W.kin.keeps k, W.lim.keeps k, W.glob.keeps k, W.blt.elim fun mb q => ⟨mb, q.1.keeps k, q.2⟩, W.sup, W.top, W.tp⟩
/-- names of a maker that do not meet -/
structure ScOk (xs : List Str) : Prop where
  su : (scp xs).names.lookup ("super" : Str) = some .globalImplicit
  cc : (scp xs).names.lookup ("__class__" : Str) = some .free
  se : (scp xs).names.lookup ("self" : Str) = some .local
  lo : ∀ x ∈ xs, (scp xs).names.lookup x = some .local
  ne : ∀ x ∈ xs, (("self" : Str) == x) = false
  db : ∀ x ∈ xs, (x == ("__debug__" : Str)) = false
  nc : ∀ x ∈ (scp xs).names, x.2 ≠ .cell
/-- what the written part says of the class at C and of its maker at fI -/
structure ErTxt (prog : Program) (K : Frag) (mg : Str → Option Value) (nm qn : Str) (C fI : Addr) (xs : List Str) (body : List Stmt) : Prop where
  gC : mg nm = some (.ref C)
  cls : ∃ nm' q N bs bm sn sub ab col dd k0 k1 k2 k3 k5, K.lookup C = some (excClassObj nm' q C N bs bm true sn sub ab col dd k0 k1 k2 k3 k5 "ValueError.__new__") ∧ refsVE bm = true
  xi : excInitIn K C [.type "ValueError", .type "Exception", .type "BaseException", .type "object"] "ValueError.__new__" = true
  sa : findIn K (.ref C) "__setattr__" = some (some (.builtin "object.__setattr__"))
  nx : ∀ x ∈ xs, findIn K (.ref C) x = some none
  iC : findIn K (.ref C) "__init__" = some (some (.ref fI))
  tC : typeIn K (.ref fI) = some (.type "function")
  kC : keepIn K (.ref C) = true
  exC : subIn K (.ref C) (.type "BaseException") = some true
  veC : subIn K (.ref C) (.type "ValueError") = some true
  tyC : typeIn K (.ref C) = some (.type "type")
  seC : mroIn K C (.ref C) = some true
  suC : ks_superIn K C C "__init__" = some (some (.builtin "ValueError.__init__"))
  fn : ∃ (fd : FuncData) (oc : Value) (od : Option Addr) (osl : Array (Option Value)) (cda cc : Addr) (ccl : Value) (cdd : Option Addr) (vs : Array Value) (ccs : Array (Option Value)) (file : Str) (tf : Tok) (cl : Value) (cld : Option Addr) (csl : Array (Option Value)),
    K.lookup fI = some ⟨oc, od, .func fd, osl⟩ ∧ (∃ (ps : List Arg) (doc pm : Value) (an : Option Addr) (ct : Value), fd = ksFn "__init__" qn (prms ps) body (scp xs) .none .none doc pm an (.ref cda) ct cc ∧ ∃ ar, ps.head? = some ar ∧ ar.arg = "self") ∧
    codeIn K (.ref cda) qn = true ∧ K.lookup cda = some ⟨ccl, cdd, .fields vs, ccs⟩ ∧ vs[2]? = some (.str file tf) ∧ ((prog.main.file : Str) == file) = true ∧ K.lookup cc = some ⟨cl, cld, .cell (some (.ref C)), csl⟩ ∧
    ∀ (s : Shared) (us : List Value), us.length = xs.length + 1 → BindsTo s fd ⟨us, []⟩ ((("self" : Str) :: xs).zip us)
theorem call_form {env : Env} {o : Expr} {name : Str} {apos pos : Pos} {msg : Str} {j : Nat} {p3 : Pos} (hl : (apos.endLine == pos.line) = true) :
    eval (.Call (.Attribute o name apos) [.Constant (.str msg) j p3] [] pos) env = (do
      let ov ← attributeBase o name env (eval o env)
      standAt apos.atName
      let (f, first) ← holding [ov] (getMethod ov name (do return (← importBound o env).getD true))
      callWith pos f first (backTo pos (starEach [.Constant (.str msg) j p3] env)) []) := by
  show (do
      let ov ← attributeBase o name env (eval o env)
      standAt apos.atName
      methodCall o name apos pos env ov 1 (backTo pos (starEach [.Constant (.str msg) j p3] env)) []) = _
  have e : ∀ few : Bool, methodCallPos few o env apos pos = pure pos := fun few => by
    unfold methodCallPos
    rw [hl, Bool.or_true, if_pos rfl]
  unfold methodCall
  simp only [e, pure_bind]
  rfl
section
variable {prog : Program} {w : World} {A : Around} {E : Value → Shared → Prop} {R : Result → Shared → Prop} {K : Frag} {mg : Str → Option Value} {C fI : Addr}
/-- super().__init__(msg), self a fresh error of the class at C -/
theorem sup_ok {hp : Heap} {s : Shared} {xs : List Str} {bd : List Stmt} {q : Str} {L f cda cc x t0 : Addr} {m : Str → Option Value} {fd : FuncData} {ar : Arg} {msg : Str} {j : Nat} {p0 p1 p2 p3 p4 p5 : Pos} {Q : Flow → Shared → Prop}
    (W : Wd prog K mg hp) (cls : ∃ nm' q N bs bm sn sub ab col dd k0 k1 k2 k3 k5, K.lookup C = some (excClassObj nm' q C N bs bm true sn sub ab col dd k0 k1 k2 k3 k5 "ValueError.__new__") ∧ refsVE bm = true)
    (xi : excInitIn K C [.type "ValueError", .type "Exception", .type "BaseException", .type "object"] "ValueError.__new__" = true) (veC : subIn K (.ref C) (.type "ValueError") = some true) (seC : mroIn K C (.ref C) = some true)
    (suC : ks_superIn K C C "__init__" = some (some (.builtin "ValueError.__init__")))
    (Fm : Fr hp L s.heap m) (hx : s.heap.get? x = some (excObj C t0 none .none)) (hxL : x ≠ L) (hxn : hp.get? x = none) (hv : m "self" = some (.ref x))
    {oc ccl cl : Value} {od cdd cld : Option Addr} {osl ccs csl : Array (Option Value)} {vs : Array Value} {file : Str} {tf : Tok}
    (hf : K.lookup f = some ⟨oc, od, .func fd, osl⟩) (hpar : (fd.params.posonlyargs ++ fd.params.args).head? = some ar) (har : ar.arg = "self")
    (hcode : K.lookup cda = some ⟨ccl, cdd, .fields vs, ccs⟩) (hvs : vs[2]? = some (.str file tf)) (hfile : ((prog.main.file : Str) == file) = true) (hcell : K.lookup cc = some ⟨cl, cld, .cell (some (.ref C)), csl⟩)
    (hpos : (p2.endLine == p4.line) = true) (hks : (scp xs).names.lookup ("super" : Str) = some .globalImplicit) (hkc : (scp xs).names.lookup ("__class__" : Str) = some .free) (hka : (scp xs).names.lookup ("self" : Str) = some .local)
    (hq : ∀ h' tk t', Fr hp L h' m → h'.get? x = some (excObj C t' none .none) → Q .next { s with heap := h', toks := tk }) :
    _root_.PySem.wpAt (model prog w) A (.func bd (ksEnv q (scp xs) L f (.ref cda) cc)) (exec (supSt msg j p0 p1 p2 p3 p4 p5) (ksEnv q (scp xs) L f (.ref cda) cc)) Q E s := by
  obtain ⟨nm', q', N', bs, bm, sn, sub, ab, col, dd, k0, k1, k2, k3, k5, hC, hbm⟩ := cls
  have X : K.In s.heap := W.kin.keeps Fm.keep
  obtain ⟨mb, hmb, hsup⟩ := W.blt
  have hlr : News hp L s.heap [(x, excObj C t0 none .none)] := fun p hp' => by
    have e : p = (x, excObj C t0 none .none) := by simpa using hp'
    subst e
    exact ⟨hx, hxL, hxn⟩
  have I0 : InstAt s.heap x (excObj C t0 none .none) C none := ⟨hx, rfl, rfl, trivial⟩
  obtain ⟨h0, g, d, tk0, os⟩ := s
  have hCg : h0.get? C = some (excClassObj nm' q' C N' bs bm true sn sub ab col dd k0 k1 k2 k3 k5 "ValueError.__new__") := X _ _ hC
  unfold supSt
  refine ks_wpAt_Expr_any ?_
  refine ks_wpAt_MethodCall ?_ (call_form hpos)
  refine ks_wpAt_super_base (env := ksEnv q (scp xs) L f (.ref cda) cc) hks hkc (by decide) rfl (X _ _ hf) rfl hpar rfl (X _ _ hcode) rfl hvs hfile W.top ?_
  refine ks_loadName_global rfl hks (loadGlobal_builtin (env := ksEnv q (scp xs) L f (.ref cda) cc) (W.glob.keeps Fm.keep) W.sup (hmb.keeps Fm.keep) hsup ⟨rfl, ?_⟩)
  refine wpAny_loadName_free rfl hkc rfl ⟨_, X _ _ hcell, rfl⟩ ?_
  rw [har]
  refine wpAny_loadName_local rfl hka Fm.ns hv ?_
  refine ks_wpAny_isType_cls hCg rfl ⟨rfl, ?_⟩
  refine ks_wpAny_call_super hCg rfl hx rfl (fun c e => nomatch e) (looks_mroIn X seC) (fun h1 e1 k1 => ?_)
  obtain ⟨F1, N1, l1⟩ := ks_newsPush (s := ⟨h0, g, d, tk0, os⟩) Fm hlr rfl e1 k1
  refine kxs_method (odx := none) (s := ⟨h1, g, d, tk0, os⟩) kxs_ValueError F1 W.kin N1 (List.mem_cons_self) ⟨k1 _ _ hx, rfl, rfl, trivial⟩ W.tp suC veC (by decide) (fun u h2 F2 N2 l2 => ?_)
  refine kxs_callWith1 N2 List.mem_cons_self (spliced_cons (Constant_str (k := j) (pos := p3) (spliced_nil ⟨kxs_at N2 List.mem_cons_self, ?_⟩))) rfl rfl
  have n1 : x ≠ h0.objs.size := Nat.ne_of_lt (Heap.lt_size hx)
  have n2 : x ≠ u := Nat.ne_of_lt (l2 (x, excObj C t0 none .none) (.tail _ List.mem_cons_self))
  refine kxs_call (s := ⟨h2, g, d, _, os⟩) (newId := "ValueError.__new__") F2 W.kin N2 F.excBase_ValueError xi List.mem_cons_self (UpdF.tail (Ne.symm n2) (UpdF.tail (Ne.symm n1) (UpdF.head (fun p hp' => nomatch hp')))) (by show 1 ≤ sizeLine; rw [sizeLine_eq]; exact (by decide : 1 ≤ 16777216)) (fun t' h3 F3 N3 l3 => ?_)
  exact hq h3 _ t' F3 (N3 (x, excObj C t' none .none) (.tail _ (.tail _ (.tail _ List.mem_cons_self)))).1
/-- the first value kept -/
theorem fld_new {hp : Heap} {s : Shared} {q : Str} {xs : List Str} {L f cc x t0 : Addr} {cd : Value} {m : Str → Option Value} {y : Str} {v : Value} {p0 p1 p2 p3 : Pos} {Q : Flow → Shared → Prop}
    (W : Wd prog K mg hp) (cls : ∃ nm' q N bs bm sn sub ab col dd k0 k1 k2 k3 k5, K.lookup C = some (excClassObj nm' q C N bs bm true sn sub ab col dd k0 k1 k2 k3 k5 "ValueError.__new__") ∧ refsVE bm = true)
    (sa : findIn K (.ref C) "__setattr__" = some (some (.builtin "object.__setattr__"))) (nx : findIn K (.ref C) y = some none)
    (Fm : Fr hp L s.heap m) (hx : s.heap.get? x = some (excObj C t0 none .none)) (hxL : L ≠ x) (hxn : hp.get? x = none) (hv : m "self" = some (.ref x)) (hy : m y = some v) (sc : ScOk xs) (hyx : y ∈ xs)
    (hq : ∀ h' tk dx, Fr hp L h' m → h'.get? x = some (excObj C t0 (some dx) .none) → s.heap.objs.size ≤ dx → dx ≠ x → h'.Ns1 dx (fun z => if z = y then some v else none) → Q .next { s with heap := h', toks := tk }) :
    wpAny (model prog w) A (exec (fldSt y p0 p1 p2 p3) (ksEnv q (scp xs) L f cd cc)) Q E s := by
  obtain ⟨nm', q', N', bs, bm, sn, sub, ab, col, dd, k0, k1, k2, k3, k5, hC, hbm⟩ := cls
  have hcl : clsIn K C = some { name := nm', bases := bs, mro := .ref C :: bm, ns := N', qualname := q', hasDict := true, slotNames := sn, subclasses := sub, abstract := ab, collection := col, hasDel := false } := by
    unfold clsIn
    rw [hC] <;> rfl
  have X : K.In s.heap := W.kin.keeps Fm.keep
  refine plainObj_wpAny_Assign_Attribute ?_
  refine wpAny_Name (wpAny_loadName_local rfl (sc.lo y hyx) Fm.ns hy ?_) (sc.db y hyx)
  refine wpAny_Name (wpAny_loadName_local rfl sc.se Fm.ns hv ?_) (by decide)
  refine set_plain X (ox := excObj C t0 none .none) (od := none) ⟨hx, rfl, rfl, trivial⟩ sa ?_
  refine exc_osa X hx hcl (show refsVE (.ref C :: bm) = true from hbm) rfl nx (fun h3 tk3 dx k3 dn dne hx3 hn3 => ?_)
  obtain ⟨oL, es, ep, hL, r⟩ := Fm.ns
  exact hq h3 tk3 dx ⟨⟨oL, es, ep, k3 _ _ hxL hL, r⟩, fun b o z => k3 b o (fun e => by rw [e, hxn] at z; cases z) (Fm.keep b o z), Fm.above⟩ hx3 dn dne hn3
/-- one more -/
theorem fld_old {hp : Heap} {s : Shared} {q : Str} {xs : List Str} {L f cc x t0 dx : Addr} {cd : Value} {m m0 : Str → Option Value} {nl : List Str} {y : Str} {v : Value} {p0 p1 p2 p3 : Pos} {Q : Flow → Shared → Prop}
    (W : Wd prog K mg hp) (cls : ∃ nm' q N bs bm sn sub ab col dd k0 k1 k2 k3 k5, K.lookup C = some (excClassObj nm' q C N bs bm true sn sub ab col dd k0 k1 k2 k3 k5 "ValueError.__new__") ∧ refsVE bm = true)
    (sa : findIn K (.ref C) "__setattr__" = some (some (.builtin "object.__setattr__"))) (nx : findIn K (.ref C) y = some none)
    (Fm : Fr hp L s.heap m) (hx : s.heap.get? x = some (excObj C t0 (some dx) .none)) (hd : dx ≠ x) (hdL : L ≠ dx) (hdn : hp.get? dx = none) (hns : s.heap.Ns1 dx m0) (hw : Within m0 nl) (hz : nl.length ≤ 1000)
    (hv : m "self" = some (.ref x)) (hy : m y = some v) (sc : ScOk xs) (hyx : y ∈ xs)
    (hq : ∀ h' tk, Fr hp L h' m → h'.get? x = some (excObj C t0 (some dx) .none) → h'.Ns1 dx (fun z => if z = y then some v else m0 z) → Q .next { s with heap := h', toks := tk }) :
    wpAny (model prog w) A (exec (fldSt y p0 p1 p2 p3) (ksEnv q (scp xs) L f cd cc)) Q E s := by
  obtain ⟨nm', q', N', bs, bm, sn, sub, ab, col, dd, k0, k1, k2, k3, k5, hC, hbm⟩ := cls
  have hcl : clsIn K C = some { name := nm', bases := bs, mro := .ref C :: bm, ns := N', qualname := q', hasDict := true, slotNames := sn, subclasses := sub, abstract := ab, collection := col, hasDel := false } := by
    unfold clsIn
    rw [hC] <;> rfl
  have X : K.In s.heap := W.kin.keeps Fm.keep
  obtain ⟨oD, esD, epD, hoD, _, _⟩ := hns.count hw
  refine plainObj_wpAny_Assign_Attribute ?_
  refine wpAny_Name (wpAny_loadName_local rfl (sc.lo y hyx) Fm.ns hy ?_) (sc.db y hyx)
  refine wpAny_Name (wpAny_loadName_local rfl sc.se Fm.ns hv ?_) (by decide)
  refine set_plain X (ox := excObj C t0 (some dx) .none) (od := some oD) ⟨hx, rfl, rfl, hoD⟩ sa ?_
  refine OEX.osa_old X hx hns hw hz hcl (show refsVE (.ref C :: bm) = true from hbm) rfl nx (fun h3 tk3 k3 hn3 => ?_)
  obtain ⟨oL, es, ep, hL, r⟩ := Fm.ns
  exact hq h3 tk3 ⟨⟨oL, es, ep, k3 _ _ hdL hL, r⟩, fun b o z => k3 b o (fun e => by rw [e, hdn] at z; cases z) (Fm.keep b o z), Fm.above⟩ (k3 _ _ (Ne.symm hd) hx) hn3
/-- a made error -/
structure OwnMade (h h' : Heap) (e C d : Addr) (mA : Str → Option Value) : Prop where
  keep : ∀ b o, h.get? b = some o → h'.get? b = some o
  new : h.objs.size ≤ e
  obj : ∃ oe vs, h'.get? e = some oe ∧ oe.cls = .ref C ∧ oe.dict = some d ∧ oe.data = .fields vs ∧ vs[1]? = some .none ∧ vs[2]? = some .none
  dbig : h.objs.size ≤ d
  dne : d ≠ e
  ns : h'.Ns1 d mA
def Body1 (y : Str) (body : List Stmt) : Prop := ∃ (msg : Str) (j : Nat) (p0 p1 p2 p3 p4 p5 q0 q1 q2 q3 : Pos), body = [supSt msg j p0 p1 p2 p3 p4 p5, fldSt y q0 q1 q2 q3] ∧ (p2.endLine == p4.line) = true
def Body2 (y z : Str) (body : List Stmt) : Prop := ∃ (msg : Str) (j : Nat) (p0 p1 p2 p3 p4 p5 q0 q1 q2 q3 r0 r1 r2 r3 : Pos), body = [supSt msg j p0 p1 p2 p3 p4 p5, fldSt y q0 q1 q2 q3, fldSt z r0 r1 r2 r3] ∧ (p2.endLine == p4.line) = true
theorem look_self {x v : Value} {y : Str} (h : (("self" : Str) == y) = false) : List.lookup ("self" : Str) [(y, v), (("self" : Str), x)] = some x := by
  rw [List.lookup_cons, h, List.lookup_cons, beq_self_eq_true]
theorem look_one {x v : Value} {y : Str} : List.lookup y [(y, v), (("self" : Str), x)] = some v := by
  rw [List.lookup_cons, beq_self_eq_true]
theorem made1 {nm qn y : Str} {body : List Stmt} {s : Shared} {v : Value} (T : ErTxt prog K mg nm qn C fI [y] body) (B : Body1 y body) (sc : ScOk [y]) (W : Wd prog K mg s.heap) (hroom : A.depth + 1 < recursionLimit)
    (hq : ∀ h' tk e d, OwnMade s.heap h' e C d (fun z => if z = y then some v else none) → R (.ok (.ret (.ref e))) { s with heap := h', toks := tk }) :
    codeAny (model prog w) A (.call (.ref C) ⟨[v], []⟩) R s := by
  have cls := T.cls
  obtain ⟨nm', q', N', bs, bm, sn, sub, ab, col, dd, k0, k1, k2, k3, k5, hC, hbm⟩ := id cls
  obtain ⟨fd, oc, od, osl, cda, cc, ccl, cdd, vs, ccs, file, tf, cl, cld, csl, hf, ⟨ps, doc, pm, an, ct, efd, ar, har, hself⟩, hcd, hcode, hvs, hfile, hcell, hbind⟩ := T.fn
  obtain ⟨msg, j, p0, p1, p2, p3, p4, p5, q0, q1, q2, q3, eb, hpos⟩ := B
  obtain ⟨hp, g, dr, tk, os⟩ := s
  have W0 : Wd prog K mg hp := W
  have k : ∀ b o, hp.get? b = some o → ((hp.push (kdv_tup [v])).push (excO C hp.objs.size)).get? b = some o := fun b o e => Heap.get?_push_of_some _ (Heap.get?_push_of_some _ e)
  have hget : ((hp.push (kdv_tup [v])).push (excO C hp.objs.size)).get? (hp.objs.size + 1) = some (excObj C hp.objs.size none .none) := by heap_get
  have hz : ((hp.push (kdv_tup [v])).push (excO C hp.objs.size)).objs.size = hp.objs.size + 2 := by rw [Heap.size_push, Heap.size_push]
  have W1 := W0.keeps k
  refine call_own F.excBase_ValueError (fun X => refsVE_contains X bm hbm) (W0.kin _ _ hC) (looks_findIn W0.kin T.iC) (fun self => bind_fn W0.kin self T.tC) (by show 1 ≤ sizeLine; rw [sizeLine_eq]; exact (by decide : 1 ≤ 16777216)) ?_
  subst efd
  refine ks_codeAny_call_defAt (binds := [("self", .ref (hp.objs.size + 1)), (y, v)]) (body := body) (by show A.depth + 1 < recursionLimit; exact hroom) (W1.kin _ _ hf) rfl W1.lim (codeRec_of W1.kin hcd) rfl (hbind _ [.ref (hp.objs.size + 1), v] rfl) sc.nc (fun x hx => ?_) (fun h1 hns k1 => ?_)
  · rcases List.mem_cons.mp hx with rfl | hx
    · exact sc.se
    · rcases List.mem_cons.mp hx with rfl | hx
      · exact sc.lo _ List.mem_cons_self
      · exact nomatch hx
  · subst eb
    have F1 : Fr hp ((hp.push (kdv_tup [v])).push (excO C hp.objs.size)).objs.size h1 (fun z => List.lookup z [(y, v), (("self" : Str), .ref (hp.objs.size + 1))]) := ⟨hns, fun b o e => k1 b o (k b o e), by rw [hz]; omega⟩
    have hx1 := k1 _ _ hget
    have hz2 : hp.objs.size ≤ ((hp.push (kdv_tup [v])).push (excO C hp.objs.size)).objs.size := by
      rw [hz]
      omega
    have nL : hp.objs.size + 1 ≠ ((hp.push (kdv_tup [v])).push (excO C hp.objs.size)).objs.size := by
      rw [hz]
      omega
    have hxn : hp.get? (hp.objs.size + 1) = none := Heap.get?_none_of_le (by omega)
    refine ks_wpAt_execs_cons (sup_ok (fd := ksFn "__init__" qn (prms ps) _ (scp [y]) .none .none doc pm an (.ref cda) ct cc) (ar := ar) W0 cls T.xi T.veC T.seC T.suC F1 hx1 nL hxn (look_self (sc.ne _ List.mem_cons_self)) hf (by exact har) hself hcode hvs hfile hcell hpos sc.su sc.cc sc.se (fun h2 tk2 t2 F2 hx2 => ?_))
    refine _root_.PySem.wpAt_of_wpAny (wpAny_execs_cons (fld_new W0 cls T.sa (T.nx _ List.mem_cons_self) F2 hx2 nL.symm hxn (look_self (sc.ne _ List.mem_cons_self)) look_one sc List.mem_cons_self (fun h3 tk3 dx F3 hx3 dn dne hn3 => ?_)))
    refine wpAny_execs_nil ⟨rfl, hq h3 tk3 (hp.objs.size + 1) dx ⟨F3.keep, Nat.le_succ _, ⟨_, _, hx3, rfl, rfl, rfl, rfl, rfl⟩, Nat.le_trans hz2 (Nat.le_of_lt (Nat.lt_of_lt_of_le F2.ns.lt dn)), dne, hn3⟩⟩
theorem look_self2 {x v u : Value} {y z : Str} (h : (("self" : Str) == y) = false) (h2 : (("self" : Str) == z) = false) : List.lookup ("self" : Str) [(z, u), (y, v), (("self" : Str), x)] = some x := by
  rw [List.lookup_cons, h2]
  exact look_self h
theorem look_two {x v u : Value} {y z : Str} (h : (y == z) = false) : List.lookup y [(z, u), (y, v), (("self" : Str), x)] = some v := by
  rw [List.lookup_cons, h]
  exact look_one
theorem look_three {x v u : Value} {y z : Str} : List.lookup z [(z, u), (y, v), (("self" : Str), x)] = some u := by
  rw [List.lookup_cons, beq_self_eq_true]
theorem made2 {nm qn y z : Str} {body : List Stmt} {s : Shared} {v u : Value} (T : ErTxt prog K mg nm qn C fI [y, z] body) (B : Body2 y z body) (sc : ScOk [y, z]) (hyz : (y == z) = false) (W : Wd prog K mg s.heap) (hroom : A.depth + 1 < recursionLimit)
    (hq : ∀ h' tk e d, OwnMade s.heap h' e C d (fun x => if x = z then some u else if x = y then some v else none) → R (.ok (.ret (.ref e))) { s with heap := h', toks := tk }) :
    codeAny (model prog w) A (.call (.ref C) ⟨[v, u], []⟩) R s := by
  have cls := T.cls
  obtain ⟨nm', q', N', bs, bm, sn, sub, ab, col, dd, k0, k1, k2, k3, k5, hC, hbm⟩ := id cls
  obtain ⟨fd, oc, od, osl, cda, cc, ccl, cdd, vs, ccs, file, tf, cl, cld, csl, hf, ⟨ps, doc, pm, an, ct, efd, ar, har, hself⟩, hcd, hcode, hvs, hfile, hcell, hbind⟩ := T.fn
  obtain ⟨msg, j, p0, p1, p2, p3, p4, p5, q0, q1, q2, q3, r0, r1, r2, r3, eb, hpos⟩ := B
  obtain ⟨hp, g, dr, tk, os⟩ := s
  have W0 : Wd prog K mg hp := W
  have ys := sc.ne y List.mem_cons_self
  have zs := sc.ne z (.tail _ List.mem_cons_self)
  have k : ∀ b o, hp.get? b = some o → ((hp.push (kdv_tup [v, u])).push (excO C hp.objs.size)).get? b = some o := fun b o e => Heap.get?_push_of_some _ (Heap.get?_push_of_some _ e)
  have hget : ((hp.push (kdv_tup [v, u])).push (excO C hp.objs.size)).get? (hp.objs.size + 1) = some (excObj C hp.objs.size none .none) := by heap_get
  have hz : ((hp.push (kdv_tup [v, u])).push (excO C hp.objs.size)).objs.size = hp.objs.size + 2 := by rw [Heap.size_push, Heap.size_push]
  have W1 := W0.keeps k
  refine call_own F.excBase_ValueError (fun X => refsVE_contains X bm hbm) (W0.kin _ _ hC) (looks_findIn W0.kin T.iC) (fun self => bind_fn W0.kin self T.tC) (by show 2 ≤ sizeLine; rw [sizeLine_eq]; exact (by decide : 2 ≤ 16777216)) ?_
  subst efd
  refine ks_codeAny_call_defAt (binds := [("self", .ref (hp.objs.size + 1)), (y, v), (z, u)]) (body := body) (by show A.depth + 1 < recursionLimit; exact hroom) (W1.kin _ _ hf) rfl W1.lim (codeRec_of W1.kin hcd) rfl (hbind _ [.ref (hp.objs.size + 1), v, u] rfl) sc.nc (fun x hx => ?_) (fun h1 hns k1 => ?_)
  · rcases List.mem_cons.mp hx with rfl | hx
    · exact sc.se
    · rcases List.mem_cons.mp hx with rfl | hx
      · exact sc.lo _ List.mem_cons_self
      · rcases List.mem_cons.mp hx with rfl | hx
        · exact sc.lo _ (.tail _ List.mem_cons_self)
        · exact nomatch hx
  · subst eb
    have F1 : Fr hp ((hp.push (kdv_tup [v, u])).push (excO C hp.objs.size)).objs.size h1 (fun x => List.lookup x [(z, u), (y, v), (("self" : Str), .ref (hp.objs.size + 1))]) := ⟨hns, fun b o e => k1 b o (k b o e), by rw [hz]; omega⟩
    have hx1 := k1 _ _ hget
    have hz2 : hp.objs.size ≤ ((hp.push (kdv_tup [v, u])).push (excO C hp.objs.size)).objs.size := by
      rw [hz]
      omega
    have nL : hp.objs.size + 1 ≠ ((hp.push (kdv_tup [v, u])).push (excO C hp.objs.size)).objs.size := by
      rw [hz]
      omega
    have hxn : hp.get? (hp.objs.size + 1) = none := Heap.get?_none_of_le (by omega)
    refine ks_wpAt_execs_cons (sup_ok (fd := ksFn "__init__" qn (prms ps) _ (scp [y, z]) .none .none doc pm an (.ref cda) ct cc) (ar := ar) W0 cls T.xi T.veC T.seC T.suC F1 hx1 nL hxn (look_self2 ys zs) hf (by exact har) hself hcode hvs hfile hcell hpos sc.su sc.cc sc.se (fun h2 tk2 t2 F2 hx2 => ?_))
    refine _root_.PySem.wpAt_of_wpAny (wpAny_execs_cons (fld_new W0 cls T.sa (T.nx _ List.mem_cons_self) F2 hx2 nL.symm hxn (look_self2 ys zs) (look_two hyz) sc List.mem_cons_self (fun h3 tk3 dx F3 hx3 dn dne hn3 => ?_)))
    have dn' : hp.objs.size ≤ dx := Nat.le_trans hz2 (Nat.le_of_lt (Nat.lt_of_lt_of_le F2.ns.lt dn))
    have dL := Nat.lt_of_lt_of_le F2.ns.lt dn
    refine wpAny_execs_cons (fld_old (nl := [y]) W0 cls T.sa (T.nx _ (.tail _ List.mem_cons_self)) F3 hx3 dne (Nat.ne_of_lt dL) (Heap.get?_none_of_le dn') hn3 (fun x hx => ?_) (Nat.le_of_lt (by show 1 < 1000; decide)) (look_self2 ys zs) look_three sc (.tail _ List.mem_cons_self) (fun h4 tk4 F4 hx4 hn4 => ?_))
    · by_cases e : x = y
      · rw [e]
        exact List.mem_cons_self
      · rw [if_neg e] at hx
        exact absurd rfl hx
    · refine wpAny_execs_nil ⟨rfl, hq h4 tk4 (hp.objs.size + 1) dx ⟨F4.keep, Nat.le_succ _, ⟨_, _, hx4, rfl, rfl, rfl, rfl, rfl⟩, dn', dne, hn4⟩⟩
end
end ErX
end PySem
/-! Within an except suite: a def that is told the caught error reads its class and its values; a list of truths is sieved there. -/
namespace PySem
namespace HotY
open PySem.W PySem.Calls PyProof.Rows HotX
section
variable {prog : Program} {w : World} {A : Around} {E : Value → Shared → Prop} {s : Shared}
/-- a list's walk ends while an error is handled -/
theorem list_end {it l x1 : Addr} {i : Nat} {items : Array Value} {Q : Option Value → Shared → Prop} (hot : HotAt A x1 s.heap) (hne : x1 ≠ it) (hit : s.heap.IsListIter it l i) (hl : s.heap.IsList l items) (hx : items[i]? = none)
    (hQ : ∀ h', Heap.ExtBut it s.heap h' → Q none { s with heap := h' }) : wpAny (model prog w) A (pyNext (.ref it)) Q E s := by
  have hty := hit.typeIs
  obtain ⟨o, ho, hc, hd⟩ := id hit
  obtain ⟨ol, hol, hlc, nl, hdl⟩ := hl
  obtain ⟨hh, o1, vs1, h1, d1, c1⟩ := hot
  unfold pyNext
  refine wpAny_bind (wpAny_attempt (wpAny_callSpecial?_slot (name := Str.ofString "__next__") hty slot_listiter_next (wpAny_call_entry slot_listiter_next hty entry_listiter_next ?_ (args_listiter_next _))))
  show wpAny _ _ (field (.ref it) 0 >>= _) _ _ s
  refine wpAny_bind (wpAny_field ho hd (x := .ref l) rfl ?_)
  show wpAny _ _ (if (Value.ref l == Value.none) = true then _ else _) _ _ s
  rw [if_neg (fun z : (Value.ref l == Value.none) = true => Bool.false_ne_true z)]
  show wpAny _ _ (field (.ref it) 1 >>= _) _ _ s
  refine wpAny_bind (wpAny_field ho hd (x := .int i 0) rfl ?_)
  show wpAny _ _ (seqItems? (.ref l) >>= _) _ _ s
  refine wpAny_bind (wpAny_seqItems hol hdl ?_)
  simp only [Int.toNat_natCast, hx]
  refine wpAny_bind (wpAny_rule (wpAny_bind (wpAny_setField ho hd (by simp) ?_)))
  generalize hH : s.heap.update it _ = H1
  have kH : ∀ b o, b ≠ it → s.heap.get? b = some o → H1.get? b = some o := fun b o hb e => by
    rw [← hH, Heap.get?_update_other _ _ (Ne.symm hb)]
    exact e
  have g1 := kH _ _ hne h1
  show wpAny _ _ (newExc (.type "StopIteration") [] >>= _) _ _ _
  refine wpAny_bind ?_
  simp only [newExc, newTuple]
  refine wpAny_bind (wpAny_newObj_type ?_ (by size_fits))
  refine wpAny_bind (m := firstArgMember _ _) (wpAny_of_eq (a := Value.none) (by first | rfl | (simp only [firstArgMember]; rfl)) ?_)
  refine wpAny_newObj_type ?_ (by size_fits)
  refine raiseNew_hot (x1 := x1) ⟨hh, o1, vs1, Heap.get?_push_of_some _ (Heap.get?_push_of_some _ g1), d1, c1⟩ (Nat.ne_of_lt (Heap.lt_size (Heap.get?_push_of_some _ g1))) (Heap.get?_push_size _ rfl) rfl
    (by first | (simp; done) | (simp; omega) | (simp only [Array.size_append]; simp; omega)) ?_
  refine wpAny_bind (wpAny_isInstance (T := "StopIteration") (b := true) ⟨_, Heap.get?_update_self _ (Heap.get?_push_size _ rfl) rfl, rfl⟩ isSubtype_stop (wpAny_pure (hQ _ fun b ob hb e => ?_)))
  have e1 := kH b ob hb e
  rw [Heap.get?_update_other _ _ (Nat.ne_of_gt (Heap.lt_size (Heap.get?_push_of_some _ e1)))]
  exact Heap.get?_push_of_some _ (Heap.get?_push_of_some _ e1)
/-- the error handled stands, its context None -/
def HotO (x1 : Addr) (h : Heap) : Prop := ∃ (o : Obj) (vs : Array Value), h.get? x1 = some o ∧ o.data = .fields vs ∧ vs[2]? = some .none
theorem HotO.at {x1 : Addr} {h h' : Heap} (k : HotO x1 h) (e : ∀ o, h.get? x1 = some o → h'.get? x1 = some o) : HotO x1 h' := let ⟨o, vs, a, b, c⟩ := k; ⟨o, vs, e o a, b, c⟩
theorem goes_hot {target : Expr} {x1 : Addr} (hh : A.handled = some (.ref x1)) (I l : Addr) (hne : l ≠ I) (hx : x1 ≠ I) (items : Array Value) :
    Goes prog w A target I [I, l, x1] [I] items.size (fun i v _ => items[i]? = some v) (fun i h => h.IsListIter I l i ∧ h.IsList l items ∧ HotO x1 h) := by
  have W : Walks prog w A I [I, l, x1] [I] items.size (fun i v => items[i]? = some v) (fun i h => h.IsListIter I l i ∧ h.IsList l items ∧ HotO x1 h) :=
    { sub := fun b hb => by simp at hb; simp [hb]
      frame := fun _ _ _ st hk => ⟨st.1.at fun o e => hk I (by simp) o e, st.2.1.at fun o e => hk l (by simp) o e, st.2.2.at fun o e => hk x1 (by simp) o e⟩
      item := fun i s Q E hi st hQ => by
        refine wpAny_pyNext_list_item st.1 st.2.1 (x := items[i]) (by simp [hi]) fun h' hit' hs' => ?_
        exact hQ _ h' s.toks (by simp [hi]) ⟨hit', st.2.1.extBut hs'.extBut hne, st.2.2.at fun o e => hs'.extBut _ o hx e⟩ fun b o hb e => hs'.extBut b o (fun h => hb (by simp [h])) e
      done := fun s Q E st hQ => list_end ⟨hh, st.2.2⟩ hx st.1 st.2.1 (by simp) fun h' he' => hQ h' s.toks fun b o hb e => he' b o (fun h => hb (by simp [h])) e
      self := fun _ _ _ _ st hQ => wpAny_pyIter_listiter st.1 hQ }
  refine .ofWalks W fun i v s Q E st q => ?_
  obtain ⟨o, ho, hc, hd⟩ := st.1
  exact letGo_of_cls ho hc hd (by decide) q
theorem off1 {b N C D : Nat} (hb : b < N ∨ b = C) (hC : N + 1 ≤ C) (hD : N + 1 ≤ D) (h : D ≠ C) : ¬ (b = D ∨ b = N) := by omega
theorem ne1 {b N C : Nat} (hb : b < N + 1) (hC : N + 1 ≤ C) : b ≠ C := by omega
theorem lt1 {b N l x : Nat} (h : l < N) (hx : x < N) (hb : b = N ∨ b = l ∨ b = x) : b < N + 1 := by omega
/-- the truths of a list, in order -/
def truths (xs : List Value) : List Value := xs.filter fun v => match v with
  | .bool true => true
  | _ => false
theorem truths_one (b : Bool) : truths [Value.bool b] = if b = true then [Value.bool b] else [] := by cases b <;> rfl
theorem truths_more (xs : List Value) (v : Value) : truths (xs ++ [v]) = truths xs ++ truths [v] := List.filter_append ..
/-- [y for y in z if y] within a suite, z a list of bools -/
theorem sieve_raw {env : Env} {scope : Scope} {cl : List (Str × Addr)} {y z : Str} {l x1 : Addr} {xs : Array Value} {m : Str → Option Value} {pa pe pt pi pos : Pos} {Q : Value → Shared → Prop} (hot : HotAt A x1 s.heap) (hk : env.scope.kind = .function)
    (hclos : closureFor scope env = pure cl) (hcell : ∀ u ∈ scope.names, u.2 ≠ .cell) (hkind : scope.kind = .function) (hnames : ∀ u ∈ scope.names, u.2 = .local → scope.names.lookup u.1 = some .local)
    (hx : scope.names.lookup y = some .local) (hyd : (y == ("__debug__" : Str)) = false) (hzd : (z == ("__debug__" : Str)) = false) (hxs : env.kindOf z = some .local) (hn : s.heap.Ns env.locals m) (hm : m z = some (.ref l)) (hl : s.heap.IsList l xs) (hsz : xs.size ≤ sizeLine)
    (hb : ∀ (i : Nat) (v : Value), xs[i]? = some v → ∃ b, v = .bool b)
    (h : ∀ D h' tk (vs : List Value), s.heap.objs.size ≤ D → h'.PlainList D vs.toArray → vs = truths xs.toList → (∀ b o, s.heap.get? b = some o → h'.get? b = some o) → Q (.ref D) { s with heap := h', toks := tk }) :
    wpAny (model prog w) A (eval (.ListComp (.Name y pe) [⟨.Name y pa, .Name z pi, [.Name y pt], 0⟩] scope pos) env) Q E s := by
  obtain ⟨hh, hot0⟩ := hot
  have hlt : (l : Nat) < s.heap.objs.size := by
    obtain ⟨o, ho, _⟩ := hl
    exact Heap.lt_size ho
  have hxlt : (x1 : Nat) < s.heap.objs.size := by
    obtain ⟨o, vs, ho, _⟩ := hot0
    exact Heap.lt_size ho
  refine ListComp_goes hclos hcell hkind hnames ?_ (fun _ => rfl)
  rw [eval_Name _ _ _ hzd]
  refine wpAny_bind (wpAny_standAt (wpAny_loadName_local hk hxs hn hm ?_))
  refine wpAny_pyIter_list hl ?_
  refine ⟨_, _, _, _, _, _, rfl, goes_hot hh s.heap.objs.size l (Nat.ne_of_lt hlt) (Nat.ne_of_lt hxlt) xs, hsz, ⟨⟨_, Heap.get?_push_size _ rfl, rfl, rfl⟩, hl.push _, HotO.at hot0 fun o e => Heap.get?_push_of_some _ e⟩, ?_, fun D C s₃ hB => ?_⟩
  · intro b hb
    show b < (s.heap.push _).objs.size
    rw [Heap.size_push]
    exact lt1 hlt hxlt (by simpa using hb)
  · obtain ⟨⟨h₃, tk₃, rfl⟩, old, nD, nC, hDC, hnm⟩ := hB
    have nC' : (s.heap.objs.size + 1 : Nat) ≤ C := by
      have q : (s.heap.push { cls := .type "list_iterator", data := .fields #[.ref l, .int 0 0] }).objs.size ≤ C := nC
      rw [Heap.size_push] at q
      exact q
    have nD' : (s.heap.objs.size + 1 : Nat) ≤ D := by
      have q : (s.heap.push { cls := .type "list_iterator", data := .fields #[.ref l, .int 0 0] }).objs.size ≤ D := nD
      rw [Heap.size_push] at q
      exact q
    have hDC' : (D : Nat) ≠ C := hDC
    have kx : (compEnvC scope cl C env).kindOf y = some .local := lookup_relabel_local hx
    have hp : ((compEnvC scope cl C env).scope.kind == .class || ((compEnvC scope cl C env).scope.kind == .module && (compEnvC scope cl C env).locals != (compEnvC scope cl C env).globals)) = false := by
      show (scope.kind == .class || (scope.kind == .module && _)) = false
      rw [hkind]; rfl
    refine ⟨fun i vs s₁ => ∃ h' tk m, s₁ = { s with heap := h', toks := tk } ∧ h'.Ns C m ∧ vs = truths (xs.toList.take i) ∧ ∀ b o, s.heap.get? b = some o → h'.get? b = some o, ⟨h₃, tk₃, _, rfl, hnm, by simp [truths], fun b o e => old b o (Heap.get?_push_of_some _ e)⟩, ?_, ?_, ?_⟩
    · rintro i vs s₁ h' tk ⟨h₄, tk₄, m, rfl, n₄, e₄, k₄⟩ hk' _
      have off : ∀ b : Addr, (b < s.heap.objs.size ∨ b = C) → b ∉ D :: [s.heap.objs.size] := fun b hb hm => off1 hb nC' nD' hDC' (by simpa using hm)
      exact ⟨h', tk, m, rfl, n₄.at' fun o e => hk' _ o (off _ (.inr rfl)) e, e₄, fun b o e => hk' b o (off _ (.inl (Heap.lt_size e))) (k₄ b o e)⟩
    · rintro i v vs s₁ hi hv st ⟨h₄, tk₄, m, rfl, n₄, e₄, k₄⟩ hpl
      have q : xs.toList[i]? = some v := by simpa using hv
      have tk1 : xs.toList.take (i + 1) = xs.toList.take i ++ [v] := by simp [List.take_add_one, q]
      obtain ⟨bo, rfl⟩ := hb i v hv
      refine wpAny_assign_Name (wpAny_storeName_local kx n₄ (fun h₅ n₅ s₅ => ?_) hp)
      have offC : ∀ b : Addr, b < s.heap.objs.size + 1 → b ≠ C := fun b hb => ne1 hb nC'
      refine wpAny_tests_one ?_
      show wpAny _ _ (do let v ← eval (.Name y pt) _; standAt _; holding [v] (truthy v)) _ _ _
      rw [eval_Name _ _ _ hyd]
      refine wpAny_bind (wpAny_bind (wpAny_standAt (wpAny_loadName_local hkind kx n₅ (v := .bool bo) (if_pos rfl) ?_)))
      refine wpAny_bind (wpAny_standAt (wpAny_holding (wpAny_truthy_bool ?_)))
      have st5 : (h₅.IsListIter s.heap.objs.size l (i + 1) ∧ h₅.IsList l xs ∧ HotO x1 h₅) := ⟨st.1.at fun o e => s₅.extBut _ o (offC _ (Nat.lt_succ_self _)) e, st.2.1.at fun o e => s₅.extBut _ o (offC _ (Nat.lt_succ_of_lt hlt)) e, st.2.2.at fun o e => s₅.extBut _ o (offC _ (Nat.lt_succ_of_lt hxlt)) e⟩
      have k5 : ∀ b o, s.heap.get? b = some o → h₅.get? b = some o := fun b o e => s₅.extBut b o (offC b (Nat.lt_succ_of_lt (Heap.lt_size e))) (k₄ b o e)
      have pl5 := hpl.at fun o e => s₅.extBut _ o hDC e
      cases bo with
      | true =>
        rw [if_pos rfl, eval_Name _ _ _ hyd]
        refine wpAny_bind (wpAny_standAt (wpAny_loadName_local hkind kx n₅ (v := .bool true) (if_pos rfl) ?_))
        refine ⟨⟨h₅, _, _, rfl, n₅, ?_, k5⟩, st5, pl5⟩
        rw [tk1, truths_more, e₄] <;> rfl
      | false =>
        rw [if_neg Bool.false_ne_true]
        refine ⟨⟨h₅, _, _, rfl, n₅, ?_, k5⟩, st5, pl5⟩
        rw [tk1, truths_more, e₄]
        show _ = _ ++ []
        rw [List.append_nil]
    · rintro vs s₁ ⟨h₄, tk₄, m, rfl, n₄, e₄, k₄⟩ hpl
      refine ⟨m, n₄, fun h' hs' => h D h' tk₄ vs (Nat.le_trans (Nat.le_succ _) nD') (hpl.extBut hs'.extBut hDC) (by rw [e₄]; congr 1; exact List.take_of_length_le (by simp)) fun b o e => hs'.extBut b o (ne1 (Nat.lt_succ_of_lt (Heap.lt_size e)) nC') (k₄ b o e)⟩
end
end HotY
end PySem
/-! Within an except suite, over the layer: the caught error p, of the class at D, its dict at d. -/
namespace ErY
open PySem PySem.Spec PyProof.Rows L2 L2H
/-- what an error class says, for isinstance and for its instances' values -/
structure ErC (K : PySem.W.Frag) (D : Addr) : Prop where
  cl : (PySem.W.clsIn K D).isSome = true
  ga : PySem.W.findIn K (.ref D) "__getattribute__" = some (some (.builtin "BaseException.__getattribute__"))
  gg : PySem.W.findIn K (.ref D) "__getattr__" = some none
  ex : PySem.W.subIn K (.ref D) (.type "BaseException") = some true
  hd : PySem.W.hasDictIn K D = true
  ca : PySem.W.findIn K (.ref D) "__class__" = some (some (.builtin "object.__class__"))
  cg : PySem.W.specialIn K (.builtin "object.__class__") "__get__" = some (some (.builtin "getset_descriptor.__get__"))
  ct : PySem.W.takesIn K (.builtin "object.__class__") = some true
  mo : PySem.W.mroIn K D (.type "object") = some true
/-- the error p is pinned where X runs -/
structure Pin (X : Cx) (p : Addr × Obj) (D : Addr) (d : Option Addr) : Prop where
  mem : p ∈ X.pn
  zc : Zc (.ref D) d p.2
  dat : ∃ vs, p.2.data = .fields vs
/-- the dict of the error holds these -/
def Held (H : Hp) (d : Option Addr) (fs : List (Str × V)) : Prop := (d = none ∧ fs = []) ∨ ∃ dd, d = some dd ∧ H dd = some (.xd fs)
section
variable {X : Cx} {p : Addr × Obj} {D : Addr} {d : Option Addr}
theorem Pin.inst {pins : List (Addr × Obj)} {σ : L2.St} {H : Hp} {s : Shared} {fs : List (Str × V)} (P : Pin X p D d) (I : Inv X pins σ H s) (h : Held H d fs) : ∃ od, PySem.W.InstAt s.heap p.1 p.2 D od := by
  obtain ⟨hget, _⟩ := I.pin p (List.mem_append_left _ P.mem)
  obtain ⟨vs, hv⟩ := P.dat
  obtain ⟨h1, h2⟩ := P.zc
  have nc : PySem.W.notCls p.2 = true := by
    unfold PySem.W.notCls
    rw [hv] <;> rfl
  rcases h with ⟨e, _⟩ | ⟨dd, e, hd⟩
  · exact ⟨none, hget, h1, nc, by rw [h2, e]; trivial⟩
  · have hx : ObjOk X.prog X.w H s.heap dd (.xd fs) := I.hok dd _ hd
    obtain ⟨mA, hns, hr⟩ := hx
    obtain ⟨od, ho, hl⟩ := lookIn_ns hns
    exact ⟨some od, hget, h1, nc, by rw [h2, e]; exact ho⟩
/-- isinstance(e, c), e the error that is handled -/
def rIsP (K : PySem.W.Frag) (p : Addr × Obj) (D : Addr) (d : Option Addr) : List V → Hp → VK → Prop := fun xs H Q => ∃ (c : V) (cv : Value) (b : Bool) (fs : List (Str × V)), xs = [.ref p.1, c] ∧ ClsV c cv ∧ Held H d fs ∧ PySem.W.kitOne K (.ref D) cv = some b ∧ Q (.bl b) H
theorem call_isP (C : ErC X.K D) (P : Pin X p D d) : CallR X (.builtin "isinstance") (rIsP X.K p D d) := by
  intro pins s σ H xs us Q I r h
  obtain ⟨c, cv, b, fs, rfl, k, hh, e, q⟩ := h
  obtain ⟨u1, u2, rfl, r1, r2⟩ := vals2 r
  cases (show u1 = Value.ref p.1 from r1)
  have e2 := k.eq r2
  subst e2
  obtain ⟨od, J⟩ := P.inst I hh
  exact PySem.W.kia_one (PySem.W.kitx_exc C.cl C.ga C.gg C.ex C.ca C.cg C.ct C.mo) I.kIn J e (fun z => nomatch z) fun tk => ⟨.bl b, H, I.tok tk, rfl, q⟩
/-- isinstance(e, (c1, c2, ..)), the tuple just laid -/
def rIsPT (K : PySem.W.Frag) (p : Addr × Obj) (D : Addr) (d : Option Addr) : List V → Hp → VK → Prop := fun xs H Q => ∃ (tp : Addr) (cs : List V) (cvs : List Value) (b : Bool) (fs : List (Str × V)), xs = [.ref p.1, .ref tp] ∧ H tp = some (.tup cs) ∧ Paired ClsV cs cvs ∧ Held H d fs ∧ PySem.W.kitAny K (.ref D) cvs = some b ∧ Q (.bl b) H
theorem call_isPT (C : ErC X.K D) (P : Pin X p D d) : CallR X (.builtin "isinstance") (rIsPT X.K p D d) := by
  intro pins s σ H xs us Q I r h
  obtain ⟨tp, cs, cvs, b, fs, rfl, hT, k, hh, e, q⟩ := h
  obtain ⟨u1, u2, rfl, r1, r2⟩ := vals2 r
  cases (show u1 = Value.ref p.1 from r1)
  cases (show u2 = Value.ref tp from r2)
  obtain ⟨od, J⟩ := P.inst I hh
  obtain ⟨_, its, rv, o, h1, h2, n, h3⟩ := (show ObjOk X.prog X.w H s.heap tp (.tup cs) from I.hok tp _ hT)
  have e3 := ClsV.all k rv
  subst e3
  obtain ⟨oc, od', dt, sl⟩ := o
  simp only at h2 h3
  subst h2 h3
  exact PySem.W.kia_tup (PySem.W.kitx_exc C.cl C.ga C.gg C.ex C.ca C.cg C.ct C.mo) I.kIn J h1 e (fun z => nomatch z) fun tk => ⟨.bl b, H, I.tok tk, rfl, q⟩
/-- e.f -/
def tPf (K : PySem.W.Frag) (p : Addr × Obj) (D : Addr) (d : Option Addr) (f : Str) (te : TE) : TE := fun σ H Q => te σ H fun x H1 => x = .ref p.1 ∧ PySem.W.findIn K (.ref D) f = some none ∧ ∃ (dd : Addr) (fs : List (Str × V)) (v : V), d = some dd ∧ H1 dd = some (.xd fs) ∧ fs.lookup f = some v ∧ Q v H1
theorem pe_pf {e : Expr} {te : TE} {pos : Pos} {n : Str} (C : ErC X.K D) (P : Pin X p D d) (he : PE X e te) (hb : attributeBase e n X.env (eval e X.env) = eval e X.env := by rfl) : PE X (.Attribute e n pos) (tPf X.K p D d n te) := by
  refine ⟨fun pins s σ H Q I h => ?_⟩
  refine attr_of hb (thn (he.run pins s σ H _ I h) fun u s1 ⟨x, H1, I1, rx, ex, hno, dd, fs, v, ed, ea, l, q⟩ => ?_)
  subst ex
  obtain rfl : u = Value.ref p.1 := rx
  obtain ⟨hget, _⟩ := I1.pin p (List.mem_append_left _ P.mem)
  obtain ⟨vs, hv⟩ := P.dat
  have nc : PySem.W.notCls p.2 = true := by
    unfold PySem.W.notCls
    rw [hv] <;> rfl
  have hx : ObjOk X.prog X.w H1 s1.heap dd (.xd fs) := I1.hok dd _ ea
  obtain ⟨mA, hns, hr⟩ := hx
  obtain ⟨od, ho, hl⟩ := lookIn_ns hns
  obtain ⟨u, hu, ru⟩ := RelO.some_of (v := v) (o := mA n) (by rw [← l]; exact hr n)
  have J : PySem.W.InstAt s1.heap p.1 p.2 D (some od) := ⟨hget, P.zc.1, nc, by rw [P.zc.2, ed]; exact ho⟩
  exact HandSPX.exc_get I1.kIn J C.ga C.gg C.ex (PySem.W.findObj_own C.hd hno rfl (by rw [hl, hu])) (handed_of ru) ⟨v, H1, I1.tok _, ru, q⟩
/-- [y for y in z if y], z (in slot i) a list of truths -/
def tSieve (K : PySem.W.Frag) (i : Nat) : TE := fun σ H Q => ∃ (a : Addr) (bs : List Bool), σ[i]? = some (some (.ref a)) ∧ SqL K H a (bs.map V.bl) ∧ ∀ D, H D = none → Q (.ref D) (upd H D (.lst ((bs.filter id).map V.bl)))
theorem truths_bl : ∀ (bs : List Bool) (its : List Value), Vals (bs.map V.bl) its → its = bs.map Value.bool
  | [], _, .nil => rfl
  | b :: bs, _, .cons r t => by
    rw [truths_bl bs _ t]
    cases (show _ = Value.bool b from r)
    rfl
theorem truths_eq : ∀ bs : List Bool, PySem.HotY.truths (bs.map Value.bool) = (bs.filter id).map Value.bool
  | [] => rfl
  | true :: bs => by
    show Value.bool true :: PySem.HotY.truths (bs.map Value.bool) = _
    rw [truths_eq bs] <;> rfl
  | false :: bs => by
    show PySem.HotY.truths (bs.map Value.bool) = _
    rw [truths_eq bs] <;> rfl
theorem vals_bl : ∀ bs : List Bool, Vals (bs.map V.bl) (bs.map Value.bool)
  | [] => .nil
  | _ :: bs => .cons rfl (vals_bl bs)
theorem pe_sieve {y z : Str} {i : Nat} {scope : Scope} {pa pe pt pi pos : Pos} (hc : HotC X) (hN : X.N[i]? = some z) (hz : X.env.kindOf z = some .local) (hclos : closureFor scope X.env = pure [] := by rfl) (hcell : ∀ u ∈ scope.names, u.2 ≠ .cell := by decide) (hkind : scope.kind = .function := by rfl)
    (hnames : ∀ u ∈ scope.names, u.2 = .local → scope.names.lookup u.1 = some .local := by decide +kernel) (hx : scope.names.lookup y = some .local := by rfl) (hyd : (y == ("__debug__" : Str)) = false := by decide) (hzd : (z == ("__debug__" : Str)) = false := by decide) :
    PE X (.ListComp (.Name y pe) [⟨.Name y pa, .Name z pi, [.Name y pt], 0⟩] scope pos) (tSieve X.K i) := by
  refine ⟨fun pins s σ H Q I h => ?_⟩
  obtain ⟨a, bs, e, hS, q⟩ := h
  obtain ⟨m, hn, hl⟩ := I.loc
  obtain ⟨u, ru, hk⟩ := hl i z _ hN e (.inl hz)
  cases (show u = Value.ref a from ru)
  have hm : m z = some (.ref a) := by
    rcases hk with ⟨_, e⟩ | ⟨k, _⟩
    · exact e
    · rcases k with k | k <;> (rw [hz] at k; cases k)
  obtain ⟨its, rv, pl, hsz⟩ := I.list hS
  have ei := truths_bl _ _ rv
  subst ei
  obtain ⟨x1, hot⟩ := hc.at I
  refine PySem.HotY.sieve_raw hot I.ok.kind hclos hcell hkind hnames hx hyd hzd hz hn hm pl.isList (by rw [rv.length] at hsz; simpa using hsz) (fun j v hv => ?_) fun D' h' tk vs hD hpl evs hold => ?_
  · have hv' : (bs.map Value.bool)[j]? = some v := by simpa using hv
    rw [List.getElem?_map] at hv'
    cases hb : bs[j]? with
    | none => rw [hb] at hv'; cases hv'
    | some b => rw [hb] at hv'; cases hv'; exact ⟨b, rfl⟩
  · have evs' : vs = (bs.filter id).map Value.bool := by rw [evs, ← truths_eq] <;> simp
    subst evs'
    obtain ⟨n, ho⟩ := hpl
    have hlen : ((bs.filter id).map V.bl).length ≤ sizeLine := by
      rw [List.length_map] at hsz ⊢
      exact Nat.le_trans (List.length_filter_le _ _) hsz
    exact ⟨.ref D', upd H D' (.lst ((bs.filter id).map V.bl)), I.laid (t' := tk) hold hD ⟨hlen, _, n, vals_bl _, ho⟩, rfl, q D' (I.hok.fresh hD)⟩
end
/-! ### a def that is told the error -/
/-- the def at f keeps the promise sp p, wherever the error p is handled -/
def FnT (P : Program) (w : World) (K : PySem.W.Frag) (mg : Str → Option Value) (base : Heap) (k : Nat) (f : Addr) (fd : FuncData) (sp : Addr × Obj → Sp) : Prop :=
  ∀ (A : Around) (outer : List Env) (s : Shared) (H : Hp) (us : List Value) (vs : List V) (Q : VK) (p : Addr × Obj), RoomH k A → Hot1 A p → PinOk outer H s p → Env0 P w K mg base A outer s H → Vals vs us → sp p vs H Q (fun _ _ _ => False) →
    codeAny (model P w) A (.call (.ref f) ⟨us, []⟩) (CR CX0 outer P w H s Q (fun _ _ _ => False)) s
theorem fn_ofT {P : Program} {w : World} {K : PySem.W.Frag} {mg : Str → Option Value} {base : Heap} {k : Nat} {f : Addr} {fd : FuncData} {name qual : Str} {params : Arguments} {body : List Stmt} {scope : Scope} {dvs : List V} {kws : List (Str × V)} {N ps : List Str} {sp : Addr × Obj → Sp}
    (F : FunD K name qual params body scope dvs kws f fd) (hb : Binds K fd ps []) (S : FnScope N ps scope) (len : ∀ p vs H Q E, sp p vs H Q E → vs.length = ps.length)
    (hbody : ∀ (cdv : Value) (A : Around) (outer : List Env) (s : Shared) (H : Hp) (vs : List V) (Q : VK) (p : Addr × Obj), Hot1 A p → RoomH k (A.deeper (envOfC qual scope s.heap.objs.size f cdv)) → sp p vs H Q (fun _ _ _ => False) →
      ∃ t, PSs (cxH CX0 P w K mg base N qual scope f cdv A outer s H (fun _ _ _ => False) p) body t ∧ t { nx := fun _ H' => Q .non H', rt := Q } (L2.start N vs) H) :
    FnT P w K mg base (k + 1) f fd sp := by
  obtain ⟨oc, od, dV, kV, doc, pm, an, cdv, ct, osl, rfl, lk, hcd, _, _⟩ := F.ex
  intro A outer s H us vs Q p hr hot hpin e0 r hsp
  have hl := len _ _ _ _ _ hsp
  have X0 : K.In s.heap := e0.mod.kin.keeps fun b o e => (e0.bs b o e).1
  have bd : BindsTo s (PySem.W.fnOf name qual params body scope dV kV doc pm an cdv ct) ⟨us, []⟩ (ps.zip us) := by
    have z := hb s us X0 (by rw [List.append_nil, ← r.length]; exact hl)
    rw [List.append_nil] at z
    exact z
  refine codeAny_call_function hr.depth (X0 _ _ lk) rfl S.co S.gen rfl (PySem.W.codeRec_of X0 hcd) (bd _ _ _ _ ?_)
  refine wpAny_newFunctionEnv_cells S.kind (fun y hy => ?_) fun env he s1 x => ?_
  · rcases S.par y.1 (List.of_mem_zip (show (y.1, y.2) ∈ ps.zip us from hy)).1 with q | q
    · exact .inl q
    · exact .inr ⟨q, PySem.W.cellsFrom_some _ _ _ (.inl q)⟩
  subst he
  have lim : s.heap.NoLimit := e0.mod.nolimit.keeps fun b o e => (e0.bs b o e).1
  refine ⟨lim.keeps x.toInCall.keep, codeAny_func ?_⟩
  obtain ⟨t, ht, hq⟩ := hbody cdv A outer s H vs Q p hot (hr.deeper _) hsp
  refine wpAny_mono (ht.run [] s1 (L2.start N vs) H _ (inv_startH S hpin e0 hl r x) hq) (fun fl s' hs => ?_) fun e s' hs => hs
  rcases fl with _ | _ | _ | u
  all_goals first
    | (obtain ⟨_, _, _, z⟩ := hs; exact z.elim)
    | (obtain ⟨σ', H', J, z⟩ := hs; exact ⟨V.non, H', J.os, J.bare, J.base, J.hok, rfl, z⟩)
    | (obtain ⟨v, σ', H', J, rv, z⟩ := hs; exact ⟨v, H', J.os, J.bare, J.base, J.hok, rv, z⟩)
/-- the call of such a def within the suite, the error handed on -/
def tCallT (sp : Addr × Obj → Sp) (p : Addr × Obj) (t : TA) : TE := fun σ H Q => t σ H fun vs H1 => sp p vs H1 Q (fun _ _ _ => False)
theorem pe_callT {X : Cx} {p : Addr × Obj} {k : Nat} {f : Addr} {fd : FuncData} {sp : Addr × Obj → Sp} {x : Str} {q pos : Pos} {e : Expr} {es : List Expr} {t : TA} (F : FnT X.prog X.w X.K X.mg X.base k f fd sp) (hr : RoomH k X.A) (hot : Hot1 X.A p) (hp : p ∈ X.pn)
    (hg : Gl X x) (hm : X.mg x = some (.ref f)) (hk : PySem.W.keepIn X.K (.ref f) = true) (ha : PA X (e :: es) t) (hdb : (x == ("__debug__" : Str)) = false := by decide)
    (he : starEach (e :: es) X.env = (false, eval e X.env) :: starEach es X.env := by rfl) (hpl : (backTo pos (starEach es X.env)).any (·.1) = false := by rfl) :
    PE X (.Call (.Name x q) (e :: es) [] pos) (tCallT sp p t) := by
  refine ⟨fun pins s σ H Q I h => wpAny_Call_Name_kw (ld_glob I hg hm ?_ hdb)⟩
  refine PySem.W.callWith_K (h₀ := X.base) I.ok.mod.kin hk (thn (ha.run pos pins s σ H _ I h) fun us s1 ⟨vs, H1, I1, r, z⟩ => ⟨I1.kIn, ?_⟩) he hpl
  obtain ⟨g1, g2, g3, g4, g5⟩ := I1.pin p (List.mem_append_left _ hp)
  refine wpAny_call (codeAny_mono (F X.A X.stack s1 H1 us vs Q p hr hot ⟨g1, g2, fun hm => (List.mem_cons.mp (I1.stkSub p.1 hm)).elim g3 g4, g5⟩ I1.env0 r z) fun rr s' hq => ?_)
  rcases rr with e | (u | _ | _ | _)
  all_goals first
    | exact hq.elim
    | exact I1.after hq
end ErY
/-! raise of such an error, over the layer. -/
namespace ErY
open PySem PySem.Spec PyProof.Rows L2
/-- what the module says for every making -/
structure Mk0 (P : Program) (K : PySem.W.Frag) (mg : Str → Option Value) : Prop where
  sup : mg "super" = none
  top : (P.main.scope.names.lookup ("super" : Str)).isSome = false
  tp : PySem.W.nsIn K PySem.cStatics "thirdparty.any" = some none
theorem boot_super : bootBuiltins "super" = some (.type "super") := by decide +kernel
theorem wd_of {X : Cx} {pins : List (Addr × Obj)} {σ : L2.St} {H : Hp} {s : Shared} (m : Mk0 X.prog X.K X.mg) (I : Inv X pins σ H s) : PySem.ErX.Wd X.prog X.K X.mg s.heap := by
  obtain ⟨mb, h1, h2⟩ := I.mod.blt
  exact ⟨I.kIn, I.nolimit, I.mod.glob.keeps I.bk, ⟨mb, h1.keeps I.bk, (h2 _ (by decide)).trans boot_super⟩, m.sup, m.top, m.tp⟩
theorem relO_put1 {v : V} {u : Value} (y : Str) (r : RelV v u) (f : Str) : RelO (List.lookup f [(y, v)]) (if f = y then some u else none) := by
  rw [List.lookup_cons]
  by_cases h : f = y
  · subst h
    rw [beq_self_eq_true, if_pos rfl]
    exact r
  · rw [if_neg h, (beq_eq_false_iff_ne.mpr h : (f == y) = false)]
    exact trivial
theorem relO_put2 {v v2 : V} {u u2 : Value} (y z : Str) (r : RelV v u) (r2 : RelV v2 u2) (hyz : y ≠ z) (f : Str) : RelO (List.lookup f [(y, v), (z, v2)]) (if f = z then some u2 else if f = y then some u else none) := by
  rw [List.lookup_cons]
  by_cases h : f = y
  · subst h
    rw [beq_self_eq_true, if_neg hyz, if_pos rfl]
    exact r
  · rw [(beq_eq_false_iff_ne.mpr h : (f == y) = false), if_neg h]
    exact relO_put1 z r2 f
/-- X(e): the error's class, its dict -/
def tMkE (C : Addr) (ys : List Str) (ta : TA) : L2.St → Hp → XK → Prop := fun σ H Q => ta σ H fun vs H1 => vs.length = ys.length ∧ ∀ d, H1 d = none → Q (.ref C) (some d) (upd H1 d (.xd (ys.zip vs)))
section
variable {X : Cx} {C fI : Addr}
/-- what is left behind a made error -/
theorem mk_left {pins : List (Addr × Obj)} {σ : L2.St} {H1 : Hp} {Q : XK} {hp h' : Heap} {g : Array GenState} {dr : Drawn} {tk tk' : Nat} {os : OsState} {e d : Addr} {mA : Str → Option Value} {fs : List (Str × V)} (I1 : Inv X pins σ H1 ⟨hp, g, dr, tk, os⟩) (M : PySem.ErX.OwnMade hp h' e C d mA)
    (hr : ∀ f, RelO (fs.lookup f) (mA f)) (rs : Raises X (.ref C)) (q : Q (.ref C) (some d) (upd H1 d (.xd fs))) : L2N.MkP X pins σ Q (.ref e) ⟨h', g, dr, tk', os⟩ := by
  obtain ⟨oe, fv, hoe, hc, hd, hdat, h1, h2⟩ := M.obj
  obtain ⟨G', g1, g2⟩ := restrict h' fun b => decide (b ≠ e)
  have gk : ∀ b, b ≠ e → G'.get? b = h'.get? b := fun b hb => g1 b (decide_eq_true hb)
  have ge : G'.get? e = none := g2 e (by simp)
  have old : ∀ b o, hp.get? b = some o → G'.get? b = some o := fun b o z => (gk b (Nat.ne_of_lt (Nat.lt_of_lt_of_le (Heap.lt_size z) M.new))).trans (M.keep b o z)
  have ob : ObjOk X.prog X.w (upd H1 d (.xd fs)) G' d (.xd fs) := ⟨_, M.ns.at (fun o z => (gk d M.dne).trans z), hr⟩
  have J : Inv X pins σ (upd H1 d (.xd fs)) ⟨G', g, dr, tk', os⟩ := I1.laid (t' := tk') old M.dbig ob
  refine ⟨e, oe, fv, ⟨G', g, dr, tk', os⟩, _, .ref C, some d, rfl, J, fun b o z => ?_, ge, hoe, ⟨hc, hd, fun vs z => ?_⟩, hdat, h1, ?_, rfl, I1.bare, rs, q⟩
  · by_cases hb : b = e
    · rw [hb, ge] at z
      cases z
    · exact (gk b hb).symm.trans z
  · rw [hdat] at z
    cases z
    exact h2
  · rw [upd_ne (Ne.symm M.dne)]
    exact I1.hok.fresh M.new
theorem pmk_e1 {nm qn y : Str} {body : List Stmt} {a : Expr} {ta : TA} {p pos : Pos} {k : Nat} (m : Mk0 X.prog X.K X.mg) (T : PySem.ErX.ErTxt X.prog X.K X.mg nm qn C fI [y] body) (B : PySem.ErX.Body1 y body) (sc : PySem.ErX.ScOk [y]) (hr : Room k X.A) (ha : PA X [a] ta) (hg : Gl X nm)
    (hdb : (nm == ("__debug__" : Str)) = false := by decide) (he : starEach (a :: []) X.env = (false, eval a X.env) :: starEach [] X.env := by rfl) (hpl : (backTo pos (starEach [] X.env)).any (·.1) = false := by rfl) :
    L2N.PMk X (.Call (.Name nm p) [a] [] pos) (tMkE C [y] ta) := by
  intro pins s σ H Q I h
  refine wpAny_Call_Name_kw (ld_glob I hg T.gC ?_ hdb)
  refine PySem.W.callWith_K (h₀ := X.base) I.ok.mod.kin T.kC (thn (ha.run pos pins s σ H _ I h) fun us s1 ⟨vs, H1, I1, r1, hl, q1⟩ => ⟨I1.kIn, ?_⟩) he hpl
  obtain ⟨v, rfl⟩ : ∃ v, vs = [v] := List.length_eq_one_iff.mp hl
  obtain ⟨u, rfl, rv⟩ := vals1 r1
  show wpAny _ _ (call (.ref C) [u]) _ _ _
  have W := wd_of m I1
  obtain ⟨hp, g, dr, tk, os⟩ := s1
  have hroom : X.A.in1.depth + 1 < recursionLimit := by
    have := hr.dp
    show X.A.depth + 1 < recursionLimit
    omega
  refine wpAny_call (PySem.ErX.made1 T B sc W hroom fun h' tk' e d M => ?_)
  show L2N.MkP X pins σ Q (.ref e) ⟨h', g, dr, tk', os⟩
  exact mk_left I1 M (fun f => relO_put1 y rv f) (raises_own T.exC T.tyC) (q1 d (I1.hok.fresh M.dbig))
/-- raise X(e) -/
def tRaiseE (C : Addr) (ys : List Str) (W : WX) (ta : TA) : TS := fun _ σ H => tMkE C ys ta σ H fun cls d H' => W cls d σ H'
theorem ps_raiseE1 {nm qn y : Str} {body : List Stmt} {a : Expr} {ta : TA} {W : WX} {p pos pos2 : Pos} {k : Nat} (hc : X.calm = true) (m : Mk0 X.prog X.K X.mg) (T : PySem.ErX.ErTxt X.prog X.K X.mg nm qn C fI [y] body) (B : PySem.ErX.Body1 y body) (sc : PySem.ErX.ScOk [y]) (hr : Room k X.A) (tk : L2N.Takes X W) (ha : PA X [a] ta)
    (hg : Gl X nm := by rfl) (hdb : (nm == ("__debug__" : Str)) = false := by decide) (he : starEach (a :: []) X.env = (false, eval a X.env) :: starEach [] X.env := by rfl) (hpl : (backTo pos (starEach [] X.env)).any (·.1) = false := by rfl) :
    PS X (.Raise (some (.Call (.Name nm p) [a] [] pos)) none pos2) (tRaiseE C [y] W ta) := L2N.ps_raise hc tk (pmk_e1 m T B sc hr ha hg hdb he hpl)
theorem pmk_e2 {nm qn y z : Str} {body : List Stmt} {a b : Expr} {ta : TA} {p pos : Pos} {k : Nat} (m : Mk0 X.prog X.K X.mg) (T : PySem.ErX.ErTxt X.prog X.K X.mg nm qn C fI [y, z] body) (B : PySem.ErX.Body2 y z body) (sc : PySem.ErX.ScOk [y, z]) (hyz : (y == z) = false) (hr : Room k X.A) (ha : PA X [a, b] ta) (hg : Gl X nm)
    (hdb : (nm == ("__debug__" : Str)) = false := by decide) (he : starEach (a :: [b]) X.env = (false, eval a X.env) :: starEach [b] X.env := by rfl) (hpl : (backTo pos (starEach [b] X.env)).any (·.1) = false := by rfl) :
    L2N.PMk X (.Call (.Name nm p) [a, b] [] pos) (tMkE C [y, z] ta) := by
  intro pins s σ H Q I h
  refine wpAny_Call_Name_kw (ld_glob I hg T.gC ?_ hdb)
  refine PySem.W.callWith_K (h₀ := X.base) I.ok.mod.kin T.kC (thn (ha.run pos pins s σ H _ I h) fun us s1 ⟨vs, H1, I1, r1, hl, q1⟩ => ⟨I1.kIn, ?_⟩) he hpl
  obtain ⟨v, v2, rfl⟩ : ∃ v v2, vs = [v, v2] := by
    match vs, hl with
    | [v, v2], _ => exact ⟨v, v2, rfl⟩
  obtain ⟨u, u2, rfl, rv, rv2⟩ := vals2 r1
  show wpAny _ _ (call (.ref C) [u, u2]) _ _ _
  have W := wd_of m I1
  obtain ⟨hp, g, dr, tk, os⟩ := s1
  have hroom : X.A.in1.depth + 1 < recursionLimit := by
    have := hr.dp
    show X.A.depth + 1 < recursionLimit
    omega
  refine wpAny_call (PySem.ErX.made2 T B sc hyz W hroom fun h' tk' e d M => ?_)
  show L2N.MkP X pins σ Q (.ref e) ⟨h', g, dr, tk', os⟩
  exact mk_left I1 M (fun f => relO_put2 y z rv rv2 (beq_eq_false_iff_ne.mp hyz) f) (raises_own T.exC T.tyC) (q1 d (I1.hok.fresh M.dbig))
theorem ps_raiseE2 {nm qn y z : Str} {body : List Stmt} {a b : Expr} {ta : TA} {W : WX} {p pos pos2 : Pos} {k : Nat} (hc : X.calm = true) (m : Mk0 X.prog X.K X.mg) (T : PySem.ErX.ErTxt X.prog X.K X.mg nm qn C fI [y, z] body) (B : PySem.ErX.Body2 y z body) (sc : PySem.ErX.ScOk [y, z]) (hyz : (y == z) = false) (hr : Room k X.A) (tk : L2N.Takes X W) (ha : PA X [a, b] ta)
    (hg : Gl X nm := by rfl) (hdb : (nm == ("__debug__" : Str)) = false := by decide) (he : starEach (a :: [b]) X.env = (false, eval a X.env) :: starEach [b] X.env := by rfl) (hpl : (backTo pos (starEach [b] X.env)).any (·.1) = false := by rfl) :
    PS X (.Raise (some (.Call (.Name nm p) [a, b] [] pos)) none pos2) (tRaiseE C [y, z] W ta) := L2N.ps_raise hc tk (pmk_e2 m T B sc hyz hr ha hg hdb he hpl)
end
end ErY
/-! The head's facts of such errors, read by a hook. -/
namespace HeZ
open PySem PySem.Spec PyProof.Rows L2 He
/-- an error's class: its name, its maker's qualified name, its values, the maker's parameters and body -/
structure ErD where
  nm : Str
  qn : Str
  xs : List Str
  ps : List Arg
  body : List Stmt
def mkA (K : PySem.W.Frag) (nm : Str) : Addr := ma K (ga K nm) "__init__"
def clsB (K : PySem.W.Frag) (C : Addr) : Bool := match K.lookup C with
  | some ⟨.type "type", _, .cls cd, sl⟩ => (match cd.mro, sl.toList with
    | .ref C' :: bm, [_, _, _, _, some (.builtin n), _] => C' == C && (n == "ValueError.__new__" && (!cd.hasDel && (cd.hasDict && PySem.HandSPX.refsVE bm)))
    | _, _ => false)
  | _ => false
theorem clsB_ok {K : PySem.W.Frag} {C : Addr} (q : clsB K C = true) : ∃ nm' q N bs bm sn sub ab col dd k0 k1 k2 k3 k5, K.lookup C = some (excClassObj nm' q C N bs bm true sn sub ab col dd k0 k1 k2 k3 k5 "ValueError.__new__") ∧ PySem.HandSPX.refsVE bm = true := by
  unfold clsB at q
  split at q
  · rename_i dd cd sl ho
    split at q
    · rename_i C' bm k0 k1 k2 k3 n k5 hm hs
      simp only [Bool.and_eq_true, beq_iff_eq, Bool.not_eq_true'] at q
      obtain ⟨rfl, rfl, hdel, hdct, ht⟩ := q
      obtain ⟨nm, bs, mro, ns, qn, hd, sn, sub, ab, col, del⟩ := cd
      dsimp only at hm hdel hdct
      subst hm hdel hdct
      obtain ⟨l⟩ := sl
      simp only at hs
      subst hs
      exact ⟨nm, qn, ns, bs, bm, sn, sub, ab, col, dd, k0, k1, k2, k3, k5, ho, ht⟩
    · cases q
  · cases q
abbrev ErV : Type := Option (Str × Str × Arguments × FuncBody × Scope × Addr × List Str × Value × Value × Addr)
def erV (K : PySem.W.Frag) (d : ErD) : ErV := match K.lookup (mkA K d.nm) with
  | some ⟨_, _, .func fd, _⟩ => some (fd.name, fd.qualname, fd.params, fd.body, fd.scope, fd.globals, fd.closure.map (·.1), fd.defaults, fd.kwdefaults, fd.builtins)
  | _ => none
def ErD.val (d : ErD) : ErV := some ("__init__", d.qn, PySem.ErX.prms d.ps, .stmts d.body, PySem.ErX.scp d.xs, mainGlobals, ["__class__"], .none, .none, builtinsNs)
/-- the code object and the cell of a maker -/
def codB (K : PySem.W.Frag) (file : Str) (C : Addr) (qn : Str) (fd : FuncData) : Bool := match fd.code, fd.closure with
  | .ref cda, [(_, cc)] => PySem.W.codeIn K (.ref cda) qn && ((match K.lookup cda with
      | some ⟨_, _, Data.fields vs, _⟩ => (match (vs[2]? : Option Value) with
        | some (Value.str f _) => file == f
        | _ => false)
      | _ => false) && (match K.lookup cc with
      | some ⟨_, _, .cell (some (.ref D)), _⟩ => D == C
      | _ => false))
  | _, _ => false
theorem codB_ok {K : PySem.W.Frag} {file : Str} {C : Addr} {qn : Str} {fd : FuncData} (h : codB K file C qn fd = true) :
    ∃ (cda cc : Addr) (z : Str) (ccl : Value) (cdd : Option Addr) (vs : Array Value) (ccs : Array (Option Value)) (f : Str) (tf : Tok) (cl : Value) (cld : Option Addr) (csl : Array (Option Value)),
      fd.code = .ref cda ∧ fd.closure = [(z, cc)] ∧ PySem.W.codeIn K (.ref cda) qn = true ∧ K.lookup cda = some ⟨ccl, cdd, .fields vs, ccs⟩ ∧ vs[2]? = some (.str f tf) ∧ (file == f) = true ∧ K.lookup cc = some ⟨cl, cld, .cell (some (.ref C)), csl⟩ := by
  unfold codB at h
  split at h
  · rename_i cda z cc hc hcl
    obtain ⟨h1, h0⟩ := ba h
    obtain ⟨h2, h3⟩ := ba h0
    clear h0 h
    split at h2
    · rename_i ccl cdd vs ccs hl
      split at h2
      · rename_i f tf hv
        split at h3
        · rename_i cl cld D csl hk
          have e : D = C := by simpa using h3
          subst e
          exact ⟨cda, cc, z, ccl, cdd, vs, ccs, f, tf, cl, cld, csl, hc, hcl, h1, hl, hv, h2, hk⟩
        · cases h3
      · cases h2
    · cases h2
  · cases h
def erB (K : PySem.W.Frag) (file : Str) (d : ErD) : Bool :=
  clsB K (ga K d.nm) && (PySem.W.excInitIn K (ga K d.nm) veBase "ValueError.__new__" && (eqO (PySem.W.findIn K (.ref (ga K d.nm)) "__setattr__") (some (some (.builtin "object.__setattr__"))) && (d.xs.all (fun x => eqO (PySem.W.findIn K (.ref (ga K d.nm)) x) (some none)) &&
  (eqO (PySem.W.findIn K (.ref (ga K d.nm)) "__init__") (some (some (.ref (mkA K d.nm)))) && (decide (PySem.W.typeIn K (.ref (mkA K d.nm)) = some (.type "function")) && (PySem.W.keepIn K (.ref (ga K d.nm)) && (decide (PySem.W.subIn K (.ref (ga K d.nm)) (.type "BaseException") = some true) &&
  (decide (PySem.W.subIn K (.ref (ga K d.nm)) (.type "ValueError") = some true) && (decide (PySem.W.typeIn K (.ref (ga K d.nm)) = some (.type "type")) && (decide (PySem.W.mroIn K (ga K d.nm) (.ref (ga K d.nm)) = some true) && (eqO (PySem.W.ks_superIn K (ga K d.nm) (ga K d.nm) "__init__") (some (some (.builtin "ValueError.__init__"))) &&
  (match K.lookup (mkA K d.nm) with
    | some ⟨_, _, .func fd, _⟩ => codB K file (ga K d.nm) d.qn fd
    | _ => false))))))))))))
/-- what such a class says -/
theorem erB_ok {P : Program} {K : PySem.W.Frag} {mg : Str → Option Value} {d : ErD} (g : mg d.nm = some (.ref (ga K d.nm))) (h : erB K P.main.file d = true) (v : erV K d = d.val) (hs : ∃ ar, d.ps.head? = some ar ∧ ar.arg = "self")
    (hb : ∀ (fd : FuncData) (s : Shared) (us : List Value), fd.params = PySem.ErX.prms d.ps → fd.defaults = .none → fd.kwdefaults = .none → us.length = d.xs.length + 1 → BindsTo s fd ⟨us, []⟩ ((("self" : Str) :: d.xs).zip us)) :
    PySem.ErX.ErTxt P K mg d.nm d.qn (ga K d.nm) (mkA K d.nm) d.xs d.body := by
  obtain ⟨h1, h⟩ := ba h
  obtain ⟨h2, h⟩ := ba h
  obtain ⟨h3, h⟩ := ba h
  obtain ⟨h4, h⟩ := ba h
  obtain ⟨h5, h⟩ := ba h
  obtain ⟨h6, h⟩ := ba h
  obtain ⟨h7, h⟩ := ba h
  obtain ⟨h8, h⟩ := ba h
  obtain ⟨h9, h⟩ := ba h
  obtain ⟨h10, h⟩ := ba h
  obtain ⟨h11, h⟩ := ba h
  obtain ⟨h12, h13⟩ := ba h
  refine ⟨g, clsB_ok h1, h2, eqO_ok h3, fun x hx => eqO_ok (List.all_eq_true.mp h4 x hx), eqO_ok h5, of_decide_eq_true h6, h7, of_decide_eq_true h8, of_decide_eq_true h9, of_decide_eq_true h10, of_decide_eq_true h11, eqO_ok h12, ?_⟩
  unfold erV at v
  split at h13
  · rename_i oc od fd osl hl
    rw [hl] at v
    obtain ⟨cda, cc, z, ccl, cdd, vs, ccs, f, tf, cl, cld, csl, e1, e2, e3, e4, e5, e6, e7⟩ := codB_ok h13
    obtain ⟨n1, n2, n3, n4, n5, n6, n7, n8, n9, n10, n11, n12, n13, n14, n15⟩ := fd
    have e0 : (some (n1, n2, n3, n4, n5, n6, n7.map (·.1), n8, n9, n15) : ErV) = d.val := v
    unfold ErD.val at e0
    simp only [Option.some.injEq, Prod.mk.injEq] at e0
    obtain ⟨g1, g2, g3, g4, g5, g6, g7, g8, g9, g10⟩ := e0
    dsimp only at e1 e2
    subst e2
    have g7' : z = "__class__" := by simpa using g7
    subst g1 g2 g3 g4 g5 g6 g7' g8 g9 g10 e1
    exact ⟨_, oc, od, osl, cda, cc, ccl, cdd, vs, ccs, f, tf, cl, cld, csl, hl, ⟨d.ps, n10, n11, n12, n14, rfl, hs⟩, e3, e4, e5, e6, e7, fun s us hu => hb _ s us rfl rfl rfl hu⟩
  · cases h13
/-- what isinstance and a value's reading ask of a class -/
def ecB (K : PySem.W.Frag) (C : Addr) : Bool :=
  (PySem.W.clsIn K C).isSome && (eqO (PySem.W.findIn K (.ref C) "__getattribute__") (some (some (.builtin "BaseException.__getattribute__"))) && (eqO (PySem.W.findIn K (.ref C) "__getattr__") (some none) && (decide (PySem.W.subIn K (.ref C) (.type "BaseException") = some true) &&
  (PySem.W.hasDictIn K C && (eqO (PySem.W.findIn K (.ref C) "__class__") (some (some (.builtin "object.__class__"))) && (eqO (PySem.W.specialIn K (.builtin "object.__class__") "__get__") (some (some (.builtin "getset_descriptor.__get__"))) && (decide (PySem.W.takesIn K (.builtin "object.__class__") = some true) && decide (PySem.W.mroIn K C (.type "object") = some true))))))))
theorem ecB_ok {K : PySem.W.Frag} {C : Addr} (h : ecB K C = true) : ErY.ErC K C := by
  obtain ⟨h1, h⟩ := ba h
  obtain ⟨h2, h⟩ := ba h
  obtain ⟨h3, h⟩ := ba h
  obtain ⟨h4, h⟩ := ba h
  obtain ⟨h5, h⟩ := ba h
  obtain ⟨h6, h⟩ := ba h
  obtain ⟨h7, h⟩ := ba h
  obtain ⟨h8, h9⟩ := ba h
  exact ⟨h1, eqO_ok h2, eqO_ok h3, of_decide_eq_true h4, h5, eqO_ok h6, eqO_ok h7, of_decide_eq_true h8, of_decide_eq_true h9⟩
/-- a table of isinstance: the class named x, asked for each of these -/
def isB (K : PySem.W.Frag) (x : Str) (l : List (Str × Bool)) : Bool := l.all fun q => decide (PySem.W.kitOne K (.ref (ga K x)) (.ref (ga K q.1)) = some q.2)
theorem isB_ok {K : PySem.W.Frag} {x : Str} {l : List (Str × Bool)} (h : isB K x l = true) {y : Str} {b : Bool} (hm : (y, b) ∈ l) : PySem.W.kitOne K (.ref (ga K x)) (.ref (ga K y)) = some b := of_decide_eq_true (List.all_eq_true.mp h _ hm)
/-! ### properties, own classes -/
/-- the getter of the property named p.2 of the class named p.1 -/
def gfA (K : PySem.W.Frag) (p : Str × Option Str) : Addr := match PySem.W.recIn K (fAd K p) "property" with
  | some (.ref g :: _) => g
  | _ => 0
def gtB (K : PySem.W.Frag) (d : DefD) : Bool :=
  eqO (PySem.W.findIn K (.ref (ga K d.at_.1)) d.name) (some (some (.ref (fAd K d.at_)))) && (eqO (PySem.W.specialIn K (.ref (fAd K d.at_)) "__get__") (some (some (.builtin "property.__get__"))) && (decide (PySem.W.takesIn K (.ref (fAd K d.at_)) = some true) &&
  ((match PySem.W.recIn K (fAd K d.at_) "property" with
    | some (.ref _ :: _) => true
    | _ => false) && (PySem.W.keepIn K (.ref (gfA K d.at_)) && (match K.lookup (gfA K d.at_) with
  | some ⟨_, _, .func fd, _⟩ => PySem.W.codeIn K fd.code d.qual && (dflB K fd.defaults [] && kwdB K fd.kwdefaults [])
  | _ => false)))))
def gtW (K : PySem.W.Frag) (p : Str × Option Str) : FnW := match K.lookup (gfA K p) with
  | some ⟨_, _, .func fd, _⟩ => some (fd.name, fd.qualname, fd.params, fd.body, fd.scope, fd.globals, fd.closure, fd.builtins)
  | _ => none
theorem gtB_ok {K : PySem.W.Frag} {d : DefD} (e : gtW K d.at_ = d.val) (c : gtB K d = true) :
    PropOf K (ga K d.at_.1) d.name (fAd K d.at_) (gfA K d.at_) ∧ ∃ fd, FunD K d.name d.qual d.params d.body d.scope [] [] (gfA K d.at_) fd := by
  obtain ⟨c1, c⟩ := ba c
  obtain ⟨c2, c⟩ := ba c
  obtain ⟨c3, c⟩ := ba c
  obtain ⟨c4, c⟩ := ba c
  obtain ⟨kp, c5⟩ := ba c
  refine ⟨⟨eqO_ok c1, eqO_ok c2, of_decide_eq_true c3, ?_⟩, ?_⟩
  · unfold gfA
    split at c4
    · rename_i g rest hg
      exact ⟨rest, by rw [hg]⟩
    · cases c4
  · unfold gtW at e
    cases q : K.lookup (gfA K d.at_) with
    | none =>
      rw [q] at c5
      cases c5
    | some o =>
      obtain ⟨oc, od, dt, osl⟩ := o
      rw [q] at c5 e
      cases dt with
      | func fd =>
        obtain ⟨n1, n2, n3, n4, n5, n6, n7, n8, n9, n10, n11, n12, n13, n14, n15⟩ := fd
        have e2 : (some (n1, n2, n3, n4, n5, n6, n7, n15) : FnW) = some (d.name, d.qual, d.params, .stmts d.body, d.scope, mainGlobals, [], builtinsNs) := e
        simp only [Option.some.injEq, Prod.mk.injEq] at e2
        obtain ⟨h1, h2, h3, h4, h5, h6, h7, h8⟩ := e2
        subst h1 h2 h3 h4 h5 h6 h7 h8
        have c3 : (PySem.W.codeIn K n13 d.qual && (dflB K n8 [] && kwdB K n9 [])) = true := c5
        obtain ⟨k1, k2⟩ := ba c3
        obtain ⟨k3, k4⟩ := ba k2
        exact ⟨_, ⟨oc, od, n8, n9, n10, n11, n12, n13, n14, osl, rfl, q, k1, dflB_ok k3, kwdB_ok k4⟩, kp⟩
      | _ => cases c5
/-- what isinstance asks of an own class -/
structure OwnC (K : PySem.W.Frag) (C : Addr) : Prop where
  ca : PySem.W.findIn K (.ref C) "__class__" = some (some (.builtin "object.__class__"))
  cg : PySem.W.specialIn K (.builtin "object.__class__") "__get__" = some (some (.builtin "getset_descriptor.__get__"))
  ct : PySem.W.takesIn K (.builtin "object.__class__") = some true
  mo : PySem.W.mroIn K C (.type "object") = some true
def owB (K : PySem.W.Frag) (C : Addr) : Bool := eqO (PySem.W.findIn K (.ref C) "__class__") (some (some (.builtin "object.__class__"))) && (eqO (PySem.W.specialIn K (.builtin "object.__class__") "__get__") (some (some (.builtin "getset_descriptor.__get__"))) && (decide (PySem.W.takesIn K (.builtin "object.__class__") = some true) && decide (PySem.W.mroIn K C (.type "object") = some true)))
theorem owB_ok {K : PySem.W.Frag} {C : Addr} (h : owB K C = true) : OwnC K C := by
  obtain ⟨h1, h⟩ := ba h
  obtain ⟨h2, h⟩ := ba h
  obtain ⟨h3, h4⟩ := ba h
  exact ⟨eqO_ok h1, eqO_ok h2, of_decide_eq_true h3, of_decide_eq_true h4⟩
theorem OwnC.ty {K : PySem.W.Frag} {H : Hp} {C a dx : Addr} {fs : List (Str × V)} (o : OwnC K C) (c : Cls K C) (h : H a = some (.ins C dx fs)) : TyX K H (.ref a) (.ref C) := .base (.ins h c o.ca o.cg o.ct o.mo)
/-- a table of isinstance: built-in types by name, the class named y -/
def isT (K : PySem.W.Frag) (y : Str) (l : List (String × Bool)) : Bool := l.all fun q => decide (PySem.W.kitOne K (.type q.1) (.ref (ga K y)) = some q.2)
theorem isT_ok {K : PySem.W.Frag} {y : Str} {l : List (String × Bool)} (h : isT K y l = true) {t : String} {b : Bool} (hm : (t, b) ∈ l) : PySem.W.kitOne K (.type t) (.ref (ga K y)) = some b := of_decide_eq_true (List.all_eq_true.mp h _ hm)
/-- == of an instance: the other's type is no heir -/
def nfT (K : PySem.W.Frag) (y : Str) (l : List String) : Bool := PySem.W.notFirst K (ga K y) (.ref (ga K y)) && l.all fun q => PySem.W.notFirst K (ga K y) (.type q)
theorem nfT_self {K : PySem.W.Frag} {y : Str} {l : List String} (h : nfT K y l = true) : PySem.W.notFirst K (ga K y) (.ref (ga K y)) = true := (ba h).1
theorem nfT_ok {K : PySem.W.Frag} {y : Str} {l : List String} (h : nfT K y l = true) {t : String} (hm : t ∈ l) : PySem.W.notFirst K (ga K y) (.type t) = true := List.all_eq_true.mp (ba h).2 _ hm
/-! ### the hook -/
abbrev AlZ : Type := AlD × Bool × List ErV × List FnW
def obsZ (file : Str) (fa : List Fa) (fn : List DefD) (er : List ErD) (gs : List DefD) (ex : PySem.W.Frag → Bool) (K : PySem.W.Frag) : AlZ := (obsD fa fn K, (er.all (erB K file) && (gs.all (gtB K) && (eqO (PySem.W.nsIn K PySem.cStatics "thirdparty.any") (some none) && ex K))), er.map (erV K), gs.map fun d => gtW K d.at_)
def valZ (fn : List DefD) (er : List ErD) (gs : List DefD) : AlZ := (valD fn, true, er.map ErD.val, gs.map DefD.val)
def SaysZ (file : Str) (fa : List Fa) (fn : List DefD) (er : List ErD) (gs : List DefD) (ex : PySem.W.Frag → Bool) (K : PySem.W.Frag) : Prop := obsZ file fa fn er gs ex K = valZ fn er gs
/-- .. and what a property's getter needs -/
def asP (g : Addr → Option Obj) (n : Nat) : List Addr := PySem.cStatics :: (asD g n) ++ (asD g n).flatMap fun a => match g a with
  | some ⟨.type "property", _, .fields vs, _⟩ => vs.toList.flatMap fun v => (match v with
    | .ref b => b :: (match g b with
      | some o => refsO o
      | none => [])
    | _ => [])
  | _ => []
def obsZG (file : Str) (n : Nat) (fa : List Fa) (fn : List DefD) (er : List ErD) (gs : List DefD) (ex : PySem.W.Frag → Bool) (g : Addr → Option Obj) : AlZ := obsZ file fa fn er gs ex (frG g (asP g n))
def hookZ (file : Str) (n : Nat) (fa : List Fa) (fn : List DefD) (er : List ErD) (gs : List DefD) (ex : PySem.W.Frag → Bool) : PySem.W.Hook where
  α := AlZ
  obs := fun s => obsZG file n fa fn er gs ex s.heap.get?
  val := fun _ => valZ fn er gs
  says := fun _ h => ∃ K : PySem.W.Frag, K.In h ∧ SaysZ file fa fn er gs ex K
  of := fun _ _ e => ⟨_, frG_in, e⟩
  keeps := fun _ _ _ ⟨K, hK, c⟩ k => ⟨K, PySem.W.Frag.In.keeps hK k, c⟩
theorem obsZG_eq {file : Str} {n : Nat} {fa : List Fa} {fn : List DefD} {er : List ErD} {gs : List DefD} {ex : PySem.W.Frag → Bool} {g : Addr → Option Obj} {s : Shared} (h : ∀ a, g a = s.heap.get? a) : obsZG file n fa fn er gs ex g = (hookZ file n fa fn er gs ex).obs s := by
  have e : g = s.heap.get? := funext h
  rw [e] <;> rfl
section
variable {file : Str} {fa : List Fa} {fn : List DefD} {er : List ErD} {gs : List DefD} {ex : PySem.W.Frag → Bool} {K : PySem.W.Frag}
theorem SaysZ.d (c : SaysZ file fa fn er gs ex K) : SaysD fa fn K := congrArg (fun z : AlZ => z.1) c
theorem SaysZ.all (c : SaysZ file fa fn er gs ex K) : (er.all (erB K file) && (gs.all (gtB K) && (eqO (PySem.W.nsIn K PySem.cStatics "thirdparty.any") (some none) && ex K))) = true := congrArg (fun z : AlZ => z.2.1) c
theorem SaysZ.more (c : SaysZ file fa fn er gs ex K) : ex K = true := (ba (ba (ba c.all).2).2).2
theorem SaysZ.tp (c : SaysZ file fa fn er gs ex K) : PySem.W.nsIn K PySem.cStatics "thirdparty.any" = some none := eqO_ok (ba (ba (ba c.all).2).2).1
theorem SaysZ.err (c : SaysZ file fa fn er gs ex K) {d : ErD} (hd : d ∈ er) : erB K file d = true ∧ erV K d = d.val := by
  refine ⟨List.all_eq_true.mp (ba c.all).1 d hd, ?_⟩
  have e : er.map (erV K) = er.map ErD.val := congrArg (fun z : AlZ => z.2.2.1) c
  exact (List.map_inj_left.mp e) d hd
theorem SaysZ.get (c : SaysZ file fa fn er gs ex K) {d : DefD} (hd : d ∈ gs) : PropOf K (ga K d.at_.1) d.name (fAd K d.at_) (gfA K d.at_) ∧ ∃ fd, FunD K d.name d.qual d.params d.body d.scope [] [] (gfA K d.at_) fd := by
  have e : gs.map (fun d => gtW K d.at_) = gs.map DefD.val := congrArg (fun z : AlZ => z.2.2.2) c
  exact gtB_ok ((List.map_inj_left.mp e) d hd) (List.all_eq_true.mp (ba (ba c.all).2).1 d hd)
end
end HeZ
/-! Operators by what stands there; a def by its name; heaps that grow. -/
namespace Lw
open PySem PySem.Spec PyProof.Rows L2
/-! ### operators -/
section
variable {X : Cx}
def CPowA (i j : Int) : Prop := 0 ≤ j ∧ (Builtin.Int.intBits i : Int) * j ≤ 2 ^ 27
theorem op_powA : OpR X (binaryOp .Pow) (rI CPowA fun i j => .int (i ^ j.toNat)) := opI fun _ _ _ _ _ _ _ hc q => pow_int hc.1 hc.2 q
def CMulA (i j : Int) : Prop := CMul i j ∨ CMulW i j
theorem op_mulA : OpR X (binaryOp .Mult) (rI CMulA fun i j => .int (i * j)) := opI fun _ _ _ _ _ _ _ hc q => mul_int q (hc.elim CMul.ok CMulW.ok)
/-- ints, texts, lists, tuples -/
def rAdd (K : PySem.W.Frag) : R2 := fun x y H Q => match x, y with
  | .int i, .int j => Q (.int (i + j)) H
  | .str i, .str j => i.length + j.length ≤ sizeLine ∧ Q (.str (i ++ j)) H
  | .ref a, .ref b => rCat (.ref a) (.ref b) H Q ∨ rCatT K (.ref a) (.ref b) H Q
  | _, _ => False
theorem op_addA : OpR X (binaryOp .Add) (rAdd X.K) := by
  intro pins s σ H x y v u Q I rx ry h
  match x, y, h with
  | .int i, .int j, h => exact op_add pins s σ H _ _ v u Q I rx ry ⟨i, j, rfl, rfl, h⟩
  | .str i, .str j, h => exact op_add_str pins s σ H _ _ v u Q I rx ry ⟨i, j, rfl, rfl, h⟩
  | .ref a, .ref b, h => exact (op_cat.or op_catT) pins s σ H _ _ v u Q I rx ry h
end
/-! ### a def by its name -/
/-- the module's name x stands for a def that keeps the promise sp -/
def Dn (P : Program) (w : World) (K : PySem.W.Frag) (mg : Str → Option Value) (base : Heap) (CX : CXT) (k : Nat) (x : Str) (ps : List Str) (sp : Sp) : Prop :=
  ∃ (f : Addr) (fd : FuncData), mg x = some (.ref f) ∧ PySem.W.keepIn K (.ref f) = true ∧ Binds K fd ps [] ∧ FnOk P w K mg base CX k f fd ps sp
section
variable {X : Cx} {CX : CXT} {k : Nat} {ps : List Str} {sp : Sp} {E : XK} {x : Str} {p pos : Pos} {e : Expr} {es : List Expr} {t : TA}
theorem pe_d (D : Dn X.prog X.w X.K X.mg X.base CX k x ps sp) (hr : Room k X.A) (hg : Gl X x) (hx : Passes CX X E) (ha : PA X (e :: es) t)
    (hdb : (x == ("__debug__" : Str)) = false := by decide) (he : starEach (e :: es) X.env = (false, eval e X.env) :: starEach es X.env := by rfl) (hpl : (backTo pos (starEach es X.env)).any (·.1) = false := by rfl) :
    PE X (.Call (.Name x p) (e :: es) [] pos) (tCall sp [] E t) :=
  let ⟨_, _, h1, h2, h3, h4⟩ := D
  pe_call h4 hr hg h1 h2 h3 .nil hx ha hdb he hpl
theorem pe_d0 (D : Dn X.prog X.w X.K X.mg X.base CX k x ps sp) (hr : Room k X.A) (hg : Gl X x) (hx : Passes CX X E) (hdb : (x == ("__debug__" : Str)) = false := by decide) : PE X (.Call (.Name x p) [] [] pos) (tCall sp [] E tNil) :=
  let ⟨_, _, h1, h2, h3, h4⟩ := D
  pe_call0 h4 hr hg h1 h2 h3 .nil hx hdb
end
/-! ### heaps -/
/-- all that is tracked stays, but for what may change at s: a list whose first entry stays -/
def Kp (s : Addr) (H H' : Hp) : Prop := (∀ a o, a ≠ s → H a = some o → H' a = some o) ∧ ∀ v xs, H s = some (.lst (v :: xs)) → ∃ ys, H' s = some (.lst (v :: ys))
/-- all that is tracked stays -/
def Ex (H H' : Hp) : Prop := ∀ a o, H a = some o → H' a = some o
theorem Ex.refl {H : Hp} : Ex H H := fun _ _ h => h
theorem Ex.trans {H H1 H2 : Hp} (a : Ex H H1) (b : Ex H1 H2) : Ex H H2 := fun x o h => b x o (a x o h)
theorem Ex.new {H H1 : Hp} {p : Addr} {o : HO} (e : Ex H H1) (h : H1 p = none) : Ex H (upd H1 p o) := fun a u z => by
  rw [upd_ne (ne_of_none (e a u z) h)]
  exact e a u z
theorem Ex.at {H H1 : Hp} {p : Addr} {o : HO} (e : Ex H H1) (h : H p = none) : Ex H (upd H1 p o) := fun a u z => by
  rw [upd_ne (ne_of_none z h)]
  exact e a u z
theorem Ex.none {H H1 : Hp} {p : Addr} (e : Ex H H1) (h : H1 p = none) : H p = none := by
  cases q : H p with
  | none => rfl
  | some o =>
    rw [e p o q] at h
    cases h
theorem Kp.refl {s : Addr} {H : Hp} : Kp s H H := ⟨fun _ _ _ h => h, fun _ _ h => ⟨_, h⟩⟩
theorem Ex.kp {s : Addr} {H H' : Hp} (e : Ex H H') : Kp s H H' := ⟨fun a o _ h => e a o h, fun _ _ h => ⟨_, e _ _ h⟩⟩
theorem Kp.trans {s : Addr} {H H1 H2 : Hp} (a : Kp s H H1) (b : Kp s H1 H2) : Kp s H H2 := ⟨fun x o n h => b.1 x o n (a.1 x o n h), fun v xs h =>
  let ⟨_, h1⟩ := a.2 v xs h
  b.2 _ _ h1⟩
theorem Kp.new {s : Addr} {H H1 : Hp} {p : Addr} {o : HO} (e : Kp s H H1) (h : H1 p = none) : Kp s H (upd H1 p o) := e.trans (Ex.refl.new h).kp
theorem Kp.set {s : Addr} {H H1 : Hp} {v : V} {xs ys : List V} (e : Kp s H H1) (h : H1 s = some (.lst (v :: xs))) : Kp s H (upd H1 s (.lst (v :: ys))) := e.trans ⟨fun a u n z => by
  rw [upd_ne n]
  exact z, fun w zs z => by
  rw [h] at z
  cases z
  exact ⟨_, upd_same⟩⟩
theorem Kp.at {s : Addr} {H H1 : Hp} {p : Addr} {o : HO} (e : Kp s H H1) (h : H p = none) (hn : p ≠ s) : Kp s H (upd H1 p o) := ⟨fun a u n z => by
  rw [upd_ne (ne_of_none z h)]
  exact e.1 a u n z, fun v xs z =>
  let ⟨ys, q⟩ := e.2 v xs z
  ⟨ys, by rw [upd_ne (Ne.symm hn)]; exact q⟩⟩
theorem look_new {H : Hp} {p a : Addr} {o u : HO} (hp : H p = none) (h : H a = some u) : upd H p o a = some u := by
  rw [upd_ne (ne_of_none h hp)]
  exact h
theorem look_ne {H : Hp} {p a : Addr} {o u : HO} (hn : a ≠ p) (h : H a = some u) : upd H p o a = some u := by
  rw [upd_ne hn]
  exact h
theorem ex_rd {H H' : Hp} {a : Addr} {u : HO} (e : Ex H H') (h : Rd H a u) : Rd H' a u := h.elim (fun h => .inl (e _ _ h)) fun ⟨o, h⟩ => .inr ⟨o, e _ _ h⟩
theorem Ex.l {K : PySem.W.Frag} {H H' : Hp} {a : Addr} {xs : List V} (e : Ex H H') (h : SqL K H a xs) : SqL K H' a xs := h.elim (fun h => .inl (ex_rd e h)) .inr
theorem Ex.t {K : PySem.W.Frag} {H H' : Hp} {a : Addr} {xs : List V} (e : Ex H H') (h : SqT K H a xs) : SqT K H' a xs := h.elim (fun h => .inl (ex_rd e h)) .inr
theorem lOf {K : PySem.W.Frag} {H : Hp} {a : Addr} {xs : List V} (h : H a = some (.lst xs)) : SqL K H a xs := .inl (.inl h)
theorem tOf {K : PySem.W.Frag} {H : Hp} {a : Addr} {xs : List V} (h : H a = some (.tup xs)) : SqT K H a xs := .inl (.inl h)
end Lw
/-! Own classes: +, == by the text's own methods; defs that may raise. -/
namespace Lw
open PySem PySem.Spec PyProof.Rows L2
theorem passN {X : Cx} : Passes (L2N.CX X.prog X.w) X E0 := fun _ _ _ _ _ _ _ h => by
  obtain ⟨_, _, _, _, _, _, _, _, _, _, _, _, q⟩ := h
  exact q.elim
/-- in a def that may raise: what a callee lets out goes on -/
theorem passW {X : Cx} {E : XK} (tk : L2N.Takes X (fun cls d _ H => E cls d H)) : Passes (L2N.CX X.prog X.w) X E := fun _ σ _ _ e s' I c => tk e s' (L2N.XE.of_call I (fun _ _ _ h => h) c)
section
variable {X : Cx} {k : Nat} {ps : List Str} {sp : Sp} {x : Str} {p pos : Pos} {e : Expr} {es : List Expr} {t : TA} {W : WX}
/-- a def that may raise, called where W takes it -/
theorem pe_dS (D : Dn X.prog X.w X.K X.mg X.base (L2N.CX X.prog X.w) k x ps sp) (tk : L2N.Takes X W) (hr : Room k X.A) (hg : Gl X x) (ha : PA X (e :: es) t)
    (hdb : (x == ("__debug__" : Str)) = false := by decide) (he : starEach (e :: es) X.env = (false, eval e X.env) :: starEach es X.env := by rfl) (hpl : (backTo pos (starEach es X.env)).any (·.1) = false := by rfl) :
    PE X (.Call (.Name x p) (e :: es) [] pos) (tCallS sp (WE W) t) :=
  let ⟨_, _, h1, h2, h3, h4⟩ := D
  pe_callS h4 hr hg h1 h2 h3 (fun σ => L2N.passAt tk σ) ha hdb he hpl
end
/-! ### types of values, looked at -/
section
variable {X : Cx} {pins : List (Addr × Obj)} {σ : L2.St} {H : Hp} {s : Shared}
theorem looksTy {x : V} {u t : Value} (I : Inv X pins σ H s) (rx : RelV x u) (ty : TyX X.K H x t) : PySem.W.Looks (model X.prog X.w) s.heap (typeOf u) t :=
  let ⟨_, h1, h2, _⟩ := kit_of I rx ty
  h1.ty _ _ I.kIn h2
theorem rel_ni {v : V} {u : Value} (r : RelV v u) : u ≠ .notImplemented := by
  intro e
  subst e
  cases v <;> first | (cases r; done) | (obtain ⟨t, e⟩ := r; cases e)
theorem cmpBack {Q : VK} {u : Value} {s' : Shared} (h : EP X pins σ Q u s') : PySem.W.CmpBack (EP X pins σ Q) u s' := by
  obtain ⟨v, H', I', r, q⟩ := h
  have n := rel_ni r
  unfold PySem.W.CmpBack
  split
  · exact n rfl
  · exact ⟨v, H', I', r, q⟩
end
section
variable {X : Cx} {CX : CXT} {k : Nat} {C f : Addr} {fd : FuncData} {ps : List Str} {sp : Sp} {E : XK}
/-- x + y by the text's own __add__, both of the class at C -/
def rOwn (C : Addr) (sp : Sp) (E : XK) : R2 := fun x y H Q => ∃ a b dx dy fs gs, x = .ref a ∧ y = .ref b ∧ H a = some (.ins C dx fs) ∧ H b = some (.ins C dy gs) ∧ sp [.ref a, .ref b] H Q E
theorem op_own {op : Operator} (c : PySem.W.selfFirst X.K C = true) (hs : PySem.W.findIn X.K (.ref C) (PySem.dunder op.info.2) = some (some (.ref f))) (hf : PySem.W.isFn X.K (.ref f) = true) (F : FnOk X.prog X.w X.K X.mg X.base CX k f fd ps sp)
    (hr : Room k X.A) (hb : Binds X.K fd ps []) (hx : Passes CX X E) : OpR X (binaryOp op) (rOwn C sp E) := by
  intro pins s σ H x y v u Q I rx ry h
  obtain ⟨a, b, dx, dy, fs, gs, rfl, rfl, ha, hb', hsp⟩ := h
  cases rx
  cases ry
  obtain ⟨mA, J, _⟩ := ins_get I.hok ha
  obtain ⟨mB, J', _⟩ := ins_get I.hok hb'
  obtain ⟨od, J, _⟩ := J.look
  obtain ⟨od', J', _⟩ := J'.look
  obtain ⟨m, hF⟩ := I.fr
  refine PySem.W.binop_K hF I.ok.mod.kin J J'.type c hs hf (wpAny_mono (run_fn (us := [.ref a, .ref b]) (vs := [.ref a, .ref b]) F hr hb .nil hx I (.cons rfl (.cons rfl .nil)) hsp) (fun v s' q => cmpBack q) fun _ _ x => x)
/-- x == y by the text's own __eq__, x of the class at C -/
def rOwnEq (K : PySem.W.Frag) (C : Addr) (sp : Sp) (E : XK) : R2 := fun x y H Q => ∃ a dx fs t, x = .ref a ∧ H a = some (.ins C dx fs) ∧ TyX K H y t ∧ PySem.W.notFirst K C t = true ∧ sp [.ref a, y] H Q E
theorem op_ownEq (hu : X.A.units < cLine) (hs : PySem.W.findIn X.K (.ref C) "__eq__" = some (some (.ref f))) (hf : PySem.W.isFn X.K (.ref f) = true) (F : FnOk X.prog X.w X.K X.mg X.base CX k f fd ps sp)
    (hr : Room k X.A) (hb : Binds X.K fd ps []) (hx : Passes CX X E) : OpR X (compareOp .Eq) (rOwnEq X.K C sp E) := by
  intro pins s σ H x y v u Q I rx ry h
  obtain ⟨a, dx, fs, t, rfl, ha, ty, nf, hsp⟩ := h
  cases rx
  obtain ⟨mA, J, _⟩ := ins_get I.hok ha
  obtain ⟨od, J, _⟩ := J.look
  obtain ⟨m, hF⟩ := I.fr
  refine PySem.W.cmp_K (op := .Eq) hu hF I.ok.mod.kin J (looksTy I ry ty) nf hs hf (wpAny_mono (run_fn (us := [.ref a, u]) (vs := [.ref a, y]) F hr hb .nil hx I (.cons rfl (.cons ry .nil)) hsp) (fun v s' q => cmpBack q) fun _ _ x => x)
end
/-! ### methods -/
/-- the def at f keeps the promise sp -/
def Fm (P : Program) (w : World) (K : PySem.W.Frag) (mg : Str → Option Value) (base : Heap) (CX : CXT) (k : Nat) (f : Addr) (ps : List Str) (sp : Sp) : Prop := ∃ fd, Binds K fd ps [] ∧ FnOk P w K mg base CX k f fd ps sp
section
variable {X : Cx} {CX : CXT} {k : Nat} {C f : Addr} {ps : List Str} {sp : Sp} {E : XK} {x g : Str} {p pos : Pos} {e : Expr} {es : List Expr} {t : TA} {te tf : TE}
theorem Fm.r {P : Program} {w : World} {K : PySem.W.Frag} {mg : Str → Option Value} {base : Heap} (F : Fm P w K mg base CX k f ps sp) : FnR P w K mg base CX k f sp :=
  let ⟨_, hb, F⟩ := F
  (F.raw hb .nil).imp fun vs H Q E h => by
    rw [List.append_nil]
    exact h
theorem op_ownM {op : Operator} (c : PySem.W.selfFirst X.K C = true) (hs : PySem.W.findIn X.K (.ref C) (PySem.dunder op.info.2) = some (some (.ref f))) (hf : PySem.W.isFn X.K (.ref f) = true) (F : Fm X.prog X.w X.K X.mg X.base CX k f ps sp)
    (hr : Room k X.A) (hx : Passes CX X E) : OpR X (binaryOp op) (rOwn C sp E) :=
  let ⟨_, hb, F⟩ := F
  op_own c hs hf F hr hb hx
theorem op_ownEqM (hu : X.A.units < cLine) (m : Meth X.K C "__eq__" f) (F : Fm X.prog X.w X.K X.mg X.base CX k f ps sp) (hr : Room k X.A) (hx : Passes CX X E) : OpR X (compareOp .Eq) (rOwnEq X.K C sp E) :=
  let ⟨_, hb, F⟩ := F
  op_ownEq hu m.at_ m.fn F hr hb hx
/-- C(e, ..) -/
theorem pe_mk (F : Fm X.prog X.w X.K X.mg X.base CX k f ps sp) (M : Mk X.K C f) (hr : Room (k + 1) X.A) (hg : Gl X x) (hm : X.mg x = some (.ref C)) (hx : Passes CX X E)
    (ha : PA X (e :: es) t) (hdb : (x == ("__debug__" : Str)) = false := by decide) (he : starEach (e :: es) X.env = (false, eval e X.env) :: starEach es X.env := by rfl) (hpl : (backTo pos (starEach es X.env)).any (·.1) = false := by rfl) :
    PE X (.Call (.Name x p) (e :: es) [] pos) (tMake C sp [] E t) :=
  let ⟨_, hb, F⟩ := F
  pe_make M F hr hg hm hb .nil hx ha hdb he hpl
/-- e.g, a property -/
theorem pe_pr {pr : Addr} (F : Fm X.prog X.w X.K X.mg X.base CX k f ps sp) (c : Cls X.K C) (hp : PropOf X.K C g pr f) (hr : Room (k + 1) X.A) (hx : Passes CX X.nox E) (he : PE X e te)
    (hab : attributeBase e g X.env (eval e X.env) = eval e X.env := by rfl) : PE X (.Attribute e g pos) (tProp C sp [] E te) :=
  let ⟨_, hb, F⟩ := F
  pe_prop he c hp F hr hb .nil hx hab
/-- f(e, ..), f an instance -/
theorem pe_co {fe : Expr} (F : Fm X.prog X.w X.K X.mg X.base CX k f ps sp) (c : StX.CallO X.K C f) (hr : Room k X.A) (hx : Passes CX X E) (hf : PE X fe tf) (ha : PA X (e :: es) t)
    (ht : eval (.Call fe (e :: es) [] pos) X.env = (do callWith pos (← eval fe X.env) [] (backTo pos (starEach (e :: es) X.env)) (backToKw pos (keywordEach [] X.env))) := by rfl)
    (he : starEach (e :: es) X.env = (false, eval e X.env) :: starEach es X.env := by rfl) (hpl : (backTo pos (starEach es X.env)).any (·.1) = false := by rfl) : PE X (.Call fe (e :: es) [] pos) (StX.tCallO X C sp E tf t) :=
  StX.pe_callO hf c F.r hr hx ha ht he hpl
theorem tkOf {P : Program} {w : World} {K : PySem.W.Frag} {mg : Str → Option Value} {base : Heap} {N : List Str} {qual : Str} {scope : Scope} {f : Addr} {cdv : Value} {A : Around} {outer : List Env} {s : Shared} {H : Hp} {E : XK} :
    L2N.Takes (cxOf (L2N.CX P w) P w K mg base N qual scope f cdv A outer s H E) (fun cls d _ H => E cls d H) := L2N.takes_of rfl rfl rfl rfl
end
end Lw
namespace Lw
open PySem PySem.Spec PyProof.Rows L2
/-! ### the text by places -/
def topS (i : Nat) : Stmt := PySem.Challenge.pw_textbetween_k30_growths_add.main.body.getD i (.Pass ⟨0, 0, 0, 0⟩)
abbrev s_is_whole : Stmt := topS 34
abbrev s_growth_value : Stmt := topS 36
abbrev s_moved_constants : Stmt := topS 37
abbrev s_growth_of : Stmt := topS 39
abbrev s_l_store : Stmt := topS 41
abbrev s_l_mixed : Stmt := topS 42
abbrev s_l_take : Stmt := topS 43
abbrev s_l_wide : Stmt := topS 44
abbrev s_l_maybe : Stmt := topS 45
abbrev s_l_pick : Stmt := topS 46
abbrev s_l_odd : Stmt := topS 47
abbrev s_l_sort : Stmt := topS 48
abbrev s_l_same : Stmt := topS 49
abbrev s_l_growthparts : Stmt := topS 50
abbrev s_l_told : Stmt := topS 51
abbrev s_l_value : Stmt := topS 52
abbrev s_l_moved : Stmt := topS 53
abbrev s_l_added : Stmt := topS 54
abbrev s_l_call : Stmt := topS 55
abbrev s_l_fault : Stmt := topS 56
abbrev s_l_right : Stmt := topS 57
abbrev s_l_unlike : Stmt := topS 58
abbrev s_l_refused : Stmt := topS 59
abbrev s_law : Stmt := topS 60
abbrev s_Growth_init : Stmt := inClass (topS 38) 0
abbrev s_Growth_begin : Stmt := inClass (topS 38) 1
abbrev s_Growth_constants : Stmt := inClass (topS 38) 2
abbrev s_Growth_call : Stmt := inClass (topS 38) 3
abbrev s_Growth_add : Stmt := inClass (topS 38) 4
abbrev s_Growth_eq : Stmt := inClass (topS 38) 5
/-! ### the head's facts -/
def fa0 : List He.Fa := [.glo "is_whole", .glo "growth_value", .glo "moved_constants", .glo "growth_of", .glo "_law_store", .glo "_law_mixed", .glo "_law_take", .glo "_law_wide", .glo "_law_maybe", .glo "_law_pick", .glo "_law_odd", .glo "_law_sort", .glo "_law_same", .glo "_law_growthparts", .glo "_law_told", .glo "_law_value", .glo "_law_moved", .glo "_law_added", .glo "_law_call", .glo "_law_fault", .glo "_law_right", .glo "_law_unlike", .glo "_law_refused", .glo "law", .glo "Bad"]
def fa1 : List He.Fa := [.glo "BadWeb", .glo "BadName", .glo "BadRow", .glo "BadWord", .glo "BadFit", .glo "BadPlace", .glo "BadGap", .glo "BadRank", .glo "BadNumber", .glo "BadText", .glo "BadRule", .glo "TooMany", .glo "BadMachine", .glo "UnlikeEnds", .glo "NotClosed", .glo "NotGood", .glo "Round", .glo "MissingWord", .glo "Unstable", .glo "BadOrder", .glo "BadPattern", .glo "NotNested", .glo "BadPieces", .glo "BadEdit", .glo "NotPlain"]
def fa2 : List He.Fa := [.glo "NotStrict", .glo "BadLevel", .glo "NeedsBlanks", .glo "BadWish", .glo "BadBreak", .glo "BadDesk", .glo "Growth", .free "ValueError", .free "all", .free "bool", .free "dict", .free "int", .free "isinstance", .free "len", .free "list", .free "max", .free "min", .free "range", .free "str", .free "super", .free "tuple", .cls "Growth", .noat "Growth" "growth_begin", .noat "Growth" "growth_constants", .mkr "Growth"]
def fa3 : List He.Fa := [.meth "Growth" "__call__", .meth "Growth" "__add__", .meth "Growth" "__eq__", .exm "BadNumber" "Bad" true]
def fa : List He.Fa := fa0 ++ fa1 ++ fa2 ++ fa3
def fd0 : He.DefD := ⟨("is_whole", none), "is_whole", "is_whole", defArgs s_is_whole, defBody s_is_whole, defScope s_is_whole, [], []⟩
def fd1 : He.DefD := ⟨("growth_value", none), "growth_value", "growth_value", defArgs s_growth_value, defBody s_growth_value, defScope s_growth_value, [], []⟩
def fd2 : He.DefD := ⟨("moved_constants", none), "moved_constants", "moved_constants", defArgs s_moved_constants, defBody s_moved_constants, defScope s_moved_constants, [], []⟩
def fd3 : He.DefD := ⟨("growth_of", none), "growth_of", "growth_of", defArgs s_growth_of, defBody s_growth_of, defScope s_growth_of, [], []⟩
def fd4 : He.DefD := ⟨("_law_store", none), "_law_store", "_law_store", defArgs s_l_store, defBody s_l_store, defScope s_l_store, [], []⟩
def fd5 : He.DefD := ⟨("_law_mixed", none), "_law_mixed", "_law_mixed", defArgs s_l_mixed, defBody s_l_mixed, defScope s_l_mixed, [], []⟩
def fd6 : He.DefD := ⟨("_law_take", none), "_law_take", "_law_take", defArgs s_l_take, defBody s_l_take, defScope s_l_take, [], []⟩
def fd7 : He.DefD := ⟨("_law_wide", none), "_law_wide", "_law_wide", defArgs s_l_wide, defBody s_l_wide, defScope s_l_wide, [], []⟩
def fd8 : He.DefD := ⟨("_law_maybe", none), "_law_maybe", "_law_maybe", defArgs s_l_maybe, defBody s_l_maybe, defScope s_l_maybe, [], []⟩
def fd9 : He.DefD := ⟨("_law_pick", none), "_law_pick", "_law_pick", defArgs s_l_pick, defBody s_l_pick, defScope s_l_pick, [], []⟩
def fd10 : He.DefD := ⟨("_law_odd", none), "_law_odd", "_law_odd", defArgs s_l_odd, defBody s_l_odd, defScope s_l_odd, [], []⟩
def fd11 : He.DefD := ⟨("_law_sort", none), "_law_sort", "_law_sort", defArgs s_l_sort, defBody s_l_sort, defScope s_l_sort, [], []⟩
def fd12 : He.DefD := ⟨("_law_same", none), "_law_same", "_law_same", defArgs s_l_same, defBody s_l_same, defScope s_l_same, [], []⟩
def fd13 : He.DefD := ⟨("_law_growthparts", none), "_law_growthparts", "_law_growthparts", defArgs s_l_growthparts, defBody s_l_growthparts, defScope s_l_growthparts, [], []⟩
def fd14 : He.DefD := ⟨("_law_told", none), "_law_told", "_law_told", defArgs s_l_told, defBody s_l_told, defScope s_l_told, [], []⟩
def fd15 : He.DefD := ⟨("_law_value", none), "_law_value", "_law_value", defArgs s_l_value, defBody s_l_value, defScope s_l_value, [], []⟩
def fd16 : He.DefD := ⟨("_law_moved", none), "_law_moved", "_law_moved", defArgs s_l_moved, defBody s_l_moved, defScope s_l_moved, [], []⟩
def fd17 : He.DefD := ⟨("_law_added", none), "_law_added", "_law_added", defArgs s_l_added, defBody s_l_added, defScope s_l_added, [], []⟩
def fd18 : He.DefD := ⟨("_law_call", none), "_law_call", "_law_call", defArgs s_l_call, defBody s_l_call, defScope s_l_call, [], []⟩
def fd19 : He.DefD := ⟨("_law_fault", none), "_law_fault", "_law_fault", defArgs s_l_fault, defBody s_l_fault, defScope s_l_fault, [], []⟩
def fd20 : He.DefD := ⟨("_law_right", none), "_law_right", "_law_right", defArgs s_l_right, defBody s_l_right, defScope s_l_right, [], []⟩
def fd21 : He.DefD := ⟨("_law_unlike", none), "_law_unlike", "_law_unlike", defArgs s_l_unlike, defBody s_l_unlike, defScope s_l_unlike, [], []⟩
def fd22 : He.DefD := ⟨("_law_refused", none), "_law_refused", "_law_refused", defArgs s_l_refused, defBody s_l_refused, defScope s_l_refused, [], []⟩
def fd23 : He.DefD := ⟨("law", none), "law", "law", defArgs s_law, defBody s_law, defScope s_law, [], []⟩
def fd24 : He.DefD := ⟨("Growth", some "__init__"), "__init__", "Growth.__init__", defArgs s_Growth_init, defBody s_Growth_init, defScope s_Growth_init, [], []⟩
def fd25 : He.DefD := ⟨("Growth", some "__call__"), "__call__", "Growth.__call__", defArgs s_Growth_call, defBody s_Growth_call, defScope s_Growth_call, [], []⟩
def fd26 : He.DefD := ⟨("Growth", some "__add__"), "__add__", "Growth.__add__", defArgs s_Growth_add, defBody s_Growth_add, defScope s_Growth_add, [], []⟩
def fd27 : He.DefD := ⟨("Growth", some "__eq__"), "__eq__", "Growth.__eq__", defArgs s_Growth_eq, defBody s_Growth_eq, defScope s_Growth_eq, [], []⟩
def fn0 : List He.DefD := [fd0, fd1, fd2, fd3, fd4, fd5, fd6, fd7, fd8, fd9, fd10, fd11, fd12, fd13, fd14, fd15, fd16, fd17, fd18, fd19, fd20, fd21, fd22, fd23, fd24]
def fn1 : List He.DefD := [fd25, fd26, fd27]
def fn : List He.DefD := fn0 ++ fn1
def er0 : HeZ.ErD := ⟨"BadNumber", "BadNumber.__init__", ["number_told"], (defArgs (inClass (topS 10) 0)).args, defBody (inClass (topS 10) 0)⟩
def ers0 : List HeZ.ErD := [er0]
def ers : List HeZ.ErD := ers0
def is_BadNumber : List (Str × Bool) := [("BadWeb", false), ("BadName", false), ("BadRow", false), ("BadWord", false), ("BadFit", false), ("BadPlace", false), ("BadGap", false), ("BadRank", false), ("BadNumber", true), ("BadText", false), ("BadRule", false), ("TooMany", false), ("BadMachine", false), ("UnlikeEnds", false), ("NotClosed", false), ("NotGood", false), ("Round", false), ("MissingWord", false), ("Unstable", false), ("BadOrder", false), ("BadPattern", false), ("NotNested", false), ("BadPieces", false), ("BadEdit", false), ("NotPlain", false), ("NotStrict", false), ("BadLevel", false), ("NeedsBlanks", false), ("BadWish", false), ("BadBreak", false), ("BadDesk", false), ("Bad", true)]
def gt0 : He.DefD := ⟨("Growth", some "begin"), "begin", "Growth.begin", defArgs s_Growth_begin, defBody s_Growth_begin, defScope s_Growth_begin, [], []⟩
def gt1 : He.DefD := ⟨("Growth", some "constants"), "constants", "Growth.constants", defArgs s_Growth_constants, defBody s_Growth_constants, defScope s_Growth_constants, [], []⟩
def gts0 : List He.DefD := [gt0, gt1]
def gts : List He.DefD := gts0
def exB (K : PySem.W.Frag) : Bool := HeZ.owB K (He.ga K "Growth") && (decide (PySem.W.kitOne K (.ref (He.ga K "Growth")) (.ref (He.ga K "Growth")) = some true) && (HeZ.isT K "Growth" [("int", false), ("bool", false), ("NoneType", false), ("str", false), ("tuple", false), ("list", false), ("dict", false)] && (HeZ.nfT K "Growth" ["int", "bool", "NoneType", "str", "tuple", "list", "dict"] && (PySem.W.fnIn K (He.ma K (He.ga K "Growth") "__call__") && (PySem.W.selfFirst K (He.ga K "Growth") && (HeZ.ecB K (He.ga K "BadNumber") && (HeZ.isB K "BadNumber" is_BadNumber && (decide (PySem.W.kitOne K (.ref (He.ga K "BadNumber")) (.type "ValueError") = some true)))))))))
def loose0 : List PySem.Str := ["Bad", "BadWeb", "BadName", "BadRow", "BadWord", "BadFit", "BadPlace", "BadGap", "BadRank", "BadNumber", "BadText", "BadRule", "TooMany", "BadMachine", "UnlikeEnds", "NotClosed", "NotGood", "Round", "MissingWord", "Unstable", "BadOrder", "BadPattern", "NotNested", "BadPieces", "BadEdit", "NotPlain", "NotStrict", "BadLevel", "NeedsBlanks", "BadWish"]
def loose1 : List PySem.Str := ["BadBreak", "BadDesk", "is_whole", "growth_value", "moved_constants", "Growth", "growth_of", "_law_store", "_law_mixed", "_law_take", "_law_wide", "_law_maybe", "_law_pick", "_law_odd", "_law_sort", "_law_same", "_law_growthparts", "_law_told", "_law_value", "_law_moved", "_law_added", "_law_call", "_law_fault", "_law_right", "_law_unlike", "_law_refused"]
abbrev loose : List PySem.Str := loose0 ++ loose1
abbrev RR : PySem.W.OpenRow := PySem.W.OpenLaw.row PySem.Challenge.rw_textbetween_k30_growths_add
abbrev qv : PySem.Program := PySem.W.view RR.prog [60]
abbrev file : Str := PySem.Challenge.pw_textbetween_k30_growths_add.main.file
abbrev hk : PySem.W.Hook := HeZ.hookZ file 4 fa fn ers gts exB
def ob (s : PySem.W.SharedT) : HeZ.AlZ := HeZ.obsZG file 4 fa fn ers gts exB (HandSHeadRun.getT s)
theorem ob_eq (s : PySem.W.SharedT) : ob s = hk.obs s.abs := HeZ.obsZG_eq (HandSHeadRun.getT_eq s)
theorem run (w : World) : HandSHeadRun.RunEq RR qv hk ob 20000 loose w := by
  intro os
  kernel_rfl
end Lw
namespace Lw
open PySem PySem.Spec PyProof.Rows L2
/-! ### the module's facts by place -/
abbrev PP : Program := RR.prog
structure Tx (K : PySem.W.Frag) (mg : Str → Option Value) : Prop where
  says : HeZ.SaysZ file fa fn ers gts exB K
  at_ : ∃ h : Heap, K.In h ∧ h.Ns mainGlobals mg
section
variable {K : PySem.W.Frag} {mg : Str → Option Value}
theorem Tx.g (T : Tx K mg) (i : Nat) {x : Str} (h : fa[i]? = some (.glo x) := by rfl) : mg x = some (.ref (He.ga K x)) := let ⟨_, X, G⟩ := T.at_; He.glo_ok X G (T.says.d.fact i h)
theorem Tx.f (T : Tx K mg) (i : Nat) {x : Str} (h : fa[i]? = some (.free x) := by rfl) : mg x = none := let ⟨_, X, G⟩ := T.at_; He.free_ok X G (T.says.d.fact i h)
theorem Tx.i (T : Tx K mg) (i : Nat) {x : Str} {n : Int} (h : fa[i]? = some (.int x n) := by rfl) : ∃ t, mg x = some (.int n t) := let ⟨_, X, G⟩ := T.at_; He.int_ok X G (T.says.d.fact i h)
theorem Tx.d (T : Tx K mg) (i : Nat) {d : He.DefD} (h : fn[i]? = some d := by rfl) : ∃ fd, FunD K d.name d.qual d.params d.body d.scope (d.dvs K) (d.kws K) (He.fAd K d.at_) fd := T.says.d.def_ i h
end
end Lw
namespace Lw
open PySem PySem.Spec PyProof.Rows L2
/-! ### the draws -/
local macro_rules | `(tactic| walk_at "len") => `(tactic| (intro vs H Q E h; first | (obtain ⟨_, e, _⟩ := h; subst e; rfl) | (obtain ⟨_, _, e, _⟩ := h; subst e; rfl) | (obtain ⟨_, _, _, e, _⟩ := h; subst e; rfl) | (obtain ⟨_, _, _, _, e, _⟩ := h; subst e; rfl) | (obtain ⟨_, _, _, _, _, e, _⟩ := h; subst e; rfl) | (obtain ⟨_, _, _, _, _, _, e, _⟩ := h; subst e; rfl) | (obtain ⟨_, _, _, _, _, _, _, e, _⟩ := h; subst e; rfl)))
local macro_rules | `(tactic| walk_at "get") => `(tactic| (first | assumption | exact upd_same | (refine look_new (by assumption) ?_; walk_at "get") | (refine look_ne (by assumption) ?_; walk_at "get")))
local macro_rules | `(tactic| walk_at "s") => `(tactic| (first
  | refine ⟨_, rfl, ?_⟩
  | refine Or.inl ⟨_, rfl, ?_⟩
  | refine Or.inl ⟨_, _, _, _, rfl, rfl, lOf (by walk_at "get"), rfl, ?_⟩
  | refine ⟨_, _, _, _, rfl, rfl, (by walk_at "get"), rfl, ?_⟩
  | refine ⟨_, _, rfl, rfl, Or.inl (Or.inr ⟨by decide, by decide⟩), ?_⟩
  | refine ⟨_, _, rfl, rfl, (by show (0 : Int) < _; first | assumption | decide), ?_⟩
  | refine ⟨_, _, rfl, rfl, ⟨by decide, by decide⟩, ?_⟩
  | refine ⟨_, _, rfl, rfl, ⟨by decide, by decide +kernel⟩, ?_⟩
  | refine ⟨_, _, rfl, rfl, (by show (0 : Int) < _; decide +kernel), ?_⟩
  | refine ⟨(show CMulA _ _ from Or.inl (Or.inl ⟨by (try dsimp only); omega, by (try dsimp only); omega⟩)), ?_⟩
  | refine ⟨_, _, rfl, rfl, ?_⟩
  | refine ⟨_, _, rfl, ?_⟩
  | refine ⟨rfl, _, rfl, ?_⟩
  | refine ⟨rfl, ?_⟩))
local macro_rules | `(tactic| walk_at "c") => `(tactic| (try dsimp only [L2.start, List.set, List.map, List.length, List.replicate, List.cons_append, List.nil_append, List.append, HAppend.hAppend, Append.append, Int.toNat, Nat.reduceSub, Nat.reduceAdd]))
/-- the store at s, as its five parts -/
def StA (H : Hp) (s c : Addr) (cells : List Int) (i big mixed t : Int) : Prop :=
  H s = some (.lst [.ref c, .int i, .int big, .int mixed, .int t]) ∧ H c = some (.lst (cells.map V.int)) ∧ c ≠ s ∧ 0 ≤ i ∧ 0 ≤ big ∧ 0 ≤ mixed ∧ mixed < 2147483647 ∧ cells.length ≤ 63
def StO (H : Hp) (s : Addr) : Prop := ∃ c cells i big mixed t, StA H s c cells i big mixed t
theorem StA.set {H : Hp} {s c : Addr} {cells : List Int} {i big mixed t i' big' mixed' t' : Int} (h : StA H s c cells i big mixed t) (h1 : 0 ≤ i') (h2 : 0 ≤ big') (h3 : 0 ≤ mixed') (h4 : mixed' < 2147483647) :
    StA (upd H s (.lst [.ref c, .int i', .int big', .int mixed', .int t'])) s c cells i' big' mixed' t' :=
  ⟨upd_same, look_ne h.2.2.1 h.2.1, h.2.2.1, h1, h2, h3, h4, h.2.2.2.2.2.2.2⟩
theorem at_int {ns : List Int} {i : Int} (h0 : 0 ≤ i) (h1 : i < (ns.length : Int)) : ∃ z, atI (ns.map V.int) i = some (.int z) ∧ ns[i.toNat]? = some z := by
  obtain ⟨n, rfl⟩ := Int.eq_ofNat_of_zero_le h0
  have hn : n < ns.length := by omega
  refine ⟨ns[n], atI_nat (j := n) ?_, ?_⟩
  · rw [List.getElem?_map, List.getElem?_eq_getElem hn] <;> rfl
  · rw [Int.toNat_natCast, List.getElem?_eq_getElem hn]
section
variable {w : World} {K : PySem.W.Frag} {mg : Str → Option Value} {base : Heap}
def spMixed : Sp := fun vs H Q _ => ∃ (s : Addr) (seed many : Int), vs = [.ref s, .int seed, .int many] ∧ ∃ c cells i big mixed t, StA H s c cells i big mixed t ∧
  ∀ v mixed', 0 ≤ v → 0 ≤ mixed' → mixed' < 2147483647 → Q (.int v) (upd H s (.lst [.ref c, .int i, .int big, .int mixed', .int t]))
theorem sc_l_mixed : FnScope ["store", "seed", "many", "one", "two", "value", "k"] ["store", "seed", "many"] (defScope s_l_mixed) := ⟨rfl, rfl, rfl, by decide +kernel, rfl, by decide +kernel, by decide +kernel⟩
theorem d_l_mixed (T : Tx K mg) : Dn PP w K mg base CX0 1 "_law_mixed" ["store", "seed", "many"] (spMixed) := by
  obtain ⟨fd, F⟩ := T.d 5
  refine ⟨_, fd, T.g 5, F.kp, FunD.bindsN F (fun _ _ _ _ _ _ us hl => match us, hl with | [_, _, _], _ => rfl), FunD.ok F sc_l_mixed (by walk_at "len") (fun cdv A outer s H vs Q E hr h => ?_)⟩
  obtain ⟨s, seed, many, rfl, c, cells, i, big, mixed, t, S, k⟩ := h
  have hs := S.1
  refine ⟨_, PSs.nox ((pss_cons (ps_set (i := 3) sc_l_mixed.nd rfl (.inl rfl) (pe_op op_mod (pe_callTy call_int1 (by rfl) (T.f 61) (by decide +kernel) (pa_cons (pe_op op_addA (pe_op op_addA (pe_op op_addA (pe_op op_mulA (pe_ix ix_seq (pv 0) pe_int (fun _ _ => rfl)) pe_int) (pe_op op_mulA (pv 1) pe_int)) (pe_op op_mulA (pe_ix ix_seq (pv 0) pe_int (fun _ _ => rfl)) pe_int)) pe_int) pa_nil)) pe_int))
      (pss_cons (ps_asg (pv 3) (pg_sub (pv 0) pe_int set_list))
      (pss_cons (ps_set (i := 4) sc_l_mixed.nd rfl (.inl rfl) (pe_op op_mod (pe_callTy call_int1 (by rfl) (T.f 61) (by decide +kernel) (pa_cons (pe_op op_addA (pe_op op_addA (pe_op op_mulA (pv 3) (pv 3)) (pe_op op_mulA (pe_op op_fdivW (pv 3) pe_int) pe_int)) (pe_ix ix_seq (pv 0) pe_int (fun _ _ => rfl))) pa_nil)) pe_int))
      (pss_cons (ps_set (i := 5) sc_l_mixed.nd rfl (.inl rfl) (pe_op op_mod (pe_callTy call_int1 (by rfl) (T.f 61) (by decide +kernel) (pa_cons (pe_op op_addA (pe_op op_mulA (pe_op op_fdivW (pv 4) pe_int) pe_int) (pv 4)) pa_nil)) pe_int))
      (pss_cons (ps_if (pt_cmpR op_gt (pv 2) pe_int (nomark _)) (pss_one (ps_for PassesOwn.never rfl (pi_range1 rfl (T.f 67) (pa_cons pe_int pa_nil)) (pg_name (i := 6) sc_l_mixed.nd rfl (.inl rfl)) (pss_cons (ps_set (i := 4) sc_l_mixed.nd rfl (.inl rfl) (pe_op op_mod (pe_callTy call_int1 (by rfl) (T.f 61) (by decide +kernel) (pa_cons (pe_op op_addA (pe_op op_addA (pe_op op_mulA (pv 4) pe_int) (pe_op op_fdivW (pv 5) pe_int)) (pv 6)) pa_nil)) pe_int))
      (pss_one (ps_set (i := 5) sc_l_mixed.nd rfl (.inl rfl) (pe_op op_addA (pe_op op_mulA (pv 5) pe_int) (pe_op op_mod (pe_callTy call_int1 (by rfl) (T.f 61) (by decide +kernel) (pa_cons (pe_op op_addA (pe_op op_mulA (pv 4) (pv 4)) (pv 6)) pa_nil)) pe_int))))))) pss_nil)
      (pss_one (ps_ret (pe_op op_fdivW (pv 5) pe_int))))))))), ?_⟩
  repeat walk_at "s"
  walk_at "c"
  have b1 : 0 ≤ (mixed * 48271 + seed * 69621 + t * 40692 + 1) % 2147483647 := Int.emod_nonneg _ (by decide)
  have b2 : (mixed * 48271 + seed * 69621 + t * 40692 + 1) % 2147483647 < 2147483647 := Int.emod_lt_of_pos _ (by decide)
  generalize (mixed * 48271 + seed * 69621 + t * 40692 + 1) % 2147483647 = one at b1 b2
  repeat walk_at "s"
  walk_at "c"
  have fin : ∀ (σ : L2.St) (value : Int), σ[5]? = some (some (.int value)) → 0 ≤ value → (tRet (tOp (rI CDivW fun i j => V.int (i / j)) (tVar 5) (tC (.int 5)))) { nx := fun _ H' => Q .non H', rt := Q } σ (upd H s (.lst [.ref c, .int i, .int big, .int one, .int t])) := fun σ value hσ h0 => by
    refine ⟨_, hσ, _, _, rfl, rfl, ⟨by decide, by decide⟩, ?_⟩
    exact k _ _ (Int.ediv_nonneg h0 (by decide)) b1 b2
  refine ite2 (fun _ => ?_) (fun _ => ?_)
  · refine ⟨6, rfl, by decide, by decide, for_range (n := 6) (fun _ σ H' => ∃ (two value : Int) (z : Option V), σ = [some (.ref s), some (.int seed), some (.int many), some (.int one), some (.int two), some (.int value), z] ∧ 0 ≤ two ∧ 0 ≤ value ∧ H' = upd H s (.lst [.ref c, .int i, .int big, .int one, .int t]))
      ?_ ?_ ?_⟩
    · refine ⟨_, _, none, rfl, ?_, ?_, rfl⟩
      · exact Int.emod_nonneg _ (by decide)
      · exact Int.emod_nonneg _ (by decide)
    · rintro n σ _ _ ⟨two, value, z, rfl, h1, h2, rfl⟩
      repeat walk_at "s"
      refine ⟨_, _, _, rfl, ?_, ?_, rfl⟩
      · exact Int.emod_nonneg _ (by decide)
      · exact Int.add_nonneg (Int.mul_nonneg h2 (by decide)) (Int.emod_nonneg _ (by decide))
    · rintro σ _ ⟨two, value, z, rfl, h1, h2, rfl⟩
      exact fin _ value rfl h2
  · unfold tNext
    refine fin _ _ rfl ?_
    exact Int.emod_nonneg _ (by decide)
/-- a draw: 0 below two, else below many -/
def spTake : Sp := fun vs H Q _ => ∃ (s : Addr) (many : Int), vs = [.ref s, .int many] ∧ StO H s ∧ many.natAbs.log2 < 9000 ∧
  ∀ v H', Kp s H H' → StO H' s → 0 ≤ v → (many < 2 → v = 0) → (2 ≤ many → v < many) → Q (.int v) H'
theorem sc_l_take : FnScope ["store", "many", "seed", "cell", "value"] ["store", "many"] (defScope s_l_take) := ⟨rfl, rfl, rfl, by decide +kernel, rfl, by decide +kernel, by decide +kernel⟩
theorem d_l_take (T : Tx K mg) : Dn PP w K mg base CX0 2 "_law_take" ["store", "many"] (spTake) := by
  obtain ⟨fd, F⟩ := T.d 6
  refine ⟨_, fd, T.g 6, F.kp, FunD.bindsN F (fun _ _ _ _ _ _ us hl => match us, hl with | [_, _], _ => rfl), FunD.ok F sc_l_take (by walk_at "len") (fun cdv A outer s H vs Q E hr h => ?_)⟩
  obtain ⟨s, many, rfl, ⟨c, cells, i, big, mixed, t, S⟩, hw, k⟩ := h
  have hs := S.1
  have hi0 := S.2.2.2.1
  refine ⟨_, PSs.nox ((pss_cons (ps_if (pt_cmpR op_lt (pv 1) pe_int (nomark _)) (pss_one (ps_ret pe_int)) pss_nil)
      (pss_cons (ps_asg (pe_op op_addA (pe_ix ix_seq (pv 0) pe_int (fun _ _ => rfl)) pe_int) (pg_sub (pv 0) pe_int set_list))
      (pss_cons (ps_set (i := 2) sc_l_take.nd rfl (.inl rfl) pe_int)
      (C8.pss_cut (ps_if (PW.pt (pw_and (pt_cmpR op_lt (pe_ix ix_seq (pv 0) pe_int (fun _ _ => rfl)) pe_int (nomark _)) (pw_and1 (pt_cmpR op_lt (pe_ix ix_seq (pv 0) pe_int (fun _ _ => rfl)) (pe_callB call_len (by rfl) (T.f 63) boot_len (pa_cons (pe_ix ix_seq (pv 0) pe_int (fun _ _ => rfl)) pa_nil)) (nomark _))))) (pss_cons (ps_set (i := 3) sc_l_take.nd rfl (.inl rfl) (pe_ix ix_seq (pe_ix ix_seq (pv 0) pe_int (fun _ _ => rfl)) (pe_ix ix_seq (pv 0) pe_int (fun _ _ => rfl)) (fun _ _ => rfl)))
      (pss_cons (ps_asg (pe_op op_addA (pe_ix ix_seq (pv 0) pe_int (fun _ _ => rfl)) pe_int) (pg_sub (pv 0) pe_int set_list))
      (pss_cons (ps_set (i := 2) sc_l_take.nd rfl (.inl rfl) (pe_op op_addA (pe_op op_mod (pe_callTy call_int1 (by rfl) (T.f 61) (by decide +kernel) (pa_cons (pv 3) pa_nil)) pe_int) pe_int))
      (pss_one (ps_if (pt_cmpR op_ge (pv 3) (pe_op op_powA pe_int pe_int) (nomark _)) (pss_one (ps_asg (pe_op op_mod (pe_callTy call_int1 (by rfl) (T.f 61) (by decide +kernel) (pa_cons (pv 3) pa_nil)) (pe_op op_powA (pe_op op_powA pe_int pe_int) pe_int)) (pg_sub (pv 0) pe_int set_list))) pss_nil))))) pss_nil)
      (pss_cons (ps_if (pt_cmpR op_ge (pe_ix ix_seq (pv 0) pe_int (fun _ _ => rfl)) pe_int (nomark _)) (pss_cons (ps_set (i := 4) sc_l_take.nd rfl (.inl rfl) (pe_op op_mod (pe_callTy call_int1 (by rfl) (T.f 61) (by decide +kernel) (pa_cons (pe_ix ix_seq (pv 0) pe_int (fun _ _ => rfl)) pa_nil)) (pv 1)))
      (pss_cons (ps_asg (pe_op op_fdivW (pe_callTy call_int1 (by rfl) (T.f 61) (by decide +kernel) (pa_cons (pe_ix ix_seq (pv 0) pe_int (fun _ _ => rfl)) pa_nil)) (pv 1)) (pg_sub (pv 0) pe_int set_list))
      (pss_one (ps_ret (pv 4))))) pss_nil)
      (pss_one (ps_ret (pe_op op_mod (pe_callTy call_int1 (by rfl) (T.f 61) (by decide +kernel) (pa_cons (pe_d (d_l_mixed T) (hr.mono (by decide)) rfl pass0 (pa_cons (pv 0) (pa_cons (pv 2) (pa_cons (pv 1) pa_nil)))) pa_nil)) (pv 1)))))))))), ?_⟩
  repeat walk_at "s"
  walk_at "c"
  refine ite2 (fun e => ?_) (fun e => ?_)
  · have e := of_decide_eq_true e
    refine k 0 H Kp.refl ⟨c, cells, i, big, mixed, t, S⟩ (by decide) (fun _ => rfl) (fun h => by omega)
  have e : ¬ many < 2 := fun h => e (decide_eq_true h)
  have hm : 2 ≤ many := by omega
  have hp : (0 : Int) < many := by omega
  unfold tNext
  repeat walk_at "s"
  walk_at "c"
  refine ⟨fun σ H' => ∃ (seed i big : Int) (z1 z2 : Option V), σ = [some (.ref s), some (.int many), some (.int seed), z1, z2] ∧ 0 ≤ i ∧ 0 ≤ big ∧ H' = upd H s (.lst [.ref c, .int i, .int big, .int mixed, .int (t + 1)]), ?_, ?_⟩
  · repeat walk_at "s"
    refine ite2 (fun e1 => ?_) (fun e1 => ?_)
    · repeat walk_at "s"
      refine ⟨_, cells.length, rfl, .inl ⟨_, lOf (look_ne S.2.2.1 S.2.1), (List.length_map _).symm⟩, _, _, rfl, rfl, _, rfl, ?_⟩
      refine ite2 (fun e2 => ?_) (fun e2 => ?_)
      · have e2 := of_decide_eq_true e2
        obtain ⟨z, hz, _⟩ := at_int S.2.2.2.1 e2
        repeat walk_at "s"
        refine .inl ⟨_, _, _, _, rfl, rfl, lOf (look_ne S.2.2.1 S.2.1), hz, ?_⟩
        repeat walk_at "s"
        walk_at "c"
        refine ite2 (fun _ => ?_) (fun _ => ?_)
        · repeat walk_at "s"
          walk_at "c"
          refine ⟨_, i + 1, z % (10 ^ 64) ^ 6, _, _, rfl, by omega, ?_, ?_⟩
          · exact Int.emod_nonneg _ (by decide +kernel)
          · rw [upd_upd, upd_upd]
        · refine ⟨_, i + 1, big, _, _, rfl, by omega, S.2.2.2.2.1, ?_⟩
          rw [upd_upd]
      · exact ⟨0, i, big, _, _, rfl, S.2.2.2.1, S.2.2.2.2.1, rfl⟩
    · exact ⟨0, i, big, _, _, rfl, S.2.2.2.1, S.2.2.2.2.1, rfl⟩
  · rintro σ _ ⟨seed, i', big', z1, z2, rfl, hi, hb, rfl⟩
    have S1 : StA (upd H s (.lst [.ref c, .int i', .int big', .int mixed, .int (t + 1)])) s c cells i' big' mixed (t + 1) := S.set hi hb S.2.2.2.2.2.1 S.2.2.2.2.2.2.1
    repeat walk_at "s"
    walk_at "c"
    refine ite2 (fun e1 => ?_) (fun e1 => ?_)
    · have e1 := of_decide_eq_true e1
      repeat walk_at "s"
      refine ⟨⟨hp, hw⟩, ?_⟩
      repeat walk_at "s"
      walk_at "c"
      rw [upd_upd]
      exact k _ _ (Kp.refl.set S.1) ⟨_, _, _, _, _, _, S.set hi (Int.ediv_nonneg hb (by omega)) S.2.2.2.2.2.1 S.2.2.2.2.2.2.1⟩ (Int.emod_nonneg _ (by omega)) (fun h => by omega) fun _ => Int.emod_lt_of_pos _ hp
    · repeat walk_at "s"
      refine ⟨s, seed, many, rfl, _, _, _, _, _, _, S1, fun v mixed' h0 h1 h2 => ?_⟩
      rw [upd_upd]
      refine Or.inl ⟨_, rfl, ?_⟩
      repeat walk_at "s"
      exact k _ _ (Kp.refl.set S.1) ⟨_, _, _, _, _, _, S.set hi hb h1 h2⟩ (Int.emod_nonneg _ (by omega)) (fun h => by omega) fun _ => Int.emod_lt_of_pos _ hp
end
end Lw
namespace Lw
open PySem PySem.Spec PyProof.Rows L2
/-! ### the draws -/
local macro_rules | `(tactic| walk_at "len") => `(tactic| (intro vs H Q E h; first | (obtain ⟨_, e, _⟩ := h; subst e; rfl) | (obtain ⟨_, _, e, _⟩ := h; subst e; rfl) | (obtain ⟨_, _, _, e, _⟩ := h; subst e; rfl) | (obtain ⟨_, _, _, _, e, _⟩ := h; subst e; rfl) | (obtain ⟨_, _, _, _, _, e, _⟩ := h; subst e; rfl) | (obtain ⟨_, _, _, _, _, _, e, _⟩ := h; subst e; rfl) | (obtain ⟨_, _, _, _, _, _, _, e, _⟩ := h; subst e; rfl)))
local macro_rules | `(tactic| walk_at "get") => `(tactic| (first | assumption | exact upd_same | (refine look_new (by assumption) ?_; walk_at "get") | (refine look_ne (by assumption) ?_; walk_at "get")))
local macro_rules | `(tactic| walk_at "s") => `(tactic| (first
  | refine ⟨_, rfl, ?_⟩
  | refine Or.inl ⟨_, rfl, ?_⟩
  | refine Or.inl ⟨_, _, _, _, rfl, rfl, lOf (by walk_at "get"), rfl, ?_⟩
  | refine ⟨_, _, _, _, rfl, rfl, (by walk_at "get"), rfl, ?_⟩
  | refine ⟨_, _, rfl, rfl, Or.inl (Or.inr ⟨by decide, by decide⟩), ?_⟩
  | refine ⟨_, _, rfl, rfl, (by show (0 : Int) < _; first | assumption | decide), ?_⟩
  | refine ⟨_, _, rfl, rfl, ⟨by decide, by decide⟩, ?_⟩
  | refine ⟨_, _, rfl, rfl, ⟨by decide, by decide +kernel⟩, ?_⟩
  | refine ⟨_, _, rfl, rfl, (by show (0 : Int) < _; decide +kernel), ?_⟩
  | refine ⟨(show CMulA _ _ from Or.inl (Or.inl ⟨by (try dsimp only); omega, by (try dsimp only); omega⟩)), ?_⟩
  | refine ⟨_, _, rfl, rfl, ?_⟩
  | refine ⟨_, _, rfl, ?_⟩
  | refine ⟨rfl, _, rfl, ?_⟩
  | refine ⟨rfl, ?_⟩))
local macro_rules | `(tactic| walk_at "c") => `(tactic| (try dsimp only [L2.start, List.set, List.map, List.length, List.replicate, List.cons_append, List.nil_append, List.append, HAppend.hAppend, Append.append, Int.toNat, Nat.reduceSub, Nat.reduceAdd]))
def Nw (n : Nat) (i : Int) : Prop := i.natAbs < 2 ^ n
theorem StO.ex {H H' : Hp} {s : Addr} (S : StO H s) (e : Ex H H') : StO H' s :=
  let ⟨c, cells, i, big, mixed, t, h1, h2, h3⟩ := S
  ⟨c, cells, i, big, mixed, t, e _ _ h1, e _ _ h2, h3⟩
theorem StO.ne {H : Hp} {s p : Addr} (S : StO H s) (h : H p = none) : p ≠ s :=
  let ⟨_, _, _, _, _, _, h1, _⟩ := S
  fun e => by rw [e, h1] at h; cases h
theorem sz {n : Nat} (h : n.blt 64 = true) : n ≤ sizeLine := small64 (Nat.le_of_ble_eq_true h)
theorem ln {n : Nat} (h : n.blt 64 = true) : n < 2 ^ 60 := Nat.lt_trans (Nat.le_of_ble_eq_true h) (by decide)
theorem Kp.none {s : Addr} {H H1 : Hp} {p : Addr} (e : Kp s H H1) (hn : p ≠ s) (h : H1 p = none) : H p = none := by
  cases q : H p with
  | none => rfl
  | some o =>
    rw [e.1 p o hn q] at h
    cases h
/-- a list that was not there at first may change -/
theorem StO.set2 {H H1 : Hp} {s p : Addr} {o : HO} (S : StO H s) (S1 : StO H1 s) (e : Kp s H H1) (h : H p = none) : StO (upd H1 p o) s := by
  obtain ⟨c, cells, i, big, mixed, t, h1, h2, h3⟩ := S
  obtain ⟨c', cells', i', big', mixed', t', g1, g2, g3⟩ := S1
  obtain ⟨ys, q⟩ := e.2 _ _ h1
  rw [g1] at q
  cases q
  have n1 : p ≠ s := fun e => by rw [e, h1] at h; cases h
  have n2 : p ≠ c := fun e => by rw [e, h2] at h; cases h
  exact ⟨c, cells', i', big', mixed', t', look_ne (Ne.symm n1) g1, look_ne (Ne.symm n2) g2, g3⟩
section
variable {w : World} {K : PySem.W.Frag} {mg : Str → Option Value} {base : Heap}
theorem lg {i : Int} {n : Nat} (h : i.natAbs < 2 ^ n) (h0 : 0 < n) (h9 : n ≤ 9000) : i.natAbs.log2 < 9000 := Nat.lt_of_lt_of_le (PySem.Flt.log2_lt_of h0 h) h9
theorem lg40 (room : Int) (h : 1 ≤ room) : (if (40 : Int) < room then 40 else room).natAbs.log2 < 9000 := by
  split
  · decide
  · exact lg (n := 6) (by omega) (by decide) (by decide)
theorem pw200 {top : Int} {m : Nat} (h1 : 1 ≤ top) (h2 : top ≤ 10 ^ (m + 1)) (hm : m ≤ 41) : top.natAbs < 2 ^ 200 := by
  have h3 : (10 : Int) ^ (m + 1) ≤ 10 ^ 42 := by
    have := Nat.pow_le_pow_right (n := 10) (by decide) (show m + 1 ≤ 42 by omega)
    exact_mod_cast this
  have h4 : (10 : Int) ^ 42 < 2 ^ 200 := by decide +kernel
  have h5 : ((2 : Nat) ^ 200 : Nat) = (2 : Int) ^ 200 := by norm_cast
  omega
/-- from low on, up to high where high is greater -/
def spWide : Sp := fun vs H Q _ => ∃ (s : Addr) (low high : Int), vs = [.ref s, .int low, .int high] ∧ StO H s ∧ Nw 8000 (high - low + 1) ∧
  ∀ v H', Kp s H H' → StO H' s → low ≤ v → (v ≤ high ∨ v = low) → Q (.int v) H'
theorem sc_l_wide : FnScope ["store", "low", "high", "where", "room", "top", "k"] ["store", "low", "high"] (defScope s_l_wide) := ⟨rfl, rfl, rfl, by decide +kernel, rfl, by decide +kernel, by decide +kernel⟩
theorem d_l_wide (T : Tx K mg) : Dn PP w K mg base CX0 3 "_law_wide" ["store", "low", "high"] (spWide) := by
  obtain ⟨fd, F⟩ := T.d 7
  refine ⟨_, fd, T.g 7, F.kp, FunD.bindsN F (fun _ _ _ _ _ _ us hl => match us, hl with | [_, _, _], _ => rfl), FunD.ok F sc_l_wide (by walk_at "len") (fun cdv A outer s H vs Q E hr h => ?_)⟩
  obtain ⟨s, low, high, rfl, S, hw, k⟩ := h
  refine ⟨_, PSs.nox ((pss_cons (ps_set (i := 3) sc_l_wide.nd rfl (.inl rfl) (pe_d (d_l_take T) (hr.mono (by decide)) rfl pass0 (pa_cons (pv 0) (pa_cons pe_int pa_nil))))
      (pss_cons (ps_if (pt_cmpR op_eq (pv 3) pe_int (nomark _)) (pss_one (ps_ret (pv 1))) pss_nil)
      (pss_cons (ps_if (pt_cmpR op_eq (pv 3) pe_int (nomark _)) (pss_one (ps_ret (pe_callB (call_max2 rfl) (by rfl) (T.f 65) (by decide +kernel) (pa_cons (pv 1) (pa_cons (pv 2) pa_nil))))) pss_nil)
      (pss_cons (ps_set (i := 4) sc_l_wide.nd rfl (.inl rfl) (pe_callB (call_max2 rfl) (by rfl) (T.f 65) (by decide +kernel) (pa_cons pe_int (pa_cons (pe_op op_addA (pe_op op_sub (pv 2) (pv 1)) pe_int) pa_nil))))
      (pss_cons (ps_if (pt_cmpR op_lt (pv 3) pe_int (nomark _)) (pss_one (ps_ret (pe_op op_addA (pv 1) (pe_d (d_l_take T) (hr.mono (by decide)) rfl pass0 (pa_cons (pv 0) (pa_cons (pe_callB (call_min2 rfl) (by rfl) (T.f 66) (by decide +kernel) (pa_cons (pv 4) (pa_cons pe_int pa_nil))) pa_nil)))))) pss_nil)
      (pss_cons (ps_set (i := 5) sc_l_wide.nd rfl (.inl rfl) pe_int)
      (pss_cons (ps_for PassesOwn.never rfl (pi_range1 rfl (T.f 67) (pa_cons (pe_d (d_l_take T) (hr.mono (by decide)) rfl pass0 (pa_cons (pv 0) (pa_cons pe_int pa_nil))) pa_nil)) (pg_name (i := 6) sc_l_wide.nd rfl (.inl rfl)) (pss_one (ps_set (i := 5) sc_l_wide.nd rfl (.inl rfl) (pe_op op_mulA (pv 5) pe_int))))
      (pss_one (ps_ret (pe_op op_addA (pv 1) (pe_d (d_l_take T) (hr.mono (by decide)) rfl pass0 (pa_cons (pv 0) (pa_cons (pe_callB (call_min2 rfl) (by rfl) (T.f 66) (by decide +kernel) (pa_cons (pv 4) (pa_cons (pv 5) pa_nil))) pa_nil)))))))))))))), ?_⟩
  repeat walk_at "s"
  refine ⟨S, by decide, fun wh H1 k1 S1 w0 _ w6 => ?_⟩
  repeat walk_at "s"
  walk_at "c"
  refine ite2 (fun e => ?_) (fun e => ?_)
  · repeat walk_at "s"
    exact k low H1 k1 S1 (Int.le_refl _) (.inr rfl)
  repeat walk_at "s"
  refine ite2 (fun e2 => ?_) (fun e2 => ?_)
  · repeat walk_at "s"
    exact k _ H1 k1 S1 (by split <;> omega) (by split <;> simp)
  repeat walk_at "s"
  generalize hr0 : (if high - low + 1 > 1 then high - low + 1 else 1) = room
  have r1 : 1 ≤ room := by rw [← hr0]; split <;> omega
  have r2 : low + room - 1 ≤ high ∨ room = 1 := by rw [← hr0]; split <;> omega
  have r3 : Nw 8000 room := by
    unfold Nw at hw ⊢
    rw [← hr0]
    split
    · exact hw
    · decide +kernel
  refine ite2 (fun e3 => ?_) (fun e3 => ?_)
  · repeat walk_at "s"
    refine ⟨S1, lg40 _ (by omega), fun v H2 k2 S2 v0 vl vh => ?_⟩
    have vh : v = 0 ∨ v < room := by
      by_cases h : 2 ≤ (if (40 : Int) < room then 40 else room)
      · have := vh h
        split at this <;> omega
      · exact .inl (vl (by omega))
    repeat walk_at "s"
    exact k _ _ (k1.trans k2) S2 (by omega) (by omega)
  repeat walk_at "s"
  refine ⟨S1, by decide, fun n H2 k2 S2 n0 _ n41 => ?_⟩
  refine ⟨n, rfl, by omega, by omega, for_range (n := n.toNat) (fun m σ H' => ∃ (top : Int) (z : Option V), σ = [some (.ref s), some (.int low), some (.int high), some (.int wh), some (.int room), some (.int top), z] ∧ 1 ≤ top ∧ top ≤ 10 ^ (m + 1) ∧ H' = H2)
      ?_ ?_ ?_⟩
  · refine ⟨10, none, rfl, by decide, by decide, rfl⟩
  · rintro m σ _ hm ⟨top, z, rfl, h1, h2, rfl⟩
    repeat walk_at "s"
    refine ⟨by omega, ?_, rfl⟩
    rw [Int.pow_succ]
    omega
  · rintro σ _ ⟨top, z, rfl, h1, h2, rfl⟩
    repeat walk_at "s"
    refine ⟨S2, ?_, fun v H3 k3 S3 v0 vl vh => ?_⟩
    · have ht := pw200 h1 h2 (by omega)
      refine lg (n := 200) ?_ (by decide) (by decide)
      split
      · exact ht
      · rename_i c1
        exact Nat.lt_of_le_of_lt (by omega) ht
    have vh : v = 0 ∨ v < room := by
      by_cases h : 2 ≤ (if top < room then top else room)
      · have := vh h
        split at this <;> omega
      · exact .inl (vl (by omega))
    repeat walk_at "s"
    exact k _ _ ((k1.trans k2).trans k3) S3 (by omega) (by omega)
def spMaybe : Sp := fun vs H Q _ => ∃ (s : Addr) (many : Int), vs = [.ref s, .int many] ∧ StO H s ∧ many.natAbs.log2 < 9000 ∧
  ∀ b H', Kp s H H' → StO H' s → Q (.bl b) H'
theorem sc_l_maybe : FnScope ["store", "many"] ["store", "many"] (defScope s_l_maybe) := ⟨rfl, rfl, rfl, by decide +kernel, rfl, by decide +kernel, by decide +kernel⟩
theorem d_l_maybe (T : Tx K mg) : Dn PP w K mg base CX0 3 "_law_maybe" ["store", "many"] (spMaybe) := by
  obtain ⟨fd, F⟩ := T.d 8
  refine ⟨_, fd, T.g 8, F.kp, FunD.bindsN F (fun _ _ _ _ _ _ us hl => match us, hl with | [_, _], _ => rfl), FunD.ok F sc_l_maybe (by walk_at "len") (fun cdv A outer s H vs Q E hr h => ?_)⟩
  obtain ⟨s, many, rfl, S, hw, k⟩ := h
  refine ⟨_, PSs.nox ((pss_one (ps_ret (pe_cmpR op_eq (pe_d (d_l_take T) (hr.mono (by decide)) rfl pass0 (pa_cons (pv 0) (pa_cons (pv 1) pa_nil))) (pe_op op_sub (pv 1) pe_int) (nomark _))))), ?_⟩
  repeat walk_at "s"
  refine ⟨S, hw, fun v H1 k1 S1 w0 _ w6 => ?_⟩
  repeat walk_at "s"
  exact k _ H1 k1 S1
/-- an entry of a list -/
def spPick (K : PySem.W.Frag) : Sp := fun vs H Q _ => ∃ (s r : Addr) (xs : List V), vs = [.ref s, .ref r] ∧ StO H s ∧ H r = some (.lst xs) ∧ r ≠ s ∧ xs ≠ [] ∧ xs.length < 2 ^ 60 ∧
  ∀ v H', Kp s H H' → StO H' s → v ∈ xs → Q v H'
theorem sc_l_pick : FnScope ["store", "row"] ["store", "row"] (defScope s_l_pick) := ⟨rfl, rfl, rfl, by decide +kernel, rfl, by decide +kernel, by decide +kernel⟩
theorem d_l_pick (T : Tx K mg) : Dn PP w K mg base CX0 3 "_law_pick" ["store", "row"] (spPick K) := by
  obtain ⟨fd, F⟩ := T.d 9
  refine ⟨_, fd, T.g 9, F.kp, FunD.bindsN F (fun _ _ _ _ _ _ us hl => match us, hl with | [_, _], _ => rfl), FunD.ok F sc_l_pick (by walk_at "len") (fun cdv A outer s H vs Q E hr h => ?_)⟩
  obtain ⟨s, r, xs, rfl, S, h1, hrs, hx, hl, k⟩ := h
  have hl : xs.length < 2 ^ 60 := hl
  have hx0 : 0 < xs.length := List.length_pos_iff.mpr hx
  refine ⟨_, PSs.nox ((pss_one (ps_ret (pe_ix ix_seq (pv 1) (pe_d (d_l_take T) (hr.mono (by decide)) rfl pass0 (pa_cons (pv 0) (pa_cons (pe_callB call_len (by rfl) (T.f 63) boot_len (pa_cons (pv 1) pa_nil)) pa_nil))) (fun _ _ => rfl))))), ?_⟩
  repeat walk_at "s"
  refine ⟨_, xs.length, rfl, .inl ⟨_, lOf h1, rfl⟩, ?_⟩
  repeat walk_at "s"
  refine ⟨S, lg (n := 60) (by omega) (by decide) (by decide), fun v H1 k1 S1 v0 vl vh => ?_⟩
  have hv : v < xs.length := by
    by_cases h : 2 ≤ (xs.length : Int)
    · exact vh h
    · have := vl (by omega)
      omega
  obtain ⟨n, rfl⟩ := Int.eq_ofNat_of_zero_le v0
  have hn : n < xs.length := by omega
  have hg : xs[n]? = some xs[n] := List.getElem?_eq_getElem hn
  refine .inl ⟨_, _, _, _, rfl, rfl, lOf (k1.1 _ _ hrs h1), atI_nat hg, ?_⟩
  exact k _ H1 k1 S1 (List.getElem_mem hn)
/-- a value that is no whole number -/
def Odd6 (v : V) (H : Hp) : Prop := v = .bl true ∨ v = .bl false ∨ v = .non ∨ v = .str "0" ∨ (∃ p, v = .ref p ∧ H p = some (.tup [.int 0])) ∨ v = .str ""
def spOdd : Sp := fun vs H Q _ => ∃ (s : Addr), vs = [.ref s] ∧ StO H s ∧
  ∀ p v H', Kp s H H' → StO H' s → H p = none → H' p = some (.lst [v]) → Odd6 v H' → Q (.ref p) H'
theorem sc_l_odd : FnScope ["store"] ["store"] (defScope s_l_odd) := ⟨rfl, rfl, rfl, by decide +kernel, rfl, by decide +kernel, by decide +kernel⟩
theorem d_l_odd (T : Tx K mg) : Dn PP w K mg base CX0 4 "_law_odd" ["store"] (spOdd) := by
  obtain ⟨fd, F⟩ := T.d 10
  refine ⟨_, fd, T.g 10, F.kp, FunD.bindsN F (fun _ _ _ _ _ _ us hl => match us, hl with | [_], _ => rfl), FunD.ok F sc_l_odd (by walk_at "len") (fun cdv A outer s H vs Q E hr h => ?_)⟩
  obtain ⟨s, rfl, S, k⟩ := h
  refine ⟨_, PSs.nox ((pss_one (ps_ret (pe_lst (pa_cons (pe_d (d_l_pick T) (hr.mono (by decide)) rfl pass0 (pa_cons (pv 0) (pa_cons (pe_lst (pa_cons pe_bl (pa_cons pe_bl (pa_cons pe_non (pa_cons pe_str (pa_cons (pe_tup (pa_cons pe_int pa_nil)) (pa_cons pe_str pa_nil))))))) pa_nil))) pa_nil))))), ?_⟩
  have hs : ∀ {p}, H p = none → p ≠ s := S.ne
  repeat walk_at "s"
  refine ⟨sz rfl, fun t ht => ?_⟩
  repeat walk_at "s"
  refine ⟨sz rfl, fun r hr => ?_⟩
  have hrs : r ≠ s := S.ne (Ex.refl.at ht |>.none hr)
  refine ⟨_, _, _, rfl, (S.ex (Ex.refl.at ht)).ex (Ex.refl.at hr), upd_same, hrs, (fun h => nomatch h), ln rfl, fun v H1 k1 S1 hv => ?_⟩
  refine ⟨sz rfl, fun p hp => ?_⟩
  have k2 : Kp s H (upd H1 p (.lst [v])) := ((Ex.refl.at ht).kp.trans ((Ex.refl.at hr).kp.trans k1)).new hp
  have htu : upd H1 p (.lst [v]) t = some (.tup [.int 0]) := look_new hp (k1.1 _ _ (S.ne ht) (look_new hr upd_same))
  have hp0 : H p = none := ((Ex.refl.at ht).kp.trans ((Ex.refl.at hr).kp.trans k1)).none (S1.ne hp) hp
  refine k p v _ k2 (S1.ex (Ex.refl.at hp)) hp0 upd_same ?_
  · rcases List.mem_cons.mp hv with e | hv
    · exact .inl e
    rcases List.mem_cons.mp hv with e | hv
    · exact .inr (.inl e)
    rcases List.mem_cons.mp hv with e | hv
    · exact .inr (.inr (.inl e))
    rcases List.mem_cons.mp hv with e | hv
    · exact .inr (.inr (.inr (.inl e)))
    rcases List.mem_cons.mp hv with e | hv
    · exact .inr (.inr (.inr (.inr (.inl ⟨t, e, htu⟩))))
    rcases List.mem_cons.mp hv with e | hv
    · exact .inr (.inr (.inr (.inr (.inr e))))
    cases hv
end
end Lw
namespace Lw
open PySem PySem.Spec PyProof.Rows L2
/-! ### the draws -/
local macro_rules | `(tactic| walk_at "len") => `(tactic| (intro vs H Q E h; first | (obtain ⟨_, e, _⟩ := h; subst e; rfl) | (obtain ⟨_, _, e, _⟩ := h; subst e; rfl) | (obtain ⟨_, _, _, e, _⟩ := h; subst e; rfl) | (obtain ⟨_, _, _, _, e, _⟩ := h; subst e; rfl) | (obtain ⟨_, _, _, _, _, e, _⟩ := h; subst e; rfl) | (obtain ⟨_, _, _, _, _, _, e, _⟩ := h; subst e; rfl) | (obtain ⟨_, _, _, _, _, _, _, e, _⟩ := h; subst e; rfl)))
local macro_rules | `(tactic| walk_at "get") => `(tactic| (first | assumption | exact upd_same | (refine look_new (by assumption) ?_; walk_at "get") | (refine look_ne (by assumption) ?_; walk_at "get")))
local macro_rules | `(tactic| walk_at "s") => `(tactic| (first
  | refine ⟨_, rfl, ?_⟩
  | refine Or.inl ⟨_, rfl, ?_⟩
  | refine Or.inl ⟨_, _, _, _, rfl, rfl, lOf (by walk_at "get"), rfl, ?_⟩
  | refine ⟨_, _, _, _, rfl, rfl, (by walk_at "get"), rfl, ?_⟩
  | refine ⟨_, _, rfl, rfl, Or.inl (Or.inr ⟨by decide, by decide⟩), ?_⟩
  | refine ⟨_, _, rfl, rfl, (by show (0 : Int) < _; first | assumption | decide), ?_⟩
  | refine ⟨_, _, rfl, rfl, ⟨by decide, by decide⟩, ?_⟩
  | refine ⟨_, _, rfl, rfl, ⟨by decide, by decide +kernel⟩, ?_⟩
  | refine ⟨_, _, rfl, rfl, (by show (0 : Int) < _; decide +kernel), ?_⟩
  | refine ⟨(show CMulA _ _ from Or.inl (Or.inl ⟨by (try dsimp only); omega, by (try dsimp only); omega⟩)), ?_⟩
  | refine ⟨_, _, rfl, rfl, ?_⟩
  | refine ⟨_, _, rfl, ?_⟩
  | refine ⟨rfl, _, rfl, ?_⟩
  | refine ⟨rfl, ?_⟩
  | refine ⟨_, _, _, _, _, rfl, .ty _, (by assumption), kit_ty (by rfl), ?_⟩))
local macro_rules | `(tactic| walk_at "c") => `(tactic| (try dsimp only [L2.start, List.set, List.map, List.length, List.replicate, List.cons_append, List.nil_append, List.append, HAppend.hAppend, Append.append, Int.toNat, Nat.reduceSub, Nat.reduceAdd]))
theorem iteT {b : Bool} {p q : Prop} (h : b = true) (x : p) : if b = true then p else q := by
  rw [if_pos h]
  exact x
theorem iteF {b : Bool} {p q : Prop} (h : b = false) (x : q) : if b = true then p else q := by
  rw [if_neg (by rw [h]; exact Bool.false_ne_true)]
  exact x
local macro_rules | `(tactic| walk_at "T") => `(tactic| ((repeat walk_at "s"); refine iteT (by first | rfl | assumption | decide) ?_; (repeat walk_at "s")))
local macro_rules | `(tactic| walk_at "F") => `(tactic| ((repeat walk_at "s"); refine iteF (by first | rfl | assumption | decide) ?_; (repeat walk_at "s")))
local macro_rules | `(tactic| walk_at "isi") => `(tactic| ((repeat walk_at "s"); refine ⟨_, _, _, _, _, rfl, .ty _, (by assumption), kit_ty (by rfl), ?_⟩; (repeat walk_at "s")))
/-! ### data -/
def tyD : PyData → String
  | .none => "NoneType"
  | .bool _ => "bool"
  | .int _ => "int"
  | .str _ => "str"
  | .list _ => "list"
  | .tuple _ => "tuple"
  | .dict _ => "dict"
def sortD : PyData → Str
  | .none => "none"
  | .bool _ => "bool"
  | .int _ => "int"
  | .str _ => "str"
  | .list _ => "list"
  | .tuple _ => "tuple"
  | .dict _ => "dict"
theorem dp_ty {K : PySem.W.Frag} {H : Hp} {v : V} {d : PyData} (h : Dp K H v d) : TyX K H v (.type (tyD d)) := by
  cases h with
  | non => exact .base .non
  | bl b => exact .base (.bl b)
  | int i => exact .base (.int i)
  | str x => exact .base (.str x)
  | lst h _ =>
    rcases h with (h | ⟨o, h⟩) | ⟨o, its, n, h, hc, _⟩
    · exact .base (.lst h)
    · exact .base (.frz h)
    · exact .kList h hc
  | tup h _ =>
    rcases h with (h | ⟨o, h⟩) | ⟨o, its, n, h, hc, _⟩
    · exact .base (.tup h)
    · exact .fTuple h
    · exact .kTuple h hc
mutual
theorem Ex.dp {K : PySem.W.Frag} {H H' : Hp} (e : Ex H H') : ∀ {d : PyData} {v : V}, Dp K H v d → Dp K H' v d
  | .none, _, .non => .non
  | .bool _, _, .bl b => .bl b
  | .int _, _, .int i => .int i
  | .str _, _, .str i => .str i
  | .list _, _, .lst h t => .lst (e.l h) (e.dps t)
  | .tuple _, _, .tup h t => .tup (e.t h) (e.dps t)
theorem Ex.dps {K : PySem.W.Frag} {H H' : Hp} (e : Ex H H') : ∀ {ds : List PyData} {vs : List V}, DpAll K H vs ds → DpAll K H' vs ds
  | [], _, .nil => .nil
  | _ :: _, _, .cons h t => .cons (e.dp h) (e.dps t)
end
mutual
def sizeD : PyData → Nat
  | .list ds => 1 + sizeDs ds
  | .tuple ds => 1 + sizeDs ds
  | _ => 1
def sizeDs : List PyData → Nat
  | [] => 0
  | d :: ds => sizeD d + sizeDs ds
end
section
variable {w : World} {K : PySem.W.Frag} {mg : Str → Option Value} {base : Heap}
def spSort (K : PySem.W.Frag) : Sp := fun vs H Q _ => ∃ (v : V) (d : PyData), vs = [v] ∧ Dp K H v d ∧ Q (.str (sortD d)) H
theorem sc_l_sort : FnScope ["value"] ["value"] (defScope s_l_sort) := ⟨rfl, rfl, rfl, by decide +kernel, rfl, by decide +kernel, by decide +kernel⟩
theorem d_l_sort (T : Tx K mg) : Dn PP w K mg base CX0 2 "_law_sort" ["value"] (spSort K) := by
  obtain ⟨fd, F⟩ := T.d 11
  refine ⟨_, fd, T.g 11, F.kp, FunD.bindsN F (fun _ _ _ _ _ _ us hl => match us, hl with | [_], _ => rfl), FunD.ok F sc_l_sort (by walk_at "len") (fun cdv A outer s H vs Q E hr h => ?_)⟩
  obtain ⟨v, d, rfl, hd, k⟩ := h
  have ty := dp_ty hd
  refine ⟨_, PSs.nox ((pss_cons (ps_if (pt_cmpR op_isN (pv 0) pe_non (nomark _)) (pss_one (ps_ret pe_str)) pss_nil)
      (pss_cons (ps_if (pt_truth (pe_callB call_isi (by rfl) (T.f 62) (by decide +kernel) (pa_cons (pv 0) (pa_cons (pe_bltn (v := .ty "bool") (by rfl) (T.f 59) (by decide +kernel) rfl) pa_nil))) (by intro _; rfl)) (pss_one (ps_ret pe_str)) pss_nil)
      (pss_cons (ps_if (pt_truth (pe_callB call_isi (by rfl) (T.f 62) (by decide +kernel) (pa_cons (pv 0) (pa_cons (pe_bltn (v := .ty "int") (by rfl) (T.f 61) (by decide +kernel) rfl) pa_nil))) (by intro _; rfl)) (pss_one (ps_ret pe_str)) pss_nil)
      (pss_cons (ps_if (pt_truth (pe_callB call_isi (by rfl) (T.f 62) (by decide +kernel) (pa_cons (pv 0) (pa_cons (pe_bltn (v := .ty "str") (by rfl) (T.f 68) (by decide +kernel) rfl) pa_nil))) (by intro _; rfl)) (pss_one (ps_ret pe_str)) pss_nil)
      (pss_cons (ps_if (pt_truth (pe_callB call_isi (by rfl) (T.f 62) (by decide +kernel) (pa_cons (pv 0) (pa_cons (pe_bltn (v := .ty "list") (by rfl) (T.f 64) (by decide +kernel) rfl) pa_nil))) (by intro _; rfl)) (pss_one (ps_ret pe_str)) pss_nil)
      (pss_cons (ps_if (pt_truth (pe_callB call_isi (by rfl) (T.f 62) (by decide +kernel) (pa_cons (pv 0) (pa_cons (pe_bltn (v := .ty "tuple") (by rfl) (T.f 70) (by decide +kernel) rfl) pa_nil))) (by intro _; rfl)) (pss_one (ps_ret pe_str)) pss_nil)
      (pss_cons (ps_if (pt_truth (pe_callB call_isi (by rfl) (T.f 62) (by decide +kernel) (pa_cons (pv 0) (pa_cons (pe_bltn (v := .ty "dict") (by rfl) (T.f 60) (by decide +kernel) rfl) pa_nil))) (by intro _; rfl)) (pss_one (ps_ret pe_str)) pss_nil)
      (pss_one (ps_ret pe_str)))))))))), ?_⟩
  cases hd
  all_goals
    repeat walk_at "s"
  all_goals exact k
end
end Lw
namespace Lw
open PySem PySem.Spec PyProof.Rows L2
/-! ### the draws -/
local macro_rules | `(tactic| walk_at "len") => `(tactic| (intro vs H Q E h; first | (obtain ⟨_, e, _⟩ := h; subst e; rfl) | (obtain ⟨_, _, e, _⟩ := h; subst e; rfl) | (obtain ⟨_, _, _, e, _⟩ := h; subst e; rfl) | (obtain ⟨_, _, _, _, e, _⟩ := h; subst e; rfl) | (obtain ⟨_, _, _, _, _, e, _⟩ := h; subst e; rfl) | (obtain ⟨_, _, _, _, _, _, e, _⟩ := h; subst e; rfl) | (obtain ⟨_, _, _, _, _, _, _, e, _⟩ := h; subst e; rfl)))
local macro_rules | `(tactic| walk_at "get") => `(tactic| (first | assumption | exact upd_same | (refine look_new (by assumption) ?_; walk_at "get") | (refine look_ne (by assumption) ?_; walk_at "get")))
local macro_rules | `(tactic| walk_at "s") => `(tactic| (first
  | refine ⟨_, rfl, ?_⟩
  | refine Or.inl ⟨_, rfl, ?_⟩
  | refine Or.inl ⟨_, _, _, _, rfl, rfl, lOf (by walk_at "get"), rfl, ?_⟩
  | refine ⟨_, _, _, _, rfl, rfl, (by walk_at "get"), rfl, ?_⟩
  | refine ⟨_, _, rfl, rfl, Or.inl (Or.inr ⟨by decide, by decide⟩), ?_⟩
  | refine ⟨_, _, rfl, rfl, (by show (0 : Int) < _; first | assumption | decide), ?_⟩
  | refine ⟨_, _, rfl, rfl, ⟨by decide, by decide⟩, ?_⟩
  | refine ⟨_, _, rfl, rfl, ⟨by decide, by decide +kernel⟩, ?_⟩
  | refine ⟨_, _, rfl, rfl, (by show (0 : Int) < _; decide +kernel), ?_⟩
  | refine ⟨(show CMulA _ _ from Or.inl (Or.inl ⟨by (try dsimp only); omega, by (try dsimp only); omega⟩)), ?_⟩
  | refine ⟨_, _, rfl, rfl, ?_⟩
  | refine ⟨_, _, rfl, (show Dp _ _ _ _ by assumption), ?_⟩
  | refine ⟨_, _, rfl, (show SqT _ _ _ _ by assumption), ?_⟩
  | refine ⟨_, _, rfl, (show SqL _ _ _ _ by assumption), ?_⟩
  | refine ⟨_, _, rfl, ?_⟩
  | refine ⟨rfl, _, rfl, ?_⟩
  | refine ⟨rfl, ?_⟩
  | refine ⟨_, _, _, _, _, rfl, .ty _, (by assumption), kit_ty (by rfl), ?_⟩))
local macro_rules | `(tactic| walk_at "c") => `(tactic| (try dsimp only [L2.start, List.set, List.map, List.length, List.replicate, List.cons_append, List.nil_append, List.append, HAppend.hAppend, Append.append, Int.toNat, Nat.reduceSub, Nat.reduceAdd]))
local macro_rules | `(tactic| walk_at "T") => `(tactic| ((repeat walk_at "s"); refine iteT (by first | rfl | assumption | decide) ?_; (repeat walk_at "s")))
local macro_rules | `(tactic| walk_at "F") => `(tactic| ((repeat walk_at "s"); refine iteF (by first | rfl | assumption | decide) ?_; (repeat walk_at "s")))
local macro_rules | `(tactic| walk_at "isi") => `(tactic| ((repeat walk_at "s"); refine ⟨_, _, _, _, _, rfl, .ty _, (by assumption), kit_ty (by rfl), ?_⟩; (repeat walk_at "s")))
/-! ### sameness of data -/
def PairOk (K : PySem.W.Frag) (H H' : Hp) (v : V) (d : PyData) : Prop := ∃ t x y, v = .ref t ∧ H' t = some (.tup [x, y]) ∧ Dp K H x d ∧ Dp K H y d
def tot (ts : List (V × PyData)) : Nat := sizeDs (ts.map (·.2))
theorem sizeDs_app : ∀ xs ys : List PyData, sizeDs (xs ++ ys) = sizeDs xs + sizeDs ys
  | [], ys => by simp [sizeDs]
  | x :: xs, ys => by
    show sizeD x + sizeDs (xs ++ ys) = (sizeD x + sizeDs xs) + sizeDs ys
    rw [sizeDs_app xs ys]
    omega
theorem sizeD_pos (d : PyData) : 1 ≤ sizeD d := by cases d <;> simp [sizeD]
theorem dsl : ∀ ds : List PyData, ds.length ≤ sizeDs ds
  | [] => Nat.zero_le _
  | d :: ds => by
    have := dsl ds
    have := sizeD_pos d
    show ds.length + 1 ≤ sizeD d + sizeDs ds
    omega
theorem last_app {xs : List V} {v : V} : (xs ++ [v])[(xs ++ [v]).length - 1]? = some v := by simp
theorem dps_len {K : PySem.W.Frag} {H : Hp} : ∀ {ds : List PyData} {vs : List V}, DpAll K H vs ds → vs.length = ds.length
  | [], _, .nil => rfl
  | _ :: _, _, .cons _ t => congrArg (· + 1) (dps_len t)
theorem dps_get {K : PySem.W.Frag} {H : Hp} : ∀ {ds : List PyData} {vs : List V}, DpAll K H vs ds → ∀ k, k < ds.length → ∃ v d, vs[k]? = some v ∧ ds[k]? = some d ∧ Dp K H v d
  | [], _, .nil, _, h => absurd h (Nat.not_lt_zero _)
  | d :: _, _, .cons h _, 0, _ => ⟨_, _, rfl, rfl, h⟩
  | _ :: _, _, .cons _ t, k + 1, h => dps_get t k (Nat.lt_of_succ_lt_succ h)
theorem atI_z {xs : List V} {i : Nat} {v : V} (h : xs[i]? = some v) : atI xs (0 + (i : Int)) = some v := by
  rw [Int.zero_add]
  exact atI_nat h
theorem take_size : ∀ {ds : List PyData} {i : Nat} {d : PyData}, ds[i]? = some d → sizeDs (ds.take (i + 1)) = sizeDs (ds.take i) + sizeD d
  | d :: ds, 0, _, h => by
    obtain rfl := Option.some.inj h
    simp [sizeDs]
  | d :: ds, i + 1, e, h => by
    have := take_size (ds := ds) (i := i) h
    show sizeD d + sizeDs (ds.take (i + 1)) = (sizeD d + sizeDs (ds.take i)) + sizeD e
    omega
theorem take_le : ∀ (ds : List PyData) (i : Nat), sizeDs (ds.take i) ≤ sizeDs ds
  | [], i => by simp [sizeDs]
  | d :: ds, 0 => by simp [sizeDs]
  | d :: ds, i + 1 => by
    have := take_le ds i
    show sizeD d + sizeDs (ds.take i) ≤ sizeD d + sizeDs ds
    omega
theorem tot_app {ts : List (V × PyData)} {t : V} {d : PyData} : tot (ts ++ [(t, d)]) = tot ts + sizeD d := by
  unfold tot
  rw [List.map_append, sizeDs_app]
  simp [sizeDs]
theorem tot_len : ∀ ts : List (V × PyData), ts.length ≤ tot ts
  | [] => Nat.zero_le _
  | t :: ts => by
    have h1 := tot_len ts
    have h2 := sizeD_pos t.2
    show ts.length + 1 ≤ sizeD t.2 + tot ts
    omega
section
variable {w : World} {K : PySem.W.Frag} {mg : Str → Option Value} {base : Heap}
/-- the same data gives True; all that is there stays -/
def spSame (K : PySem.W.Frag) : Sp := fun vs H Q _ => ∃ (x y : V) (d : PyData), vs = [x, y] ∧ Dp K H x d ∧ Dp K H y d ∧ sizeD d < 100000 ∧ ∀ H', Ex H H' → Q (.bl true) H'
theorem sc_l_same : FnScope ["one", "two", "pairs", "turn", "pair", "here", "there", "sort", "k"] ["one", "two"] (defScope s_l_same) := ⟨rfl, rfl, rfl, by decide +kernel, rfl, by decide +kernel, by decide +kernel⟩
theorem d_l_same (T : Tx K mg) : Dn PP w K mg base CX0 3 "_law_same" ["one", "two"] (spSame K) := by
  obtain ⟨fd, F⟩ := T.d 12
  refine ⟨_, fd, T.g 12, F.kp, FunD.bindsN F (fun _ _ _ _ _ _ us hl => match us, hl with | [_, _], _ => rfl), FunD.ok F sc_l_same (by walk_at "len") (fun cdv A outer s H vs Q E hr h => ?_)⟩
  obtain ⟨x, y, d, rfl, hx, hy, hs, k⟩ := h
  refine ⟨_, PSs.nox ((pss_cons (ps_set (i := 2) sc_l_same.nd rfl (.inl rfl) (pe_lst (pa_cons (pe_tup (pa_cons (pv 0) (pa_cons (pv 1) pa_nil))) pa_nil)))
      (pss_cons (ps_for PassesOwn.never rfl (pi_range1 rfl (T.f 67) (pa_cons pe_int pa_nil)) (pg_name (i := 3) sc_l_same.nd rfl (.inl rfl)) (pss_cons (ps_if (pt_not (pt_truth (pv 2) (by intro _; rfl))) (pss_one (ps_ret pe_bl)) pss_nil)
      (pss_cons (ps_set (i := 4) sc_l_same.nd rfl (.inl rfl) (pe_bm0 PySem.F.plainAttrs_list PySem.F.slot_list_pop PySem.F.type_list_pop mt_pop (pv 2)))
      (pss_cons (ps_set (i := 5) sc_l_same.nd rfl (.inl rfl) (pe_ix ix_seq (pv 4) pe_int (fun _ _ => rfl)))
      (pss_cons (ps_set (i := 6) sc_l_same.nd rfl (.inl rfl) (pe_ix ix_seq (pv 4) pe_int (fun _ _ => rfl)))
      (pss_cons (ps_set (i := 7) sc_l_same.nd rfl (.inl rfl) (pe_d (d_l_sort T) (hr.mono (by decide)) rfl pass0 (pa_cons (pv 5) pa_nil)))
      (pss_cons (ps_if (PW.pt (pw_or (pt_cmpR op_eq (pv 7) pe_str (nomark _)) (pw_or1 (pt_cmpR op_ne (pv 7) (pe_d (d_l_sort T) (hr.mono (by decide)) rfl pass0 (pa_cons (pv 6) pa_nil)) (nomark _))))) (pss_one (ps_ret pe_bl)) pss_nil)
      (pss_one (ps_if (pt_cmpR op_eq (pv 7) pe_str (nomark _)) (pss_one ps_never) (pss_one (ps_if (PW.pt (pw_or (pt_cmpR op_eq (pv 7) pe_str (nomark _)) (pw_or1 (pt_cmpR op_eq (pv 7) pe_str (nomark _))))) (pss_cons (ps_if (pt_cmpR op_ne (pe_callB call_len (by rfl) (T.f 63) boot_len (pa_cons (pv 5) pa_nil)) (pe_callB call_len (by rfl) (T.f 63) boot_len (pa_cons (pv 6) pa_nil)) (nomark _)) (pss_one (ps_ret pe_bl)) pss_nil)
      (pss_one (ps_for PassesOwn.never rfl (pi_range1 rfl (T.f 67) (pa_cons (pe_callB call_len (by rfl) (T.f 63) boot_len (pa_cons (pv 5) pa_nil)) pa_nil)) (pg_name (i := 8) sc_l_same.nd rfl (.inl rfl)) (pss_one (ps_expr (pe_bm PySem.F.plainAttrs_list PySem.F.slot_list_append PySem.F.type_list_append mt_append (pv 2) (pa_cons (pe_tup (pa_cons (pe_ix ix_seq (pv 5) (pv 8) (fun _ _ => rfl)) (pa_cons (pe_ix ix_seq (pv 6) (pv 8) (fun _ _ => rfl)) pa_nil))) pa_nil))))))) (pss_one (ps_if (pt_cmpR op_ne (pv 5) (pv 6) (nomark _)) (pss_one (ps_ret pe_bl)) pss_nil)))))))))))))
      (pss_one (ps_ret pe_bl))))), ?_⟩
  repeat walk_at "s"
  refine ⟨sz rfl, fun t ht => ?_⟩
  repeat walk_at "s"
  refine ⟨sz rfl, fun p hp => ?_⟩
  have hp0 : H p = none := Ex.refl.at ht |>.none hp
  repeat walk_at "s"
  refine ⟨by decide, by decide, for_range (n := 1000000) (fun m σ H' => ∃ (ts : List (V × PyData)) (z1 z2 z3 z4 z5 z6 : Option V), σ = [some x, some y, some (.ref p), z1, z2, z3, z4, z5, z6] ∧ Ex H H' ∧ H' p = some (.lst (ts.map (·.1))) ∧
    (∀ t ∈ ts, PairOk K H H' t.1 t.2) ∧ m + tot ts ≤ 100000) ?_ ?_ ?_⟩
  · refine ⟨[(.ref t, d)], _, _, _, _, _, _, rfl, (Ex.refl.at ht).trans (Ex.refl.at hp), upd_same, ?_, ?_⟩
    · intro u hu
      obtain rfl := List.mem_singleton.mp hu
      exact ⟨t, x, y, rfl, look_new hp upd_same, hx, hy⟩
    · show 0 + (sizeD d + 0) ≤ 100000
      omega
  · rintro m σ H1 hm ⟨ts, z1, z2, z3, z4, z5, z6, rfl, e1, hpl, hts, hto⟩
    rcases List.eq_nil_or_concat ts with e | ⟨ts1, ⟨v, d1⟩, e⟩
    · subst e
      repeat walk_at "s"
      refine ⟨false, .inl ⟨[], lOf hpl, rfl⟩, ?_⟩
      repeat walk_at "s"
      exact k _ e1
    · rw [List.concat_eq_append] at e
      subst e
      have hpl' : H1 p = some (.lst (ts1.map (·.1) ++ [v])) := by rw [hpl, List.map_append]; rfl
      obtain ⟨t1, x1, y1, ev, ht1, hx1, hy1⟩ := hts (v, d1) (List.mem_append_right _ (List.mem_cons_self ..))
      have ev : v = .ref t1 := ev
      subst ev
      have hto1 : m + (tot ts1 + sizeD d1) ≤ 100000 := by
        have : tot (ts1 ++ [(V.ref t1, d1)]) = tot ts1 + sizeD d1 := by
          unfold tot
          rw [List.map_append, sizeDs_app]
          simp [sizeDs]
        omega
      have hts1 : ∀ t ∈ ts1, PairOk K H H1 t.1 t.2 := fun t h => hts t (List.mem_append_left _ h)
      repeat walk_at "s"
      refine ⟨true, .inl ⟨_, lOf hpl', by simp⟩, ?_⟩
      repeat walk_at "s"
      refine ⟨.inl ⟨rfl, _, lOf hpl'⟩, p, _, _, rfl, rfl, hpl', last_app, ?_⟩
      rw [List.dropLast_concat]
      have hne : t1 ≠ p := fun e => by rw [e, hpl] at ht1; cases ht1
      have e2 : Ex H (upd H1 p (.lst (ts1.map (·.1)))) := e1.at hp0
      have ht2 : upd H1 p (.lst (ts1.map (·.1))) t1 = some (.tup [x1, y1]) := look_ne hne ht1
      have hts2 : ∀ t ∈ ts1, PairOk K H (upd H1 p (.lst (ts1.map (·.1)))) t.1 t.2 := fun t h =>
        let ⟨t2, x2, y2, a, b, c, d⟩ := hts1 t h
        ⟨t2, x2, y2, a, look_ne (fun e => by rw [e, hpl] at b; cases b) b, c, d⟩
      have hp2 : upd H1 p (.lst (ts1.map (·.1))) p = some (.lst (ts1.map (·.1))) := upd_same
      generalize upd H1 p (.lst (ts1.map (·.1))) = H2 at e2 ht2 hts2 hp2
      repeat walk_at "s"
      refine .inr (.inl ⟨_, _, 0, _, rfl, rfl, tOf ht2, rfl, ?_⟩)
      repeat walk_at "s"
      refine .inr (.inl ⟨_, _, 1, _, rfl, rfl, tOf ht2, rfl, ?_⟩)
      have hx2 := e2.dp hx1
      have hy2 := e2.dp hy1
      cases hx1 <;> cases hy1
      all_goals
        repeat walk_at "s"
      · first
          | exact ⟨ts1, _, _, _, _, _, _, rfl, e2, hp2, hts2, by have := sizeD_pos PyData.none; omega⟩
          | exact iteF (by simp) ⟨ts1, _, _, _, _, _, _, rfl, e2, hp2, hts2, by have := sizeD_pos PyData.none; omega⟩
      · rename_i d1
        exact iteF (by simp) ⟨ts1, _, _, _, _, _, _, rfl, e2, hp2, hts2, by have := sizeD_pos (PyData.bool d1); omega⟩
      · rename_i d1
        exact iteF (by simp) ⟨ts1, _, _, _, _, _, _, rfl, e2, hp2, hts2, by have := sizeD_pos (PyData.int d1); omega⟩
      · rename_i d1
        exact iteF (by simp) ⟨ts1, _, _, _, _, _, _, rfl, e2, hp2, hts2, by have := sizeD_pos (PyData.str d1); omega⟩
      · rename_i a1 xs1 ds1 hs1 ha1 a2 xs2 hs2 ha2
        have hz : sizeD (PyData.list ds1) = 1 + sizeDs ds1 := by simp [sizeD]
        have hto2 : m + (tot ts1 + (1 + sizeDs ds1)) ≤ 100000 := by rw [← hz]; exact hto1
        refine ⟨_, ds1.length, rfl, .inl ⟨_, e2.l hs1, (dps_len ha1).symm⟩, ?_⟩
        repeat walk_at "s"
        refine ⟨_, ds1.length, rfl, .inl ⟨_, e2.l hs2, (dps_len ha2).symm⟩, ?_⟩
        repeat walk_at "s"
        refine iteF (by simp) ?_
        repeat walk_at "s"
        refine ⟨_, ds1.length, rfl, .inl ⟨_, e2.l hs1, (dps_len ha1).symm⟩, ?_⟩
        have hn := dsl ds1
        refine ⟨_, rfl, by omega, by omega, for_range (n := ds1.length) (fun i σ H' => ∃ (ts : List (V × PyData)) (z6 : Option V), σ = [some x, some y, some (.ref p), some (.int (0 + (m : Int))), some (.ref t1), some (.ref a1), some (.ref a2), some (.str "list"), z6] ∧ Ex H H' ∧ H' p = some (.lst (ts.map (·.1))) ∧
          (∀ t ∈ ts, PairOk K H H' t.1 t.2) ∧ tot ts = tot ts1 + sizeDs (ds1.take i)) ?_ ?_ ?_⟩
        · exact ⟨ts1, _, rfl, e2, hp2, hts2, by simp [sizeDs]⟩
        · rintro i σ H3 hi ⟨ts, z6, rfl, e3, hp3, hts3, hto3⟩
          obtain ⟨v1, d1, hv1, hd1, hdp1⟩ := dps_get ha1 i hi
          obtain ⟨v2, d2, hv2, hd2, hdp2⟩ := dps_get ha2 i hi
          obtain rfl : d1 = d2 := Option.some.inj (hd1.symm.trans hd2)
          have hsz := take_size hd1
          have hle := take_le ds1 (i + 1)
          repeat walk_at "s"
          refine ⟨.inl ⟨rfl, _, lOf hp3⟩, ?_⟩
          repeat walk_at "s"
          refine .inl ⟨_, _, _, _, rfl, rfl, e3.l hs1, atI_z hv1, ?_⟩
          repeat walk_at "s"
          refine .inl ⟨_, _, _, _, rfl, rfl, e3.l hs2, atI_z hv2, ?_⟩
          refine ⟨sz rfl, fun q hq => ?_⟩
          have hl := tot_len ts
          refine ⟨_, _, _, rfl, rfl, look_new hq hp3, ?_, ?_⟩
          · rw [List.length_map, sizeLine_eq]
            omega
          have hqp : q ≠ p := fun e => by rw [e, hp3] at hq; cases hq
          refine ⟨ts ++ [(.ref q, d1)], _, rfl, (e3.new hq).at hp0, ?_, ?_, ?_⟩
          · rw [List.map_append]
            exact upd_same
          · intro t ht
            rcases List.mem_append.mp ht with ht | ht
            · obtain ⟨t2, x2, y2, a, b, c, d⟩ := hts3 t ht
              exact ⟨t2, x2, y2, a, look_ne (fun e => by rw [e, hp3] at b; cases b) (look_new hq b), c, d⟩
            · obtain rfl := List.mem_singleton.mp ht
              exact ⟨q, v1, v2, rfl, look_ne hqp upd_same, hdp1, hdp2⟩
          · rw [tot_app, hto3, hsz]
            omega
        · rintro σ H3 ⟨ts, z6, rfl, e3, hp3, hts3, hto3⟩
          rw [List.take_length] at hto3
          refine ⟨ts, _, _, _, _, _, _, rfl, e3, hp3, hts3, by omega⟩
      · rename_i a1 xs1 ds1 hs1 ha1 a2 xs2 hs2 ha2
        have hz : sizeD (PyData.tuple ds1) = 1 + sizeDs ds1 := by simp [sizeD]
        have hto2 : m + (tot ts1 + (1 + sizeDs ds1)) ≤ 100000 := by rw [← hz]; exact hto1
        refine ⟨_, ds1.length, rfl, .inr ⟨_, e2.t hs1, (dps_len ha1).symm⟩, ?_⟩
        repeat walk_at "s"
        refine ⟨_, ds1.length, rfl, .inr ⟨_, e2.t hs2, (dps_len ha2).symm⟩, ?_⟩
        repeat walk_at "s"
        refine iteF (by simp) ?_
        repeat walk_at "s"
        refine ⟨_, ds1.length, rfl, .inr ⟨_, e2.t hs1, (dps_len ha1).symm⟩, ?_⟩
        have hn := dsl ds1
        refine ⟨_, rfl, by omega, by omega, for_range (n := ds1.length) (fun i σ H' => ∃ (ts : List (V × PyData)) (z6 : Option V), σ = [some x, some y, some (.ref p), some (.int (0 + (m : Int))), some (.ref t1), some (.ref a1), some (.ref a2), some (.str "tuple"), z6] ∧ Ex H H' ∧ H' p = some (.lst (ts.map (·.1))) ∧
          (∀ t ∈ ts, PairOk K H H' t.1 t.2) ∧ tot ts = tot ts1 + sizeDs (ds1.take i)) ?_ ?_ ?_⟩
        · exact ⟨ts1, _, rfl, e2, hp2, hts2, by simp [sizeDs]⟩
        · rintro i σ H3 hi ⟨ts, z6, rfl, e3, hp3, hts3, hto3⟩
          obtain ⟨v1, d1, hv1, hd1, hdp1⟩ := dps_get ha1 i hi
          obtain ⟨v2, d2, hv2, hd2, hdp2⟩ := dps_get ha2 i hi
          obtain rfl : d1 = d2 := Option.some.inj (hd1.symm.trans hd2)
          have hsz := take_size hd1
          have hle := take_le ds1 (i + 1)
          repeat walk_at "s"
          refine ⟨.inl ⟨rfl, _, lOf hp3⟩, ?_⟩
          repeat walk_at "s"
          refine .inr <| .inl ⟨_, _, _, _, rfl, rfl, e3.t hs1, atI_z hv1, ?_⟩
          repeat walk_at "s"
          refine .inr <| .inl ⟨_, _, _, _, rfl, rfl, e3.t hs2, atI_z hv2, ?_⟩
          refine ⟨sz rfl, fun q hq => ?_⟩
          have hl := tot_len ts
          refine ⟨_, _, _, rfl, rfl, look_new hq hp3, ?_, ?_⟩
          · rw [List.length_map, sizeLine_eq]
            omega
          have hqp : q ≠ p := fun e => by rw [e, hp3] at hq; cases hq
          refine ⟨ts ++ [(.ref q, d1)], _, rfl, (e3.new hq).at hp0, ?_, ?_, ?_⟩
          · rw [List.map_append]
            exact upd_same
          · intro t ht
            rcases List.mem_append.mp ht with ht | ht
            · obtain ⟨t2, x2, y2, a, b, c, d⟩ := hts3 t ht
              exact ⟨t2, x2, y2, a, look_ne (fun e => by rw [e, hp3] at b; cases b) (look_new hq b), c, d⟩
            · obtain rfl := List.mem_singleton.mp ht
              exact ⟨q, v1, v2, rfl, look_ne hqp upd_same, hdp1, hdp2⟩
          · rw [tot_app, hto3, hsz]
            omega
        · rintro σ H3 ⟨ts, z6, rfl, e3, hp3, hts3, hto3⟩
          rw [List.take_length] at hto3
          refine ⟨ts, _, _, _, _, _, _, rfl, e3, hp3, hts3, by omega⟩
  · rintro σ H1 ⟨ts, z1, z2, z3, z4, z5, z6, rfl, e1, hpl, hts, hto⟩
    omega
end
end Lw
namespace Lw
open PySem PySem.Spec PyProof.Rows L2
/-! ### the draws -/
local macro_rules | `(tactic| walk_at "len") => `(tactic| (intro vs H Q E h; first | (obtain ⟨_, e, _⟩ := h; subst e; rfl) | (obtain ⟨_, _, e, _⟩ := h; subst e; rfl) | (obtain ⟨_, _, _, e, _⟩ := h; subst e; rfl) | (obtain ⟨_, _, _, _, e, _⟩ := h; subst e; rfl) | (obtain ⟨_, _, _, _, _, e, _⟩ := h; subst e; rfl) | (obtain ⟨_, _, _, _, _, _, e, _⟩ := h; subst e; rfl) | (obtain ⟨_, _, _, _, _, _, _, e, _⟩ := h; subst e; rfl)))
local macro_rules | `(tactic| walk_at "get") => `(tactic| (first | assumption | exact upd_same | (refine look_new (by assumption) ?_; walk_at "get") | (refine look_ne (by assumption) ?_; walk_at "get")))
local macro_rules | `(tactic| walk_at "s") => `(tactic| (first
  | refine ⟨_, rfl, ?_⟩
  | refine Or.inl ⟨_, rfl, ?_⟩
  | refine Or.inl ⟨_, _, _, _, rfl, rfl, lOf (by walk_at "get"), rfl, ?_⟩
  | refine ⟨_, _, _, _, rfl, rfl, (by walk_at "get"), rfl, ?_⟩
  | refine ⟨_, _, rfl, rfl, Or.inl (Or.inr ⟨by decide, by decide⟩), ?_⟩
  | refine ⟨_, _, rfl, rfl, (by show (0 : Int) < _; first | assumption | decide), ?_⟩
  | refine ⟨_, _, rfl, rfl, ⟨by decide, by decide⟩, ?_⟩
  | refine ⟨_, _, rfl, rfl, ⟨by decide, by decide +kernel⟩, ?_⟩
  | refine ⟨_, _, rfl, rfl, (by show (0 : Int) < _; decide +kernel), ?_⟩
  | refine ⟨(show CMulA _ _ from Or.inl (Or.inl ⟨by (try dsimp only); omega, by (try dsimp only); omega⟩)), ?_⟩
  | refine ⟨_, _, rfl, rfl, ?_⟩
  | refine ⟨_, _, rfl, (show Dp _ _ _ _ by assumption), ?_⟩
  | refine ⟨_, _, rfl, (show SqT _ _ _ _ by assumption), ?_⟩
  | refine ⟨_, _, rfl, (show SqL _ _ _ _ by assumption), ?_⟩
  | refine ⟨_, _, rfl, ?_⟩
  | refine ⟨rfl, _, rfl, ?_⟩
  | refine ⟨rfl, ?_⟩
  | refine ⟨_, _, _, _, _, rfl, .ty _, (by assumption), kit_ty (by rfl), ?_⟩))
local macro_rules | `(tactic| walk_at "c") => `(tactic| (try dsimp only [L2.start, List.set, List.map, List.length, List.replicate, List.cons_append, List.nil_append, List.append, HAppend.hAppend, Append.append, Int.toNat, Nat.reduceSub, Nat.reduceAdd]))
local macro_rules | `(tactic| walk_at "T") => `(tactic| ((repeat walk_at "s"); refine iteT (by first | rfl | assumption | decide) ?_; (repeat walk_at "s")))
local macro_rules | `(tactic| walk_at "F") => `(tactic| ((repeat walk_at "s"); refine iteF (by first | rfl | assumption | decide) ?_; (repeat walk_at "s")))
local macro_rules | `(tactic| walk_at "isi") => `(tactic| ((repeat walk_at "s"); refine ⟨_, _, _, _, _, rfl, .ty _, (by assumption), kit_ty (by rfl), ?_⟩; (repeat walk_at "s")))
/-! ### what the module says -/
section
variable {K : PySem.W.Frag} {mg : Str → Option Value}
abbrev GC (K : PySem.W.Frag) : Addr := He.ga K "Growth"
abbrev BN (K : PySem.W.Frag) : Addr := He.ga K "BadNumber"
theorem Tx.m0 (T : Tx K mg) : ErY.Mk0 PP K mg := ⟨T.f 69, by decide +kernel, T.says.tp⟩
theorem Tx.c_Growth (T : Tx K mg) : Cls K (GC K) := He.cls_ok (T.says.d.fact 71 (f := .cls "Growth"))
theorem Tx.k_Growth (T : Tx K mg) : Mk K (GC K) (He.ma K (GC K) "__init__") := He.mkr_ok (T.says.d.fact 74 (f := .mkr "Growth"))
theorem Tx.n1 (T : Tx K mg) : NoAttr K (GC K) "growth_begin" := He.noat_ok (T.says.d.fact 72 (f := .noat "Growth" "growth_begin"))
theorem Tx.n2 (T : Tx K mg) : NoAttr K (GC K) "growth_constants" := He.noat_ok (T.says.d.fact 73 (f := .noat "Growth" "growth_constants"))
theorem Tx.m_add (T : Tx K mg) : Meth K (GC K) "__add__" (He.ma K (GC K) "__add__") := He.meth_ok (T.says.d.fact 76 (f := .meth "Growth" "__add__"))
theorem Tx.m_eq (T : Tx K mg) : Meth K (GC K) "__eq__" (He.ma K (GC K) "__eq__") := He.meth_ok (T.says.d.fact 77 (f := .meth "Growth" "__eq__"))
theorem Tx.m_call (T : Tx K mg) : Meth K (GC K) "__call__" (He.ma K (GC K) "__call__") := He.meth_ok (T.says.d.fact 75 (f := .meth "Growth" "__call__"))
theorem Tx.ex (T : Tx K mg) : HeZ.OwnC K (GC K) ∧ PySem.W.kitOne K (.ref (GC K)) (.ref (GC K)) = some true ∧ HeZ.isT K "Growth" [("int", false), ("bool", false), ("NoneType", false), ("str", false), ("tuple", false), ("list", false), ("dict", false)] = true ∧
    HeZ.nfT K "Growth" ["int", "bool", "NoneType", "str", "tuple", "list", "dict"] = true ∧ StX.CallO K (GC K) (He.ma K (GC K) "__call__") ∧ PySem.W.selfFirst K (GC K) = true ∧ ErY.ErC K (BN K) ∧ HeZ.isB K "BadNumber" is_BadNumber = true ∧ PySem.W.kitOne K (.ref (BN K)) (.type "ValueError") = some true := by
  have e : exB K = true := T.says.more
  unfold exB at e
  obtain ⟨e1, e⟩ := He.ba e
  obtain ⟨e2, e⟩ := He.ba e
  obtain ⟨e3, e⟩ := He.ba e
  obtain ⟨e4, e⟩ := He.ba e
  obtain ⟨e5, e⟩ := He.ba e
  obtain ⟨e6, e⟩ := He.ba e
  obtain ⟨e7, e⟩ := He.ba e
  obtain ⟨e8, e9⟩ := He.ba e
  exact ⟨HeZ.owB_ok e1, of_decide_eq_true e2, e3, e4, ⟨T.m_call.at_, T.m_call.fn, e5⟩, e6, HeZ.ecB_ok e7, e8, of_decide_eq_true e9⟩
theorem Tx.e_BadNumber (T : Tx K mg) : PySem.ErX.ErTxt PP K mg "BadNumber" "BadNumber.__init__" (BN K) (HeZ.mkA K "BadNumber") ["number_told"] er0.body := by
  obtain ⟨e1, e2⟩ := T.says.err (d := er0) (List.mem_of_getElem? (i := 0) rfl)
  refine HeZ.erB_ok (T.g 33) e1 e2 ⟨_, rfl, rfl⟩ fun fd s us h1 h2 h3 hl => ?_
  obtain ⟨a, b, rfl⟩ : ∃ a b, us = [a, b] := by
    match us, hl with
    | [a, b], _ => exact ⟨a, b, rfl⟩
  obtain ⟨n1, n2, n3, n4, n5, n6, n7, n8, n9, n10, n11, n12, n13, n14, n15⟩ := fd
  dsimp only at h1 h2 h3
  subst h1 h2 h3
  exact .of_eq rfl
theorem Tx.b_BadNumber (T : Tx K mg) : PySem.ErX.Body1 "number_told" er0.body := ⟨_, _, _, _, _, _, _, _, _, _, _, _, rfl, rfl⟩
theorem Tx.s_BadNumber (T : Tx K mg) : PySem.ErX.ScOk ["number_told"] := ⟨rfl, rfl, rfl, by decide, by decide, by decide, by decide⟩
end
section
variable {w : World} {K : PySem.W.Frag} {mg : Str → Option Value} {base : Heap}
def spWhole (K : PySem.W.Frag) : Sp := fun vs H Q _ => ∃ (v : V) (t : String), vs = [v] ∧ TyX K H v (.type t) ∧ (t = "int" ∨ t = "bool" ∨ t = "NoneType" ∨ t = "str" ∨ t = "tuple") ∧ Q (.bl (decide (t = "int"))) H
theorem sc_is_whole : FnScope ["value"] ["value"] (defScope s_is_whole) := ⟨rfl, rfl, rfl, by decide +kernel, rfl, by decide +kernel, by decide +kernel⟩
theorem d_is_whole (T : Tx K mg) : Dn PP w K mg base CX0 2 "is_whole" ["value"] (spWhole K) := by
  obtain ⟨fd, F⟩ := T.d 0
  refine ⟨_, fd, T.g 0, F.kp, FunD.bindsN F (fun _ _ _ _ _ _ us hl => match us, hl with | [_], _ => rfl), FunD.ok F sc_is_whole (by walk_at "len") (fun cdv A outer s H vs Q E hr h => ?_)⟩
  obtain ⟨v, t, rfl, ty, ht, k⟩ := h
  refine ⟨_, PSs.nox ((pss_one (ps_ret (pe_and (pe_callB call_isi (by rfl) (T.f 62) (by decide +kernel) (pa_cons (pv 0) (pa_cons (pe_bltn (v := .ty "int") (by rfl) (T.f 61) (by decide +kernel) rfl) pa_nil))) (pe_one (pe_not (pe_callB call_isi (by rfl) (T.f 62) (by decide +kernel) (pa_cons (pv 0) (pa_cons (pe_bltn (v := .ty "bool") (by rfl) (T.f 59) (by decide +kernel) rfl) pa_nil))))))))), ?_⟩
  rcases ht with e | e | e | e | e
  all_goals subst e
  all_goals
    repeat walk_at "s"
  all_goals exact k
/-! ### growths -/
def gv (c0 c1 c2 m : Int) : Int := c0 + c1 * m + c2 * (m * (m - 1) / 2)
theorem nw1 : Nw 3000 (1 : Int) := by
  unfold Nw
  decide +kernel
theorem Nw.add {n : Nat} {i j : Int} (h : Nw n i) (g : Nw n j) : Nw (n + 1) (i + j) := by
  unfold Nw at *
  rw [Nat.pow_succ]
  omega
theorem Nw.sub {n : Nat} {i j : Int} (h : Nw n i) (g : Nw n j) : Nw (n + 1) (i - j) := by
  unfold Nw at *
  rw [Nat.pow_succ]
  omega
theorem Nw.mul {n m : Nat} {i j : Int} (h : Nw n i) (g : Nw m j) : Nw (n + m) (i * j) := wide_lt h g
theorem Nw.mono {n m : Nat} {i : Int} (h : Nw n i) (g : n ≤ m) : Nw m i := Nat.lt_of_lt_of_le h (Nat.pow_le_pow_right (by decide) g)
theorem Nw.half {n : Nat} {i : Int} (h : Nw n i) : Nw n (i / 2) := by
  unfold Nw at *
  omega
theorem Nw.mulOk {n m : Nat} {i j : Int} (h : Nw n i) (g : Nw m j) (h0 : 0 < n) (h1 : 0 < m) (hs : n + m ≤ 1000000) : CMulA i j := .inr (wide_mul h g h0 h1 hs)
theorem Nw.lg {n : Nat} {i : Int} (h : Nw n i) (h0 : 0 < n) (h9 : n ≤ 9000) : i.natAbs.log2 < 9000 := Lw.lg h h0 h9
/-- three constants -/
abbrev cs3 (c0 c1 c2 : Int) : List V := [.int c0, .int c1, .int c2]
def spGv (K : PySem.W.Frag) : Sp := fun vs H Q _ => ∃ (c : Addr) (c0 c1 c2 m : Int), vs = [.ref c, .int m] ∧ SqT K H c (cs3 c0 c1 c2) ∧ Nw 3000 c0 ∧ Nw 3000 c1 ∧ Nw 3000 c2 ∧ Nw 3000 m ∧ Q (.int (gv c0 c1 c2 m)) H
theorem sc_growth_value : FnScope ["constants", "m", "c0", "c1", "c2"] ["constants", "m"] (defScope s_growth_value) := ⟨rfl, rfl, rfl, by decide +kernel, rfl, by decide +kernel, by decide +kernel⟩
theorem d_growth_value (T : Tx K mg) : Dn PP w K mg base CX0 2 "growth_value" ["constants", "m"] (spGv K) := by
  obtain ⟨fd, F⟩ := T.d 1
  refine ⟨_, fd, T.g 1, F.kp, FunD.bindsN F (fun _ _ _ _ _ _ us hl => match us, hl with | [_, _], _ => rfl), FunD.ok F sc_growth_value (by walk_at "len") (fun cdv A outer s H vs Q E hr h => ?_)⟩
  obtain ⟨c, c0, c1, c2, m, rfl, hc, w0, w1, w2, wm, k⟩ := h
  refine ⟨_, PSs.nox ((pss_cons (ps_asg (pv 0) (pg_tup rfl (pgs_cons (pg_name (i := 2) sc_growth_value.nd rfl (.inl rfl)) (pgs_cons (pg_name (i := 3) sc_growth_value.nd rfl (.inl rfl)) (pgs_cons (pg_name (i := 4) sc_growth_value.nd rfl (.inl rfl)) pgs_nil)))))
      (pss_one (ps_ret (pe_op op_addA (pe_op op_addA (pv 2) (pe_op op_mulA (pv 3) (pv 1))) (pe_op op_mulA (pv 4) (pe_op op_fdivW (pe_op op_mulA (pv 1) (pe_op op_sub (pv 1) pe_int)) pe_int))))))), ?_⟩
  have w1' := nw1
  have wm1 := (wm.sub w1')
  have wh := (wm.mul wm1).half
  repeat walk_at "s"
  refine ⟨w1.mulOk wm (by decide) (by decide) (by decide), ?_⟩
  repeat walk_at "s"
  refine ⟨wm.mulOk wm1 (by decide) (by decide) (by decide), ?_⟩
  repeat walk_at "s"
  refine ⟨w2.mulOk wh (by decide) (by decide) (by decide), ?_⟩
  repeat walk_at "s"
  exact k
theorem gv_w {c0 c1 c2 m : Int} (w0 : Nw 3000 c0) (w1 : Nw 3000 c1) (w2 : Nw 3000 c2) (wm : Nw 3000 m) : Nw 10000 (gv c0 c1 c2 m) := by
  have w1' := nw1
  have h1 := w1.mul wm
  have h2 := w2.mul (wm.mul (wm.sub w1')).half
  exact (((w0.mono (m := 6000) (by decide)).add h1).mono (m := 9001) (by decide) |>.add (h2.mono (m := 9001) (by decide))).mono (by decide)
/-- moved constants: a new tuple -/
def spMc (K : PySem.W.Frag) : Sp := fun vs H Q _ => ∃ (c : Addr) (c0 c1 c2 m : Int), vs = [.ref c, .int m] ∧ SqT K H c (cs3 c0 c1 c2) ∧ Nw 3000 c0 ∧ Nw 3000 c1 ∧ Nw 3000 c2 ∧ Nw 3000 m ∧
  ∀ p, H p = none → Q (.ref p) (upd H p (.tup (cs3 (gv c0 c1 c2 m) (c1 + c2 * m) c2)))
theorem sc_moved_constants : FnScope ["constants", "m"] ["constants", "m"] (defScope s_moved_constants) := ⟨rfl, rfl, rfl, by decide +kernel, rfl, by decide +kernel, by decide +kernel⟩
theorem d_moved_constants (T : Tx K mg) : Dn PP w K mg base CX0 3 "moved_constants" ["constants", "m"] (spMc K) := by
  obtain ⟨fd, F⟩ := T.d 2
  refine ⟨_, fd, T.g 2, F.kp, FunD.bindsN F (fun _ _ _ _ _ _ us hl => match us, hl with | [_, _], _ => rfl), FunD.ok F sc_moved_constants (by walk_at "len") (fun cdv A outer s H vs Q E hr h => ?_)⟩
  obtain ⟨c, c0, c1, c2, m, rfl, hc, w0, w1, w2, wm, k⟩ := h
  refine ⟨_, PSs.nox ((pss_one (ps_ret (pe_tup (pa_cons (pe_d (d_growth_value T) (hr.mono (by decide)) rfl pass0 (pa_cons (pv 0) (pa_cons (pv 1) pa_nil))) (pa_cons (pe_op op_addA (pe_ix ix_seq (pv 0) pe_int (fun _ _ => rfl)) (pe_op op_mulA (pe_ix ix_seq (pv 0) pe_int (fun _ _ => rfl)) (pv 1))) (pa_cons (pe_ix ix_seq (pv 0) pe_int (fun _ _ => rfl)) pa_nil))))))), ?_⟩
  repeat walk_at "s"
  refine ⟨_, _, _, _, _, rfl, hc, w0, w1, w2, wm, ?_⟩
  repeat walk_at "s"
  refine .inr (.inl ⟨_, _, _, _, rfl, rfl, hc, rfl, ?_⟩)
  repeat walk_at "s"
  refine .inr (.inl ⟨_, _, _, _, rfl, rfl, hc, rfl, ?_⟩)
  refine ⟨_, rfl, _, _, rfl, rfl, w2.mulOk wm (by decide) (by decide) (by decide), ?_⟩
  repeat walk_at "s"
  refine .inr (.inl ⟨_, _, _, _, rfl, rfl, hc, rfl, ?_⟩)
  exact ⟨sz rfl, k⟩
/-! ### the class -/
def Bad (K : PySem.W.Frag) (H : Hp) (b : V) : Prop := (∃ i, b = .int i ∧ i < 0) ∨ ∃ t, TyX K H b (.type t) ∧ (t = "bool" ∨ t = "NoneType" ∨ t = "str" ∨ t = "tuple")
def gfs (b : Int) (c : Addr) : List (Str × V) := [("growth_begin", .int b), ("growth_constants", .ref c)]
/-- the error with its value -/
def Told (K : PySem.W.Frag) (E : XK) (b : V) (H : Hp) : Prop := ∀ d, H d = none → E (.ref (BN K)) (some d) (upd H d (.xd [("number_told", b)]))
def spInit (K : PySem.W.Frag) : Sp := fun vs H Q E => ∃ (x dx c : Addr) (b : V), vs = [.ref x, b, .ref c] ∧ H x = some (.ins (GC K) dx []) ∧
  ((∃ i : Int, b = .int i ∧ 0 ≤ i ∧ Q .non (upd H x (.ins (GC K) dx (gfs i c)))) ∨ (Bad K H b ∧ Told K E b H))
theorem sc_Growth_init : FnScope ["self", "begin", "constants"] ["self", "begin", "constants"] (defScope s_Growth_init) := ⟨rfl, rfl, rfl, by decide +kernel, rfl, by decide +kernel, by decide +kernel⟩
theorem d_Growth_init (T : Tx K mg) : Fm PP w K mg base (L2N.CX PP w) 4 (He.ma K (He.ga K "Growth") "__init__") ["self", "begin", "constants"] (spInit K) := by
  obtain ⟨fd, F⟩ := T.d 24
  refine ⟨fd, FunD.bindsN F (fun _ _ _ _ _ _ us hl => match us, hl with | [_, _, _], _ => rfl), FunD.ok F sc_Growth_init (by walk_at "len") (fun cdv A outer s H vs Q E hr h => ?_)⟩
  obtain ⟨x, dx, c, b, rfl, hx, hh⟩ := h
  refine ⟨_, (pss_cons (ps_if (PW.pt (pw_or (pt_not (pt_truth (pe_d (d_is_whole T) (hr.mono (by decide)) rfl pass0 (pa_cons (pv 1) pa_nil)) (by intro _; rfl))) (pw_or1 (pt_cmpR op_lt (pv 1) pe_int (nomark _))))) (pss_one (ErY.ps_raiseE1 rfl T.m0 T.e_BadNumber T.b_BadNumber (T.s_BadNumber) hr tkOf (pa_cons (pv 1) pa_nil))) pss_nil)
      (pss_cons (ps_fld (pv 0) (pv 1) rfl)
      (pss_one (ps_fld (pv 0) (pv 2) rfl)))), ?_⟩
  repeat walk_at "s"
  rcases hh with ⟨i, rfl, h0, k⟩ | ⟨hb, k⟩
  · refine ⟨_, "int", rfl, .base (.int i), .inl rfl, ?_⟩
    repeat walk_at "s"
    refine iteF (decide_eq_false (by omega)) ?_
    repeat walk_at "s"
    refine ⟨x, _, _, _, rfl, hx, T.c_Growth, T.n1, by decide, ?_⟩
    repeat walk_at "s"
    refine ⟨x, _, _, _, rfl, upd_same, T.c_Growth, T.n2, (by show 1 < 1000; decide), ?_⟩
    rw [upd_upd]
    exact k
  · rcases hb with ⟨i, rfl, hi⟩ | ⟨t, ty, ht⟩
    · refine ⟨_, "int", rfl, .base (.int i), .inl rfl, ?_⟩
      repeat walk_at "s"
      refine iteT (decide_eq_true hi) ?_
      repeat walk_at "s"
      exact k
    · refine ⟨_, t, rfl, ty, .inr ht, ?_⟩
      have e : decide (t = "int") = false := by
        rcases ht with rfl | rfl | rfl | rfl <;> decide
      rw [e]
      repeat walk_at "s"
      exact k
/-- a growth's numbers -/
structure Gr where
  b : Int
  c0 : Int
  c1 : Int
  c2 : Int
deriving DecidableEq
def Gr.ok (P : Gr) (n : Nat) : Prop := 0 ≤ P.b ∧ Nw n P.b ∧ Nw n P.c0 ∧ Nw n P.c1 ∧ Nw n P.c2
def Gr.at (P : Gr) (i : Int) : Int := gv P.c0 P.c1 P.c2 (i - P.b)
def GrAt (K : PySem.W.Frag) (H : Hp) (g : Addr) (P : Gr) : Prop := ∃ dx c, H g = some (.ins (GC K) dx (gfs P.b c)) ∧ SqT K H c (cs3 P.c0 P.c1 P.c2)
theorem Ex.gr {K : PySem.W.Frag} {H H' : Hp} {g : Addr} {P : Gr} (e : Ex H H') (h : GrAt K H g P) : GrAt K H' g P :=
  let ⟨dx, c, h1, h2⟩ := h
  ⟨dx, c, e _ _ h1, e.t h2⟩
/-- what Growth(..) leaves -/
theorem made {H : Hp} {x dx : Addr} {C : Addr} {fs : List (Str × V)} {o : HO} (h1 : H x = none) (h2 : H dx = none) (h3 : dx ≠ x) : Ex H (upd (upd (upd H dx o) x (.ins C dx [])) x (.ins C dx fs)) ∧ upd (upd (upd H dx o) x (.ins C dx [])) x (.ins C dx fs) x = some (.ins C dx fs) :=
  ⟨((Ex.refl.at h2).at h1).at h1, upd_same⟩
def spBegin (K : PySem.W.Frag) : Sp := fun vs H Q _ => ∃ (g : Addr) (P : Gr), vs = [.ref g] ∧ GrAt K H g P ∧ Q (.int P.b) H
theorem sc_Growth_begin : FnScope ["self"] ["self"] (defScope s_Growth_begin) := ⟨rfl, rfl, rfl, by decide +kernel, rfl, by decide +kernel, by decide +kernel⟩
theorem p_Growth_begin (T : Tx K mg) : PropOf K (He.ga K "Growth") "begin" (He.ma K (He.ga K "Growth") "begin") (HeZ.gfA K ("Growth", some "begin")) := (T.says.get (d := gt0) (List.mem_of_getElem? (i := 0) rfl)).1
theorem d_Growth_begin (T : Tx K mg) : Fm PP w K mg base CX0 2 (HeZ.gfA K ("Growth", some "begin")) ["self"] (spBegin K) := by
  obtain ⟨_, fd, F⟩ := T.says.get (d := gt0) (List.mem_of_getElem? (i := 0) rfl)
  refine ⟨fd, FunD.bindsN F (fun _ _ _ _ _ _ us hl => match us, hl with | [_], _ => rfl), FunD.ok F sc_Growth_begin (by walk_at "len") (fun cdv A outer s H vs Q E hr h => ?_)⟩
  obtain ⟨g, P, rfl, ⟨dx, c, hg, hc⟩, k⟩ := h
  refine ⟨_, PSs.nox ((pss_one (ps_ret (pe_fld (pv 0) rfl)))), ?_⟩
  repeat walk_at "s"
  exact ⟨g, _, _, _, _, rfl, hg, T.c_Growth, T.n1, rfl, k⟩
def spConsts (K : PySem.W.Frag) : Sp := fun vs H Q _ => ∃ (g dx c : Addr) (b : Int), vs = [.ref g] ∧ H g = some (.ins (GC K) dx (gfs b c)) ∧ Q (.ref c) H
theorem sc_Growth_constants : FnScope ["self"] ["self"] (defScope s_Growth_constants) := ⟨rfl, rfl, rfl, by decide +kernel, rfl, by decide +kernel, by decide +kernel⟩
theorem p_Growth_constants (T : Tx K mg) : PropOf K (He.ga K "Growth") "constants" (He.ma K (He.ga K "Growth") "constants") (HeZ.gfA K ("Growth", some "constants")) := (T.says.get (d := gt1) (List.mem_of_getElem? (i := 1) rfl)).1
theorem d_Growth_constants (T : Tx K mg) : Fm PP w K mg base CX0 2 (HeZ.gfA K ("Growth", some "constants")) ["self"] (spConsts K) := by
  obtain ⟨_, fd, F⟩ := T.says.get (d := gt1) (List.mem_of_getElem? (i := 1) rfl)
  refine ⟨fd, FunD.bindsN F (fun _ _ _ _ _ _ us hl => match us, hl with | [_], _ => rfl), FunD.ok F sc_Growth_constants (by walk_at "len") (fun cdv A outer s H vs Q E hr h => ?_)⟩
  obtain ⟨g, dx, c, b, rfl, hg, k⟩ := h
  refine ⟨_, PSs.nox ((pss_one (ps_ret (pe_fld (pv 0) rfl)))), ?_⟩
  repeat walk_at "s"
  exact ⟨g, _, _, _, _, rfl, hg, T.c_Growth, T.n2, rfl, k⟩
def BadN (K : PySem.W.Frag) (H : Hp) (z : Int) (b : V) : Prop := (∃ i, b = .int i ∧ i < z) ∨ ∃ t, TyX K H b (.type t) ∧ (t = "bool" ∨ t = "NoneType" ∨ t = "str" ∨ t = "tuple")
def spCall (K : PySem.W.Frag) : Sp := fun vs H Q E => ∃ (g : Addr) (n : V) (P : Gr), vs = [.ref g, n] ∧ GrAt K H g P ∧
  ((∃ i : Int, n = .int i ∧ P.b ≤ i ∧ P.ok 2900 ∧ Nw 2900 i ∧ Q (.int (P.at i)) H) ∨ (BadN K H P.b n ∧ Told K E n H))
theorem sc_Growth_call : FnScope ["self", "n"] ["self", "n"] (defScope s_Growth_call) := ⟨rfl, rfl, rfl, by decide +kernel, rfl, by decide +kernel, by decide +kernel⟩
theorem d_Growth_call (T : Tx K mg) : Fm PP w K mg base (L2N.CX PP w) 4 (He.ma K (He.ga K "Growth") "__call__") ["self", "n"] (spCall K) := by
  obtain ⟨fd, F⟩ := T.d 25
  refine ⟨fd, FunD.bindsN F (fun _ _ _ _ _ _ us hl => match us, hl with | [_, _], _ => rfl), FunD.ok F sc_Growth_call (by walk_at "len") (fun cdv A outer s H vs Q E hr h => ?_)⟩
  obtain ⟨g, n, P, rfl, ⟨dx, c, hg, hc⟩, hh⟩ := h
  refine ⟨_, (pss_cons (ps_if (PW.pt (pw_or (pt_not (pt_truth (pe_d (d_is_whole T) (hr.mono (by decide)) rfl pass0 (pa_cons (pv 1) pa_nil)) (by intro _; rfl))) (pw_or1 (pt_cmpR op_lt (pv 1) (pe_fld (pv 0) rfl) (nomark _))))) (pss_one (ErY.ps_raiseE1 rfl T.m0 T.e_BadNumber T.b_BadNumber (T.s_BadNumber) hr tkOf (pa_cons (pv 1) pa_nil))) pss_nil)
      (pss_one (ps_ret (pe_d (d_growth_value T) (hr.mono (by decide)) rfl pass0 (pa_cons (pe_fld (pv 0) rfl) (pa_cons (pe_op op_sub (pv 1) (pe_fld (pv 0) rfl)) pa_nil)))))), ?_⟩
  repeat walk_at "s"
  rcases hh with ⟨i, rfl, h0, ok, wi, k⟩ | ⟨hb, k⟩
  · refine ⟨_, "int", rfl, .base (.int i), .inl rfl, ?_⟩
    repeat walk_at "s"
    refine ⟨g, _, _, _, _, rfl, hg, T.c_Growth, T.n1, rfl, ?_⟩
    repeat walk_at "s"
    refine iteF (decide_eq_false (by omega)) ?_
    repeat walk_at "s"
    refine ⟨g, _, _, _, _, rfl, hg, T.c_Growth, T.n2, rfl, ?_⟩
    repeat walk_at "s"
    refine ⟨g, _, _, _, _, rfl, hg, T.c_Growth, T.n1, rfl, ?_⟩
    repeat walk_at "s"
    exact ⟨_, _, _, _, _, rfl, hc, ok.2.2.1.mono (by decide), ok.2.2.2.1.mono (by decide), ok.2.2.2.2.mono (by decide), (wi.sub ok.2.1).mono (by decide), k⟩
  · rcases hb with ⟨i, rfl, hi⟩ | ⟨t, ty, ht⟩
    · refine ⟨_, "int", rfl, .base (.int i), .inl rfl, ?_⟩
      repeat walk_at "s"
      refine ⟨g, _, _, _, _, rfl, hg, T.c_Growth, T.n1, rfl, ?_⟩
      repeat walk_at "s"
      refine iteT (decide_eq_true hi) ?_
      repeat walk_at "s"
      exact k
    · refine ⟨_, t, rfl, ty, .inr ht, ?_⟩
      have e : decide (t = "int") = false := by
        rcases ht with rfl | rfl | rfl | rfl <;> decide
      rw [e]
      repeat walk_at "s"
      exact k
end
end Lw
namespace Lw
open PySem PySem.Spec PyProof.Rows L2
/-! ### the draws -/
local macro_rules | `(tactic| walk_at "len") => `(tactic| (intro vs H Q E h; first | (obtain ⟨_, e, _⟩ := h; subst e; rfl) | (obtain ⟨_, _, e, _⟩ := h; subst e; rfl) | (obtain ⟨_, _, _, e, _⟩ := h; subst e; rfl) | (obtain ⟨_, _, _, _, e, _⟩ := h; subst e; rfl) | (obtain ⟨_, _, _, _, _, e, _⟩ := h; subst e; rfl) | (obtain ⟨_, _, _, _, _, _, e, _⟩ := h; subst e; rfl) | (obtain ⟨_, _, _, _, _, _, _, e, _⟩ := h; subst e; rfl)))
local macro_rules | `(tactic| walk_at "get") => `(tactic| (first | assumption | exact upd_same | (refine look_new (by assumption) ?_; walk_at "get") | (refine look_ne (by assumption) ?_; walk_at "get")))
local macro_rules | `(tactic| walk_at "s") => `(tactic| (first
  | refine ⟨_, rfl, ?_⟩
  | refine Or.inl ⟨_, rfl, ?_⟩
  | refine Or.inl ⟨_, _, _, _, rfl, rfl, lOf (by walk_at "get"), rfl, ?_⟩
  | refine ⟨_, _, _, _, rfl, rfl, (by walk_at "get"), rfl, ?_⟩
  | refine ⟨_, _, rfl, rfl, Or.inl (Or.inr ⟨by decide, by decide⟩), ?_⟩
  | refine ⟨_, _, rfl, rfl, (by show (0 : Int) < _; first | assumption | decide), ?_⟩
  | refine ⟨_, _, rfl, rfl, ⟨by decide, by decide⟩, ?_⟩
  | refine ⟨_, _, rfl, rfl, ⟨by decide, by decide +kernel⟩, ?_⟩
  | refine ⟨_, _, rfl, rfl, (by show (0 : Int) < _; decide +kernel), ?_⟩
  | refine ⟨(show CMulA _ _ from Or.inl (Or.inl ⟨by (try dsimp only); omega, by (try dsimp only); omega⟩)), ?_⟩
  | refine ⟨_, _, rfl, rfl, ?_⟩
  | refine ⟨_, _, rfl, (show Dp _ _ _ _ by assumption), ?_⟩
  | refine ⟨_, _, rfl, (show SqT _ _ _ _ by assumption), ?_⟩
  | refine ⟨_, _, rfl, (show SqL _ _ _ _ by assumption), ?_⟩
  | refine ⟨_, _, rfl, ?_⟩
  | refine ⟨rfl, _, rfl, ?_⟩
  | refine ⟨rfl, ?_⟩
  | refine ⟨_, _, _, _, _, rfl, (by walk_at "get"), (by assumption), (by assumption), rfl, ?_⟩
  | refine ⟨_, _, _, _, _, rfl, .own _, (by assumption), (by assumption), ?_⟩
  | refine ⟨_, _, _, _, _, rfl, .ty _, (by assumption), kit_ty (by rfl), ?_⟩))
local macro_rules | `(tactic| walk_at "c") => `(tactic| (try dsimp only [L2.start, List.set, List.map, List.length, List.replicate, List.cons_append, List.nil_append, List.append, HAppend.hAppend, Append.append, Int.toNat, Nat.reduceSub, Nat.reduceAdd]))
local macro_rules | `(tactic| walk_at "T") => `(tactic| ((repeat walk_at "s"); refine iteT (by first | rfl | assumption | decide) ?_; (repeat walk_at "s")))
local macro_rules | `(tactic| walk_at "F") => `(tactic| ((repeat walk_at "s"); refine iteF (by first | rfl | assumption | decide) ?_; (repeat walk_at "s")))
local macro_rules | `(tactic| walk_at "isi") => `(tactic| ((repeat walk_at "s"); refine ⟨_, _, _, _, _, rfl, .ty _, (by assumption), kit_ty (by rfl), ?_⟩; (repeat walk_at "s")))
section
variable {w : World} {K : PySem.W.Frag} {mg : Str → Option Value} {base : Heap}
theorem ite_both {p : Prop} [Decidable p] {f : Int → Prop} {a b : Int} (h : f a) (g : f b) : f (if p then a else b) := by
  split
  · exact h
  · exact g
def addG (P R : Gr) : Gr :=
  let b := if R.b > P.b then R.b else P.b
  ⟨b, gv P.c0 P.c1 P.c2 (b - P.b) + gv R.c0 R.c1 R.c2 (b - R.b), P.c1 + P.c2 * (b - P.b) + (R.c1 + R.c2 * (b - R.b)), P.c2 + R.c2⟩
/-- a new growth -/
def NewG (K : PySem.W.Frag) (Q : VK) (H : Hp) (P : Gr) : Prop := ∀ r H', Ex H H' → H r = none → GrAt K H' r P → Q (.ref r) H'
def spAdd (K : PySem.W.Frag) : Sp := fun vs H Q _ => ∃ (g h : Addr) (P R : Gr), vs = [.ref g, .ref h] ∧ GrAt K H g P ∧ GrAt K H h R ∧ P.ok 2900 ∧ R.ok 2900 ∧ NewG K Q H (addG P R)
theorem sc_Growth_add : FnScope ["self", "other", "begin", "a0", "a1", "a2", "b0", "b1", "b2"] ["self", "other"] (defScope s_Growth_add) := ⟨rfl, rfl, rfl, by decide +kernel, rfl, by decide +kernel, by decide +kernel⟩
theorem d_Growth_add (T : Tx K mg) : Fm PP w K mg base CX0 6 (He.ma K (He.ga K "Growth") "__add__") ["self", "other"] (spAdd K) := by
  obtain ⟨fd, F⟩ := T.d 26
  refine ⟨fd, FunD.bindsN F (fun _ _ _ _ _ _ us hl => match us, hl with | [_, _], _ => rfl), FunD.ok F sc_Growth_add (by walk_at "len") (fun cdv A outer s H vs Q E hr h => ?_)⟩
  obtain ⟨g, h', P, R, rfl, ⟨dx, c, hg, hc⟩, ⟨dy, c', hg', hc'⟩, okP, okR, k⟩ := h
  obtain ⟨ow, ki, ti, nf, co, sf, _⟩ := T.ex
  have cG := T.c_Growth
  have n1 := T.n1
  have n2 := T.n2
  have tg := ow.ty T.c_Growth hg'
  refine ⟨_, PSs.nox ((pss_cons (ps_if (pt_not (pt_truth (pe_callB call_isi (by rfl) (T.f 62) (by decide +kernel) (pa_cons (pv 1) (pa_cons (pe_glob (v := .ref (He.ga K "Growth")) rfl (T.g 56) rfl) pa_nil))) (by intro _; rfl))) (pss_one ps_never) pss_nil)
      (pss_cons (ps_set (i := 2) sc_Growth_add.nd rfl (.inl rfl) (pe_callB (call_max2 rfl) (by rfl) (T.f 65) (by decide +kernel) (pa_cons (pe_fld (pv 0) rfl) (pa_cons (pe_fld (pv 1) rfl) pa_nil))))
      (pss_cons (ps_asg (pe_d (d_moved_constants T) (hr.mono (by decide)) rfl pass0 (pa_cons (pe_fld (pv 0) rfl) (pa_cons (pe_op op_sub (pv 2) (pe_fld (pv 0) rfl)) pa_nil))) (pg_tup rfl (pgs_cons (pg_name (i := 3) sc_Growth_add.nd rfl (.inl rfl)) (pgs_cons (pg_name (i := 4) sc_Growth_add.nd rfl (.inl rfl)) (pgs_cons (pg_name (i := 5) sc_Growth_add.nd rfl (.inl rfl)) pgs_nil)))))
      (pss_cons (ps_asg (pe_d (d_moved_constants T) (hr.mono (by decide)) rfl pass0 (pa_cons (pe_fld (pv 1) rfl) (pa_cons (pe_op op_sub (pv 2) (pe_fld (pv 1) rfl)) pa_nil))) (pg_tup rfl (pgs_cons (pg_name (i := 6) sc_Growth_add.nd rfl (.inl rfl)) (pgs_cons (pg_name (i := 7) sc_Growth_add.nd rfl (.inl rfl)) (pgs_cons (pg_name (i := 8) sc_Growth_add.nd rfl (.inl rfl)) pgs_nil)))))
      (pss_one (ps_ret (pe_mk (d_Growth_init T) T.k_Growth (hr.mono (by decide)) rfl (T.g 56) passN (pa_cons (pv 2) (pa_cons (pe_tup (pa_cons (pe_op op_addA (pv 3) (pv 6)) (pa_cons (pe_op op_addA (pv 4) (pv 7)) (pa_cons (pe_op op_addA (pv 5) (pv 8)) pa_nil)))) pa_nil)))))))))), ?_⟩
  repeat walk_at "s"
  generalize hb0 : (if R.b > P.b then R.b else P.b) = b
  have b0 : 0 ≤ b := by rw [← hb0]; exact ite_both (f := fun z => 0 ≤ z) okR.1 okP.1
  have bw : Nw 2900 b := by rw [← hb0]; exact ite_both (f := Nw 2900) okR.2.1 okP.2.1
  have add : addG P R = ⟨b, gv P.c0 P.c1 P.c2 (b - P.b) + gv R.c0 R.c1 R.c2 (b - R.b), P.c1 + P.c2 * (b - P.b) + (R.c1 + R.c2 * (b - R.b)), P.c2 + R.c2⟩ := by rw [← hb0]; rfl
  repeat walk_at "s"
  refine ⟨_, _, _, _, _, rfl, hc, okP.2.2.1.mono (by decide), okP.2.2.2.1.mono (by decide), okP.2.2.2.2.mono (by decide), (bw.sub okP.2.1).mono (by decide), fun p hp => ?_⟩
  have hg'' := look_new (o := .tup (cs3 (gv P.c0 P.c1 P.c2 (b - P.b)) (P.c1 + P.c2 * (b - P.b)) P.c2)) hp hg'
  have e1 : Ex H (upd H p (.tup (cs3 (gv P.c0 P.c1 P.c2 (b - P.b)) (P.c1 + P.c2 * (b - P.b)) P.c2))) := Ex.refl.at hp
  have hc1 := e1.t hc'
  have hq1 : SqT K (upd H p (.tup (cs3 (gv P.c0 P.c1 P.c2 (b - P.b)) (P.c1 + P.c2 * (b - P.b)) P.c2))) p (cs3 (gv P.c0 P.c1 P.c2 (b - P.b)) (P.c1 + P.c2 * (b - P.b)) P.c2) := tOf upd_same
  generalize upd H p (.tup (cs3 (gv P.c0 P.c1 P.c2 (b - P.b)) (P.c1 + P.c2 * (b - P.b)) P.c2)) = H1 at hg'' e1 hc1 hq1
  repeat walk_at "s"
  refine ⟨_, _, _, _, _, rfl, hc1, okR.2.2.1.mono (by decide), okR.2.2.2.1.mono (by decide), okR.2.2.2.2.mono (by decide), (bw.sub okR.2.1).mono (by decide), fun p2 hp2 => ?_⟩
  have e2 := e1.trans (Ex.refl.at (o := .tup (cs3 (gv R.c0 R.c1 R.c2 (b - R.b)) (R.c1 + R.c2 * (b - R.b)) R.c2)) hp2)
  have hq2 : SqT K (upd H1 p2 (.tup (cs3 (gv R.c0 R.c1 R.c2 (b - R.b)) (R.c1 + R.c2 * (b - R.b)) R.c2))) p2 (cs3 (gv R.c0 R.c1 R.c2 (b - R.b)) (R.c1 + R.c2 * (b - R.b)) R.c2) := tOf upd_same
  generalize upd H1 p2 (.tup (cs3 (gv R.c0 R.c1 R.c2 (b - R.b)) (R.c1 + R.c2 * (b - R.b)) R.c2)) = H2 at e2 hq2
  repeat walk_at "s"
  refine ⟨sz rfl, fun p3 hp3 => ?_⟩
  intro x dx hx hdx hne
  have e3 := e2.trans (Ex.refl.at (o := .tup (cs3 (gv P.c0 P.c1 P.c2 (b - P.b) + gv R.c0 R.c1 R.c2 (b - R.b)) (P.c1 + P.c2 * (b - P.b) + (R.c1 + R.c2 * (b - R.b))) (P.c2 + R.c2))) hp3)
  obtain ⟨m1, m2⟩ := made (C := GC K) (fs := gfs b p3) (o := .own x) hx hdx hne
  refine ⟨x, dx, p3, .int b, rfl, upd_same, .inl ⟨b, rfl, b0, rfl, ?_⟩⟩
  refine k x _ (e3.trans m1) (e3.none hx) ?_
  rw [add]
  exact ⟨dx, p3, m2, m1.t (tOf upd_same)⟩
theorem dp3 {K : PySem.W.Frag} {H : Hp} (a b c : Int) : DpAll K H (cs3 a b c) [.int a, .int b, .int c] := .cons (.int _) (.cons (.int _) (.cons (.int _) .nil))
theorem shp3 (a b c : Int) : SeqAt.shaped (.tuple [.int a, .int b, .int c]) = true := by
  simp [SeqAt.shaped, PyData.canLay0, PyData.canLayAll0, PyData.depth, PyData.depthAll]
def eqG (P R : Gr) : Bool := (P.b == R.b) && ((P.c0 == R.c0) && ((P.c1 == R.c1) && ((P.c2 == R.c2) && true)))
def spEqG (K : PySem.W.Frag) : Sp := fun vs H Q _ => ∃ (g : Addr) (v : V) (P : Gr), vs = [.ref g, v] ∧ GrAt K H g P ∧
  ((∃ h R, v = .ref h ∧ GrAt K H h R ∧ Q (.bl (eqG P R)) H) ∨ (∃ t, TyX K H v (.type t) ∧ (t, false) ∈ [("int", false), ("bool", false), ("NoneType", false), ("str", false), ("tuple", false), ("list", false), ("dict", false)] ∧ Q (.bl false) H))
theorem sc_Growth_eq : FnScope ["self", "other"] ["self", "other"] (defScope s_Growth_eq) := ⟨rfl, rfl, rfl, by decide +kernel, rfl, by decide +kernel, by decide +kernel⟩
theorem d_Growth_eq (T : Tx K mg) : Fm PP w K mg base CX0 4 (He.ma K (He.ga K "Growth") "__eq__") ["self", "other"] (spEqG K) := by
  obtain ⟨fd, F⟩ := T.d 27
  refine ⟨fd, FunD.bindsN F (fun _ _ _ _ _ _ us hl => match us, hl with | [_, _], _ => rfl), FunD.ok F sc_Growth_eq (by walk_at "len") (fun cdv A outer s H vs Q E hr h => ?_)⟩
  obtain ⟨g, v, P, rfl, ⟨dx, c, hg, hc⟩, hh⟩ := h
  obtain ⟨ow, ki, ti, nf, co, sf, _⟩ := T.ex
  have cG := T.c_Growth
  have n1 := T.n1
  have n2 := T.n2
  refine ⟨_, PSs.nox ((pss_cons (ps_if (pt_not (pt_truth (pe_callB call_isi (by rfl) (T.f 62) (by decide +kernel) (pa_cons (pv 1) (pa_cons (pe_glob (v := .ref (He.ga K "Growth")) rfl (T.g 56) rfl) pa_nil))) (by intro _; rfl))) (pss_one (ps_ret pe_bl)) pss_nil)
      (pss_one (ps_ret (pe_and (pe_cmpR op_eq (pe_fld (pv 0) rfl) (pe_fld (pv 1) rfl) (nomark _)) (pe_one (pe_cmpR (op_eqD hr.units) (pe_fld (pv 0) rfl) (pe_fld (pv 1) rfl) (nomark _)))))))), ?_⟩
  repeat walk_at "s"
  rcases hh with ⟨h', R, rfl, ⟨dy, c', hg', hc'⟩, k⟩ | ⟨t, ty, ht, k⟩
  · refine ⟨_, _, _, _, _, rfl, .own _, ow.ty T.c_Growth hg', ki, ?_⟩
    repeat walk_at "s"
    refine ite2 (fun e => ?_) (fun e => ?_)
    · have e : P.b = R.b := V.int.inj (of_decide_eq_true e)
      repeat walk_at "s"
      refine ⟨.tuple [.int P.c0, .int P.c1, .int P.c2], .tuple [.int R.c0, .int R.c1, .int R.c2], .tup hc (dp3 _ _ _), .tup hc' (dp3 _ _ _), shp3 _ _ _, shp3 _ _ _, ?_⟩
      have q : PyData.eqv (.tuple [.int P.c0, .int P.c1, .int P.c2]) (.tuple [.int R.c0, .int R.c1, .int R.c2]) = eqG P R := by
        simp [PyData.eqv, PyData.eqvAll, eqG, e]
      rw [q]
      exact k
    · have e : ¬ P.b = R.b := fun z => e (decide_eq_true (congrArg V.int z))
      have q : eqG P R = false := by simp [eqG, e]
      rw [q] at k
      exact k
  · refine ⟨_, _, _, _, _, rfl, .own _, ty, HeZ.isT_ok ti ht, ?_⟩
    repeat walk_at "s"
    exact k
theorem Ex.ty {K : PySem.W.Frag} {H H' : Hp} {v : V} {t : Value} (e : Ex H H') (h : TyX K H v t) : TyX K H' v t := by
  cases h with
  | base b =>
    refine .base ?_
    cases b with
    | non => exact .non
    | bl x => exact .bl x
    | int i => exact .int i
    | str x => exact .str x
    | flt x => exact .flt x
    | lst h => exact .lst (e _ _ h)
    | frz h => exact .frz (e _ _ h)
    | tup h => exact .tup (e _ _ h)
    | dK h => exact .dK (e _ _ h)
    | dT h => exact .dT (e _ _ h)
    | ins h c a1 a2 a3 a4 => exact .ins (e _ _ h) c a1 a2 a3 a4
  | byt b => exact .byt b
  | set h => exact .set (e _ _ h)
  | kList h c => exact .kList h c
  | kTuple h c => exact .kTuple h c
  | kDict h c => exact .kDict h c
  | fTuple h => exact .fTuple (e _ _ h)
  | fDict h => exact .fDict (e _ _ h)
theorem Bad.ex {K : PySem.W.Frag} {H H' : Hp} {b : V} (h : Bad K H b) (e : Ex H H') : Bad K H' b := h.imp id fun ⟨t, h, q⟩ => ⟨t, e.ty h, q⟩
def spGof (K : PySem.W.Frag) : Sp := fun vs H Q E => ∃ (l : Addr) (b : V) (v0 v1 v2 : Int), vs = [b, .ref l] ∧ SqL K H l (cs3 v0 v1 v2) ∧
  ((∃ i : Int, b = .int i ∧ 0 ≤ i ∧ NewG K Q H ⟨i, v0, v1 - v0, v2 - 2 * v1 + v0⟩) ∨ (Bad K H b ∧ ∀ H', Ex H H' → Told K E b H'))
theorem sc_growth_of : FnScope ["begin", "values", "first", "second", "third"] ["begin", "values"] (defScope s_growth_of) := ⟨rfl, rfl, rfl, by decide +kernel, rfl, by decide +kernel, by decide +kernel⟩
theorem d_growth_of (T : Tx K mg) : Dn PP w K mg base (L2N.CX PP w) 6 "growth_of" ["begin", "values"] (spGof K) := by
  obtain ⟨fd, F⟩ := T.d 3
  refine ⟨_, fd, T.g 3, F.kp, FunD.bindsN F (fun _ _ _ _ _ _ us hl => match us, hl with | [_, _], _ => rfl), FunD.ok F sc_growth_of (by walk_at "len") (fun cdv A outer s H vs Q E hr h => ?_)⟩
  obtain ⟨l, b, v0, v1, v2, rfl, hl, hh⟩ := h
  refine ⟨_, (pss_cons (ps_asg (pv 1) (pg_unl rfl (pgs_cons (pg_name (i := 2) sc_growth_of.nd rfl (.inl rfl)) (pgs_cons (pg_name (i := 3) sc_growth_of.nd rfl (.inl rfl)) (pgs_cons (pg_name (i := 4) sc_growth_of.nd rfl (.inl rfl)) pgs_nil)))))
      (pss_one (ps_ret (pe_mk (d_Growth_init T) T.k_Growth (hr.mono (by decide)) rfl (T.g 56) (passW tkOf) (pa_cons (pv 0) (pa_cons (pe_tup (pa_cons (pv 2) (pa_cons (pe_op op_sub (pv 3) (pv 2)) (pa_cons (pe_op op_addA (pe_op op_sub (pv 4) (pe_op op_mulA pe_int (pv 3))) (pv 2)) pa_nil)))) pa_nil)))))), ?_⟩
  repeat walk_at "s"
  refine ⟨sz rfl, fun p hp => ?_⟩
  intro x dx hx hdx hne
  have e1 := Ex.refl.at (o := .tup (cs3 v0 (v1 - v0) (v2 - 2 * v1 + v0))) hp
  rcases hh with ⟨i, rfl, h0, k⟩ | ⟨hb, k⟩
  · obtain ⟨m1, m2⟩ := made (C := GC K) (fs := gfs i p) (o := .own x) hx hdx hne
    refine ⟨x, dx, p, .int i, rfl, upd_same, .inl ⟨i, rfl, h0, rfl, ?_⟩⟩
    exact k x _ (e1.trans m1) (e1.none hx) ⟨dx, p, m2, m1.t (tOf upd_same)⟩
  · have e2 := e1.trans ((Ex.refl.at (o := .own x) hdx).at (p := x) (o := .ins (GC K) dx []) hx)
    exact ⟨x, dx, p, b, rfl, upd_same, .inr ⟨hb.ex e2, k _ e2⟩⟩
end
end Lw
namespace Lw
open PySem PySem.Spec PyProof.Rows L2
/-! ### the draws -/
local macro_rules | `(tactic| walk_at "len") => `(tactic| (intro vs H Q E h; first | (obtain ⟨_, e, _⟩ := h; subst e; rfl) | (obtain ⟨_, _, e, _⟩ := h; subst e; rfl) | (obtain ⟨_, _, _, e, _⟩ := h; subst e; rfl) | (obtain ⟨_, _, _, _, e, _⟩ := h; subst e; rfl) | (obtain ⟨_, _, _, _, _, e, _⟩ := h; subst e; rfl) | (obtain ⟨_, _, _, _, _, _, e, _⟩ := h; subst e; rfl) | (obtain ⟨_, _, _, _, _, _, _, e, _⟩ := h; subst e; rfl)))
local macro_rules | `(tactic| walk_at "get") => `(tactic| (first | assumption | exact upd_same | (refine look_new (by assumption) ?_; walk_at "get") | (refine look_ne (by assumption) ?_; walk_at "get")))
local macro_rules | `(tactic| walk_at "s") => `(tactic| (first
  | refine ⟨_, rfl, ?_⟩
  | refine Or.inl ⟨_, rfl, ?_⟩
  | refine Or.inl ⟨_, _, _, _, rfl, rfl, lOf (by walk_at "get"), rfl, ?_⟩
  | refine ⟨_, _, _, _, rfl, rfl, (by walk_at "get"), rfl, ?_⟩
  | refine ⟨_, _, rfl, rfl, Or.inl (Or.inr ⟨by decide, by decide⟩), ?_⟩
  | refine ⟨_, _, rfl, rfl, (by show (0 : Int) < _; first | assumption | decide), ?_⟩
  | refine ⟨_, _, rfl, rfl, ⟨by decide, by decide⟩, ?_⟩
  | refine ⟨_, _, rfl, rfl, ⟨by decide, by decide +kernel⟩, ?_⟩
  | refine ⟨_, _, rfl, rfl, (by show (0 : Int) < _; decide +kernel), ?_⟩
  | refine ⟨(show CMulA _ _ from Or.inl (Or.inl ⟨by (try dsimp only); omega, by (try dsimp only); omega⟩)), ?_⟩
  | refine ⟨_, _, rfl, rfl, ?_⟩
  | refine ⟨_, _, rfl, (show Dp _ _ _ _ by assumption), ?_⟩
  | refine ⟨_, _, rfl, (show SqT _ _ _ _ by assumption), ?_⟩
  | refine ⟨_, _, rfl, (show SqL _ _ _ _ by assumption), ?_⟩
  | refine ⟨_, _, rfl, ?_⟩
  | refine ⟨rfl, _, rfl, ?_⟩
  | refine ⟨rfl, ?_⟩
  | refine ⟨_, _, _, _, _, rfl, (by walk_at "get"), (by assumption), (by assumption), rfl, ?_⟩
  | refine ⟨_, _, _, _, _, rfl, .own _, (by assumption), (by assumption), ?_⟩
  | refine ⟨_, _, _, _, _, rfl, .ty _, (by assumption), kit_ty (by rfl), ?_⟩))
local macro_rules | `(tactic| walk_at "c") => `(tactic| (try dsimp only [L2.start, List.set, List.map, List.length, List.replicate, List.cons_append, List.nil_append, List.append, HAppend.hAppend, Append.append, Int.toNat, Nat.reduceSub, Nat.reduceAdd]))
local macro_rules | `(tactic| walk_at "T") => `(tactic| ((repeat walk_at "s"); refine iteT (by first | rfl | assumption | decide) ?_; (repeat walk_at "s")))
local macro_rules | `(tactic| walk_at "F") => `(tactic| ((repeat walk_at "s"); refine iteF (by first | rfl | assumption | decide) ?_; (repeat walk_at "s")))
local macro_rules | `(tactic| walk_at "isi") => `(tactic| ((repeat walk_at "s"); refine ⟨_, _, _, _, _, rfl, .ty _, (by assumption), kit_ty (by rfl), ?_⟩; (repeat walk_at "s")))
section
variable {w : World} {K : PySem.W.Frag} {mg : Str → Option Value} {base : Heap}
def PtAt (K : PySem.W.Frag) (H : Hp) (p : Addr) (P : Gr) : Prop := ∃ c, SqT K H p [.int P.b, .ref c] ∧ SqT K H c (cs3 P.c0 P.c1 P.c2)
theorem Ex.pt {K : PySem.W.Frag} {H H' : Hp} {p : Addr} {P : Gr} (e : Ex H H') (h : PtAt K H p P) : PtAt K H' p P :=
  let ⟨c, h1, h2⟩ := h
  ⟨c, e.t h1, e.t h2⟩
def spGp (K : PySem.W.Frag) : Sp := fun vs H Q _ => ∃ (s : Addr), vs = [.ref s] ∧ StO H s ∧ ∀ p P H', Kp s H H' → StO H' s → H p = none → p ≠ s → PtAt K H' p P → P.ok 200 → Q (.ref p) H'
theorem sc_l_growthparts : FnScope ["store", "constants", "k", "number"] ["store"] (defScope s_l_growthparts) := ⟨rfl, rfl, rfl, by decide +kernel, rfl, by decide +kernel, by decide +kernel⟩
theorem d_l_growthparts (T : Tx K mg) : Dn PP w K mg base CX0 4 "_law_growthparts" ["store"] (spGp K) := by
  obtain ⟨fd, F⟩ := T.d 13
  refine ⟨_, fd, T.g 13, F.kp, FunD.bindsN F (fun _ _ _ _ _ _ us hl => match us, hl with | [_], _ => rfl), FunD.ok F sc_l_growthparts (by walk_at "len") (fun cdv A outer s H vs Q E hr h => ?_)⟩
  obtain ⟨s, rfl, S, k⟩ := h
  refine ⟨_, PSs.nox ((pss_cons (ps_set (i := 1) sc_l_growthparts.nd rfl (.inl rfl) (pe_lst pa_nil))
      (pss_cons (ps_for PassesOwn.never rfl (pi_range1 rfl (T.f 67) (pa_cons pe_int pa_nil)) (pg_name (i := 2) sc_l_growthparts.nd rfl (.inl rfl)) (pss_cons (ps_set (i := 3) sc_l_growthparts.nd rfl (.inl rfl) (pe_d (d_l_wide T) (hr.mono (by decide)) rfl pass0 (pa_cons (pv 0) (pa_cons pe_int (pa_cons (pe_op op_powA pe_int pe_int) pa_nil)))))
      (C8.pss_cut (ps_if (pt_truth (pe_d (d_l_maybe T) (hr.mono (by decide)) rfl pass0 (pa_cons (pv 0) (pa_cons pe_int pa_nil))) (by intro _; rfl)) (pss_one (ps_set (i := 3) sc_l_growthparts.nd rfl (.inl rfl) (pe_op op_sub pe_int (pv 3)))) pss_nil)
      (pss_one (ps_expr (pe_bm PySem.F.plainAttrs_list PySem.F.slot_list_append PySem.F.type_list_append mt_append (pv 1) (pa_cons (pe_d (d_l_pick T) (hr.mono (by decide)) rfl pass0 (pa_cons (pv 0) (pa_cons (pe_lst (pa_cons (pv 3) (pa_cons (pe_op op_mod (pe_callTy call_int1 (by rfl) (T.f 61) (by decide +kernel) (pa_cons (pv 3) pa_nil)) pe_int) (pa_cons (pe_op op_sub pe_int (pe_op op_mod (pe_callTy call_int1 (by rfl) (T.f 61) (by decide +kernel) (pa_cons (pv 3) pa_nil)) pe_int)) pa_nil)))) pa_nil))) pa_nil)))))))
      (pss_one (ps_ret (pe_tup (pa_cons (pe_d (d_l_wide T) (hr.mono (by decide)) rfl pass0 (pa_cons (pv 0) (pa_cons pe_int (pa_cons (pe_d (d_l_pick T) (hr.mono (by decide)) rfl pass0 (pa_cons (pv 0) (pa_cons (pe_lst (pa_cons pe_int (pa_cons pe_int (pa_cons (pe_op op_powA pe_int pe_int) pa_nil)))) pa_nil))) pa_nil)))) (pa_cons (pe_callTy call_tuple_of (by rfl) (T.f 70) (by decide +kernel) (pa_cons (pv 1) pa_nil)) pa_nil)))))))), ?_⟩
  repeat walk_at "s"
  refine ⟨sz rfl, fun D hD => ?_⟩
  have hDs : D ≠ s := S.ne hD
  repeat walk_at "s"
  refine ⟨by decide, by decide, for_range (n := 3) (fun i σ H' => ∃ (cs : List Int) (z1 z2 z3 : Option V), σ = [some (.ref s), some (.ref D), z1, z2] ∧ cs.length = i ∧ (∀ c ∈ cs, Nw 100 c) ∧ H' D = some (.lst (cs.map V.int)) ∧ Kp s H H' ∧ StO H' s) ?_ ?_ ?_⟩
  · exact ⟨[], _, _, none, rfl, rfl, fun _ h => (nomatch h), upd_same, (Ex.refl.at hD).kp, S.ex (Ex.refl.at hD)⟩
  · rintro i σ H1 hi ⟨cs, z1, z2, z3, rfl, hl, hw, hd, k1, S1⟩
    repeat walk_at "s"
    refine ⟨_, 0, _, rfl, S1, (by unfold Nw; decide +kernel), fun v H2 k2 S2 v0 v1 => ?_⟩
    repeat walk_at "s"
    have h10 : (10 : Int) ^ 20 = 100000000000000000000 := by decide
    have v1 : v ≤ 10 ^ 20 ∨ v = 0 := v1
    rw [h10] at v1
    refine ⟨fun σ H' => ∃ (nb : Int), σ = [some (.ref s), some (.ref D), some (.int (0 + (i : Int))), some (.int nb)] ∧ -100000000000000000000 ≤ nb ∧ nb ≤ 100000000000000000000 ∧ Kp s H1 H' ∧ StO H' s, ?_, ?_⟩
    · repeat walk_at "s"
      refine ⟨S2, by decide, fun b H3 k3 S3 => ?_⟩
      repeat walk_at "s"
      refine ite2 (fun _ => ?_) (fun _ => ?_)
      · repeat walk_at "s"
        exact ⟨by omega, by omega, k2.trans k3, S3⟩
      · exact ⟨_, rfl, by omega, by omega, k2.trans k3, S3⟩
    rintro _ H3 ⟨nb, rfl, nb1, nb2, k3, S3⟩
    repeat walk_at "s"
    refine ⟨.inl ⟨rfl, _, lOf (k3.1 _ _ hDs hd)⟩, ?_⟩
    repeat walk_at "s"
    refine ⟨sz rfl, fun r hr => ?_⟩
    repeat walk_at "s"
    refine ⟨_, _, _, rfl, S3.ex (Ex.refl.at hr), upd_same, S3.ne hr, (fun h => nomatch h), ln rfl, fun v H4 k4 S4 hv => ?_⟩
    have kk := ((k3.trans (Ex.refl.at hr).kp).trans k4)
    have hd4 := kk.1 _ _ hDs hd
    have hz : ∃ z, v = .int z ∧ Nw 100 z := by
      have hp : (2 : Nat) ^ 100 = 1267650600228229401496703205376 := by decide
      rcases List.mem_cons.mp hv with e | hv
      · exact ⟨_, e, by unfold Nw; omega⟩
      rcases List.mem_cons.mp hv with e | hv
      · exact ⟨_, e, by unfold Nw; omega⟩
      rcases List.mem_cons.mp hv with e | hv
      · exact ⟨_, e, by unfold Nw; omega⟩
      cases hv
    obtain ⟨z, rfl, hz⟩ := hz
    refine ⟨_, _, _, rfl, rfl, hd4, ?_, ?_⟩
    · rw [List.length_map, sizeLine_eq]
      omega
    refine ⟨cs ++ [z], _, _, none, rfl, ?_, ?_, ?_, ?_, ?_⟩
    · rw [List.length_append, hl] <;> rfl
    · intro c hc
      rcases List.mem_append.mp hc with hc | hc
      · exact hw c hc
      · rw [List.mem_singleton.mp hc]
        exact hz
    · rw [List.map_append]
      exact upd_same
    · exact (k1.trans kk).at hD hDs
    · exact S.set2 S4 (k1.trans kk) hD
  · rintro σ H1 ⟨cs, z1, z2, z3, rfl, hl, hw, hd, k1, S1⟩
    repeat walk_at "s"
    refine ⟨sz rfl, fun r hr => ?_⟩
    repeat walk_at "s"
    refine ⟨_, _, _, rfl, S1.ex (Ex.refl.at hr), upd_same, S1.ne hr, (fun h => nomatch h), ln rfl, fun v H2 k2 S2 hv => ?_⟩
    have kk := k1.trans ((Ex.refl.at hr).kp.trans k2)
    have hd2 := ((Ex.refl.at hr).kp.trans k2).1 _ _ hDs hd
    have hz : ∃ z, v = .int z ∧ 0 ≤ z ∧ z ≤ 1000000000000000000000000000000 := by
      have h30 : (10 : Int) ^ 30 = 1000000000000000000000000000000 := by decide
      rcases List.mem_cons.mp hv with e | hv
      · exact ⟨_, e, by omega, by omega⟩
      rcases List.mem_cons.mp hv with e | hv
      · exact ⟨_, e, by omega, by omega⟩
      rcases List.mem_cons.mp hv with e | hv
      · exact ⟨_, e, by decide, by decide⟩
      cases hv
    obtain ⟨z, rfl, z0, z1⟩ := hz
    have wz : Nw 120 (z - 0 + 1) := by
      have hp : (2 : Nat) ^ 120 = 1329227995784915872903807060280344576 := by decide
      unfold Nw
      omega
    refine ⟨_, 0, z, rfl, S2, wz.mono (by decide), fun b H3 k3 S3 b0 b1 => ?_⟩
    have hd3 := k3.1 _ _ hDs hd2
    repeat walk_at "s"
    refine ⟨D, _, rfl, .inl ⟨lOf hd3, fun t ht => ?_⟩⟩
    refine ⟨sz rfl, fun p hp => ?_⟩
    have kk3 := kk.trans k3
    have kt := kk3.new (o := .tup (cs.map V.int)) ht
    have e1 := Ex.refl.at (o := .tup [.int b, .ref t]) hp
    have S4 := (S3.ex (Ex.refl.at (o := .tup (cs.map V.int)) ht)).ex e1
    have hps : p ≠ s := (S3.ex (Ex.refl.at ht)).ne hp
    obtain ⟨c0, c1, c2, rfl⟩ : ∃ c0 c1 c2, cs = [c0, c1, c2] := by
      match cs, hl with
      | [a, b, c], _ => exact ⟨a, b, c, rfl⟩
    have wb : Nw 120 b := by
      have hp : (2 : Nat) ^ 120 = 1329227995784915872903807060280344576 := by decide
      unfold Nw
      omega
    exact k p ⟨b, c0, c1, c2⟩ _ (kt.trans e1.kp) S4 (kt.none hps hp) hps ⟨t, tOf upd_same, e1.t (tOf upd_same)⟩ ⟨b0, wb.mono (by decide), (hw _ (by simp)).mono (by decide), (hw _ (by simp)).mono (by decide), (hw _ (by simp)).mono (by decide)⟩
end
end Lw
namespace Lw
open PySem PySem.Spec PyProof.Rows L2
/-! ### the draws -/
local macro_rules | `(tactic| walk_at "len") => `(tactic| (intro vs H Q E h; first | (obtain ⟨_, e, _⟩ := h; subst e; rfl) | (obtain ⟨_, _, e, _⟩ := h; subst e; rfl) | (obtain ⟨_, _, _, e, _⟩ := h; subst e; rfl) | (obtain ⟨_, _, _, _, e, _⟩ := h; subst e; rfl) | (obtain ⟨_, _, _, _, _, e, _⟩ := h; subst e; rfl) | (obtain ⟨_, _, _, _, _, _, e, _⟩ := h; subst e; rfl) | (obtain ⟨_, _, _, _, _, _, _, e, _⟩ := h; subst e; rfl)))
local macro_rules | `(tactic| walk_at "get") => `(tactic| (first | assumption | exact upd_same | (refine look_new (by assumption) ?_; walk_at "get") | (refine look_ne (by assumption) ?_; walk_at "get")))
local macro_rules | `(tactic| walk_at "s") => `(tactic| (first
  | refine ⟨_, rfl, ?_⟩
  | refine Or.inl ⟨_, rfl, ?_⟩
  | refine Or.inl ⟨_, _, _, _, rfl, rfl, lOf (by walk_at "get"), rfl, ?_⟩
  | refine Or.inr (Or.inl ⟨_, _, _, _, rfl, rfl, (show SqT _ _ _ _ by assumption), rfl, ?_⟩)
  | refine ⟨_, _, _, _, rfl, rfl, (by walk_at "get"), rfl, ?_⟩
  | refine ⟨_, _, rfl, rfl, Or.inl (Or.inr ⟨by decide, by decide⟩), ?_⟩
  | refine ⟨_, _, rfl, rfl, (by show (0 : Int) < _; first | assumption | decide), ?_⟩
  | refine ⟨_, _, rfl, rfl, ⟨by decide, by decide⟩, ?_⟩
  | refine ⟨_, _, rfl, rfl, ⟨by decide, by decide +kernel⟩, ?_⟩
  | refine ⟨_, _, rfl, rfl, (by show (0 : Int) < _; decide +kernel), ?_⟩
  | refine ⟨(show CMulA _ _ from Or.inl (Or.inl ⟨by (try dsimp only); omega, by (try dsimp only); omega⟩)), ?_⟩
  | refine ⟨_, _, rfl, rfl, ?_⟩
  | refine ⟨_, _, rfl, (show Dp _ _ _ _ by assumption), ?_⟩
  | refine ⟨_, _, rfl, (show SqT _ _ _ _ by assumption), ?_⟩
  | refine ⟨_, _, rfl, (show SqL _ _ _ _ by assumption), ?_⟩
  | refine ⟨_, _, rfl, ?_⟩
  | refine ⟨rfl, _, rfl, ?_⟩
  | refine ⟨rfl, ?_⟩
  | refine ⟨_, _, _, _, _, rfl, (by walk_at "get"), (by assumption), (by assumption), rfl, ?_⟩
  | refine ⟨_, _, _, _, _, rfl, .own _, (by assumption), (by assumption), ?_⟩
  | refine ⟨_, _, _, _, _, rfl, .ty _, (by assumption), kit_ty (by rfl), ?_⟩))
local macro_rules | `(tactic| walk_at "c") => `(tactic| (try dsimp only [L2.start, List.set, List.map, List.length, List.replicate, List.cons_append, List.nil_append, List.append, HAppend.hAppend, Append.append, Int.toNat, Nat.reduceSub, Nat.reduceAdd]))
local macro_rules | `(tactic| walk_at "T") => `(tactic| ((repeat walk_at "s"); refine iteT (by first | rfl | assumption | decide) ?_; (repeat walk_at "s")))
local macro_rules | `(tactic| walk_at "F") => `(tactic| ((repeat walk_at "s"); refine iteF (by first | rfl | assumption | decide) ?_; (repeat walk_at "s")))
local macro_rules | `(tactic| walk_at "isi") => `(tactic| ((repeat walk_at "s"); refine ⟨_, _, _, _, _, rfl, .ty _, (by assumption), kit_ty (by rfl), ?_⟩; (repeat walk_at "s")))
section
variable {w : World} {K : PySem.W.Frag} {mg : Str → Option Value} {base : Heap}
theorem sl {n : Nat} (h : n.blt 64 = true) : n < sizeLine := by
  have : n < 64 := Nat.le_of_ble_eq_true h
  rw [sizeLine_eq]
  omega
def spVal (K : PySem.W.Frag) : Sp := fun vs H Q _ => ∃ (p : Addr) (n : Int) (P : Gr), vs = [.ref p, .int n] ∧ PtAt K H p P ∧ P.ok 2900 ∧ Nw 2900 n ∧ Q (.int (P.at n)) H
theorem sc_l_value : FnScope ["parts", "number", "m"] ["parts", "number"] (defScope s_l_value) := ⟨rfl, rfl, rfl, by decide +kernel, rfl, by decide +kernel, by decide +kernel⟩
theorem d_l_value (T : Tx K mg) : Dn PP w K mg base CX0 2 "_law_value" ["parts", "number"] (spVal K) := by
  obtain ⟨fd, F⟩ := T.d 15
  refine ⟨_, fd, T.g 15, F.kp, FunD.bindsN F (fun _ _ _ _ _ _ us hl => match us, hl with | [_, _], _ => rfl), FunD.ok F sc_l_value (by walk_at "len") (fun cdv A outer s H vs Q E hr h => ?_)⟩
  obtain ⟨p, n, P, rfl, ⟨c, hp, hc⟩, ok, wn, k⟩ := h
  have wm : Nw 3000 (n - P.b) := (wn.sub ok.2.1).mono (by decide)
  have wm1 := wm.sub nw1
  have wh := (wm.mul wm1).half
  refine ⟨_, PSs.nox ((pss_cons (ps_set (i := 2) sc_l_value.nd rfl (.inl rfl) (pe_op op_sub (pv 1) (pe_ix ix_seq (pv 0) pe_int (fun _ _ => rfl))))
      (pss_one (ps_ret (pe_op op_addA (pe_op op_addA (pe_ix ix_seq (pe_ix ix_seq (pv 0) pe_int (fun _ _ => rfl)) pe_int (fun _ _ => rfl)) (pe_op op_mulA (pe_ix ix_seq (pe_ix ix_seq (pv 0) pe_int (fun _ _ => rfl)) pe_int (fun _ _ => rfl)) (pv 2))) (pe_op op_mulA (pe_ix ix_seq (pe_ix ix_seq (pv 0) pe_int (fun _ _ => rfl)) pe_int (fun _ _ => rfl)) (pe_op op_fdivW (pe_op op_mulA (pv 2) (pe_op op_sub (pv 2) pe_int)) pe_int))))))), ?_⟩
  repeat walk_at "s"
  refine ⟨ok.2.2.2.1.mulOk wm (by decide) (by decide) (by decide), ?_⟩
  repeat walk_at "s"
  refine ⟨wm.mulOk wm1 (by decide) (by decide) (by decide), ?_⟩
  repeat walk_at "s"
  refine ⟨ok.2.2.2.2.mulOk wh (by decide) (by decide) (by decide), ?_⟩
  repeat walk_at "s"
  exact k
def spMoved (K : PySem.W.Frag) : Sp := fun vs H Q _ => ∃ (p : Addr) (n : Int) (P : Gr), vs = [.ref p, .int n] ∧ PtAt K H p P ∧ P.ok 2900 ∧ Nw 2900 n ∧
  ∀ q, H q = none → Q (.ref q) (upd H q (.tup (cs3 (P.at n) (P.c1 + P.c2 * (n - P.b)) P.c2)))
theorem sc_l_moved : FnScope ["parts", "begin", "m"] ["parts", "begin"] (defScope s_l_moved) := ⟨rfl, rfl, rfl, by decide +kernel, rfl, by decide +kernel, by decide +kernel⟩
theorem d_l_moved (T : Tx K mg) : Dn PP w K mg base CX0 3 "_law_moved" ["parts", "begin"] (spMoved K) := by
  obtain ⟨fd, F⟩ := T.d 16
  refine ⟨_, fd, T.g 16, F.kp, FunD.bindsN F (fun _ _ _ _ _ _ us hl => match us, hl with | [_, _], _ => rfl), FunD.ok F sc_l_moved (by walk_at "len") (fun cdv A outer s H vs Q E hr h => ?_)⟩
  obtain ⟨p, n, P, rfl, ⟨c, hp, hc⟩, ok, wn, k⟩ := h
  have wm : Nw 3000 (n - P.b) := (wn.sub ok.2.1).mono (by decide)
  refine ⟨_, PSs.nox ((pss_cons (ps_set (i := 2) sc_l_moved.nd rfl (.inl rfl) (pe_op op_sub (pv 1) (pe_ix ix_seq (pv 0) pe_int (fun _ _ => rfl))))
      (pss_one (ps_ret (pe_tup (pa_cons (pe_d (d_l_value T) (hr.mono (by decide)) rfl pass0 (pa_cons (pv 0) (pa_cons (pv 1) pa_nil))) (pa_cons (pe_op op_addA (pe_ix ix_seq (pe_ix ix_seq (pv 0) pe_int (fun _ _ => rfl)) pe_int (fun _ _ => rfl)) (pe_op op_mulA (pe_ix ix_seq (pe_ix ix_seq (pv 0) pe_int (fun _ _ => rfl)) pe_int (fun _ _ => rfl)) (pv 2))) (pa_cons (pe_ix ix_seq (pe_ix ix_seq (pv 0) pe_int (fun _ _ => rfl)) pe_int (fun _ _ => rfl)) pa_nil)))))))), ?_⟩
  repeat walk_at "s"
  refine ⟨_, _, P, rfl, ⟨c, hp, hc⟩, ok, wn, ?_⟩
  repeat walk_at "s"
  refine ⟨ok.2.2.2.2.mulOk wm (by decide) (by decide) (by decide), ?_⟩
  repeat walk_at "s"
  exact ⟨sz rfl, k⟩
def spAdded (K : PySem.W.Frag) : Sp := fun vs H Q _ => ∃ (p q : Addr) (P R : Gr), vs = [.ref p, .ref q] ∧ PtAt K H p P ∧ PtAt K H q R ∧ P.ok 2900 ∧ R.ok 2900 ∧ ∀ r H', Ex H H' → H r = none → PtAt K H' r (addG P R) → Q (.ref r) H'
theorem sc_l_added : FnScope ["one", "two", "begin", "first", "second", "k"] ["one", "two"] (defScope s_l_added) := ⟨rfl, rfl, rfl, by decide +kernel, rfl, by decide +kernel, by decide +kernel⟩
theorem d_l_added (T : Tx K mg) : Dn PP w K mg base CX0 4 "_law_added" ["one", "two"] (spAdded K) := by
  obtain ⟨fd, F⟩ := T.d 17
  refine ⟨_, fd, T.g 17, F.kp, FunD.bindsN F (fun _ _ _ _ _ _ us hl => match us, hl with | [_, _], _ => rfl), FunD.ok F sc_l_added (by walk_at "len") (fun cdv A outer s H vs Q E hr h => ?_)⟩
  obtain ⟨p, q, P, R, rfl, ⟨c, hp, hc⟩, ⟨c', hp', hc'⟩, okP, okR, k⟩ := h
  refine ⟨_, PSs.nox ((pss_cons (ps_set (i := 2) sc_l_added.nd rfl (.inl rfl) (pe_callB (call_max2 rfl) (by rfl) (T.f 65) (by decide +kernel) (pa_cons (pe_ix ix_seq (pv 0) pe_int (fun _ _ => rfl)) (pa_cons (pe_ix ix_seq (pv 1) pe_int (fun _ _ => rfl)) pa_nil))))
      (pss_cons (ps_set (i := 3) sc_l_added.nd rfl (.inr rfl) (pe_d (d_l_moved T) (hr.mono (by decide)) rfl pass0 (pa_cons (pv 0) (pa_cons (pv 2) pa_nil))))
      (pss_cons (ps_set (i := 4) sc_l_added.nd rfl (.inr rfl) (pe_d (d_l_moved T) (hr.mono (by decide)) rfl pass0 (pa_cons (pv 1) (pa_cons (pv 2) pa_nil))))
      (pss_one (ps_ret (pe_tup (pa_cons (pv 2) (pa_cons (pe_callTy call_tuple_of (by rfl) (T.f 70) (by decide +kernel) (pa_cons (pe_lc (own := [("k", 5)]) rfl sc_l_added.nd (pi_range1 rfl (T.f 67) (pa_cons pe_int pa_nil)) (blkOk_by (own := [("k", 5)]) (N := ["one", "two", "begin", "first", "second", "k"]) (sc := defScope s_l_added) (by decide +kernel)) (fun _ _ _ _ _ => (pg_name (i := 5) sc_l_added.nd rfl (.inl rfl))) (fun _ _ _ _ _ => pts_nil) (fun _ _ _ _ _ => (pe_op (show OpR _ (binaryOp .Add) (rAdd K) from op_addA) (pe_ix (show IxR _ (rIx K) from ix_seq) (pv 3) (pv 5) (fun _ _ => rfl)) (pe_ix (show IxR _ (rIx K) from ix_seq) (pv 4) (pv 5) (fun _ _ => rfl))))) pa_nil)) pa_nil))))))))), ?_⟩
  repeat walk_at "s"
  generalize hb0 : (if R.b > P.b then R.b else P.b) = b
  have bw : Nw 2900 b := by rw [← hb0]; exact ite_both (f := Nw 2900) okR.2.1 okP.2.1
  have add : addG P R = ⟨b, P.at b + R.at b, P.c1 + P.c2 * (b - P.b) + (R.c1 + R.c2 * (b - R.b)), P.c2 + R.c2⟩ := by rw [← hb0]; rfl
  repeat walk_at "s"
  refine ⟨_, _, P, rfl, ⟨c, hp, hc⟩, okP, bw, fun f1 hf1 => ?_⟩
  have e1 := Ex.refl.at (o := .tup (cs3 (P.at b) (P.c1 + P.c2 * (b - P.b)) P.c2)) hf1
  have q1 : SqT K (upd H f1 (.tup (cs3 (P.at b) (P.c1 + P.c2 * (b - P.b)) P.c2))) f1 (cs3 (P.at b) (P.c1 + P.c2 * (b - P.b)) P.c2) := tOf upd_same
  generalize upd H f1 (.tup (cs3 (P.at b) (P.c1 + P.c2 * (b - P.b)) P.c2)) = H1 at e1 q1
  repeat walk_at "s"
  refine ⟨_, _, R, rfl, ⟨c', e1.t hp', e1.t hc'⟩, okR, bw, fun f2 hf2 => ?_⟩
  have e2 := Ex.refl.at (o := .tup (cs3 (R.at b) (R.c1 + R.c2 * (b - R.b)) R.c2)) hf2
  have q2 : SqT K (upd H1 f2 (.tup (cs3 (R.at b) (R.c1 + R.c2 * (b - R.b)) R.c2))) f2 (cs3 (R.at b) (R.c1 + R.c2 * (b - R.b)) R.c2) := tOf upd_same
  have q1' := e2.t q1
  have e12 := e1.trans e2
  generalize upd H1 f2 (.tup (cs3 (R.at b) (R.c1 + R.c2 * (b - R.b)) R.c2)) = H2 at e2 q2 q1' e12
  repeat walk_at "s"
  refine ⟨by decide, by decide, fun D hD => lc_range (n := 3) (fun i H' => H' D = some (.lst ((cs3 (P.at b + R.at b) (P.c1 + P.c2 * (b - P.b) + (R.c1 + R.c2 * (b - R.b))) (P.c2 + R.c2)).take i)) ∧ Ex H2 H') ⟨upd_same, Ex.refl.at hD⟩ ?_ ?_⟩
  · rintro i H3 hi ⟨hd, e3⟩
    have q1'' := e3.t q1'
    have q2'' := e3.t q2
    obtain rfl | rfl | rfl : i = 0 ∨ i = 1 ∨ i = 2 := by omega
    all_goals
      refine ⟨rfl, ?_⟩
      repeat walk_at "s"
    all_goals exact ⟨_, hd, sl rfl, upd_same, e3.at hD⟩
  · rintro H3 ⟨hd, e3⟩
    repeat walk_at "s"
    refine ⟨D, _, rfl, .inl ⟨lOf hd, fun t ht => ?_⟩⟩
    refine ⟨sz rfl, fun r hr => ?_⟩
    have e5 := Ex.refl.at (o := .tup [.int b, .ref t]) hr
    have e4 := ((e12.trans e3).trans (Ex.refl.at ht)).trans e5
    refine k r _ e4 (((e12.trans e3).trans (Ex.refl.at ht)).none hr) ?_
    rw [add]
    exact ⟨t, tOf upd_same, e5.t (tOf upd_same)⟩
end
end Lw
namespace Lw
open PySem PySem.Spec PyProof.Rows L2 L2H
/-! ### the draws -/
local macro_rules | `(tactic| walk_at "len") => `(tactic| (intro vs H Q E h; first | (obtain ⟨_, e, _⟩ := h; subst e; rfl) | (obtain ⟨_, _, e, _⟩ := h; subst e; rfl) | (obtain ⟨_, _, _, e, _⟩ := h; subst e; rfl) | (obtain ⟨_, _, _, _, e, _⟩ := h; subst e; rfl) | (obtain ⟨_, _, _, _, _, e, _⟩ := h; subst e; rfl) | (obtain ⟨_, _, _, _, _, _, e, _⟩ := h; subst e; rfl) | (obtain ⟨_, _, _, _, _, _, _, e, _⟩ := h; subst e; rfl)))
local macro_rules | `(tactic| walk_at "get") => `(tactic| (first | assumption | exact upd_same | (refine look_new (by assumption) ?_; walk_at "get") | (refine look_ne (by assumption) ?_; walk_at "get")))
local macro_rules | `(tactic| walk_at "s") => `(tactic| (first
  | refine ⟨_, rfl, ?_⟩
  | refine Or.inl ⟨_, rfl, ?_⟩
  | refine Or.inl ⟨_, _, _, _, rfl, rfl, lOf (by walk_at "get"), rfl, ?_⟩
  | refine Or.inl ⟨_, _, _, _, rfl, rfl, (show SqL _ _ _ _ by assumption), rfl, ?_⟩
  | refine Or.inr (Or.inl ⟨_, _, _, _, rfl, rfl, (show SqT _ _ _ _ by assumption), rfl, ?_⟩)
  | refine ⟨_, _, _, _, rfl, rfl, (by walk_at "get"), rfl, ?_⟩
  | refine ⟨_, _, rfl, rfl, Or.inl (Or.inr ⟨by decide, by decide⟩), ?_⟩
  | refine ⟨_, _, rfl, rfl, (by show (0 : Int) < _; first | assumption | decide), ?_⟩
  | refine ⟨_, _, rfl, rfl, ⟨by decide, by decide⟩, ?_⟩
  | refine ⟨_, _, rfl, rfl, ⟨by decide, by decide +kernel⟩, ?_⟩
  | refine ⟨_, _, rfl, rfl, (by show (0 : Int) < _; decide +kernel), ?_⟩
  | refine ⟨(show CMulA _ _ from Or.inl (Or.inl ⟨by (try dsimp only); omega, by (try dsimp only); omega⟩)), ?_⟩
  | refine ⟨_, _, rfl, rfl, ?_⟩
  | refine ⟨_, _, rfl, (show Dp _ _ _ _ by assumption), ?_⟩
  | refine ⟨_, _, rfl, (show SqT _ _ _ _ by assumption), ?_⟩
  | refine ⟨_, _, rfl, (show SqL _ _ _ _ by assumption), ?_⟩
  | refine ⟨_, _, rfl, ?_⟩
  | refine ⟨rfl, _, rfl, ?_⟩
  | refine ⟨rfl, ?_⟩
  | refine ⟨_, _, _, _, _, rfl, (by walk_at "get"), (by assumption), (by assumption), rfl, ?_⟩
  | refine ⟨_, _, _, _, _, rfl, .own _, (by assumption), (by assumption), ?_⟩
  | refine ⟨_, _, _, _, _, rfl, .ty _, (by assumption), kit_ty (by rfl), ?_⟩))
local macro_rules | `(tactic| walk_at "c") => `(tactic| (try dsimp only [L2.start, List.set, List.map, List.length, List.replicate, List.cons_append, List.nil_append, List.append, HAppend.hAppend, Append.append, Int.toNat, Nat.reduceSub, Nat.reduceAdd]))
local macro_rules | `(tactic| walk_at "T") => `(tactic| ((repeat walk_at "s"); refine iteT (by first | rfl | assumption | decide) ?_; (repeat walk_at "s")))
local macro_rules | `(tactic| walk_at "F") => `(tactic| ((repeat walk_at "s"); refine iteF (by first | rfl | assumption | decide) ?_; (repeat walk_at "s")))
local macro_rules | `(tactic| walk_at "isi") => `(tactic| ((repeat walk_at "s"); refine ⟨_, _, _, _, _, rfl, .ty _, (by assumption), kit_ty (by rfl), ?_⟩; (repeat walk_at "s")))
local macro_rules | `(tactic| walk_at "mem") => `(tactic| (first | exact List.Mem.head _ | (refine List.Mem.tail _ ?_; walk_at "mem")))
local macro_rules | `(tactic| walk_at "told") => `(tactic| ((repeat walk_at "s"); refine ⟨_, _, _, _, rfl, .own _, (show ErY.Held _ _ _ by assumption), HeZ.isB_ok (by assumption) (by unfold is_BadNumber; walk_at "mem"), ?_⟩; (repeat walk_at "s")))
section
variable {w : World} {K : PySem.W.Frag} {mg : Str → Option Value} {base : Heap}
def spTold (K : PySem.W.Frag) (p : Addr × Obj) : Sp := fun vs H Q _ => ∃ (v : V) (dd : Addr), vs = [.ref p.1] ∧ Zc (.ref (BN K)) (some dd) p.2 ∧ (∃ vs, p.2.data = .fields vs) ∧ H dd = some (.xd [("number_told", v)]) ∧
  ∀ r H', Ex H H' → H r = none → SqT K H' r [.str "BadNumber", v] → Q (.ref r) H'
theorem sc_l_told : FnScope ["e", "sorts", "one"] ["e"] (defScope s_l_told) := ⟨rfl, rfl, rfl, by decide +kernel, rfl, by decide +kernel, by decide +kernel⟩
theorem d_l_told (T : Tx K mg) : ∃ fd, ErY.FnT PP w K mg base 2 (He.ga K "_law_told") fd (spTold K) := by
  obtain ⟨fd, F⟩ := T.d 14
  refine ⟨fd, ErY.fn_ofT F (FunD.bindsN F (fun _ _ _ _ _ _ us hl => match us, hl with | [_], _ => rfl)) sc_l_told (fun p => by walk_at "len") (fun cdv A outer s H vs Q p hot hr h => ?_)⟩
  obtain ⟨v, dd, rfl, zc, dat, hd, k⟩ := h
  obtain ⟨ow, ki, ti, nf, co, sf, eC, isb, ive⟩ := T.ex
  have pin : ErY.Pin (cxH CX0 PP w K mg base ["e", "sorts", "one"] fd14.qual fd14.scope (He.ga K "_law_told") cdv A outer s H (fun _ _ _ => False) p) p (BN K) (some dd) := ⟨List.Mem.head _, zc, dat⟩
  have hc : HotC (cxH CX0 PP w K mg base ["e", "sorts", "one"] fd14.qual fd14.scope (He.ga K "_law_told") cdv A outer s H (fun _ _ _ => False) p) := ⟨p, hot, List.Mem.head _⟩
  have held : ErY.Held H (some dd) [("number_told", v)] := .inr ⟨dd, rfl, hd⟩
  refine ⟨_, (pss_cons (ps_set (i := 1) sc_l_told.nd rfl (.inl rfl) (pe_lst (pa_cons (pe_callB (ErY.call_isP eC pin) (by rfl) (T.f 62) (by decide +kernel) (pa_cons (pv 0) (pa_cons (pe_glob (v := .ref (He.ga K "BadWeb")) rfl (T.g 25) rfl) pa_nil))) (pa_cons (pe_callB (ErY.call_isP eC pin) (by rfl) (T.f 62) (by decide +kernel) (pa_cons (pv 0) (pa_cons (pe_glob (v := .ref (He.ga K "BadName")) rfl (T.g 26) rfl) pa_nil))) (pa_cons (pe_callB (ErY.call_isP eC pin) (by rfl) (T.f 62) (by decide +kernel) (pa_cons (pv 0) (pa_cons (pe_glob (v := .ref (He.ga K "BadRow")) rfl (T.g 27) rfl) pa_nil))) (pa_cons (pe_callB (ErY.call_isP eC pin) (by rfl) (T.f 62) (by decide +kernel) (pa_cons (pv 0) (pa_cons (pe_glob (v := .ref (He.ga K "BadWord")) rfl (T.g 28) rfl) pa_nil))) (pa_cons (pe_callB (ErY.call_isP eC pin) (by rfl) (T.f 62) (by decide +kernel) (pa_cons (pv 0) (pa_cons (pe_glob (v := .ref (He.ga K "BadFit")) rfl (T.g 29) rfl) pa_nil))) (pa_cons (pe_callB (ErY.call_isP eC pin) (by rfl) (T.f 62) (by decide +kernel) (pa_cons (pv 0) (pa_cons (pe_glob (v := .ref (He.ga K "BadPlace")) rfl (T.g 30) rfl) pa_nil))) (pa_cons (pe_callB (ErY.call_isP eC pin) (by rfl) (T.f 62) (by decide +kernel) (pa_cons (pv 0) (pa_cons (pe_glob (v := .ref (He.ga K "BadGap")) rfl (T.g 31) rfl) pa_nil))) (pa_cons (pe_callB (ErY.call_isP eC pin) (by rfl) (T.f 62) (by decide +kernel) (pa_cons (pv 0) (pa_cons (pe_glob (v := .ref (He.ga K "BadRank")) rfl (T.g 32) rfl) pa_nil))) (pa_cons (pe_callB (ErY.call_isP eC pin) (by rfl) (T.f 62) (by decide +kernel) (pa_cons (pv 0) (pa_cons (pe_glob (v := .ref (He.ga K "BadNumber")) rfl (T.g 33) rfl) pa_nil))) (pa_cons (pe_callB (ErY.call_isP eC pin) (by rfl) (T.f 62) (by decide +kernel) (pa_cons (pv 0) (pa_cons (pe_glob (v := .ref (He.ga K "BadText")) rfl (T.g 34) rfl) pa_nil))) (pa_cons (pe_callB (ErY.call_isP eC pin) (by rfl) (T.f 62) (by decide +kernel) (pa_cons (pv 0) (pa_cons (pe_glob (v := .ref (He.ga K "BadRule")) rfl (T.g 35) rfl) pa_nil))) (pa_cons (pe_callB (ErY.call_isP eC pin) (by rfl) (T.f 62) (by decide +kernel) (pa_cons (pv 0) (pa_cons (pe_glob (v := .ref (He.ga K "TooMany")) rfl (T.g 36) rfl) pa_nil))) (pa_cons (pe_callB (ErY.call_isP eC pin) (by rfl) (T.f 62) (by decide +kernel) (pa_cons (pv 0) (pa_cons (pe_glob (v := .ref (He.ga K "BadMachine")) rfl (T.g 37) rfl) pa_nil))) (pa_cons (pe_callB (ErY.call_isP eC pin) (by rfl) (T.f 62) (by decide +kernel) (pa_cons (pv 0) (pa_cons (pe_glob (v := .ref (He.ga K "UnlikeEnds")) rfl (T.g 38) rfl) pa_nil))) (pa_cons (pe_callB (ErY.call_isP eC pin) (by rfl) (T.f 62) (by decide +kernel) (pa_cons (pv 0) (pa_cons (pe_glob (v := .ref (He.ga K "NotClosed")) rfl (T.g 39) rfl) pa_nil))) (pa_cons (pe_callB (ErY.call_isP eC pin) (by rfl) (T.f 62) (by decide +kernel) (pa_cons (pv 0) (pa_cons (pe_glob (v := .ref (He.ga K "NotGood")) rfl (T.g 40) rfl) pa_nil))) (pa_cons (pe_callB (ErY.call_isP eC pin) (by rfl) (T.f 62) (by decide +kernel) (pa_cons (pv 0) (pa_cons (pe_glob (v := .ref (He.ga K "Round")) rfl (T.g 41) rfl) pa_nil))) (pa_cons (pe_callB (ErY.call_isP eC pin) (by rfl) (T.f 62) (by decide +kernel) (pa_cons (pv 0) (pa_cons (pe_glob (v := .ref (He.ga K "MissingWord")) rfl (T.g 42) rfl) pa_nil))) (pa_cons (pe_callB (ErY.call_isP eC pin) (by rfl) (T.f 62) (by decide +kernel) (pa_cons (pv 0) (pa_cons (pe_glob (v := .ref (He.ga K "Unstable")) rfl (T.g 43) rfl) pa_nil))) (pa_cons (pe_callB (ErY.call_isP eC pin) (by rfl) (T.f 62) (by decide +kernel) (pa_cons (pv 0) (pa_cons (pe_glob (v := .ref (He.ga K "BadOrder")) rfl (T.g 44) rfl) pa_nil))) (pa_cons (pe_callB (ErY.call_isP eC pin) (by rfl) (T.f 62) (by decide +kernel) (pa_cons (pv 0) (pa_cons (pe_glob (v := .ref (He.ga K "BadPattern")) rfl (T.g 45) rfl) pa_nil))) (pa_cons (pe_callB (ErY.call_isP eC pin) (by rfl) (T.f 62) (by decide +kernel) (pa_cons (pv 0) (pa_cons (pe_glob (v := .ref (He.ga K "NotNested")) rfl (T.g 46) rfl) pa_nil))) (pa_cons (pe_callB (ErY.call_isP eC pin) (by rfl) (T.f 62) (by decide +kernel) (pa_cons (pv 0) (pa_cons (pe_glob (v := .ref (He.ga K "BadPieces")) rfl (T.g 47) rfl) pa_nil))) (pa_cons (pe_callB (ErY.call_isP eC pin) (by rfl) (T.f 62) (by decide +kernel) (pa_cons (pv 0) (pa_cons (pe_glob (v := .ref (He.ga K "BadEdit")) rfl (T.g 48) rfl) pa_nil))) (pa_cons (pe_callB (ErY.call_isP eC pin) (by rfl) (T.f 62) (by decide +kernel) (pa_cons (pv 0) (pa_cons (pe_glob (v := .ref (He.ga K "NotPlain")) rfl (T.g 49) rfl) pa_nil))) (pa_cons (pe_callB (ErY.call_isP eC pin) (by rfl) (T.f 62) (by decide +kernel) (pa_cons (pv 0) (pa_cons (pe_glob (v := .ref (He.ga K "NotStrict")) rfl (T.g 50) rfl) pa_nil))) (pa_cons (pe_callB (ErY.call_isP eC pin) (by rfl) (T.f 62) (by decide +kernel) (pa_cons (pv 0) (pa_cons (pe_glob (v := .ref (He.ga K "BadLevel")) rfl (T.g 51) rfl) pa_nil))) (pa_cons (pe_callB (ErY.call_isP eC pin) (by rfl) (T.f 62) (by decide +kernel) (pa_cons (pv 0) (pa_cons (pe_glob (v := .ref (He.ga K "NeedsBlanks")) rfl (T.g 52) rfl) pa_nil))) (pa_cons (pe_callB (ErY.call_isP eC pin) (by rfl) (T.f 62) (by decide +kernel) (pa_cons (pv 0) (pa_cons (pe_glob (v := .ref (He.ga K "BadWish")) rfl (T.g 53) rfl) pa_nil))) (pa_cons (pe_callB (ErY.call_isP eC pin) (by rfl) (T.f 62) (by decide +kernel) (pa_cons (pv 0) (pa_cons (pe_glob (v := .ref (He.ga K "BadBreak")) rfl (T.g 54) rfl) pa_nil))) (pa_cons (pe_callB (ErY.call_isP eC pin) (by rfl) (T.f 62) (by decide +kernel) (pa_cons (pv 0) (pa_cons (pe_glob (v := .ref (He.ga K "BadDesk")) rfl (T.g 55) rfl) pa_nil))) pa_nil)))))))))))))))))))))))))))))))))
      (pss_cons (ps_if (PW.pt (pw_or (pt_cmpR op_ne (pe_callB call_len (by rfl) (T.f 63) boot_len (pa_cons (ErY.pe_sieve (i := 1) hc rfl rfl) pa_nil)) pe_int (nomark _)) (pw_or1 (pt_not (pt_truth (pe_callB (ErY.call_isP eC pin) (by rfl) (T.f 62) (by decide +kernel) (pa_cons (pv 0) (pa_cons (pe_bltn (v := .ty "ValueError") (by rfl) (T.f 57) (by decide +kernel) rfl) pa_nil))) (by intro _; rfl)))))) (pss_one (ps_ret (pe_tup (pa_cons pe_str pa_nil)))) pss_nil)
      (pss_cons (ps_if (pt_truth (pe_callB (ErY.call_isP eC pin) (by rfl) (T.f 62) (by decide +kernel) (pa_cons (pv 0) (pa_cons (pe_glob (v := .ref (He.ga K "BadNumber")) rfl (T.g 33) rfl) pa_nil))) (by intro _; rfl)) (pss_one (ps_ret (pe_tup (pa_cons pe_str (pa_cons (ErY.pe_pf eC pin (pv 0)) pa_nil))))) pss_nil)
      (pss_one (ps_ret (pe_tup (pa_cons pe_str pa_nil))))))), ?_⟩
  repeat walk_at "told"
  refine ⟨sz rfl, fun q hq => ?_⟩
  have e1 : Ex H (upd H q (.lst [V.bl false, V.bl false, V.bl false, V.bl false, V.bl false, V.bl false, V.bl false, V.bl false, V.bl true, V.bl false, V.bl false, V.bl false, V.bl false, V.bl false, V.bl false, V.bl false, V.bl false, V.bl false, V.bl false, V.bl false, V.bl false, V.bl false, V.bl false, V.bl false, V.bl false, V.bl false, V.bl false, V.bl false, V.bl false, V.bl false, V.bl false])) := Ex.refl.at hq
  refine ⟨q, is_BadNumber.dropLast.map (·.2), rfl, lOf upd_same, fun D hD => ?_⟩
  have e2 := e1.trans (Ex.refl.at (o := .lst (((is_BadNumber.dropLast.map (·.2)).filter id).map V.bl)) hD)
  have hd2 := e2 _ _ hd
  have q2 : upd (upd H q (.lst [V.bl false, V.bl false, V.bl false, V.bl false, V.bl false, V.bl false, V.bl false, V.bl false, V.bl true, V.bl false, V.bl false, V.bl false, V.bl false, V.bl false, V.bl false, V.bl false, V.bl false, V.bl false, V.bl false, V.bl false, V.bl false, V.bl false, V.bl false, V.bl false, V.bl false, V.bl false, V.bl false, V.bl false, V.bl false, V.bl false, V.bl false])) D (.lst (((is_BadNumber.dropLast.map (·.2)).filter id).map V.bl)) D = some (.lst [V.bl true]) := upd_same
  generalize upd (upd H q (.lst [V.bl false, V.bl false, V.bl false, V.bl false, V.bl false, V.bl false, V.bl false, V.bl false, V.bl true, V.bl false, V.bl false, V.bl false, V.bl false, V.bl false, V.bl false, V.bl false, V.bl false, V.bl false, V.bl false, V.bl false, V.bl false, V.bl false, V.bl false, V.bl false, V.bl false, V.bl false, V.bl false, V.bl false, V.bl false, V.bl false, V.bl false])) D (.lst (((is_BadNumber.dropLast.map (·.2)).filter id).map V.bl)) = H2 at e2 hd2 q2
  have held2 : ErY.Held H2 (some dd) [("number_told", v)] := .inr ⟨dd, rfl, hd2⟩
  repeat walk_at "s"
  refine ⟨_, 1, rfl, .inl ⟨_, lOf q2, rfl⟩, ?_⟩
  repeat walk_at "s"
  refine ⟨_, _, true, _, rfl, .ty _, held2, ive, ?_⟩
  repeat walk_at "s"
  repeat walk_at "told"
  refine ⟨T.e_BadNumber.nx _ (List.Mem.head _), dd, _, v, rfl, hd2, rfl, ?_⟩
  refine ⟨sz rfl, fun r hr => ?_⟩
  exact k r _ (e2.trans (Ex.refl.at hr)) (e2.none hr) (tOf upd_same)
/-! ### calls that may be refused -/
def Good (K : PySem.W.Frag) (H : Hp) (form : Int) (a c : V) : Prop := (form = 0 ∧ ∃ (i : Int) (cc : Addr), a = .int i ∧ 0 ≤ i ∧ c = .ref cc) ∨
  (form = 1 ∧ ∃ (i : Int) (l : Addr) (v0 v1 v2 : Int), a = .int i ∧ 0 ≤ i ∧ c = .ref l ∧ SqL K H l (cs3 v0 v1 v2)) ∨ (form = 2 ∧ ∃ (g : Addr) (P : Gr) (i : Int), a = .ref g ∧ GrAt K H g P ∧ P.ok 2900 ∧ c = .int i ∧ P.b ≤ i ∧ Nw 2900 i)
def BadC (K : PySem.W.Frag) (H : Hp) (form : Int) (a c v : V) : Prop := (form = 0 ∧ v = a ∧ Bad K H a ∧ ∃ cc, c = .ref cc) ∨
  (form = 1 ∧ v = a ∧ Bad K H a ∧ ∃ (l : Addr) (v0 v1 v2 : Int), c = .ref l ∧ SqL K H l (cs3 v0 v1 v2)) ∨ (form = 2 ∧ v = c ∧ ∃ (g : Addr) (P : Gr), a = .ref g ∧ GrAt K H g P ∧ BadN K H P.b c)
def spLc (K : PySem.W.Frag) : Sp := fun vs H Q E => ∃ (form : Int) (l : Addr) (a c : V), vs = [.int form, .ref l] ∧ SqL K H l [a, c] ∧
  ((Good K H form a c ∧ ∀ v H', Ex H H' → Q v H') ∨ ∃ v, BadC K H form a c v ∧ ∀ H', Ex H H' → Told K E v H')
theorem sc_l_call : FnScope ["form", "things"] ["form", "things"] (defScope s_l_call) := ⟨rfl, rfl, rfl, by decide +kernel, rfl, by decide +kernel, by decide +kernel⟩
theorem d_l_call (T : Tx K mg) : Dn PP w K mg base (L2N.CX PP w) 8 "_law_call" ["form", "things"] (spLc K) := by
  obtain ⟨fd, F⟩ := T.d 18
  refine ⟨_, fd, T.g 18, F.kp, FunD.bindsN F (fun _ _ _ _ _ _ us hl => match us, hl with | [_, _], _ => rfl), FunD.ok F sc_l_call (by walk_at "len") (fun cdv A outer s H vs Q E hr h => ?_)⟩
  obtain ⟨form, l, a, c, rfl, hl, hh⟩ := h
  obtain ⟨ow, ki, ti, nf, co, sf, _⟩ := T.ex
  refine ⟨_, (pss_cons (ps_if (pt_cmpR op_eq (pv 0) pe_int (nomark _)) (pss_one (ps_ret (pe_mk (d_Growth_init T) T.k_Growth (hr.mono (by decide)) rfl (T.g 56) (passW tkOf) (pa_cons (pe_ix ix_seq (pv 1) pe_int (fun _ _ => rfl)) (pa_cons (pe_ix ix_seq (pv 1) pe_int (fun _ _ => rfl)) pa_nil))))) pss_nil)
      (pss_cons (ps_if (pt_cmpR op_eq (pv 0) pe_int (nomark _)) (pss_one (ps_ret (pe_dS (d_growth_of T) tkOf (hr.mono (by decide)) rfl (pa_cons (pe_ix ix_seq (pv 1) pe_int (fun _ _ => rfl)) (pa_cons (pe_ix ix_seq (pv 1) pe_int (fun _ _ => rfl)) pa_nil))))) pss_nil)
      (pss_one (ps_ret (pe_co (d_Growth_call T) co (hr.mono (by decide)) (passW tkOf) (pe_ix ix_seq (pv 1) pe_int (fun _ _ => rfl)) (pa_cons (pe_ix ix_seq (pv 1) pe_int (fun _ _ => rfl)) pa_nil)))))), ?_⟩
  repeat walk_at "s"
  rcases hh with ⟨good, k⟩ | ⟨v, bad, k⟩
  · rcases good with ⟨rfl, i, cc, rfl, h0, rfl⟩ | ⟨rfl, i, l2, v0, v1, v2, rfl, h0, rfl, hl2⟩ | ⟨rfl, g, P, i, rfl, hg, ok, rfl, h0, wi⟩
    · repeat walk_at "s"
      intro x dx hx hdx hne
      obtain ⟨m1, m2⟩ := made (C := GC K) (fs := gfs i cc) (o := .own x) hx hdx hne
      exact ⟨x, dx, cc, .int i, rfl, upd_same, .inl ⟨i, rfl, h0, rfl, k _ _ m1⟩⟩
    · repeat walk_at "s"
      exact ⟨l2, .int i, v0, v1, v2, rfl, hl2, .inl ⟨i, rfl, h0, fun r H' e _ _ => k _ _ e⟩⟩
    · repeat walk_at "s"
      obtain ⟨dx, c, hgg, _⟩ := id hg
      exact ⟨.inr ⟨dx, _, hgg⟩, g, .int i, P, rfl, hg, .inl ⟨i, rfl, h0, ok, wi, k _ _ Ex.refl⟩⟩
  · rcases bad with ⟨rfl, rfl, hb, cc, rfl⟩ | ⟨rfl, rfl, hb, l2, v0, v1, v2, rfl, hl2⟩ | ⟨rfl, rfl, g, P, rfl, hg, hb⟩
    · repeat walk_at "s"
      intro x dx hx hdx hne
      have e1 : Ex H (upd (upd H dx (.own x)) x (.ins (GC K) dx [])) := (Ex.refl.at hdx).at hx
      exact ⟨x, dx, cc, v, rfl, upd_same, .inr ⟨hb.ex e1, k _ e1⟩⟩
    · repeat walk_at "s"
      exact ⟨l2, v, v0, v1, v2, rfl, hl2, .inr ⟨hb, k⟩⟩
    · repeat walk_at "s"
      obtain ⟨dx, c, hgg, _⟩ := id hg
      exact ⟨.inr ⟨dx, _, hgg⟩, g, v, P, rfl, hg, .inr ⟨hb, k _ Ex.refl⟩⟩
end
end Lw
namespace Lw
open PySem PySem.Spec PyProof.Rows L2 L2H
/-! ### the draws -/
local macro_rules | `(tactic| walk_at "len") => `(tactic| (intro vs H Q E h; first | (obtain ⟨_, e, _⟩ := h; subst e; rfl) | (obtain ⟨_, _, e, _⟩ := h; subst e; rfl) | (obtain ⟨_, _, _, e, _⟩ := h; subst e; rfl) | (obtain ⟨_, _, _, _, e, _⟩ := h; subst e; rfl) | (obtain ⟨_, _, _, _, _, e, _⟩ := h; subst e; rfl) | (obtain ⟨_, _, _, _, _, _, e, _⟩ := h; subst e; rfl) | (obtain ⟨_, _, _, _, _, _, _, e, _⟩ := h; subst e; rfl)))
local macro_rules | `(tactic| walk_at "get") => `(tactic| (first | assumption | exact upd_same | (refine look_new (by assumption) ?_; walk_at "get") | (refine look_ne (by assumption) ?_; walk_at "get")))
local macro_rules | `(tactic| walk_at "s") => `(tactic| (first
  | refine ⟨_, rfl, ?_⟩
  | refine Or.inl ⟨_, rfl, ?_⟩
  | refine Or.inl ⟨_, _, _, _, rfl, rfl, lOf (by walk_at "get"), rfl, ?_⟩
  | refine Or.inl ⟨_, _, _, _, rfl, rfl, (show SqL _ _ _ _ by assumption), rfl, ?_⟩
  | refine Or.inr (Or.inl ⟨_, _, _, _, rfl, rfl, (show SqT _ _ _ _ by assumption), rfl, ?_⟩)
  | refine ⟨_, _, _, _, rfl, rfl, (by walk_at "get"), rfl, ?_⟩
  | refine ⟨_, _, rfl, rfl, Or.inl (Or.inr ⟨by decide, by decide⟩), ?_⟩
  | refine ⟨_, _, rfl, rfl, (by show (0 : Int) < _; first | assumption | decide), ?_⟩
  | refine ⟨_, _, rfl, rfl, ⟨by decide, by decide⟩, ?_⟩
  | refine ⟨_, _, rfl, rfl, ⟨by decide, by decide +kernel⟩, ?_⟩
  | refine ⟨_, _, rfl, rfl, (by show (0 : Int) < _; decide +kernel), ?_⟩
  | refine ⟨(show CMulA _ _ from Or.inl (Or.inl ⟨by (try dsimp only); omega, by (try dsimp only); omega⟩)), ?_⟩
  | refine ⟨_, _, rfl, rfl, ?_⟩
  | refine ⟨_, _, rfl, (show Dp _ _ _ _ by assumption), ?_⟩
  | refine ⟨_, _, rfl, (show SqT _ _ _ _ by assumption), ?_⟩
  | refine ⟨_, _, rfl, (show SqL _ _ _ _ by assumption), ?_⟩
  | refine ⟨_, _, rfl, ?_⟩
  | refine ⟨rfl, _, rfl, ?_⟩
  | refine ⟨rfl, ?_⟩
  | refine ⟨_, _, _, _, _, rfl, (by walk_at "get"), (by assumption), (by assumption), rfl, ?_⟩
  | refine ⟨_, _, _, _, _, rfl, .own _, (by assumption), (by assumption), ?_⟩
  | refine ⟨_, _, _, _, _, rfl, .ty _, (by assumption), kit_ty (by rfl), ?_⟩))
local macro_rules | `(tactic| walk_at "c") => `(tactic| (try dsimp only [L2.start, List.set, List.map, List.length, List.replicate, List.cons_append, List.nil_append, List.append, HAppend.hAppend, Append.append, Int.toNat, Nat.reduceSub, Nat.reduceAdd]))
local macro_rules | `(tactic| walk_at "T") => `(tactic| ((repeat walk_at "s"); refine iteT (by first | rfl | assumption | decide) ?_; (repeat walk_at "s")))
local macro_rules | `(tactic| walk_at "F") => `(tactic| ((repeat walk_at "s"); refine iteF (by first | rfl | assumption | decide) ?_; (repeat walk_at "s")))
local macro_rules | `(tactic| walk_at "isi") => `(tactic| ((repeat walk_at "s"); refine ⟨_, _, _, _, _, rfl, .ty _, (by assumption), kit_ty (by rfl), ?_⟩; (repeat walk_at "s")))
local macro_rules | `(tactic| walk_at "mem") => `(tactic| (first | exact List.Mem.head _ | (refine List.Mem.tail _ ?_; walk_at "mem")))
local macro_rules | `(tactic| walk_at "told") => `(tactic| ((repeat walk_at "s"); refine ⟨_, _, _, _, rfl, .own _, (show ErY.Held _ _ _ by assumption), HeZ.isB_ok (by assumption) (by unfold is_BadNumber; walk_at "mem"), ?_⟩; (repeat walk_at "s")))
section
variable {w : World} {K : PySem.W.Frag} {mg : Str → Option Value} {base : Heap}
def spFault (K : PySem.W.Frag) : Sp := fun vs H Q _ => ∃ (form : Int) (l : Addr) (a c : V), vs = [.int form, .ref l] ∧ SqL K H l [a, c] ∧
  ((Good K H form a c ∧ ∀ r H', Ex H H' → H r = none → SqT K H' r [] → Q (.ref r) H') ∨ ∃ v, BadC K H form a c v ∧ ∀ r H', Ex H H' → H r = none → SqT K H' r [.str "BadNumber", v] → Q (.ref r) H')
theorem takes0 {X : Cx} : L2N.Takes X (fun _ _ _ _ => False) := fun u s' ⟨_, _, _, _, _, _, _, _, _, _, _, _, _, _, _, _, w⟩ => w.elim
theorem psOf {X : Cx} {sts : List Stmt} {t t' : TS} (imp : ∀ D σ H, t' D σ H → t D σ H) (h : PSs X sts t) : PSs X sts t' := ⟨fun pins s σ H D I q => h.run pins s σ H D I (imp _ _ _ q)⟩
theorem roomS {k : Nat} {A A' : Around} (r : Room k A) (h1 : A'.depth = A.depth) (h2 : A'.units = A.units) : RoomH k A' := ⟨by rw [h1]; exact r.dp, by rw [h2]; exact r.un⟩
theorem hotOf {A : Around} {a : Addr} {cls : Value} {d : Option Addr} {oe : Obj} (h : A.handled = some (.ref a)) (hz : L2N.Zn cls d oe) (hd : ∃ vs, oe.data = .fields vs) : Hot1 A (a, oe) :=
  let ⟨vs, hv⟩ := hd
  ⟨h, vs, hv, hz.2.2 vs hv⟩
/-- return _law_told(e), the error in slot i -/
def tTells (K : PySem.W.Frag) (i : Nat) (a : Addr) (cls : Value) (d : Option Addr) : TS := fun D σ H => ∀ oe, L2N.Zn cls d oe → (∃ vs, oe.data = .fields vs) → (tRet (ErY.tCallT (spTold K) (a, oe) (tCons (tVar i) tNil))) D σ H
theorem sc_l_fault : FnScope ["form", "things", "e"] ["form", "things"] (defScope s_l_fault) := ⟨rfl, rfl, rfl, by decide +kernel, rfl, by decide +kernel, by decide +kernel⟩
theorem d_l_fault (T : Tx K mg) : Dn PP w K mg base CX0 9 "_law_fault" ["form", "things"] (spFault K) := by
  obtain ⟨fd, F⟩ := T.d 19
  refine ⟨_, fd, T.g 19, F.kp, FunD.bindsN F (fun _ _ _ _ _ _ us hl => match us, hl with | [_, _], _ => rfl), FunD.ok F sc_l_fault (by walk_at "len") (fun cdv A outer s H vs Q E hr h => ?_)⟩
  obtain ⟨form, l, a, c, rfl, hl, hh⟩ := h
  obtain ⟨fdT, FT⟩ := d_l_told (w := w) (base := base) T
  obtain ⟨fdC, FC⟩ := T.d 14
  have hr2 : Room 2 _ := hr.mono (by decide)
  refine ⟨_, PSs.nox (pss_cons (L2N.ps_try_as (i := 2) (Wout := fun _ _ _ _ => False) (c := .ref (He.ga K "Bad")) rfl rfl sc_l_fault.nd rfl rfl ⟨rfl, by decide, .inl (T.g 24)⟩ takes0
    (fun W pn xe tk po => pss_one (ps_expr (pe_dS (d_l_call T) tk (hr.mono (by decide)) rfl (pa_cons (pv 0) (pa_cons (pv 1) pa_nil)))))
    (ts := tTells K 2) (fun a oe cls d pn hz hd => psOf (fun D σ H h => h oe hz hd) (pss_one (ps_ret (ErY.pe_callT FT (roomS hr2 rfl rfl) (hotOf rfl hz hd) (List.Mem.head _) rfl (T.g 14) FC.kp (pa_cons (pv 2) pa_nil))))))
    (pss_one (ps_ret (pe_tup pa_nil)))), ?_⟩
  repeat walk_at "s"
  have ex : PySem.W.exmOne K (.ref (BN K)) (.ref (He.ga K "Bad")) = some true := He.exm_ok (T.says.d.fact 78 (f := .exm "BadNumber" "Bad" true))
  rcases hh with ⟨good, k⟩ | ⟨v, bad, k⟩
  · refine ⟨form, l, a, c, rfl, hl, .inl ⟨good, fun v H1 e => ?_⟩⟩
    refine ⟨sz rfl, fun r hr => ?_⟩
    exact k r _ (e.trans (Ex.refl.at hr)) (e.none hr) (tOf upd_same)
  · refine ⟨form, l, a, c, rfl, hl, .inr ⟨v, bad, fun H1 e d hd => ⟨true, ex, fun _ a ha oe hz hdat => ?_, fun h => nomatch h⟩⟩⟩
    have e2 := e.trans (Ex.refl.at (o := .xd [("number_told", v)]) hd)
    refine ⟨_, rfl, v, d, rfl, hz.zc, hdat, upd_same, fun r H' e' hr q => ?_⟩
    exact k r H' (e2.trans e') (e2.none hr) q
end
end Lw
namespace Lw
open PySem PySem.Spec PyProof.Rows L2 L2H
/-! ### the draws -/
local macro_rules | `(tactic| walk_at "len") => `(tactic| (intro vs H Q E h; first | (obtain ⟨_, e, _⟩ := h; subst e; rfl) | (obtain ⟨_, _, e, _⟩ := h; subst e; rfl) | (obtain ⟨_, _, _, e, _⟩ := h; subst e; rfl) | (obtain ⟨_, _, _, _, e, _⟩ := h; subst e; rfl) | (obtain ⟨_, _, _, _, _, e, _⟩ := h; subst e; rfl) | (obtain ⟨_, _, _, _, _, _, e, _⟩ := h; subst e; rfl) | (obtain ⟨_, _, _, _, _, _, _, e, _⟩ := h; subst e; rfl)))
local macro_rules | `(tactic| walk_at "get") => `(tactic| (first | assumption | exact upd_same | (refine look_new (by assumption) ?_; walk_at "get") | (refine look_ne (by assumption) ?_; walk_at "get")))
local macro_rules | `(tactic| walk_at "s") => `(tactic| (first
  | refine ⟨_, rfl, ?_⟩
  | refine Or.inl ⟨_, rfl, ?_⟩
  | refine Or.inl ⟨_, _, _, _, rfl, rfl, lOf (by walk_at "get"), rfl, ?_⟩
  | refine Or.inl ⟨_, _, _, _, rfl, rfl, (show SqL _ _ _ _ by assumption), rfl, ?_⟩
  | refine Or.inr (Or.inl ⟨_, _, _, _, rfl, rfl, (show SqT _ _ _ _ by assumption), rfl, ?_⟩)
  | refine ⟨_, _, _, _, rfl, rfl, (by walk_at "get"), rfl, ?_⟩
  | refine ⟨_, _, rfl, rfl, Or.inl (Or.inr ⟨by decide, by decide⟩), ?_⟩
  | refine ⟨_, _, rfl, rfl, (by show (0 : Int) < _; first | assumption | decide), ?_⟩
  | refine ⟨_, _, rfl, rfl, ⟨by decide, by decide⟩, ?_⟩
  | refine ⟨_, _, rfl, rfl, ⟨by decide, by decide +kernel⟩, ?_⟩
  | refine ⟨_, _, rfl, rfl, (by show (0 : Int) < _; decide +kernel), ?_⟩
  | refine ⟨(show CMulA _ _ from Or.inl (Or.inl ⟨by (try dsimp only); omega, by (try dsimp only); omega⟩)), ?_⟩
  | refine ⟨_, _, rfl, rfl, ?_⟩
  | refine ⟨_, _, rfl, (show Dp _ _ _ _ by assumption), ?_⟩
  | refine ⟨_, _, rfl, (show SqT _ _ _ _ by assumption), ?_⟩
  | refine ⟨_, _, rfl, (show SqL _ _ _ _ by assumption), ?_⟩
  | refine ⟨_, _, rfl, ?_⟩
  | refine ⟨rfl, _, rfl, ?_⟩
  | refine ⟨rfl, ?_⟩
  | refine ⟨_, _, _, _, _, rfl, (by walk_at "get"), (by assumption), (by assumption), rfl, ?_⟩
  | refine ⟨_, _, _, _, _, rfl, .own _, (by assumption), (by assumption), ?_⟩
  | refine ⟨_, _, _, _, _, rfl, .ty _, (by assumption), kit_ty (by rfl), ?_⟩))
local macro_rules | `(tactic| walk_at "c") => `(tactic| (try dsimp only [L2.start, List.set, List.map, List.length, List.replicate, List.cons_append, List.nil_append, List.append, HAppend.hAppend, Append.append, Int.toNat, Nat.reduceSub, Nat.reduceAdd]))
local macro_rules | `(tactic| walk_at "T") => `(tactic| ((repeat walk_at "s"); refine iteT (by first | rfl | assumption | decide) ?_; (repeat walk_at "s")))
local macro_rules | `(tactic| walk_at "F") => `(tactic| ((repeat walk_at "s"); refine iteF (by first | rfl | assumption | decide) ?_; (repeat walk_at "s")))
local macro_rules | `(tactic| walk_at "isi") => `(tactic| ((repeat walk_at "s"); refine ⟨_, _, _, _, _, rfl, .ty _, (by assumption), kit_ty (by rfl), ?_⟩; (repeat walk_at "s")))
local macro_rules | `(tactic| walk_at "mem") => `(tactic| (first | exact List.Mem.head _ | (refine List.Mem.tail _ ?_; walk_at "mem")))
local macro_rules | `(tactic| walk_at "told") => `(tactic| ((repeat walk_at "s"); refine ⟨_, _, _, _, rfl, .own _, (show ErY.Held _ _ _ by assumption), HeZ.isB_ok (by assumption) (by unfold is_BadNumber; walk_at "mem"), ?_⟩; (repeat walk_at "s")))
section
variable {w : World} {K : PySem.W.Frag} {mg : Str → Option Value} {base : Heap}
theorem StO.nt {H : Hp} {s a : Addr} {xs : List V} (S : StO H s) (h : Rd H a (.tup xs)) : a ≠ s := fun e => by
  obtain ⟨c, cells, i, big, mixed, t, h1, _⟩ := S
  subst e
  rcases h with h | ⟨o, h⟩ <;> (rw [h1] at h; cases h)
theorem Kp.t {H H' : Hp} {s a : Addr} {xs : List V} (e : Kp s H H') (S : StO H s) (h : SqT K H a xs) : SqT K H' a xs := h.elim (fun h => .inl (by
  have n := S.nt h
  exact h.elim (fun h => .inl (e.1 _ _ n h)) fun ⟨o, h⟩ => .inr ⟨o, e.1 _ _ n h⟩)) .inr
theorem Kp.gr {H H' : Hp} {s g : Addr} {P : Gr} (e : Kp s H H') (S : StO H s) (h : GrAt K H g P) : GrAt K H' g P :=
  let ⟨dx, c, h1, h2⟩ := h
  ⟨dx, c, e.1 _ _ (fun q => by
    obtain ⟨c, cells, i, big, mixed, t, g1, _⟩ := S
    rw [q, g1] at h1
    cases h1) h1, e.t S h2⟩
theorem Kp.pt {H H' : Hp} {s p : Addr} {P : Gr} (e : Kp s H H') (S : StO H s) (h : PtAt K H p P) : PtAt K H' p P :=
  let ⟨c, h1, h2⟩ := h
  ⟨c, e.t S h1, e.t S h2⟩
abbrev d3 (P : Gr) : PyData := .tuple [.int P.c0, .int P.c1, .int P.c2]
abbrev dP (P : Gr) : PyData := .tuple [.int P.b, d3 P]
theorem dp_3 {H : Hp} {P : Gr} {c : Addr} (h : SqT K H c (cs3 P.c0 P.c1 P.c2)) : Dp K H (.ref c) (d3 P) := .tup h (dp3 _ _ _)
theorem dp_P {H : Hp} {P : Gr} {p c : Addr} (h : SqT K H p [.int P.b, .ref c]) (hc : SqT K H c (cs3 P.c0 P.c1 P.c2)) : Dp K H (.ref p) (dP P) := .tup h (.cons (.int _) (.cons (dp_3 hc) .nil))
theorem sz_P (P : Gr) : sizeD (dP P) < 100000 := by simp [sizeD, sizeDs]
theorem Gr.ok.mono {P : Gr} {n m : Nat} (h : P.ok n) (g : n ≤ m) : P.ok m := ⟨h.1, h.2.1.mono g, h.2.2.1.mono g, h.2.2.2.1.mono g, h.2.2.2.2.mono g⟩
theorem again_eq {P : Gr} : (⟨P.b, P.at (P.b + (0 + ((0 : Nat) : Int))), P.at (P.b + (0 + ((1 : Nat) : Int))) - P.at (P.b + (0 + ((0 : Nat) : Int))), P.at (P.b + (0 + ((2 : Nat) : Int))) - 2 * P.at (P.b + (0 + ((1 : Nat) : Int))) + P.at (P.b + (0 + ((0 : Nat) : Int)))⟩ : Gr) = P := by
  obtain ⟨b, c0, c1, c2⟩ := P
  have h0 : b + (0 + ((0 : Nat) : Int)) - b = 0 := by omega
  have h1 : b + (0 + ((1 : Nat) : Int)) - b = 1 := by omega
  have h2 : b + (0 + ((2 : Nat) : Int)) - b = 2 := by omega
  simp only [Gr.at, gv, h0, h1, h2, Gr.mk.injEq, true_and]
  refine ⟨?_, ?_, ?_⟩
  · simp
  · simp
    omega
  · simp
    omega
theorem eqG_self (P : Gr) : eqG P P = true := by simp [eqG]
theorem updL_t {H : Hp} {D a : Addr} {xs ys : List V} {o : HO} (h : H D = some (.lst xs)) (q : SqT K H a ys) : SqT K (upd H D o) a ys := q.elim (fun q => .inl (by
  have n : a ≠ D := fun e => by
    subst e
    rcases q with q | ⟨o, q⟩ <;> (rw [h] at q; cases q)
  exact q.elim (fun q => .inl (look_ne n q)) fun ⟨u, q⟩ => .inr ⟨u, look_ne n q⟩)) .inr
def spRight (K : PySem.W.Frag) : Sp := fun vs H Q _ => ∃ (s g p : Addr) (P : Gr), vs = [.ref s, .ref g, .ref p] ∧ StO H s ∧ GrAt K H g P ∧ PtAt K H p P ∧ P.ok 2800 ∧ ∀ H', Kp s H H' → StO H' s → Q (.bl true) H'
theorem sc_l_right : FnScope ["store", "growth", "parts", "begin", "far", "number", "values", "kept", "again", "k"] ["store", "growth", "parts"] (defScope s_l_right) := ⟨rfl, rfl, rfl, by decide +kernel, rfl, by decide +kernel, by decide +kernel⟩
theorem d_l_right (T : Tx K mg) : Dn PP w K mg base CX0 7 "_law_right" ["store", "growth", "parts"] (spRight K) := by
  obtain ⟨fd, F⟩ := T.d 20
  refine ⟨_, fd, T.g 20, F.kp, FunD.bindsN F (fun _ _ _ _ _ _ us hl => match us, hl with | [_, _, _], _ => rfl), FunD.ok F sc_l_right (by walk_at "len") (fun cdv A outer s H vs Q E hr h => ?_)⟩
  obtain ⟨s, g, p, P, rfl, S, ⟨dx, c, hg, hc⟩, ⟨c', hp, hc'⟩, ok, k⟩ := h
  have ok' : P.ok 2900 := ok.mono (by decide)
  obtain ⟨ow, ki, ti, nf, co, sf, _⟩ := T.ex
  have cG := T.c_Growth
  have tg := ow.ty T.c_Growth hg
  refine ⟨_, PSs.nox ((pss_cons (ps_if (PW.pt (pw_or (pt_not (pt_truth (pe_callB call_isi (by rfl) (T.f 62) (by decide +kernel) (pa_cons (pv 1) (pa_cons (pe_glob (v := .ref (He.ga K "Growth")) rfl (T.g 56) rfl) pa_nil))) (by intro _; rfl))) (pw_or1 (pt_not (pt_truth (pe_d (d_l_same T) (hr.mono (by decide)) rfl pass0 (pa_cons (pe_tup (pa_cons (pe_pr (d_Growth_begin T) T.c_Growth (p_Growth_begin T) (hr.mono (by decide)) pass0 (pv 1)) (pa_cons (pe_pr (d_Growth_constants T) T.c_Growth (p_Growth_constants T) (hr.mono (by decide)) pass0 (pv 1)) pa_nil))) (pa_cons (pv 2) pa_nil))) (by intro _; rfl)))))) (pss_one (ps_ret pe_bl)) pss_nil)
      (pss_cons (ps_set (i := 3) sc_l_right.nd rfl (.inr rfl) (pe_ix ix_seq (pv 2) pe_int (fun _ _ => rfl)))
      (pss_cons (ps_set (i := 4) sc_l_right.nd rfl (.inl rfl) (pe_op op_addA (pv 3) (pe_d (d_l_wide T) (hr.mono (by decide)) rfl pass0 (pa_cons (pv 0) (pa_cons pe_int (pa_cons (pe_op op_powA pe_int pe_int) pa_nil))))))
      (pss_cons (ps_for PassesOwn.never rfl (pi_list (pe_lst (pa_cons (pv 3) (pa_cons (pe_op op_addA (pv 3) pe_int) (pa_cons (pe_op op_addA (pv 3) pe_int) (pa_cons (pe_op op_addA (pv 3) pe_int) (pa_cons (pe_op op_addA (pv 3) (pe_op op_powA pe_int pe_int)) (pa_cons (pv 4) (pa_cons (pv 3) pa_nil))))))))) (pg_name (i := 5) sc_l_right.nd rfl (.inl rfl)) (pss_one (ps_if (pt_not (pt_truth (pe_d (d_l_same T) (hr.mono (by decide)) rfl pass0 (pa_cons (pe_co (d_Growth_call T) co (hr.mono (by decide)) passN (pv 1) (pa_cons (pv 5) pa_nil)) (pa_cons (pe_d (d_l_value T) (hr.mono (by decide)) rfl pass0 (pa_cons (pv 2) (pa_cons (pv 5) pa_nil))) pa_nil))) (by intro _; rfl))) (pss_one (ps_ret pe_bl)) pss_nil)))
      (pss_cons (ps_setLc (i := 6) (own := [("k", 9)]) rfl sc_l_right.nd rfl rfl (sw_true rfl rfl rfl (by decide +kernel)) (pi_range1 rfl (T.f 67) (pa_cons pe_int pa_nil)) (blkOk_by (own := [("k", 9)]) (N := ["store", "growth", "parts", "begin", "far", "number", "values", "kept", "again", "k"]) (sc := defScope s_l_right) (by decide +kernel)) (fun _ _ _ _ _ => (pg_name (i := 9) sc_l_right.nd rfl (.inl rfl))) (fun _ _ _ _ _ => pts_nil) (fun _ _ _ _ _ => (pe_d (d_l_value T) (hr.mono (by decide)) rfl pass0 (pa_cons (pv 2) (pa_cons (pe_op (show OpR _ (binaryOp .Add) (rAdd K) from op_addA) (pv 3) (pv 9)) pa_nil)))))
      (pss_cons (ps_set (i := 7) sc_l_right.nd rfl (.inl rfl) (pe_callTy call_list_of (by rfl) (T.f 64) (by decide +kernel) (pa_cons (pv 6) pa_nil)))
      (pss_cons (ps_set (i := 8) sc_l_right.nd rfl (.inl rfl) (pe_d (d_growth_of T) (hr.mono (by decide)) rfl passN (pa_cons (pv 3) (pa_cons (pv 6) pa_nil))))
      (pss_cons (ps_if (PW.pt (pw_or (pt_not (pt_truth (pe_d (d_l_same T) (hr.mono (by decide)) rfl pass0 (pa_cons (pv 6) (pa_cons (pv 7) pa_nil))) (by intro _; rfl))) (pw_or1 (pt_not (pt_truth (pe_d (d_l_same T) (hr.mono (by decide)) rfl pass0 (pa_cons (pe_tup (pa_cons (pe_pr (d_Growth_begin T) T.c_Growth (p_Growth_begin T) (hr.mono (by decide)) pass0 (pv 8)) (pa_cons (pe_pr (d_Growth_constants T) T.c_Growth (p_Growth_constants T) (hr.mono (by decide)) pass0 (pv 8)) pa_nil))) (pa_cons (pv 2) pa_nil))) (by intro _; rfl)))))) (pss_one (ps_ret pe_bl)) pss_nil)
      (pss_cons (ps_if (PW.pt (pw_or (pt_not (pt_cmpR (op_ownEqM hr.units0 T.m_eq (d_Growth_eq T) (hr.mono (by decide)) pass0) (pv 8) (pv 1) (nomark _))) (pw_or1 (pt_not (pt_cmpR (op_ownEqM hr.units0 T.m_eq (d_Growth_eq T) (hr.mono (by decide)) pass0) (pv 1) (pe_mk (d_Growth_init T) T.k_Growth (hr.mono (by decide)) rfl (T.g 56) passN (pa_cons (pv 3) (pa_cons (pe_ix ix_seq (pv 2) pe_int (fun _ _ => rfl)) pa_nil))) (nomark _)))))) (pss_one (ps_ret pe_bl)) pss_nil)
      (pss_cons (ps_asg (pe_op op_addA (pe_ix ix_seq (pv 6) pe_int (fun _ _ => rfl)) pe_int) (pg_sub (pv 6) pe_int set_list))
      (pss_one (ps_ret (pe_d (d_l_same T) (hr.mono (by decide)) rfl pass0 (pa_cons (pe_co (d_Growth_call T) co (hr.mono (by decide)) passN (pv 8) (pa_cons (pv 3) pa_nil)) (pa_cons (pe_ix ix_seq (pv 7) pe_int (fun _ _ => rfl)) pa_nil)))))))))))))))), ?_⟩
  repeat walk_at "s"
  refine ⟨g, dx, _, rfl, hg, g, P, rfl, ⟨dx, c, hg, hc⟩, ?_⟩
  repeat walk_at "s"
  refine ⟨g, dx, _, rfl, hg, g, dx, c, P.b, rfl, hg, ?_⟩
  refine ⟨sz rfl, fun q hq => ?_⟩
  repeat walk_at "s"
  have e1 := Ex.refl.at (o := .tup [.int P.b, .ref c]) hq
  refine ⟨_, _, dP P, rfl, dp_P (tOf upd_same) (e1.t hc), dp_P (e1.t hp) (e1.t hc'), sz_P P, fun H1 e2 => ?_⟩
  have e3 := e1.trans e2
  have hg1 := e3 _ _ hg
  have hc1 := e3.t hc
  have hp1 := e3.t hp
  have hc1' := e3.t hc'
  have S1 := S.ex e3
  clear e1 e2 hq
  repeat walk_at "s"
  have h40 : (10 : Int) ^ 40 = 10000000000000000000000000000000000000000 := by decide
  refine ⟨s, 0, _, rfl, S1, (by unfold Nw; decide +kernel), fun far H2 k2 S2 f0 f1 => ?_⟩
  have f1 : far ≤ 10 ^ 40 ∨ far = 0 := f1
  rw [h40] at f1
  have hg2 := k2.1 _ _ (fun q => by obtain ⟨c, cells, i, big, mixed, t, g1, _⟩ := S1; rw [q, g1] at hg1; cases hg1) hg1
  have hc2 := k2.t S1 hc1
  have hp2 := k2.t S1 hp1
  have hc2' := k2.t S1 hc1'
  have kk2 := e3.kp.trans k2
  repeat walk_at "s"
  refine ⟨sz rfl, fun L hL => ?_⟩
  have e4 := Ex.refl.at (o := .lst [V.int P.b, V.int (P.b + 1), V.int (P.b + 2), V.int (P.b + 3), V.int (P.b + 10 ^ 40), V.int (P.b + far), V.int P.b]) hL
  repeat walk_at "s"
  have hL3 : SqL K (upd H2 L (.lst [V.int P.b, V.int (P.b + 1), V.int (P.b + 2), V.int (P.b + 3), V.int (P.b + 10 ^ 40), V.int (P.b + far), V.int P.b])) L ([P.b, P.b + 1, P.b + 2, P.b + 3, P.b + 10 ^ 40, P.b + far, P.b].map V.int) := lOf upd_same
  refine ⟨⟨_, hL3⟩, for_list (fun i σ H' => (∃ z, σ = [some (.ref s), some (.ref g), some (.ref p), some (.int P.b), some (.int (P.b + far)), z, none, none, none, none]) ∧ Ex (upd H2 L (.lst [V.int P.b, V.int (P.b + 1), V.int (P.b + 2), V.int (P.b + 3), V.int (P.b + 10 ^ 40), V.int (P.b + far), V.int P.b])) H') ⟨⟨_, rfl⟩, Ex.refl⟩ (fun i σ H' _ h => h.2.l hL3) ?_ ?_⟩
  · rintro i x σ H4 hx ⟨⟨z, rfl⟩, e5⟩
    have e6 := e4.trans e5
    have hn : ∃ n, x = .int n ∧ P.b ≤ n ∧ Nw 2900 n := by
      have hm : x ∈ [P.b, P.b + 1, P.b + 2, P.b + 3, P.b + 10 ^ 40, P.b + far, P.b].map V.int := List.mem_of_getElem? hx
      obtain ⟨n, hn, rfl⟩ := List.mem_map.mp hm
      have hd : ∃ y, n = P.b + y ∧ 0 ≤ y ∧ y ≤ 10 ^ 40 := by
        rw [h40] at hn ⊢
        simp only [List.mem_cons, List.not_mem_nil, or_false] at hn
        rcases hn with rfl | rfl | rfl | rfl | rfl | rfl | rfl
        · exact ⟨0, by omega, by omega, by omega⟩
        · exact ⟨1, by omega, by omega, by omega⟩
        · exact ⟨2, by omega, by omega, by omega⟩
        · exact ⟨3, by omega, by omega, by omega⟩
        · exact ⟨_, rfl, by omega, by omega⟩
        · exact ⟨far, rfl, by omega, by omega⟩
        · exact ⟨0, by omega, by omega, by omega⟩
      obtain ⟨y, rfl, y0, y1⟩ := hd
      refine ⟨_, rfl, by omega, (ok.2.1.add (j := y) (Nw.mono (n := 1000) ?_ (by decide))).mono (by decide)⟩
      have h2 : (10 : Nat) ^ 40 < 2 ^ 1000 := by decide +kernel
      have h3 : ((10 : Nat) ^ 40 : Nat) = (10 : Int) ^ 40 := by norm_cast
      unfold Nw
      omega
    obtain ⟨n, rfl, n0, wn⟩ := hn
    have hg4 := e6 _ _ hg2
    have hc4 := e6.t hc2
    have hp4 := e6.t hp2
    have hc4' := e6.t hc2'
    repeat walk_at "s"
    refine ⟨.inr ⟨dx, _, hg4⟩, g, .int n, P, rfl, ⟨dx, c, hg4, hc4⟩, .inl ⟨n, rfl, n0, ok', wn, ?_⟩⟩
    repeat walk_at "s"
    refine ⟨p, n, P, rfl, ⟨c', hp4, hc4'⟩, ok', wn, ?_⟩
    repeat walk_at "s"
    refine ⟨_, _, .int (P.at n), rfl, .int _, .int _, (by show 1 < 100000; decide), fun H5 e7 => ?_⟩
    repeat walk_at "s"
    exact ⟨⟨_, rfl⟩, e5.trans e7⟩
  · rintro σ H4 ⟨⟨z, rfl⟩, e5⟩
    have e6 := e4.trans e5
    have hg4 := e6 _ _ hg2
    have hc4 := e6.t hc2
    have hp4 := e6.t hp2
    have hc4' := e6.t hc2'
    repeat walk_at "s"
    refine ⟨by decide, by decide, fun D hD => lc_range (n := 3) (fun i H' => H' D = some (.lst ([V.int (P.at (P.b + (0 + ((0 : Nat) : Int)))), V.int (P.at (P.b + (0 + ((1 : Nat) : Int)))), V.int (P.at (P.b + (0 + ((2 : Nat) : Int))))].take i)) ∧ Ex H4 H') ⟨upd_same, Ex.refl.at hD⟩ ?_ ?_⟩
    · rintro i H5 hi ⟨hd, e7⟩
      have hp5 := e7.t hp4
      have hc5' := e7.t hc4'
      have wi : Nw 2900 (P.b + (0 + (i : Int))) := by
        have w2 : Nw 1000 (0 + (i : Int)) := by
          have : (3 : Nat) < 2 ^ 1000 := by decide +kernel
          unfold Nw
          omega
        exact (ok.2.1.add (w2.mono (m := 2800) (by decide))).mono (by decide)
      obtain rfl | rfl | rfl : i = 0 ∨ i = 1 ∨ i = 2 := by omega
      all_goals
        refine ⟨rfl, ?_⟩
        repeat walk_at "s"
        refine ⟨p, _, P, rfl, ⟨c', hp5, hc5'⟩, ok', wi, ?_⟩
      all_goals exact ⟨_, hd, sl rfl, upd_same, e7.at hD⟩
    · rintro H5 ⟨hd, e7⟩
      have hD5 : SqL K H5 D (cs3 (P.at (P.b + (0 + ((0 : Nat) : Int)))) (P.at (P.b + (0 + ((1 : Nat) : Int)))) (P.at (P.b + (0 + ((2 : Nat) : Int))))) := lOf hd
      repeat walk_at "s"
      refine ⟨D, _, rfl, .inl hD5, fun L2 hL2 => ?_⟩
      have hLD : L2 ≠ D := fun q => by rw [q, hd] at hL2; cases hL2
      have e8 := Ex.refl.at (o := .lst (cs3 (P.at (P.b + (0 + ((0 : Nat) : Int)))) (P.at (P.b + (0 + ((1 : Nat) : Int)))) (P.at (P.b + (0 + ((2 : Nat) : Int)))))) hL2
      have hk6 : upd H5 L2 (.lst (cs3 (P.at (P.b + (0 + ((0 : Nat) : Int)))) (P.at (P.b + (0 + ((1 : Nat) : Int)))) (P.at (P.b + (0 + ((2 : Nat) : Int)))))) L2 = some (.lst (cs3 (P.at (P.b + (0 + ((0 : Nat) : Int)))) (P.at (P.b + (0 + ((1 : Nat) : Int)))) (P.at (P.b + (0 + ((2 : Nat) : Int)))))) := upd_same
      have hd6 := e8 _ _ hd
      have e06 := (e4.trans e5).trans (e7.trans e8)
      generalize upd H5 L2 (.lst (cs3 (P.at (P.b + (0 + ((0 : Nat) : Int)))) (P.at (P.b + (0 + ((1 : Nat) : Int)))) (P.at (P.b + (0 + ((2 : Nat) : Int)))))) = H6 at e8 hk6 hd6 e06
      repeat walk_at "s"
      refine ⟨D, .int P.b, _, _, _, rfl, lOf hd6, .inl ⟨P.b, rfl, ok.1, fun r H7 e9 hr hgr => ?_⟩⟩
      rw [again_eq] at hgr
      have hd7 := e9 _ _ hd6
      have hk7 := e9 _ _ hk6
      repeat walk_at "s"
      refine ⟨_, _, .list [.int _, .int _, .int _], rfl, .lst (lOf hd7) (dp3 _ _ _), .lst (lOf hk7) (dp3 _ _ _), (by simp [sizeD, sizeDs]), fun H8 e10 => ?_⟩
      obtain ⟨dxr, cr, hr8, hcr8⟩ := e10.gr hgr
      have e28 := e06.trans (e9.trans e10)
      repeat walk_at "s"
      refine ⟨r, dxr, _, rfl, hr8, r, P, rfl, ⟨dxr, cr, hr8, hcr8⟩, ?_⟩
      repeat walk_at "s"
      refine ⟨r, dxr, _, rfl, hr8, r, dxr, cr, P.b, rfl, hr8, ?_⟩
      refine ⟨sz rfl, fun q2 hq2 => ?_⟩
      repeat walk_at "s"
      have e11 := Ex.refl.at (o := .tup [.int P.b, .ref cr]) hq2
      refine ⟨_, _, dP P, rfl, dp_P (tOf upd_same) (e11.t hcr8), dp_P ((e28.trans e11).t hp2) ((e28.trans e11).t hc2'), sz_P P, fun H9 e12 => ?_⟩
      have e29 := e28.trans (e11.trans e12)
      have hg9 := e29 _ _ hg2
      have hc9 := e29.t hc2
      have hp9 := e29.t hp2
      have hc9' := e29.t hc2'
      have hr9 := (e11.trans e12) _ _ hr8
      have hcr9 := (e11.trans e12).t hcr8
      repeat walk_at "s"
      refine ⟨r, dxr, _, .ref (GC K), rfl, hr9, ow.ty T.c_Growth hg9, HeZ.nfT_self nf, r, .ref g, P, rfl, ⟨dxr, cr, hr9, hcr9⟩, .inl ⟨g, P, rfl, ⟨dx, c, hg9, hc9⟩, ?_⟩⟩
      rw [eqG_self]
      repeat walk_at "s"
      intro x dx2 hx hdx hne
      obtain ⟨m1, m2⟩ := made (C := GC K) (fs := gfs P.b c') (o := .own x) hx hdx hne
      refine ⟨x, dx2, c', .int P.b, rfl, upd_same, .inl ⟨P.b, rfl, ok.1, rfl, ?_⟩⟩
      have gx : GrAt K _ x P := ⟨dx2, c', m2, m1.t hc9'⟩
      refine ⟨g, dx, _, .ref (GC K), rfl, m1 _ _ hg9, ow.ty T.c_Growth m2, HeZ.nfT_self nf, g, .ref x, P, rfl, ⟨dx, c, m1 _ _ hg9, m1.t hc9⟩, .inl ⟨x, P, rfl, gx, ?_⟩⟩
      rw [eqG_self]
      have hd10 := m1 _ _ ((e9.trans (e10.trans (e11.trans e12))) _ _ hd6)
      have hk10 := m1 _ _ ((e9.trans (e10.trans (e11.trans e12))) _ _ hk6)
      have hr10 := m1 _ _ hr9
      have hcr10 := m1.t hcr9
      have e2x := e29.trans m1
      repeat walk_at "s"
      have hLDk := look_ne (o := .lst [V.int (P.at (P.b + (0 + ((0 : Nat) : Int))) + 1), V.int (P.at (P.b + (0 + ((1 : Nat) : Int)))), V.int (P.at (P.b + (0 + ((2 : Nat) : Int))))]) hLD hk10
      have eD : Ex H4 _ := ((e7.trans (e8.trans (e9.trans (e10.trans (e11.trans e12))))).trans m1).at (p := D) (o := .lst [V.int (P.at (P.b + (0 + ((0 : Nat) : Int))) + 1), V.int (P.at (P.b + (0 + ((1 : Nat) : Int)))), V.int (P.at (P.b + (0 + ((2 : Nat) : Int))))]) hD
      have hrD := look_ne (o := .lst [V.int (P.at (P.b + (0 + ((0 : Nat) : Int))) + 1), V.int (P.at (P.b + (0 + ((1 : Nat) : Int)))), V.int (P.at (P.b + (0 + ((2 : Nat) : Int))))]) (fun q => by rw [q, hd10] at hr10; cases hr10) hr10
      have hcrD := updL_t (o := .lst [V.int (P.at (P.b + (0 + ((0 : Nat) : Int))) + 1), V.int (P.at (P.b + (0 + ((1 : Nat) : Int)))), V.int (P.at (P.b + (0 + ((2 : Nat) : Int))))]) hd10 hcr10
      refine ⟨.inr ⟨dxr, _, hrD⟩, r, .int P.b, P, rfl, ⟨dxr, cr, hrD, hcrD⟩, .inl ⟨P.b, rfl, Int.le_refl _, ok', ok'.2.1, ?_⟩⟩
      repeat walk_at "s"
      have h00 : P.b + (0 + ((0 : Nat) : Int)) = P.b := by omega
      refine ⟨_, _, .int (P.at P.b), rfl, .int _, (by rw [h00]; exact .int _), (by show 1 < 100000; decide), fun H11 e13 => ?_⟩
      repeat walk_at "s"
      have e4D := e5.trans (eD.trans e13)
      exact k _ (kk2.trans (e4.trans e4D).kp) (S2.ex (e4.trans e4D))
end
end Lw
namespace Lw
open PySem PySem.Spec PyProof.Rows L2 L2H
/-! ### the draws -/
local macro_rules | `(tactic| walk_at "len") => `(tactic| (intro vs H Q E h; first | (obtain ⟨_, e, _⟩ := h; subst e; rfl) | (obtain ⟨_, _, e, _⟩ := h; subst e; rfl) | (obtain ⟨_, _, _, e, _⟩ := h; subst e; rfl) | (obtain ⟨_, _, _, _, e, _⟩ := h; subst e; rfl) | (obtain ⟨_, _, _, _, _, e, _⟩ := h; subst e; rfl) | (obtain ⟨_, _, _, _, _, _, e, _⟩ := h; subst e; rfl) | (obtain ⟨_, _, _, _, _, _, _, e, _⟩ := h; subst e; rfl)))
local macro_rules | `(tactic| walk_at "get") => `(tactic| (first | assumption | exact upd_same | (refine look_new (by assumption) ?_; walk_at "get") | (refine look_ne (by assumption) ?_; walk_at "get")))
local macro_rules | `(tactic| walk_at "s") => `(tactic| (first
  | refine ⟨_, rfl, ?_⟩
  | refine Or.inl ⟨_, rfl, ?_⟩
  | refine Or.inl ⟨_, _, _, _, rfl, rfl, lOf (by walk_at "get"), rfl, ?_⟩
  | refine Or.inl ⟨_, _, _, _, rfl, rfl, (show SqL _ _ _ _ by assumption), rfl, ?_⟩
  | refine Or.inr (Or.inl ⟨_, _, _, _, rfl, rfl, (show SqT _ _ _ _ by assumption), rfl, ?_⟩)
  | refine ⟨_, _, _, _, rfl, rfl, (by walk_at "get"), rfl, ?_⟩
  | refine ⟨_, _, rfl, rfl, Or.inl (Or.inr ⟨by decide, by decide⟩), ?_⟩
  | refine ⟨_, _, rfl, rfl, (by show (0 : Int) < _; first | assumption | decide), ?_⟩
  | refine ⟨_, _, rfl, rfl, ⟨by decide, by decide⟩, ?_⟩
  | refine ⟨_, _, rfl, rfl, ⟨by decide, by decide +kernel⟩, ?_⟩
  | refine ⟨_, _, rfl, rfl, (by show (0 : Int) < _; decide +kernel), ?_⟩
  | refine ⟨(show CMulA _ _ from Or.inl (Or.inl ⟨by (try dsimp only); omega, by (try dsimp only); omega⟩)), ?_⟩
  | refine ⟨_, _, rfl, rfl, ?_⟩
  | refine ⟨_, _, rfl, (show Dp _ _ _ _ by assumption), ?_⟩
  | refine ⟨_, _, rfl, (show SqT _ _ _ _ by assumption), ?_⟩
  | refine ⟨_, _, rfl, (show SqL _ _ _ _ by assumption), ?_⟩
  | refine ⟨_, _, rfl, ?_⟩
  | refine ⟨rfl, _, rfl, ?_⟩
  | refine ⟨rfl, ?_⟩
  | refine ⟨_, _, _, _, _, rfl, (by walk_at "get"), (by assumption), (by assumption), rfl, ?_⟩
  | refine ⟨_, _, _, _, _, rfl, .own _, (by assumption), (by assumption), ?_⟩
  | refine ⟨_, _, _, _, _, rfl, .ty _, (by assumption), kit_ty (by rfl), ?_⟩))
local macro_rules | `(tactic| walk_at "c") => `(tactic| (try dsimp only [L2.start, List.set, List.map, List.length, List.replicate, List.cons_append, List.nil_append, List.append, HAppend.hAppend, Append.append, Int.toNat, Nat.reduceSub, Nat.reduceAdd]))
local macro_rules | `(tactic| walk_at "T") => `(tactic| ((repeat walk_at "s"); refine iteT (by first | rfl | assumption | decide) ?_; (repeat walk_at "s")))
local macro_rules | `(tactic| walk_at "F") => `(tactic| ((repeat walk_at "s"); refine iteF (by first | rfl | assumption | decide) ?_; (repeat walk_at "s")))
local macro_rules | `(tactic| walk_at "isi") => `(tactic| ((repeat walk_at "s"); refine ⟨_, _, _, _, _, rfl, .ty _, (by assumption), kit_ty (by rfl), ?_⟩; (repeat walk_at "s")))
local macro_rules | `(tactic| walk_at "mem") => `(tactic| (first | exact List.Mem.head _ | (refine List.Mem.tail _ ?_; walk_at "mem")))
local macro_rules | `(tactic| walk_at "told") => `(tactic| ((repeat walk_at "s"); refine ⟨_, _, _, _, rfl, .own _, (show ErY.Held _ _ _ by assumption), HeZ.isB_ok (by assumption) (by unfold is_BadNumber; walk_at "mem"), ?_⟩; (repeat walk_at "s")))
section
variable {w : World} {K : PySem.W.Frag} {mg : Str → Option Value} {base : Heap}
theorem atNew {H : Hp} {p : Addr} {o : HO} (_ : H p = none) : upd H p o p = some o := upd_same
def spUnlike (K : PySem.W.Frag) : Sp := fun vs H Q _ => ∃ (s g p : Addr) (P : Gr), vs = [.ref s, .ref g, .ref p] ∧ StO H s ∧ GrAt K H g P ∧ PtAt K H p P ∧ P.ok 2800 ∧ ∀ H', Kp s H H' → StO H' s → Q (.bl true) H'
theorem sc_l_unlike : FnScope ["store", "growth", "parts", "many", "more", "others", "one"] ["store", "growth", "parts"] (defScope s_l_unlike) := ⟨rfl, rfl, rfl, by decide +kernel, rfl, by decide +kernel, by decide +kernel⟩
theorem d_l_unlike (T : Tx K mg) : Dn PP w K mg base CX0 7 "_law_unlike" ["store", "growth", "parts"] (spUnlike K) := by
  obtain ⟨fd, F⟩ := T.d 21
  refine ⟨_, fd, T.g 21, F.kp, FunD.bindsN F (fun _ _ _ _ _ _ us hl => match us, hl with | [_, _, _], _ => rfl), FunD.ok F sc_l_unlike (by walk_at "len") (fun cdv A outer s H vs Q E hr h => ?_)⟩
  obtain ⟨s, g, p, P, rfl, S, hG, ⟨c', hp, hc'⟩, ok, k⟩ := h
  obtain ⟨ow, ki, ti, nf, co, sf, _⟩ := T.ex
  have cG := T.c_Growth
  refine ⟨_, PSs.nox ((pss_cons (ps_set (i := 3) sc_l_unlike.nd rfl (.inl rfl) (pe_ix ix_seq (pv 2) pe_int (fun _ _ => rfl)))
      (pss_cons (ps_set (i := 4) sc_l_unlike.nd rfl (.inl rfl) (pe_op op_addA pe_int (pe_d (d_l_take T) (hr.mono (by decide)) rfl pass0 (pa_cons (pv 0) (pa_cons (pe_op op_powA pe_int pe_int) pa_nil)))))
      (pss_cons (ps_set (i := 5) sc_l_unlike.nd rfl (.inl rfl) (pe_lst (pa_cons (pe_mk (d_Growth_init T) T.k_Growth (hr.mono (by decide)) rfl (T.g 56) passN (pa_cons (pe_op op_addA (pe_ix ix_seq (pv 2) pe_int (fun _ _ => rfl)) (pv 4)) (pa_cons (pv 3) pa_nil))) (pa_cons (pe_mk (d_Growth_init T) T.k_Growth (hr.mono (by decide)) rfl (T.g 56) passN (pa_cons (pe_ix ix_seq (pv 2) pe_int (fun _ _ => rfl)) (pa_cons (pe_tup (pa_cons (pe_op op_addA (pe_ix ix_seq (pv 3) pe_int (fun _ _ => rfl)) (pv 4)) (pa_cons (pe_ix ix_seq (pv 3) pe_int (fun _ _ => rfl)) (pa_cons (pe_ix ix_seq (pv 3) pe_int (fun _ _ => rfl)) pa_nil)))) pa_nil))) (pa_cons (pe_mk (d_Growth_init T) T.k_Growth (hr.mono (by decide)) rfl (T.g 56) passN (pa_cons (pe_ix ix_seq (pv 2) pe_int (fun _ _ => rfl)) (pa_cons (pe_tup (pa_cons (pe_ix ix_seq (pv 3) pe_int (fun _ _ => rfl)) (pa_cons (pe_op op_sub (pe_ix ix_seq (pv 3) pe_int (fun _ _ => rfl)) (pv 4)) (pa_cons (pe_ix ix_seq (pv 3) pe_int (fun _ _ => rfl)) pa_nil)))) pa_nil))) (pa_cons (pe_mk (d_Growth_init T) T.k_Growth (hr.mono (by decide)) rfl (T.g 56) passN (pa_cons (pe_ix ix_seq (pv 2) pe_int (fun _ _ => rfl)) (pa_cons (pe_tup (pa_cons (pe_ix ix_seq (pv 3) pe_int (fun _ _ => rfl)) (pa_cons (pe_ix ix_seq (pv 3) pe_int (fun _ _ => rfl)) (pa_cons (pe_op op_addA (pe_ix ix_seq (pv 3) pe_int (fun _ _ => rfl)) pe_int) pa_nil)))) pa_nil))) pa_nil))))))
      (pss_cons (ps_for PassesOwn.never rfl (pi_list (pv 5)) (pg_name (i := 6) sc_l_unlike.nd rfl (.inl rfl)) (pss_one (ps_if (PW.pt (pw_or (pt_cmpR (op_ownEqM hr.units0 T.m_eq (d_Growth_eq T) (hr.mono (by decide)) pass0) (pv 1) (pv 6) (nomark _)) (pw_or1 (pt_cmpR (op_ownEqM hr.units0 T.m_eq (d_Growth_eq T) (hr.mono (by decide)) pass0) (pv 6) (pv 1) (nomark _))))) (pss_one (ps_ret pe_bl)) pss_nil)))
      (pss_cons (ps_for PassesOwn.never rfl (pi_list (pe_lst (pa_cons (pe_ix ix_seq (pv 2) pe_int (fun _ _ => rfl)) (pa_cons (pv 2) (pa_cons (pe_ix ix_seq (pv 2) pe_int (fun _ _ => rfl)) (pa_cons pe_non (pa_cons pe_str (pa_cons (pe_lst (pa_cons (pe_ix ix_seq (pv 2) pe_int (fun _ _ => rfl)) (pa_cons (pv 3) pa_nil))) (pa_cons pe_bl pa_nil))))))))) (pg_name (i := 6) sc_l_unlike.nd rfl (.inl rfl)) (pss_one (ps_if (pt_cmpR op_notBl (pe_cmpR (op_ownEqM hr.units0 T.m_eq (d_Growth_eq T) (hr.mono (by decide)) pass0) (pv 1) (pv 6) (nomark _)) pe_bl (nomark _)) (pss_one (ps_ret pe_bl)) pss_nil)))
      (pss_one (ps_ret pe_bl)))))))), ?_⟩
  repeat walk_at "s"
  refine ⟨S, by decide +kernel, fun more H1 k1 S1 m0 _ m1 => ?_⟩
  have hp1 := k1.t S hp
  have hc1 := k1.t S hc'
  have hG1 := k1.gr S hG
  clear hp hc' hG
  repeat walk_at "s"
  intro x1 y1 hx1 hy1 hn1
  obtain ⟨e1, g1⟩ := made (C := GC K) (fs := gfs (P.b + (1 + more)) c') (o := .own x1) hx1 hy1 hn1
  refine ⟨x1, y1, c', .int (P.b + (1 + more)), rfl, upd_same, .inl ⟨_, rfl, (by have := ok.1; omega), rfl, ?_⟩⟩
  have hp2 := e1.t hp1
  have hc2 := e1.t hc1
  repeat walk_at "s"
  refine ⟨sz rfl, fun t2 ht2 => ?_⟩
  intro x2 y2 hx2 hy2 hn2
  obtain ⟨e2, g2⟩ := made (C := GC K) (fs := gfs P.b t2) (o := .own x2) hx2 hy2 hn2
  refine ⟨x2, y2, t2, .int P.b, rfl, upd_same, .inl ⟨_, rfl, ok.1, rfl, ?_⟩⟩
  have f2 := (Ex.refl.at ht2).trans e2
  have hp3 := f2.t hp2
  have hc3 := f2.t hc2
  repeat walk_at "s"
  refine ⟨sz rfl, fun t3 ht3 => ?_⟩
  intro x3 y3 hx3 hy3 hn3
  obtain ⟨e3, g3⟩ := made (C := GC K) (fs := gfs P.b t3) (o := .own x3) hx3 hy3 hn3
  refine ⟨x3, y3, t3, .int P.b, rfl, upd_same, .inl ⟨_, rfl, ok.1, rfl, ?_⟩⟩
  have f3 := (Ex.refl.at ht3).trans e3
  have hp4 := f3.t hp3
  have hc4 := f3.t hc3
  repeat walk_at "s"
  refine ⟨sz rfl, fun t4 ht4 => ?_⟩
  intro x4 y4 hx4 hy4 hn4
  obtain ⟨e4, g4⟩ := made (C := GC K) (fs := gfs P.b t4) (o := .own x4) hx4 hy4 hn4
  refine ⟨x4, y4, t4, .int P.b, rfl, upd_same, .inl ⟨_, rfl, ok.1, rfl, ?_⟩⟩
  have f4 := (Ex.refl.at ht4).trans e4
  have hp5 := f4.t hp4
  have hc5 := f4.t hc4
  repeat walk_at "s"
  refine ⟨sz rfl, fun L hL => ?_⟩
  have eL := Ex.refl.at (o := .lst [V.ref x1, V.ref x2, V.ref x3, V.ref x4]) hL
  have f4L := f4.trans eL
  have f3L := f3.trans f4L
  have f2L := f2.trans f3L
  have G1 : GrAt K _ x1 ⟨P.b + (1 + more), P.c0, P.c1, P.c2⟩ := f2L.gr ⟨y1, c', g1, e1.t hc1⟩
  have G2 : GrAt K _ x2 ⟨P.b, P.c0 + (1 + more), P.c1, P.c2⟩ := f3L.gr ⟨y2, t2, g2, e2.t (tOf upd_same)⟩
  have G3 : GrAt K _ x3 ⟨P.b, P.c0, P.c1 - (1 + more), P.c2⟩ := f4L.gr ⟨y3, t3, g3, e3.t (tOf upd_same)⟩
  have G4 : GrAt K _ x4 ⟨P.b, P.c0, P.c1, P.c2 + 1⟩ := eL.gr ⟨y4, t4, g4, e4.t (tOf upd_same)⟩
  have GG := (e1.trans f2L).gr hG1
  have hp6 := eL.t hp5
  have hc6 := eL.t hc5
  have kL := k1.trans (e1.trans f2L).kp
  have SL := S1.ex (e1.trans f2L)
  repeat walk_at "s"
  have hLL : SqL K _ L [V.ref x1, V.ref x2, V.ref x3, V.ref x4] := lOf (atNew hL)
  refine ⟨⟨_, hLL⟩, for_list (fun i σ H' => (∃ z, σ = [some (.ref s), some (.ref g), some (.ref p), some (.ref c'), some (.int (1 + more)), some (.ref L), z]) ∧ SqL K H' L [V.ref x1, V.ref x2, V.ref x3, V.ref x4] ∧ (GrAt K H' x1 ⟨P.b + (1 + more), P.c0, P.c1, P.c2⟩ ∧ GrAt K H' x2 ⟨P.b, P.c0 + (1 + more), P.c1, P.c2⟩ ∧ GrAt K H' x3 ⟨P.b, P.c0, P.c1 - (1 + more), P.c2⟩ ∧ GrAt K H' x4 ⟨P.b, P.c0, P.c1, P.c2 + 1⟩) ∧ GrAt K H' g P ∧
    SqT K H' p [.int P.b, .ref c'] ∧ SqT K H' c' (cs3 P.c0 P.c1 P.c2) ∧ Kp s H H' ∧ StO H' s) ⟨⟨_, rfl⟩, hLL, ⟨G1, G2, G3, G4⟩, GG, hp6, hc6, kL, SL⟩ (fun i σ H' _ h => h.2.1) ?_ ?_⟩
  · rintro i x σ H7 hx ⟨⟨z, rfl⟩, hL7, ⟨G1, G2, G3, G4⟩, ⟨dx, c, hg7, hgc7⟩, hp7, hc7, k7, S7⟩
    have hR : ∃ y R, x = .ref y ∧ GrAt K H7 y R ∧ eqG P R = false ∧ eqG R P = false := by
      have hm := List.mem_of_getElem? hx
      simp only [List.mem_cons, List.not_mem_nil, or_false] at hm
      rcases hm with rfl | rfl | rfl | rfl
      · refine ⟨_, _, rfl, G1, ?_, ?_⟩ <;> (simp only [eqG, Bool.and_eq_false_iff, beq_eq_false_iff_ne]; left; omega)
      · refine ⟨_, _, rfl, G2, ?_, ?_⟩ <;> (simp only [eqG, Bool.and_eq_false_iff, beq_eq_false_iff_ne]; right; left; omega)
      · refine ⟨_, _, rfl, G3, ?_, ?_⟩ <;> (simp only [eqG, Bool.and_eq_false_iff, beq_eq_false_iff_ne]; right; right; left; omega)
      · refine ⟨_, _, rfl, G4, ?_, ?_⟩ <;> (simp only [eqG, Bool.and_eq_false_iff, beq_eq_false_iff_ne]; right; right; right; left; omega)
    obtain ⟨y, R, rfl, ⟨dy, cy, hy, hcy⟩, q1, q2⟩ := hR
    repeat walk_at "s"
    refine ⟨g, dx, _, .ref (GC K), rfl, hg7, ow.ty T.c_Growth hy, HeZ.nfT_self nf, g, .ref y, P, rfl, ⟨dx, c, hg7, hgc7⟩, .inl ⟨y, R, rfl, ⟨dy, cy, hy, hcy⟩, ?_⟩⟩
    rw [q1]
    repeat walk_at "s"
    refine ⟨y, dy, _, .ref (GC K), rfl, hy, ow.ty T.c_Growth hg7, HeZ.nfT_self nf, y, .ref g, R, rfl, ⟨dy, cy, hy, hcy⟩, .inl ⟨g, P, rfl, ⟨dx, c, hg7, hgc7⟩, ?_⟩⟩
    rw [q2]
    repeat walk_at "s"
    exact ⟨⟨_, rfl⟩, hL7, ⟨G1, G2, G3, G4⟩, ⟨dx, c, hg7, hgc7⟩, hp7, hc7, k7, S7⟩
  · rintro σ H7 ⟨⟨z, rfl⟩, hL7, _, ⟨dx, c, hg7, hgc7⟩, hp7, hc7, k7, S7⟩
    repeat walk_at "s"
    refine ⟨sz rfl, fun M hM => ?_⟩
    repeat walk_at "s"
    refine ⟨sz rfl, fun N hN => ?_⟩
    have eM := Ex.refl.at (o := .lst [V.int P.b, V.ref c']) hM
    have eN := eM.trans (Ex.refl.at (o := .lst [V.int P.b, V.ref p, V.ref c', V.non, V.str "", V.ref M, V.bl true]) hN)
    have hM8 := look_new (o := .lst [V.int P.b, V.ref p, V.ref c', V.non, V.str "", V.ref M, V.bl true]) hN (atNew (o := .lst [V.int P.b, V.ref c']) hM)
    have hNN : SqL K _ N [V.int P.b, V.ref p, V.ref c', V.non, V.str "", V.ref M, V.bl true] := lOf (atNew hN)
    have hg8 := eN _ _ hg7
    have hgc8 := eN.t hgc7
    have hp8 := eN.t hp7
    have hc8 := eN.t hc7
    have k8 := k7.trans eN.kp
    have S8 := S7.ex eN
    repeat walk_at "s"
    refine ⟨⟨_, hNN⟩, for_list (fun i σ H' => (∃ z, σ = [some (.ref s), some (.ref g), some (.ref p), some (.ref c'), some (.int (1 + more)), some (.ref L), z]) ∧ SqL K H' N [V.int P.b, V.ref p, V.ref c', V.non, V.str "", V.ref M, V.bl true] ∧ H' M = some (.lst [V.int P.b, V.ref c']) ∧ H' g = some (.ins (GC K) dx (gfs P.b c)) ∧ SqT K H' c (cs3 P.c0 P.c1 P.c2) ∧
      SqT K H' p [.int P.b, .ref c'] ∧ SqT K H' c' (cs3 P.c0 P.c1 P.c2) ∧ Kp s H H' ∧ StO H' s) ⟨⟨_, rfl⟩, hNN, hM8, hg8, hgc8, hp8, hc8, k8, S8⟩ (fun i σ H' _ h => h.2.1) ?_ ?_⟩
    · rintro i x σ H9 hx ⟨⟨z, rfl⟩, hN9, hM9, hg9, hgc9, hp9, hc9, k9, S9⟩
      have hR : ∃ t, TyX K H9 x (.type t) ∧ (t, false) ∈ [("int", false), ("bool", false), ("NoneType", false), ("str", false), ("tuple", false), ("list", false), ("dict", false)] ∧ t ∈ ["int", "bool", "NoneType", "str", "tuple", "list", "dict"] := by
        have hm := List.mem_of_getElem? hx
        simp only [List.mem_cons, List.not_mem_nil, or_false] at hm
        rcases hm with rfl | rfl | rfl | rfl | rfl | rfl | rfl
        · exact ⟨_, .base (.int _), by decide, by decide⟩
        · exact ⟨"tuple", dp_ty (dp_P hp9 hc9), by decide, by decide⟩
        · exact ⟨"tuple", dp_ty (dp_3 hc9), by decide, by decide⟩
        · exact ⟨_, .base .non, by decide, by decide⟩
        · exact ⟨_, .base (.str _), by decide, by decide⟩
        · exact ⟨_, .base (.lst hM9), by decide, by decide⟩
        · exact ⟨_, .base (.bl _), by decide, by decide⟩
      obtain ⟨t, ty, ht, ht2⟩ := hR
      repeat walk_at "s"
      refine ⟨g, dx, _, .type t, rfl, hg9, ty, HeZ.nfT_ok nf ht2, g, x, P, rfl, ⟨dx, c, hg9, hgc9⟩, .inr ⟨t, ty, ht, ?_⟩⟩
      repeat walk_at "s"
      exact ⟨⟨_, rfl⟩, hN9, hM9, hg9, hgc9, hp9, hc9, k9, S9⟩
    · rintro σ H9 ⟨⟨z, rfl⟩, hN9, hM9, hg9, hgc9, hp9, hc9, k9, S9⟩
      repeat walk_at "s"
      exact k _ k9 S9
end
end Lw
namespace Lw
open PySem PySem.Spec PyProof.Rows L2 L2H
/-! ### the draws -/
local macro_rules | `(tactic| walk_at "len") => `(tactic| (intro vs H Q E h; first | (obtain ⟨_, e, _⟩ := h; subst e; rfl) | (obtain ⟨_, _, e, _⟩ := h; subst e; rfl) | (obtain ⟨_, _, _, e, _⟩ := h; subst e; rfl) | (obtain ⟨_, _, _, _, e, _⟩ := h; subst e; rfl) | (obtain ⟨_, _, _, _, _, e, _⟩ := h; subst e; rfl) | (obtain ⟨_, _, _, _, _, _, e, _⟩ := h; subst e; rfl) | (obtain ⟨_, _, _, _, _, _, _, e, _⟩ := h; subst e; rfl)))
local macro_rules | `(tactic| walk_at "get") => `(tactic| (first | assumption | exact upd_same | (refine look_new (by assumption) ?_; walk_at "get") | (refine look_ne (by assumption) ?_; walk_at "get")))
local macro_rules | `(tactic| walk_at "sqt") => `(tactic| (first | assumption | (apply Ex.t (Ex.refl.at (by assumption)); walk_at "sqt")))
local macro_rules | `(tactic| walk_at "s") => `(tactic| (first
  | refine ⟨_, rfl, ?_⟩
  | refine Or.inl ⟨_, rfl, ?_⟩
  | refine Or.inl ⟨_, _, _, _, rfl, rfl, lOf (by walk_at "get"), rfl, ?_⟩
  | refine Or.inl ⟨_, _, _, _, rfl, rfl, (show SqL _ _ _ _ by assumption), rfl, ?_⟩
  | refine Or.inr (Or.inl ⟨_, _, _, _, rfl, rfl, (show SqT _ _ _ _ by walk_at "sqt"), rfl, ?_⟩)
  | refine ⟨_, _, _, _, rfl, rfl, (by walk_at "get"), rfl, ?_⟩
  | refine ⟨_, _, rfl, rfl, Or.inl (Or.inr ⟨by decide, by decide⟩), ?_⟩
  | refine ⟨_, _, rfl, rfl, (by show (0 : Int) < _; first | assumption | decide), ?_⟩
  | refine ⟨_, _, rfl, rfl, ⟨by decide, by decide⟩, ?_⟩
  | refine ⟨_, _, rfl, rfl, ⟨by decide, by decide +kernel⟩, ?_⟩
  | refine ⟨_, _, rfl, rfl, (by show (0 : Int) < _; decide +kernel), ?_⟩
  | refine ⟨(show CMulA _ _ from Or.inl (Or.inl ⟨by (try dsimp only); omega, by (try dsimp only); omega⟩)), ?_⟩
  | refine ⟨_, _, rfl, rfl, ?_⟩
  | refine ⟨_, _, rfl, (show Dp _ _ _ _ by assumption), ?_⟩
  | refine ⟨_, _, rfl, (show SqT _ _ _ _ by assumption), ?_⟩
  | refine ⟨_, _, rfl, (show SqL _ _ _ _ by assumption), ?_⟩
  | refine ⟨_, _, rfl, ?_⟩
  | refine ⟨rfl, _, rfl, ?_⟩
  | refine ⟨rfl, ?_⟩
  | refine ⟨_, _, _, _, _, rfl, (by walk_at "get"), (by assumption), (by assumption), rfl, ?_⟩
  | refine ⟨_, _, _, _, _, rfl, .own _, (by assumption), (by assumption), ?_⟩
  | refine ⟨_, _, _, _, _, rfl, .ty _, (by assumption), kit_ty (by rfl), ?_⟩))
local macro_rules | `(tactic| walk_at "c") => `(tactic| (try dsimp only [L2.start, List.set, List.map, List.length, List.replicate, List.cons_append, List.nil_append, List.append, HAppend.hAppend, Append.append, Int.toNat, Nat.reduceSub, Nat.reduceAdd]))
local macro_rules | `(tactic| walk_at "T") => `(tactic| ((repeat walk_at "s"); refine iteT (by first | rfl | assumption | decide) ?_; (repeat walk_at "s")))
local macro_rules | `(tactic| walk_at "F") => `(tactic| ((repeat walk_at "s"); refine iteF (by first | rfl | assumption | decide) ?_; (repeat walk_at "s")))
local macro_rules | `(tactic| walk_at "isi") => `(tactic| ((repeat walk_at "s"); refine ⟨_, _, _, _, _, rfl, .ty _, (by assumption), kit_ty (by rfl), ?_⟩; (repeat walk_at "s")))
local macro_rules | `(tactic| walk_at "mem") => `(tactic| (first | exact List.Mem.head _ | (refine List.Mem.tail _ ?_; walk_at "mem")))
local macro_rules | `(tactic| walk_at "told") => `(tactic| ((repeat walk_at "s"); refine ⟨_, _, _, _, rfl, .own _, (show ErY.Held _ _ _ by assumption), HeZ.isB_ok (by assumption) (by unfold is_BadNumber; walk_at "mem"), ?_⟩; (repeat walk_at "s")))
local macro_rules | `(tactic| walk_at "ext") => `(tactic| (first | exact Ex.refl | (refine Ex.new ?_ (by assumption); walk_at "ext")))
local macro_rules | `(tactic| walk_at "al") => `(tactic| ((repeat walk_at "s"); refine ⟨sz rfl, fun _ _ => ?_⟩))
section
variable {w : World} {K : PySem.W.Frag} {mg : Str → Option Value} {base : Heap}
theorem Odd6.ex {v : V} {H H' : Hp} (h : Odd6 v H) (e : Ex H H') : Odd6 v H' := h.imp id (.imp id (.imp id (.imp id (.imp (fun ⟨p, a, b⟩ => ⟨p, a, e _ _ b⟩) id))))
theorem Odd6.kp {v : V} {s : Addr} {H H' : Hp} (h : Odd6 v H) (S : StO H s) (e : Kp s H H') : Odd6 v H' := h.imp id (.imp id (.imp id (.imp id (.imp (fun ⟨p, a, b⟩ => ⟨p, a, e.1 _ _ (S.nt (.inl b)) b⟩) id))))
theorem Odd6.bad {v : V} {H : Hp} (h : Odd6 v H) : ∃ t, TyX K H v (.type t) ∧ (t = "bool" ∨ t = "NoneType" ∨ t = "str" ∨ t = "tuple") := by
  rcases h with rfl | rfl | rfl | rfl | ⟨p, rfl, h⟩ | rfl
  · exact ⟨_, .base (.bl _), .inl rfl⟩
  · exact ⟨_, .base (.bl _), .inl rfl⟩
  · exact ⟨_, .base .non, .inr (.inl rfl)⟩
  · exact ⟨_, .base (.str _), .inr (.inr (.inl rfl))⟩
  · exact ⟨_, .base (.tup h), .inr (.inr (.inr rfl))⟩
  · exact ⟨_, .base (.str _), .inr (.inr (.inl rfl))⟩
theorem Odd6.dp {v : V} {H : Hp} (h : Odd6 v H) : ∃ d, Dp K H v d ∧ sizeD d < 1000 := by
  rcases h with rfl | rfl | rfl | rfl | ⟨p, rfl, h⟩ | rfl
  · exact ⟨_, .bl _, by simp [sizeD]⟩
  · exact ⟨_, .bl _, by simp [sizeD]⟩
  · exact ⟨_, .non, by simp [sizeD]⟩
  · exact ⟨_, .str _, by simp [sizeD]⟩
  · exact ⟨_, .tup (tOf h) (.cons (.int _) .nil), by simp [sizeD, sizeDs]⟩
  · exact ⟨_, .str _, by simp [sizeD]⟩
theorem BadN.ex {H H' : Hp} {z : Int} {b : V} (h : BadN K H z b) (e : Ex H H') : BadN K H' z b := h.imp id fun ⟨t, h, q⟩ => ⟨t, e.ty h, q⟩
theorem Good.ex {H H' : Hp} {form : Int} {a c : V} (h : Good K H form a c) (e : Ex H H') : Good K H' form a c := h.imp id (.imp (fun ⟨q, i, l, v0, v1, v2, a1, a2, a3, a4⟩ => ⟨q, i, l, v0, v1, v2, a1, a2, a3, e.l a4⟩)
  fun ⟨q, g, P, i, a1, a2, a3⟩ => ⟨q, g, P, i, a1, e.gr a2, a3⟩)
theorem BadC.ex {H H' : Hp} {form : Int} {a c v : V} (h : BadC K H form a c v) (e : Ex H H') : BadC K H' form a c v := h.imp (fun ⟨q, b, c, d⟩ => ⟨q, b, c.ex e, d⟩) (.imp (fun ⟨q, b, c, l, v0, v1, v2, d1, d2⟩ => ⟨q, b, c.ex e, l, v0, v1, v2, d1, e.l d2⟩)
  fun ⟨q, b, g, P, d1, d2, d3⟩ => ⟨q, b, g, P, d1, e.gr d2, d3.ex e⟩)
/-- an ask and what is told of it -/
def AskOk (K : PySem.W.Frag) (H : Hp) (x : V) : Prop := ∃ (a l u : Addr) (form : Int) (aa cc : V), x = .ref a ∧ SqT K H a [.int form, .ref l, .ref u] ∧ SqL K H l [aa, cc] ∧
  ((Good K H form aa cc ∧ SqT K H u []) ∨ ∃ v d, BadC K H form aa cc v ∧ SqT K H u [.str "BadNumber", v] ∧ Dp K H v d ∧ sizeD d < 1000)
theorem AskOk.ex {H H' : Hp} {x : V} (h : AskOk K H x) (e : Ex H H') : AskOk K H' x :=
  let ⟨a, l, u, form, aa, cc, h1, h2, h3, h4⟩ := h
  ⟨a, l, u, form, aa, cc, h1, e.t h2, e.l h3, h4.imp (fun ⟨q, r⟩ => ⟨q.ex e, e.t r⟩) fun ⟨v, d, q1, q2, q3, q4⟩ => ⟨v, d, q1.ex e, e.t q2, e.dp q3, q4⟩⟩
def spRefused (K : PySem.W.Frag) : Sp := fun vs H Q _ => ∃ (s g p : Addr) (P : Gr), vs = [.ref s, .ref g, .ref p] ∧ StO H s ∧ GrAt K H g P ∧ PtAt K H p P ∧ P.ok 2800 ∧ ∀ H', Kp s H H' → StO H' s → Q (.bl true) H'
theorem sc_l_refused : FnScope ["store", "growth", "parts", "below", "odd", "bad", "values", "asks", "ask"] ["store", "growth", "parts"] (defScope s_l_refused) := ⟨rfl, rfl, rfl, by decide +kernel, rfl, by decide +kernel, by decide +kernel⟩
theorem d_l_refused (T : Tx K mg) : Dn PP w K mg base CX0 10 "_law_refused" ["store", "growth", "parts"] (spRefused K) := by
  obtain ⟨fd, F⟩ := T.d 22
  refine ⟨_, fd, T.g 22, F.kp, FunD.bindsN F (fun _ _ _ _ _ _ us hl => match us, hl with | [_, _, _], _ => rfl), FunD.ok F sc_l_refused (by walk_at "len") (fun cdv A outer s H vs Q E hr h => ?_)⟩
  obtain ⟨s, g, p, P, rfl, S, hG, ⟨c', hp, hc'⟩, ok, k⟩ := h
  have ok' : P.ok 2900 := ok.mono (by decide)
  refine ⟨_, PSs.nox ((pss_cons (ps_set (i := 3) sc_l_refused.nd rfl (.inl rfl) (pe_d (d_l_pick T) (hr.mono (by decide)) rfl pass0 (pa_cons (pv 0) (pa_cons (pe_lst (pa_cons (pe_op op_sub pe_int pe_int) (pa_cons (pe_op op_sub (pe_ix ix_seq (pv 2) pe_int (fun _ _ => rfl)) pe_int) (pa_cons (pe_op op_sub (pe_ix ix_seq (pv 2) pe_int (fun _ _ => rfl)) pe_int) (pa_cons (pe_op op_sub pe_int (pe_op op_powA pe_int pe_int)) pa_nil))))) pa_nil))))
      (pss_cons (ps_set (i := 4) sc_l_refused.nd rfl (.inl rfl) (pe_ix ix_seq (pe_d (d_l_odd T) (hr.mono (by decide)) rfl pass0 (pa_cons (pv 0) pa_nil)) pe_int (fun _ _ => rfl)))
      (pss_cons (ps_set (i := 5) sc_l_refused.nd rfl (.inl rfl) (pe_d (d_l_pick T) (hr.mono (by decide)) rfl pass0 (pa_cons (pv 0) (pa_cons (pe_lst (pa_cons (pe_op op_sub pe_int pe_int) (pa_cons (pe_op op_sub pe_int (pe_op op_powA pe_int pe_int)) (pa_cons (pe_op op_sub pe_int pe_int) pa_nil)))) pa_nil))))
      (pss_cons (ps_set (i := 6) sc_l_refused.nd rfl (.inl rfl) (pe_lst (pa_cons pe_int (pa_cons (pe_ix ix_seq (pv 2) pe_int (fun _ _ => rfl)) (pa_cons (pe_op op_sub pe_int pe_int) pa_nil)))))
      (pss_cons (ps_set (i := 7) sc_l_refused.nd rfl (.inl rfl) (pe_lst (pa_cons (pe_tup (pa_cons pe_int (pa_cons (pe_lst (pa_cons (pv 1) (pa_cons (pv 3) pa_nil))) (pa_cons (pe_tup (pa_cons pe_str (pa_cons (pv 3) pa_nil))) pa_nil)))) (pa_cons (pe_tup (pa_cons pe_int (pa_cons (pe_lst (pa_cons (pv 1) (pa_cons (pv 4) pa_nil))) (pa_cons (pe_tup (pa_cons pe_str (pa_cons (pv 4) pa_nil))) pa_nil)))) (pa_cons (pe_tup (pa_cons pe_int (pa_cons (pe_lst (pa_cons (pv 5) (pa_cons (pe_ix ix_seq (pv 2) pe_int (fun _ _ => rfl)) pa_nil))) (pa_cons (pe_tup (pa_cons pe_str (pa_cons (pv 5) pa_nil))) pa_nil)))) (pa_cons (pe_tup (pa_cons pe_int (pa_cons (pe_lst (pa_cons (pv 5) (pa_cons (pv 6) pa_nil))) (pa_cons (pe_tup (pa_cons pe_str (pa_cons (pv 5) pa_nil))) pa_nil)))) (pa_cons (pe_tup (pa_cons pe_int (pa_cons (pe_lst (pa_cons (pv 4) (pa_cons (pe_ix ix_seq (pv 2) pe_int (fun _ _ => rfl)) pa_nil))) (pa_cons (pe_tup (pa_cons pe_str (pa_cons (pv 4) pa_nil))) pa_nil)))) (pa_cons (pe_tup (pa_cons pe_int (pa_cons (pe_lst (pa_cons (pv 4) (pa_cons (pv 6) pa_nil))) (pa_cons (pe_tup (pa_cons pe_str (pa_cons (pv 4) pa_nil))) pa_nil)))) (pa_cons (pe_tup (pa_cons pe_int (pa_cons (pe_lst (pa_cons (pv 1) (pa_cons (pe_ix ix_seq (pv 2) pe_int (fun _ _ => rfl)) pa_nil))) (pa_cons (pe_tup pa_nil) pa_nil)))) (pa_cons (pe_tup (pa_cons pe_int (pa_cons (pe_lst (pa_cons pe_int (pa_cons (pe_ix ix_seq (pv 2) pe_int (fun _ _ => rfl)) pa_nil))) (pa_cons (pe_tup pa_nil) pa_nil)))) (pa_cons (pe_tup (pa_cons pe_int (pa_cons (pe_lst (pa_cons pe_int (pa_cons (pv 6) pa_nil))) (pa_cons (pe_tup pa_nil) pa_nil)))) pa_nil)))))))))))
      (pss_cons (ps_for PassesOwn.never rfl (pi_list (pv 7)) (pg_name (i := 8) sc_l_refused.nd rfl (.inl rfl)) (pss_one (ps_if (pt_not (pt_truth (pe_d (d_l_same T) (hr.mono (by decide)) rfl pass0 (pa_cons (pe_d (d_l_fault T) (hr.mono (by decide)) rfl pass0 (pa_cons (pe_ix ix_seq (pv 8) pe_int (fun _ _ => rfl)) (pa_cons (pe_ix ix_seq (pv 8) pe_int (fun _ _ => rfl)) pa_nil))) (pa_cons (pe_ix ix_seq (pv 8) pe_int (fun _ _ => rfl)) pa_nil))) (by intro _; rfl))) (pss_one (ps_ret pe_bl)) pss_nil)))
      (pss_one (ps_ret pe_bl))))))))), ?_⟩
  repeat walk_at "s"
  refine ⟨sz rfl, fun r hr => ?_⟩
  repeat walk_at "s"
  refine ⟨_, _, _, rfl, S.ex (Ex.refl.at hr), upd_same, S.ne hr, (fun h => nomatch h), ln rfl, fun v1 H1 k1 S1 hv1 => ?_⟩
  have kk1 := (Ex.refl.at hr).kp.trans k1
  have hp1 := kk1.t S hp
  have hc1 := kk1.t S hc'
  have hG1 := kk1.gr S hG
  have hb : ∃ z, v1 = .int z ∧ z < P.b := by
    have b0 := ok.1
    have h30 : (10 : Int) ^ 30 = 1000000000000000000000000000000 := by decide
    rcases List.mem_cons.mp hv1 with e | hv
    · exact ⟨_, e, by omega⟩
    rcases List.mem_cons.mp hv with e | hv
    · exact ⟨_, e, by omega⟩
    rcases List.mem_cons.mp hv with e | hv
    · exact ⟨_, e, by omega⟩
    rcases List.mem_cons.mp hv with e | hv
    · exact ⟨_, e, by show (0 : Int) - 10 ^ 30 < _; omega⟩
    cases hv
  obtain ⟨below, rfl, hbelow⟩ := hb
  clear hp hc' hG hv1
  repeat walk_at "s"
  refine ⟨S1, fun q odd H2 k2 S2 hq hq2 hodd => ?_⟩
  have hp2 := k2.t S1 hp1
  have hc2 := k2.t S1 hc1
  have hG2 := k2.gr S1 hG1
  clear hp1 hc1 hG1
  repeat walk_at "s"
  refine ⟨sz rfl, fun r3 hr3 => ?_⟩
  repeat walk_at "s"
  refine ⟨_, _, _, rfl, S2.ex (Ex.refl.at hr3), upd_same, S2.ne hr3, (fun h => nomatch h), ln rfl, fun v3 H3 k3 S3 hv3 => ?_⟩
  have kk3 := (Ex.refl.at hr3).kp.trans k3
  have hp3 := kk3.t S2 hp2
  have hc3 := kk3.t S2 hc2
  have hG3 := kk3.gr S2 hG2
  have hodd3 := hodd.kp S2 kk3
  have hb : ∃ z, v3 = .int z ∧ z < 0 := by
    have h30 : (10 : Int) ^ 30 = 1000000000000000000000000000000 := by decide
    rcases List.mem_cons.mp hv3 with e | hv
    · exact ⟨_, e, by omega⟩
    rcases List.mem_cons.mp hv with e | hv
    · exact ⟨_, e, by show (0 : Int) - 10 ^ 30 < _; omega⟩
    rcases List.mem_cons.mp hv with e | hv
    · exact ⟨_, e, by omega⟩
    cases hv
  obtain ⟨bad, rfl, hbad⟩ := hb
  clear hp2 hc2 hG2 hv3
  repeat walk_at "s"
  refine ⟨sz rfl, fun V0 hV0 => ?_⟩
  repeat walk_at "s"
  refine ⟨sz rfl, fun l1 hl1 => ?_⟩
  repeat walk_at "s"
  refine ⟨sz rfl, fun u1 hu1 => ?_⟩
  repeat walk_at "s"
  refine ⟨sz rfl, fun a1 ha1 => ?_⟩
  repeat walk_at "s"
  refine ⟨sz rfl, fun l2 hl2 => ?_⟩
  repeat walk_at "s"
  refine ⟨sz rfl, fun u2 hu2 => ?_⟩
  repeat walk_at "s"
  refine ⟨sz rfl, fun a2 ha2 => ?_⟩
  repeat walk_at "s"
  refine ⟨sz rfl, fun l3 hl3 => ?_⟩
  repeat walk_at "s"
  refine ⟨sz rfl, fun u3 hu3 => ?_⟩
  repeat walk_at "s"
  refine ⟨sz rfl, fun a3 ha3 => ?_⟩
  repeat walk_at "s"
  refine ⟨sz rfl, fun l4 hl4 => ?_⟩
  repeat walk_at "s"
  refine ⟨sz rfl, fun u4 hu4 => ?_⟩
  repeat walk_at "s"
  refine ⟨sz rfl, fun a4 ha4 => ?_⟩
  repeat walk_at "s"
  refine ⟨sz rfl, fun l5 hl5 => ?_⟩
  repeat walk_at "s"
  refine ⟨sz rfl, fun u5 hu5 => ?_⟩
  repeat walk_at "s"
  refine ⟨sz rfl, fun a5 ha5 => ?_⟩
  repeat walk_at "s"
  refine ⟨sz rfl, fun l6 hl6 => ?_⟩
  repeat walk_at "s"
  refine ⟨sz rfl, fun u6 hu6 => ?_⟩
  repeat walk_at "s"
  refine ⟨sz rfl, fun a6 ha6 => ?_⟩
  repeat walk_at "s"
  refine ⟨sz rfl, fun l7 hl7 => ?_⟩
  repeat walk_at "s"
  refine ⟨sz rfl, fun u7 hu7 => ?_⟩
  repeat walk_at "s"
  refine ⟨sz rfl, fun a7 ha7 => ?_⟩
  repeat walk_at "s"
  refine ⟨sz rfl, fun l8 hl8 => ?_⟩
  repeat walk_at "s"
  refine ⟨sz rfl, fun u8 hu8 => ?_⟩
  repeat walk_at "s"
  refine ⟨sz rfl, fun a8 ha8 => ?_⟩
  repeat walk_at "s"
  refine ⟨sz rfl, fun l9 hl9 => ?_⟩
  repeat walk_at "s"
  refine ⟨sz rfl, fun u9 hu9 => ?_⟩
  repeat walk_at "s"
  refine ⟨sz rfl, fun a9 ha9 => ?_⟩
  repeat walk_at "s"
  refine ⟨sz rfl, fun L hL => ?_⟩
  repeat walk_at "s"
  refine ⟨⟨_, lOf (atNew hL)⟩, for_list (xs := [V.ref a1, V.ref a2, V.ref a3, V.ref a4, V.ref a5, V.ref a6, V.ref a7, V.ref a8, V.ref a9]) (fun i σ H' => (∃ z, σ = [some (.ref s), some (.ref g), some (.ref p), some (.int below), some odd, some (.int bad), some (.ref V0), some (.ref L), z]) ∧ SqL K H' L [V.ref a1, V.ref a2, V.ref a3, V.ref a4, V.ref a5, V.ref a6, V.ref a7, V.ref a8, V.ref a9] ∧ (∀ x ∈ [V.ref a1, V.ref a2, V.ref a3, V.ref a4, V.ref a5, V.ref a6, V.ref a7, V.ref a8, V.ref a9], AskOk K H' x) ∧ Kp s H H' ∧ StO H' s) ⟨⟨_, rfl⟩, lOf (atNew hL), ?_, ?_, ?_⟩ (fun i σ H' _ h => h.2.1) ?_ ?_⟩
  · obtain ⟨dO, hdO, hsO⟩ := hodd3.dp
    intro x hx
    simp only [List.mem_cons, List.not_mem_nil, or_false] at hx
    rcases hx with rfl | rfl | rfl | rfl | rfl | rfl | rfl | rfl | rfl
    · exact ⟨a1, l1, u1, 2, .ref g, .int below, rfl, tOf (by walk_at "get"), lOf (by walk_at "get"), .inr ⟨.int below, .int below, .inr (.inr ⟨rfl, rfl, g, P, rfl, Ex.gr (by walk_at "ext") hG3, .inl ⟨below, rfl, hbelow⟩⟩), tOf (by walk_at "get"), .int _, (by show 1 < 1000; decide)⟩⟩
    · exact ⟨a2, l2, u2, 2, .ref g, odd, rfl, tOf (by walk_at "get"), lOf (by walk_at "get"), .inr ⟨odd, dO, .inr (.inr ⟨rfl, rfl, g, P, rfl, Ex.gr (by walk_at "ext") hG3, .inr (hodd3.ex (by walk_at "ext")).bad⟩), tOf (by walk_at "get"), Ex.dp (by walk_at "ext") hdO, hsO⟩⟩
    · exact ⟨a3, l3, u3, 0, .int bad, .ref c', rfl, tOf (by walk_at "get"), lOf (by walk_at "get"), .inr ⟨.int bad, .int bad, .inl ⟨rfl, rfl, .inl ⟨bad, rfl, hbad⟩, c', rfl⟩, tOf (by walk_at "get"), .int _, (by show 1 < 1000; decide)⟩⟩
    · exact ⟨a4, l4, u4, 1, .int bad, .ref V0, rfl, tOf (by walk_at "get"), lOf (by walk_at "get"), .inr ⟨.int bad, .int bad, .inr (.inl ⟨rfl, rfl, .inl ⟨bad, rfl, hbad⟩, V0, 7, P.b, 0 - 3, rfl, lOf (by walk_at "get")⟩), tOf (by walk_at "get"), .int _, (by show 1 < 1000; decide)⟩⟩
    · exact ⟨a5, l5, u5, 0, odd, .ref c', rfl, tOf (by walk_at "get"), lOf (by walk_at "get"), .inr ⟨odd, dO, .inl ⟨rfl, rfl, .inr (hodd3.ex (by walk_at "ext")).bad, c', rfl⟩, tOf (by walk_at "get"), Ex.dp (by walk_at "ext") hdO, hsO⟩⟩
    · exact ⟨a6, l6, u6, 1, odd, .ref V0, rfl, tOf (by walk_at "get"), lOf (by walk_at "get"), .inr ⟨odd, dO, .inr (.inl ⟨rfl, rfl, .inr (hodd3.ex (by walk_at "ext")).bad, V0, 7, P.b, 0 - 3, rfl, lOf (by walk_at "get")⟩), tOf (by walk_at "get"), Ex.dp (by walk_at "ext") hdO, hsO⟩⟩
    · exact ⟨a7, l7, u7, 2, .ref g, .int P.b, rfl, tOf (by walk_at "get"), lOf (by walk_at "get"), .inl ⟨.inr (.inr ⟨rfl, g, P, P.b, rfl, Ex.gr (by walk_at "ext") hG3, ok', rfl, Int.le_refl _, ok'.2.1⟩), tOf (by walk_at "get")⟩⟩
    · exact ⟨a8, l8, u8, 0, .int 0, .ref c', rfl, tOf (by walk_at "get"), lOf (by walk_at "get"), .inl ⟨.inl ⟨rfl, 0, c', rfl, Int.le_refl _, rfl⟩, tOf (by walk_at "get")⟩⟩
    · exact ⟨a9, l9, u9, 1, .int 0, .ref V0, rfl, tOf (by walk_at "get"), lOf (by walk_at "get"), .inl ⟨.inr (.inl ⟨rfl, 0, V0, 7, P.b, 0 - 3, rfl, Int.le_refl _, rfl, lOf (by walk_at "get")⟩), tOf (by walk_at "get")⟩⟩
  · exact kk1.trans (k2.trans (kk3.trans (Ex.kp (by walk_at "ext"))))
  · exact S3.ex (by walk_at "ext")
  · rintro i x σ H5 hx ⟨⟨z, rfl⟩, hL5, hA5, k5, S5⟩
    obtain ⟨a, l, u, form, aa, cc, rfl, h2, h3, h4⟩ := hA5 x (List.mem_of_getElem? hx)
    repeat walk_at "s"
    refine ⟨form, l, aa, cc, rfl, h3, ?_⟩
    rcases h4 with ⟨good, hu⟩ | ⟨v, d, bad', hu, dv, dz⟩
    · refine .inl ⟨good, fun r2 H6 e hr6 q6 => ?_⟩
      have hu6 := e.t hu
      have h26 := e.t h2
      repeat walk_at "s"
      refine ⟨_, _, .tuple [], rfl, .tup q6 .nil, .tup hu6 .nil, (by simp [sizeD, sizeDs]), fun H7 e7 => ?_⟩
      repeat walk_at "s"
      exact ⟨⟨_, rfl⟩, (e.trans e7).l hL5, fun x hx => (hA5 x hx).ex (e.trans e7), k5.trans (e.trans e7).kp, S5.ex (e.trans e7)⟩
    · refine .inr ⟨v, bad', fun r2 H6 e hr6 q6 => ?_⟩
      have hu6 := e.t hu
      have h26 := e.t h2
      have dv6 := e.dp dv
      repeat walk_at "s"
      refine ⟨_, _, .tuple [.str "BadNumber", d], rfl, .tup q6 (.cons (.str _) (.cons dv6 .nil)), .tup hu6 (.cons (.str _) (.cons dv6 .nil)), (by simp [sizeD, sizeDs]; omega), fun H7 e7 => ?_⟩
      repeat walk_at "s"
      exact ⟨⟨_, rfl⟩, (e.trans e7).l hL5, fun x hx => (hA5 x hx).ex (e.trans e7), k5.trans (e.trans e7).kp, S5.ex (e.trans e7)⟩
  · rintro σ H5 ⟨⟨z, rfl⟩, hL5, hA5, k5, S5⟩
    repeat walk_at "s"
    exact k _ k5 S5
end
end Lw
namespace Lw
open PySem PySem.Spec PyProof.Rows L2 L2H
/-! ### the draws -/
local macro_rules | `(tactic| walk_at "len") => `(tactic| (intro vs H Q E h; first | (obtain ⟨_, e, _⟩ := h; subst e; rfl) | (obtain ⟨_, _, e, _⟩ := h; subst e; rfl) | (obtain ⟨_, _, _, e, _⟩ := h; subst e; rfl) | (obtain ⟨_, _, _, _, e, _⟩ := h; subst e; rfl) | (obtain ⟨_, _, _, _, _, e, _⟩ := h; subst e; rfl) | (obtain ⟨_, _, _, _, _, _, e, _⟩ := h; subst e; rfl) | (obtain ⟨_, _, _, _, _, _, _, e, _⟩ := h; subst e; rfl)))
local macro_rules | `(tactic| walk_at "get") => `(tactic| (first | assumption | exact upd_same | (refine look_new (by assumption) ?_; walk_at "get") | (refine look_ne (by assumption) ?_; walk_at "get")))
local macro_rules | `(tactic| walk_at "sqt") => `(tactic| (first | assumption | (apply Ex.t (Ex.refl.at (by assumption)); walk_at "sqt")))
local macro_rules | `(tactic| walk_at "s") => `(tactic| (first
  | refine ⟨_, rfl, ?_⟩
  | refine Or.inl ⟨_, rfl, ?_⟩
  | refine Or.inl ⟨_, _, _, _, rfl, rfl, lOf (by walk_at "get"), rfl, ?_⟩
  | refine Or.inl ⟨_, _, _, _, rfl, rfl, (show SqL _ _ _ _ by assumption), rfl, ?_⟩
  | refine Or.inr (Or.inl ⟨_, _, _, _, rfl, rfl, (show SqT _ _ _ _ by walk_at "sqt"), rfl, ?_⟩)
  | refine ⟨_, _, _, _, rfl, rfl, (by walk_at "get"), rfl, ?_⟩
  | refine ⟨_, _, rfl, rfl, Or.inl (Or.inr ⟨by decide, by decide⟩), ?_⟩
  | refine ⟨_, _, rfl, rfl, (by show (0 : Int) < _; first | assumption | decide), ?_⟩
  | refine ⟨_, _, rfl, rfl, ⟨by decide, by decide⟩, ?_⟩
  | refine ⟨_, _, rfl, rfl, ⟨by decide, by decide +kernel⟩, ?_⟩
  | refine ⟨_, _, rfl, rfl, (by show (0 : Int) < _; decide +kernel), ?_⟩
  | refine ⟨(show CMulA _ _ from Or.inl (Or.inl ⟨by (try dsimp only); omega, by (try dsimp only); omega⟩)), ?_⟩
  | refine ⟨_, _, rfl, rfl, ?_⟩
  | refine ⟨_, _, rfl, (show Dp _ _ _ _ by assumption), ?_⟩
  | refine ⟨_, _, rfl, (show SqT _ _ _ _ by assumption), ?_⟩
  | refine ⟨_, _, rfl, (show SqL _ _ _ _ by assumption), ?_⟩
  | refine ⟨_, _, rfl, ?_⟩
  | refine ⟨rfl, _, rfl, ?_⟩
  | refine ⟨rfl, ?_⟩
  | refine ⟨_, _, _, _, _, rfl, (by walk_at "get"), (by assumption), (by assumption), rfl, ?_⟩
  | refine ⟨_, _, _, _, _, rfl, .own _, (by assumption), (by assumption), ?_⟩
  | refine ⟨_, _, _, _, _, rfl, .ty _, (by assumption), kit_ty (by rfl), ?_⟩))
local macro_rules | `(tactic| walk_at "c") => `(tactic| (try dsimp only [L2.start, List.set, List.map, List.length, List.replicate, List.cons_append, List.nil_append, List.append, HAppend.hAppend, Append.append, Int.toNat, Nat.reduceSub, Nat.reduceAdd]))
local macro_rules | `(tactic| walk_at "T") => `(tactic| ((repeat walk_at "s"); refine iteT (by first | rfl | assumption | decide) ?_; (repeat walk_at "s")))
local macro_rules | `(tactic| walk_at "F") => `(tactic| ((repeat walk_at "s"); refine iteF (by first | rfl | assumption | decide) ?_; (repeat walk_at "s")))
local macro_rules | `(tactic| walk_at "isi") => `(tactic| ((repeat walk_at "s"); refine ⟨_, _, _, _, _, rfl, .ty _, (by assumption), kit_ty (by rfl), ?_⟩; (repeat walk_at "s")))
local macro_rules | `(tactic| walk_at "mem") => `(tactic| (first | exact List.Mem.head _ | (refine List.Mem.tail _ ?_; walk_at "mem")))
local macro_rules | `(tactic| walk_at "told") => `(tactic| ((repeat walk_at "s"); refine ⟨_, _, _, _, rfl, .own _, (show ErY.Held _ _ _ by assumption), HeZ.isB_ok (by assumption) (by unfold is_BadNumber; walk_at "mem"), ?_⟩; (repeat walk_at "s")))
local macro_rules | `(tactic| walk_at "ext") => `(tactic| (first | exact Ex.refl | (refine Ex.new ?_ (by assumption); walk_at "ext")))
local macro_rules | `(tactic| walk_at "al") => `(tactic| ((repeat walk_at "s"); refine ⟨sz rfl, fun _ _ => ?_⟩))
section
variable {w : World} {K : PySem.W.Frag} {mg : Str → Option Value} {base : Heap}
def spStore (K : PySem.W.Frag) : Sp := fun vs H Q _ => ∃ (a : Addr) (ns : List Int), vs = [.ref a] ∧ SqL K H a (ns.map V.int) ∧ ns.length ≤ 63 ∧ ∀ s H', Ex H H' → H s = none → StO H' s → Q (.ref s) H'
theorem sc_l_store : FnScope ["script", "cell", "cells", "mixed"] ["script"] (defScope s_l_store) := ⟨rfl, rfl, rfl, by decide +kernel, rfl, by decide +kernel, by decide +kernel⟩
theorem d_l_store (T : Tx K mg) : Dn PP w K mg base CX0 2 "_law_store" ["script"] (spStore K) := by
  obtain ⟨fd, F⟩ := T.d 4
  refine ⟨_, fd, T.g 4, F.kp, FunD.bindsN F (fun _ _ _ _ _ _ us hl => match us, hl with | [_], _ => rfl), FunD.ok F sc_l_store (by walk_at "len") (fun cdv A outer s H vs Q E hr h => ?_)⟩
  obtain ⟨a, ns, rfl, ha, hn, k⟩ := h
  refine ⟨_, PSs.nox ((pss_cons (ps_setLc (i := 2) (own := [("cell", 1)]) rfl sc_l_store.nd rfl rfl (sw_true rfl rfl rfl (by decide +kernel)) (pi_list (pe_slice sl_list (pv 0) po_none (po_some pe_int))) (blkOk_by (own := [("cell", 1)]) (N := ["script", "cell", "cells", "mixed"]) (sc := defScope s_l_store) (by decide +kernel)) (fun _ _ _ _ _ => (pg_name (i := 1) sc_l_store.nd rfl (.inl rfl))) (fun _ _ _ _ _ => pts_nil) (fun _ _ _ _ _ => (pe_callTy call_int1 (by rfl) (T.f 61) (by decide +kernel) (pa_cons (pv 1) pa_nil))))
      (pss_cons (ps_set (i := 3) sc_l_store.nd rfl (.inl rfl) pe_int)
      (pss_cons (ps_for PassesOwn.never rfl (pi_list (pv 2)) (pg_name (i := 1) sc_l_store.nd rfl (.inl rfl)) (pss_one (ps_set (i := 3) sc_l_store.nd rfl (.inl rfl) (pe_op op_mod (pe_callTy call_int1 (by rfl) (T.f 61) (by decide +kernel) (pa_cons (pe_op op_addA (pe_op op_addA (pe_op op_mulA (pv 3) pe_int) (pe_op op_mod (pe_callTy call_int1 (by rfl) (T.f 61) (by decide +kernel) (pa_cons (pv 1) pa_nil)) pe_int)) pe_int) pa_nil)) pe_int))))
      (pss_one (ps_ret (pe_lst (pa_cons (pv 2) (pa_cons pe_int (pa_cons pe_int (pa_cons (pv 3) (pa_cons pe_int pa_nil)))))))))))), ?_⟩
  repeat walk_at "s"
  intro p hp
  have hs : cutV (ns.map V.int) none (some 63) = ns.map V.int := by
    have h1 : HT.sIx (ns.map V.int).length (ns.map V.int).length (some ((63 : Nat) : Int)) = (ns.map V.int).length := by
      rw [HT.sIx_nat, List.length_map]
      omega
    show ((ns.map V.int).drop 0).take (HT.sIx (ns.map V.int).length (ns.map V.int).length (some ((63 : Nat) : Int)) - 0) = _
    rw [h1, List.drop_zero, Nat.sub_zero, List.take_length]
  have e1 : Ex H (upd H p (.lst (ns.map V.int))) := Ex.refl.at hp
  have hp1 : SqL K (upd H p (.lst (ns.map V.int))) p (ns.map V.int) := lOf upd_same
  rw [hs]
  refine ⟨p, rfl, ⟨_, hp1⟩, fun D hD => lc_list (fun i H' => H' D = some (.lst ((ns.map V.int).take i)) ∧ Ex (upd H p (.lst (ns.map V.int))) H') ⟨upd_same, Ex.refl.at hD⟩ (fun i H' _ h => h.2.l hp1) ?_ ?_⟩
  · rintro i x H2 hx ⟨hd, e2⟩
    obtain ⟨z, rfl⟩ : ∃ z, x = .int z := by
      obtain ⟨z, _, rfl⟩ := List.mem_map.mp (List.mem_of_getElem? hx)
      exact ⟨z, rfl⟩
    refine ⟨rfl, ?_⟩
    repeat walk_at "s"
    refine ⟨_, hd, ?_, ?_, e2.at hD⟩
    · rw [List.length_take, List.length_map, sizeLine_eq]
      omega
    · rw [List.take_succ, hx]
      exact upd_same
  · rintro H2 ⟨hd, e2⟩
    rw [List.take_length] at hd
    have hd2 : SqL K H2 D (ns.map V.int) := lOf hd
    have e3 := e1.trans e2
    repeat walk_at "s"
    refine ⟨⟨_, hd2⟩, for_list (fun i σ H' => (∃ (m : Int) (z : Option V), σ = [some (.ref a), z, some (.ref D), some (.int m)] ∧ 0 ≤ m ∧ m < 2147483647) ∧ H' = H2) ⟨⟨_, _, rfl, by decide, by decide⟩, rfl⟩ (fun i σ H' _ h => by rw [h.2]; exact hd2) ?_ ?_⟩
    · rintro i x σ _ hx ⟨⟨m, z, rfl, m0, m1⟩, rfl⟩
      obtain ⟨z, rfl⟩ : ∃ z, x = .int z := by
        obtain ⟨z, _, rfl⟩ := List.mem_map.mp (List.mem_of_getElem? hx)
        exact ⟨z, rfl⟩
      repeat walk_at "s"
      exact ⟨⟨_, _, rfl, Int.emod_nonneg _ (by decide), Int.emod_lt_of_pos _ (by decide)⟩, rfl⟩
    · rintro σ _ ⟨⟨m, z, rfl, m0, m1⟩, rfl⟩
      repeat walk_at "s"
      refine ⟨sz rfl, fun t ht => ?_⟩
      exact k t _ (e3.trans (Ex.refl.at ht)) (e3.none ht) ⟨D, ns, 0, 0, m, 0, upd_same, look_new ht hd, ne_of_none hd ht, by decide, by decide, m0, m1, hn⟩
end
end Lw
namespace Lw
open PySem PySem.Spec PyProof.Rows L2 L2H
/-! ### the draws -/
local macro_rules | `(tactic| walk_at "len") => `(tactic| (intro vs H Q E h; first | (obtain ⟨_, e, _⟩ := h; subst e; rfl) | (obtain ⟨_, _, e, _⟩ := h; subst e; rfl) | (obtain ⟨_, _, _, e, _⟩ := h; subst e; rfl) | (obtain ⟨_, _, _, _, e, _⟩ := h; subst e; rfl) | (obtain ⟨_, _, _, _, _, e, _⟩ := h; subst e; rfl) | (obtain ⟨_, _, _, _, _, _, e, _⟩ := h; subst e; rfl) | (obtain ⟨_, _, _, _, _, _, _, e, _⟩ := h; subst e; rfl)))
local macro_rules | `(tactic| walk_at "get") => `(tactic| (first | assumption | exact upd_same | (refine look_new (by assumption) ?_; walk_at "get") | (refine look_ne (by assumption) ?_; walk_at "get")))
local macro_rules | `(tactic| walk_at "sqt") => `(tactic| (first | assumption | (apply Ex.t (Ex.refl.at (by assumption)); walk_at "sqt")))
local macro_rules | `(tactic| walk_at "s") => `(tactic| (first
  | refine ⟨_, rfl, ?_⟩
  | refine Or.inl ⟨_, rfl, ?_⟩
  | refine Or.inl ⟨_, _, _, _, rfl, rfl, lOf (by walk_at "get"), rfl, ?_⟩
  | refine Or.inl ⟨_, _, _, _, rfl, rfl, (show SqL _ _ _ _ by assumption), rfl, ?_⟩
  | refine Or.inr (Or.inl ⟨_, _, _, _, rfl, rfl, (show SqT _ _ _ _ by walk_at "sqt"), rfl, ?_⟩)
  | refine ⟨_, _, _, _, rfl, rfl, (by walk_at "get"), rfl, ?_⟩
  | refine ⟨_, _, rfl, rfl, Or.inl (Or.inr ⟨by decide, by decide⟩), ?_⟩
  | refine ⟨_, _, rfl, rfl, (by show (0 : Int) < _; first | assumption | decide), ?_⟩
  | refine ⟨_, _, rfl, rfl, ⟨by decide, by decide⟩, ?_⟩
  | refine ⟨_, _, rfl, rfl, ⟨by decide, by decide +kernel⟩, ?_⟩
  | refine ⟨_, _, rfl, rfl, (by show (0 : Int) < _; decide +kernel), ?_⟩
  | refine ⟨(show CMulA _ _ from Or.inl (Or.inl ⟨by (try dsimp only); omega, by (try dsimp only); omega⟩)), ?_⟩
  | refine ⟨_, _, rfl, rfl, ?_⟩
  | refine ⟨_, _, rfl, (show Dp _ _ _ _ by assumption), ?_⟩
  | refine ⟨_, _, rfl, (show SqT _ _ _ _ by assumption), ?_⟩
  | refine ⟨_, _, rfl, (show SqL _ _ _ _ by assumption), ?_⟩
  | refine ⟨_, _, rfl, ?_⟩
  | refine ⟨rfl, _, rfl, ?_⟩
  | refine ⟨rfl, ?_⟩
  | refine ⟨_, _, _, _, _, rfl, (by walk_at "get"), (by assumption), (by assumption), rfl, ?_⟩
  | refine ⟨_, _, _, _, _, rfl, .own _, (by assumption), (by assumption), ?_⟩
  | refine ⟨_, _, _, _, _, rfl, .ty _, (by assumption), kit_ty (by rfl), ?_⟩))
local macro_rules | `(tactic| walk_at "c") => `(tactic| (try dsimp only [L2.start, List.set, List.map, List.length, List.replicate, List.cons_append, List.nil_append, List.append, HAppend.hAppend, Append.append, Int.toNat, Nat.reduceSub, Nat.reduceAdd]))
local macro_rules | `(tactic| walk_at "T") => `(tactic| ((repeat walk_at "s"); refine iteT (by first | rfl | assumption | decide) ?_; (repeat walk_at "s")))
local macro_rules | `(tactic| walk_at "F") => `(tactic| ((repeat walk_at "s"); refine iteF (by first | rfl | assumption | decide) ?_; (repeat walk_at "s")))
local macro_rules | `(tactic| walk_at "isi") => `(tactic| ((repeat walk_at "s"); refine ⟨_, _, _, _, _, rfl, .ty _, (by assumption), kit_ty (by rfl), ?_⟩; (repeat walk_at "s")))
local macro_rules | `(tactic| walk_at "mem") => `(tactic| (first | exact List.Mem.head _ | (refine List.Mem.tail _ ?_; walk_at "mem")))
local macro_rules | `(tactic| walk_at "told") => `(tactic| ((repeat walk_at "s"); refine ⟨_, _, _, _, rfl, .own _, (show ErY.Held _ _ _ by assumption), HeZ.isB_ok (by assumption) (by unfold is_BadNumber; walk_at "mem"), ?_⟩; (repeat walk_at "s")))
local macro_rules | `(tactic| walk_at "ext") => `(tactic| (first | exact Ex.refl | (refine Ex.new ?_ (by assumption); walk_at "ext")))
local macro_rules | `(tactic| walk_at "al") => `(tactic| ((repeat walk_at "s"); refine ⟨sz rfl, fun _ _ => ?_⟩))
section
variable {w : World} {K : PySem.W.Frag} {mg : Str → Option Value} {base : Heap}
theorem updL_pt {H : Hp} {D p : Addr} {xs : List V} {o : HO} {P : Gr} (h : H D = some (.lst xs)) (q : PtAt K H p P) : PtAt K (upd H D o) p P :=
  let ⟨c, h1, h2⟩ := q
  ⟨c, updL_t h h1, updL_t h h2⟩
theorem updL_gr {H : Hp} {D g : Addr} {xs : List V} {o : HO} {P : Gr} (h : H D = some (.lst xs)) (q : GrAt K H g P) : GrAt K (upd H D o) g P :=
  let ⟨dx, c, h1, h2⟩ := q
  ⟨dx, c, look_ne (fun e => by rw [e, h] at h1; cases h1) h1, updL_t h h2⟩
theorem nw1' (n : Nat) : Nw (n + 1) (1 : Int) := by
  unfold Nw
  have : 0 < 2 ^ n := Nat.two_pow_pos n
  rw [Nat.pow_succ]
  show 1 < _
  omega
theorem gv_n {n : Nat} {c0 c1 c2 m : Int} (w0 : Nw n c0) (w1 : Nw n c1) (w2 : Nw n c2) (wm : Nw (n + 1) m) : Nw (3 * n + 4) (gv c0 c1 c2 m) := by
  have h1 := w1.mul wm
  have h2 := w2.mul (wm.mul (wm.sub (nw1' n))).half
  have h3 := ((w0.mono (m := n + (n + 1)) (by omega)).add h1).mono (m := n + (n + 1 + (n + 1 + 1))) (by omega)
  exact (h3.add h2).mono (by omega)
theorem addG_ok {P R : Gr} {n : Nat} (p : P.ok n) (r : R.ok n) : (addG P R).ok (3 * n + 5) := by
  have b0 : 0 ≤ (addG P R).b := ite_both (f := fun z => 0 ≤ z) r.1 p.1
  have bw : Nw n (addG P R).b := ite_both (f := Nw n) r.2.1 p.2.1
  have m1 := bw.sub p.2.1
  have m2 := bw.sub r.2.1
  refine ⟨b0, bw.mono (by omega), ((gv_n p.2.2.1 p.2.2.2.1 p.2.2.2.2 m1).add (gv_n r.2.2.1 r.2.2.2.1 r.2.2.2.2 m2)).mono (by omega), ?_, ?_⟩
  · have h1 := (p.2.2.2.1.mono (m := n + (n + 1)) (by omega)).add (p.2.2.2.2.mul m1)
    have h2 := (r.2.2.2.1.mono (m := n + (n + 1)) (by omega)).add (r.2.2.2.2.mul m2)
    exact (h1.add h2).mono (by omega)
  · exact (p.2.2.2.2.add r.2.2.2.2).mono (by omega)
/-- the growths made so far -/
def GrownAt (K : PySem.W.Frag) (G : Addr) (P0 P1 P2 : Gr) : Nat → Hp → Prop
  | 0, H => H G = some (.lst [])
  | 1, H => ∃ g0, H G = some (.lst [.ref g0]) ∧ GrAt K H g0 P0
  | 2, H => ∃ g0 g1, H G = some (.lst [.ref g0, .ref g1]) ∧ GrAt K H g0 P0 ∧ GrAt K H g1 P1
  | _, H => ∃ g0 g1 g2, H G = some (.lst [.ref g0, .ref g1, .ref g2]) ∧ GrAt K H g0 P0 ∧ GrAt K H g1 P1 ∧ GrAt K H g2 P2
theorem addG_comm (P R : Gr) : addG P R = addG R P := by
  have hb : (if R.b > P.b then R.b else P.b) = (if P.b > R.b then P.b else R.b) := by
    split <;> split <;> omega
  unfold addG
  simp only [hb, Gr.mk.injEq, true_and]
  refine ⟨?_, ?_, ?_⟩ <;> omega
theorem tri_even (m : Int) : 2 * (m * (m - 1) / 2) = m * (m - 1) := by
  have h : (m * (m - 1)) % 2 = 0 := by
    rcases (by omega : m % 2 = 0 ∨ m % 2 = 1) with h | h
    · rw [Int.mul_emod, h]; simp
    · have : (m - 1) % 2 = 0 := by omega
      rw [Int.mul_emod, this]; simp
  omega
theorem tri_add (m k : Int) : (m + k) * (m + k - 1) / 2 = m * (m - 1) / 2 + k * (k - 1) / 2 + m * k := by
  have h1 := tri_even (m + k)
  have h2 := tri_even m
  have h3 := tri_even k
  have e : (m + k) * (m + k - 1) = m * (m - 1) + k * (k - 1) + 2 * (m * k) := by
    simp only [Int.mul_sub, Int.add_mul, Int.mul_add, Int.mul_one, Int.mul_comm k m]
    omega
  omega
theorem gv_add (c0 c1 c2 m k : Int) : gv c0 c1 c2 (m + k) = gv (gv c0 c1 c2 m) (c1 + c2 * m) c2 k := by
  unfold gv
  rw [tri_add]
  simp only [Int.mul_add, Int.add_mul, Int.mul_assoc]
  omega
def mxI (a b : Int) : Int := if b > a then b else a
theorem addG_def (P R : Gr) : addG P R = ⟨mxI P.b R.b, gv P.c0 P.c1 P.c2 (mxI P.b R.b - P.b) + gv R.c0 R.c1 R.c2 (mxI P.b R.b - R.b), P.c1 + P.c2 * (mxI P.b R.b - P.b) + (R.c1 + R.c2 * (mxI P.b R.b - R.b)), P.c2 + R.c2⟩ := rfl
theorem gv_sum (a0 a1 a2 b0 b1 b2 k : Int) : gv (a0 + b0) (a1 + b1) (a2 + b2) k = gv a0 a1 a2 k + gv b0 b1 b2 k := by
  unfold gv
  simp only [Int.add_mul]
  omega
theorem addG_assoc (P R S : Gr) : addG P (addG R S) = addG (addG P R) S := by
  have hb : mxI P.b (mxI R.b S.b) = mxI (mxI P.b R.b) S.b := by
    unfold mxI
    split <;> split <;> (try split) <;> (try split) <;> omega
  simp only [addG_def, gv_sum, Int.add_mul]
  rw [hb]
  have e1 : mxI (mxI P.b R.b) S.b - P.b = (mxI P.b R.b - P.b) + (mxI (mxI P.b R.b) S.b - mxI P.b R.b) := by omega
  have e2 : mxI (mxI P.b R.b) S.b - R.b = (mxI P.b R.b - R.b) + (mxI (mxI P.b R.b) S.b - mxI P.b R.b) := by omega
  have e3 : mxI (mxI P.b R.b) S.b - R.b = (mxI R.b S.b - R.b) + (mxI (mxI P.b R.b) S.b - mxI R.b S.b) := by omega
  have e4 : mxI (mxI P.b R.b) S.b - S.b = (mxI R.b S.b - S.b) + (mxI (mxI P.b R.b) S.b - mxI R.b S.b) := by omega
  have f1 := gv_add P.c0 P.c1 P.c2 (mxI P.b R.b - P.b) (mxI (mxI P.b R.b) S.b - mxI P.b R.b)
  have f2 := gv_add R.c0 R.c1 R.c2 (mxI P.b R.b - R.b) (mxI (mxI P.b R.b) S.b - mxI P.b R.b)
  have f3 := gv_add R.c0 R.c1 R.c2 (mxI R.b S.b - R.b) (mxI (mxI P.b R.b) S.b - mxI R.b S.b)
  have f4 := gv_add S.c0 S.c1 S.c2 (mxI R.b S.b - S.b) (mxI (mxI P.b R.b) S.b - mxI R.b S.b)
  rw [← e1] at f1
  rw [← e2] at f2
  rw [← e3] at f3
  rw [← e4] at f4
  have g1 : P.c2 * (mxI (mxI P.b R.b) S.b - P.b) = P.c2 * (mxI P.b R.b - P.b) + P.c2 * (mxI (mxI P.b R.b) S.b - mxI P.b R.b) := by rw [← Int.mul_add, ← e1]
  have g2 : R.c2 * (mxI (mxI P.b R.b) S.b - R.b) = R.c2 * (mxI P.b R.b - R.b) + R.c2 * (mxI (mxI P.b R.b) S.b - mxI P.b R.b) := by rw [← Int.mul_add, ← e2]
  have g3 : R.c2 * (mxI (mxI P.b R.b) S.b - R.b) = R.c2 * (mxI R.b S.b - R.b) + R.c2 * (mxI (mxI P.b R.b) S.b - mxI R.b S.b) := by rw [← Int.mul_add, ← e3]
  have g4 : S.c2 * (mxI (mxI P.b R.b) S.b - S.b) = S.c2 * (mxI R.b S.b - S.b) + S.c2 * (mxI (mxI P.b R.b) S.b - mxI R.b S.b) := by rw [← Int.mul_add, ← e4]
  simp only [Gr.mk.injEq, true_and]
  refine ⟨?_, ?_, ?_⟩ <;> omega
/-- the world of the law: three parts, three growths, the store -/
def WI (K : PySem.W.Frag) (s D G p0 p1 p2 g0 g1 g2 : Addr) (P0 P1 P2 : Gr) (H : Hp) : Prop := H D = some (.lst [.ref p0, .ref p1, .ref p2]) ∧ H G = some (.lst [.ref g0, .ref g1, .ref g2]) ∧ PtAt K H p0 P0 ∧ PtAt K H p1 P1 ∧ PtAt K H p2 P2 ∧
  GrAt K H g0 P0 ∧ GrAt K H g1 P1 ∧ GrAt K H g2 P2 ∧ StO H s
theorem WI.st {s D G p0 p1 p2 g0 g1 g2 : Addr} {P0 P1 P2 : Gr} {H : Hp} (w : WI K s D G p0 p1 p2 g0 g1 g2 P0 P1 P2 H) : StO H s := w.2.2.2.2.2.2.2.2
theorem WI.kp {s D G p0 p1 p2 g0 g1 g2 : Addr} {P0 P1 P2 : Gr} {H H' : Hp} (w : WI K s D G p0 p1 p2 g0 g1 g2 P0 P1 P2 H) (hD : D ≠ s) (hG : G ≠ s) (e : Kp s H H') (S : StO H' s) : WI K s D G p0 p1 p2 g0 g1 g2 P0 P1 P2 H' :=
  let S0 := w.st
  let ⟨w1, w2, w3, w4, w5, w6, w7, w8, _⟩ := w
  ⟨e.1 _ _ hD w1, e.1 _ _ hG w2, e.pt S0 w3, e.pt S0 w4, e.pt S0 w5, e.gr S0 w6, e.gr S0 w7, e.gr S0 w8, S⟩
theorem WI.ex {s D G p0 p1 p2 g0 g1 g2 : Addr} {P0 P1 P2 : Gr} {H H' : Hp} (w : WI K s D G p0 p1 p2 g0 g1 g2 P0 P1 P2 H) (e : Ex H H') : WI K s D G p0 p1 p2 g0 g1 g2 P0 P1 P2 H' :=
  let S0 := w.st
  let ⟨w1, w2, w3, w4, w5, w6, w7, w8, _⟩ := w
  ⟨e _ _ w1, e _ _ w2, e.pt w3, e.pt w4, e.pt w5, e.gr w6, e.gr w7, e.gr w8, S0.ex e⟩
theorem WI.upd {s D G p0 p1 p2 g0 g1 g2 A : Addr} {P0 P1 P2 : Gr} {H : Hp} {xs : List V} {o : HO} (w : WI K s D G p0 p1 p2 g0 g1 g2 P0 P1 P2 H) (hA : H A = some (.lst xs)) (hD : D ≠ A) (hG : G ≠ A) (S : StO (upd H A o) s) : WI K s D G p0 p1 p2 g0 g1 g2 P0 P1 P2 (upd H A o) :=
  let ⟨w1, w2, w3, w4, w5, w6, w7, w8, _⟩ := w
  ⟨look_ne hD w1, look_ne hG w2, updL_pt hA w3, updL_pt hA w4, updL_pt hA w5, updL_gr hA w6, updL_gr hA w7, updL_gr hA w8, S⟩
def spLaw (K : PySem.W.Frag) : Sp := fun vs H Q _ => ∃ (a : Addr) (ns : List Int), vs = [.ref a] ∧ SqL K H a (ns.map V.int) ∧ ns.length ≤ 63 ∧ ∀ H', Q (.bl true) H'
theorem sc_law : FnScope ["script", "store", "k", "parts", "grown", "due", "total", "whole", "twice", "one"] ["script"] (defScope s_law) := ⟨rfl, rfl, rfl, by decide +kernel, rfl, by decide +kernel, by decide +kernel⟩
theorem d_law (T : Tx K mg) {fd : FuncData} (F : FunD K fd23.name fd23.qual fd23.params fd23.body fd23.scope (He.DefD.dvs K fd23) (He.DefD.kws K fd23) (He.fAd K fd23.at_) fd) : FnOk PP w K mg base CX0 12 (He.fAd K fd23.at_) fd ["script"] (spLaw K) := by
  refine FunD.ok F sc_law (by walk_at "len") (fun cdv A outer s H vs Q E hr h => ?_)
  obtain ⟨a, ns, rfl, ha, hn, k⟩ := h
  obtain ⟨ow, ki, ti, nf, co, sf, _⟩ := T.ex
  refine ⟨_, PSs.nox ((pss_cons (ps_set (i := 1) sc_law.nd rfl (.inr rfl) (pe_d (d_l_store T) (hr.mono (by decide)) rfl pass0 (pa_cons (pv 0) pa_nil)))
      (pss_cons (ps_set (i := 3) sc_law.nd rfl (.inr rfl) (pe_lc (own := [("k", 2)]) rfl sc_law.nd (pi_range1 rfl (T.f 67) (pa_cons pe_int pa_nil)) (blkOk_by (own := [("k", 2)]) (N := ["script", "store", "k", "parts", "grown", "due", "total", "whole", "twice", "one"]) (sc := defScope s_law) (by decide +kernel)) (fun _ _ _ _ _ => (pg_name (i := 2) sc_law.nd rfl (.inl rfl))) (fun _ _ _ _ _ => pts_nil) (fun _ _ _ _ _ => (pe_d (d_l_growthparts T) (hr.mono (by decide)) rfl pass0 (pa_cons (pv 1) pa_nil)))))
      (C8.pss_cut (ps_if (pt_truth (pe_d (d_l_maybe T) (hr.mono (by decide)) rfl pass0 (pa_cons (pv 1) (pa_cons pe_int pa_nil))) (by intro _; rfl)) (pss_one (ps_asg (pe_tup (pa_cons (pe_ix ix_seq (pe_ix ix_seq (pv 3) pe_int (fun _ _ => rfl)) pe_int (fun _ _ => rfl)) (pa_cons (pe_ix ix_seq (pe_ix ix_seq (pv 3) pe_int (fun _ _ => rfl)) pe_int (fun _ _ => rfl)) pa_nil))) (pg_sub (pv 3) pe_int set_list))) pss_nil)
      (pss_cons (ps_set (i := 4) sc_law.nd rfl (.inr rfl) (pe_lc (own := [("one", 9)]) rfl sc_law.nd (pi_list (pv 3)) (blkOk_by (own := [("one", 9)]) (N := ["script", "store", "k", "parts", "grown", "due", "total", "whole", "twice", "one"]) (sc := defScope s_law) (by decide +kernel)) (fun _ _ _ _ _ => (pg_name (i := 9) sc_law.nd rfl (.inl rfl))) (fun _ _ _ _ _ => pts_nil) (fun _ _ _ _ _ => (pe_mk (d_Growth_init T) T.k_Growth (hr.mono (by decide)) rfl (T.g 56) passN (pa_cons (pe_ix (show IxR _ (rIx K) from ix_seq) (pv 9) pe_int (fun _ _ => rfl)) (pa_cons (pe_ix (show IxR _ (rIx K) from ix_seq) (pv 9) pe_int (fun _ _ => rfl)) pa_nil))))))
      (pss_cons (ps_for PassesOwn.never rfl (pi_range1 rfl (T.f 67) (pa_cons pe_int pa_nil)) (pg_name (i := 2) sc_law.nd rfl (.inl rfl)) (pss_cons (ps_if (PW.pt (pw_or (pt_not (pt_truth (pe_d (d_l_right T) (hr.mono (by decide)) rfl pass0 (pa_cons (pv 1) (pa_cons (pe_ix ix_seq (pv 4) (pv 2) (fun _ _ => rfl)) (pa_cons (pe_ix ix_seq (pv 3) (pv 2) (fun _ _ => rfl)) pa_nil)))) (by intro _; rfl))) (pw_or1 (pt_not (pt_truth (pe_d (d_l_unlike T) (hr.mono (by decide)) rfl pass0 (pa_cons (pv 1) (pa_cons (pe_ix ix_seq (pv 4) (pv 2) (fun _ _ => rfl)) (pa_cons (pe_ix ix_seq (pv 3) (pv 2) (fun _ _ => rfl)) pa_nil)))) (by intro _; rfl)))))) (pss_one (ps_ret pe_bl)) pss_nil)
      (pss_one (ps_if (pt_not (pt_truth (pe_d (d_l_refused T) (hr.mono (by decide)) rfl pass0 (pa_cons (pv 1) (pa_cons (pe_ix ix_seq (pv 4) (pv 2) (fun _ _ => rfl)) (pa_cons (pe_ix ix_seq (pv 3) (pv 2) (fun _ _ => rfl)) pa_nil)))) (by intro _; rfl))) (pss_one (ps_ret pe_bl)) pss_nil))))
      (pss_cons (ps_set (i := 5) sc_law.nd rfl (.inl rfl) (pe_d (d_l_added T) (hr.mono (by decide)) rfl pass0 (pa_cons (pe_ix ix_seq (pv 3) pe_int (fun _ _ => rfl)) (pa_cons (pe_ix ix_seq (pv 3) pe_int (fun _ _ => rfl)) pa_nil))))
      (pss_cons (ps_for PassesOwn.never rfl (pi_list (pe_lst (pa_cons (pe_op (op_ownM (op := .Add) sf T.m_add.at_ T.m_add.fn (d_Growth_add T) (hr.mono (by decide)) pass0) (pe_ix ix_seq (pv 4) pe_int (fun _ _ => rfl)) (pe_ix ix_seq (pv 4) pe_int (fun _ _ => rfl))) (pa_cons (pe_op (op_ownM (op := .Add) sf T.m_add.at_ T.m_add.fn (d_Growth_add T) (hr.mono (by decide)) pass0) (pe_ix ix_seq (pv 4) pe_int (fun _ _ => rfl)) (pe_ix ix_seq (pv 4) pe_int (fun _ _ => rfl))) pa_nil)))) (pg_name (i := 6) sc_law.nd rfl (.inl rfl)) (pss_cons (ps_if (PW.pt (pw_or (pt_not (pt_truth (pe_d (d_l_right T) (hr.mono (by decide)) rfl pass0 (pa_cons (pv 1) (pa_cons (pv 6) (pa_cons (pv 5) pa_nil)))) (by intro _; rfl))) (pw_or1 (pt_not (pt_truth (pe_d (d_l_refused T) (hr.mono (by decide)) rfl pass0 (pa_cons (pv 1) (pa_cons (pv 6) (pa_cons (pv 5) pa_nil)))) (by intro _; rfl)))))) (pss_one (ps_ret pe_bl)) pss_nil)
      (pss_one (ps_if (pt_not (pt_truth (pe_d (d_l_unlike T) (hr.mono (by decide)) rfl pass0 (pa_cons (pv 1) (pa_cons (pv 6) (pa_cons (pv 5) pa_nil)))) (by intro _; rfl))) (pss_one (ps_ret pe_bl)) pss_nil))))
      (pss_cons (ps_set (i := 7) sc_law.nd rfl (.inl rfl) (pe_d (d_l_added T) (hr.mono (by decide)) rfl pass0 (pa_cons (pv 5) (pa_cons (pe_ix ix_seq (pv 3) pe_int (fun _ _ => rfl)) pa_nil))))
      (pss_cons (ps_if (pt_not (pt_truth (pe_d (d_l_right T) (hr.mono (by decide)) rfl pass0 (pa_cons (pv 1) (pa_cons (pe_op (op_ownM (op := .Add) sf T.m_add.at_ T.m_add.fn (d_Growth_add T) (hr.mono (by decide)) pass0) (pe_op (op_ownM (op := .Add) sf T.m_add.at_ T.m_add.fn (d_Growth_add T) (hr.mono (by decide)) pass0) (pe_ix ix_seq (pv 4) pe_int (fun _ _ => rfl)) (pe_ix ix_seq (pv 4) pe_int (fun _ _ => rfl))) (pe_ix ix_seq (pv 4) pe_int (fun _ _ => rfl))) (pa_cons (pv 7) pa_nil)))) (by intro _; rfl))) (pss_one (ps_ret pe_bl)) pss_nil)
      (pss_cons (ps_if (pt_not (pt_cmpR (op_ownEqM hr.units0 T.m_eq (d_Growth_eq T) (hr.mono (by decide)) pass0) (pe_op (op_ownM (op := .Add) sf T.m_add.at_ T.m_add.fn (d_Growth_add T) (hr.mono (by decide)) pass0) (pe_ix ix_seq (pv 4) pe_int (fun _ _ => rfl)) (pe_op (op_ownM (op := .Add) sf T.m_add.at_ T.m_add.fn (d_Growth_add T) (hr.mono (by decide)) pass0) (pe_ix ix_seq (pv 4) pe_int (fun _ _ => rfl)) (pe_ix ix_seq (pv 4) pe_int (fun _ _ => rfl)))) (pe_mk (d_Growth_init T) T.k_Growth (hr.mono (by decide)) rfl (T.g 56) passN (pa_cons (pe_ix ix_seq (pv 7) pe_int (fun _ _ => rfl)) (pa_cons (pe_ix ix_seq (pv 7) pe_int (fun _ _ => rfl)) pa_nil))) (nomark _))) (pss_one (ps_ret pe_bl)) pss_nil)
      (pss_cons (ps_set (i := 8) sc_law.nd rfl (.inl rfl) (pe_d (d_l_added T) (hr.mono (by decide)) rfl pass0 (pa_cons (pe_ix ix_seq (pv 3) pe_int (fun _ _ => rfl)) (pa_cons (pe_ix ix_seq (pv 3) pe_int (fun _ _ => rfl)) pa_nil))))
      (pss_cons (ps_if (pt_not (pt_truth (pe_d (d_l_right T) (hr.mono (by decide)) rfl pass0 (pa_cons (pv 1) (pa_cons (pe_op (op_ownM (op := .Add) sf T.m_add.at_ T.m_add.fn (d_Growth_add T) (hr.mono (by decide)) pass0) (pe_ix ix_seq (pv 4) pe_int (fun _ _ => rfl)) (pe_ix ix_seq (pv 4) pe_int (fun _ _ => rfl))) (pa_cons (pv 8) pa_nil)))) (by intro _; rfl))) (pss_one (ps_ret pe_bl)) pss_nil)
      (pss_one (ps_ret (pe_callB (cr_all rfl) (by rfl) (T.f 58) (by decide +kernel) (pa_cons (pe_lc (own := [("k", 2)]) rfl sc_law.nd (pi_range1 rfl (T.f 67) (pa_cons pe_int pa_nil)) (blkOk_by (own := [("k", 2)]) (N := ["script", "store", "k", "parts", "grown", "due", "total", "whole", "twice", "one"]) (sc := defScope s_law) (by decide +kernel)) (fun _ _ _ _ _ => (pg_name (i := 2) sc_law.nd rfl (.inl rfl))) (fun _ _ _ _ _ => pts_nil) (fun _ _ _ _ _ => (pe_d (d_l_right T) (hr.mono (by decide)) rfl pass0 (pa_cons (pv 1) (pa_cons (pe_ix (show IxR _ (rIx K) from ix_seq) (pv 4) (pv 2) (fun _ _ => rfl)) (pa_cons (pe_ix (show IxR _ (rIx K) from ix_seq) (pv 3) (pv 2) (fun _ _ => rfl)) pa_nil)))))) pa_nil))))))))))))))))), ?_⟩
  repeat walk_at "s"
  refine ⟨hn, fun s H1 e1 hs0 S1 => ?_⟩
  repeat walk_at "s"
  refine ⟨by decide, by decide, fun D hD => lc_range (n := 3) (fun i H' => ∃ ps : List (Addr × Gr), ps.length = i ∧ H' D = some (.lst (ps.map fun q => V.ref q.1)) ∧ (∀ q ∈ ps, PtAt K H' q.1 q.2 ∧ q.2.ok 200) ∧ Kp s H1 H' ∧ StO H' s)
    ⟨[], rfl, upd_same, fun _ h => (nomatch h), (Ex.refl.at hD).kp, S1.ex (Ex.refl.at hD)⟩ ?_ ?_⟩
  · rintro i H2 hi ⟨ps, hl, hd, hps, k2, S2⟩
    have hDs : D ≠ s := S1.ne hD
    refine ⟨rfl, ?_⟩
    repeat walk_at "s"
    refine ⟨S2, fun p P H3 k3 S3 hp hps3 pt okP => ?_⟩
    have hd3 := k3.1 _ _ hDs hd
    refine ⟨_, hd3, ?_, ps ++ [(p, P)], ?_, ?_, ?_, ?_, ?_⟩
    · rw [List.length_map, sizeLine_eq]
      omega
    · rw [List.length_append, hl] <;> rfl
    · rw [List.map_append]
      exact upd_same
    · intro q hq
      rcases List.mem_append.mp hq with hq | hq
      · exact ⟨updL_pt hd3 (k3.pt S2 (hps q hq).1), (hps q hq).2⟩
      · obtain rfl := List.mem_singleton.mp hq
        exact ⟨updL_pt hd3 pt, okP⟩
    · exact (k2.trans k3).at hD hDs
    · exact S1.set2 S3 (k2.trans k3) hD
  · rintro H2 ⟨ps, hl, hd, hps, k2, S2⟩
    have hDs : D ≠ s := S1.ne hD
    obtain ⟨⟨p0, P0⟩, ⟨p1, P1⟩, ⟨p2, P2⟩, rfl⟩ : ∃ a b c, ps = [a, b, c] := by
      match ps, hl with
      | [a, b, c], _ => exact ⟨a, b, c, rfl⟩
    obtain ⟨pt0, ok0⟩ := hps (p0, P0) (by simp)
    obtain ⟨pt1, ok1⟩ := hps (p1, P1) (by simp)
    obtain ⟨pt2, ok2⟩ := hps (p2, P2) (by simp)
    have hd : H2 D = some (.lst [.ref p0, .ref p1, .ref p2]) := hd
    refine ⟨fun σ H' => ∃ (q1 : Addr) (R1 : Gr), σ = [some (.ref a), some (.ref s), none, some (.ref D), none, none, none, none, none, none] ∧ H' D = some (.lst [.ref p0, .ref q1, .ref p2]) ∧ PtAt K H' p0 P0 ∧ PtAt K H' q1 R1 ∧ PtAt K H' p2 P2 ∧ R1.ok 200 ∧ StO H' s, ?_, ?_⟩
    · repeat walk_at "s"
      refine ⟨S2, by decide, fun b H3 k3 S3 => ?_⟩
      have hd3 := k3.1 _ _ hDs hd
      have pt0' := k3.pt S2 pt0
      have pt1' := k3.pt S2 pt1
      have pt2' := k3.pt S2 pt2
      repeat walk_at "s"
      refine ite2 (fun _ => ?_) (fun _ => ?_)
      · obtain ⟨c0, hq0, hcc0⟩ := id pt0'
        obtain ⟨c1, hq1, hcc1⟩ := id pt1'
        repeat walk_at "s"
        refine ⟨sz rfl, fun t ht => ?_⟩
        have e4 := Ex.refl.at (o := .tup [.int P0.b, .ref c1]) ht
        have hd4 := e4 _ _ hd3
        repeat walk_at "s"
        exact ⟨t, ⟨P0.b, P1.c0, P1.c1, P1.c2⟩, rfl, upd_same, updL_pt hd4 (e4.pt pt0'), updL_pt hd4 ⟨c1, tOf upd_same, e4.t hcc1⟩, updL_pt hd4 (e4.pt pt2'), ⟨ok0.1, ok0.2.1, ok1.2.2.1, ok1.2.2.2.1, ok1.2.2.2.2⟩, S1.set2 (S3.ex e4) (k2.trans (k3.trans e4.kp)) hD⟩
      · exact ⟨p1, P1, rfl, hd3, pt0', pt1', pt2', ok1, S3⟩
    rintro _ H3 ⟨q1, R1, rfl, hd3, pt0', pt1', pt2', okR, S3⟩
    clear hd pt0 pt1 pt2 hps ok1
    repeat walk_at "s"
    have hD3 : SqL K H3 D [.ref p0, .ref q1, .ref p2] := lOf hd3
    refine ⟨⟨_, hD3⟩, fun G hG => lc_list (fun i H' => GrownAt K G P0 R1 P2 i H' ∧ Ex H3 H') ⟨upd_same, Ex.refl.at hG⟩ (fun i H' _ h => h.2.l hD3) ?_ ?_⟩
    · rintro i x H4 hx ⟨hg, e4⟩
      have hi : i < 3 := (List.getElem?_eq_some_iff.mp hx).1
      obtain rfl | rfl | rfl : i = 0 ∨ i = 1 ∨ i = 2 := by omega
      · obtain rfl := Option.some.inj hx
        obtain ⟨c0, hq0, hcc0⟩ := e4.pt pt0'
        have hg : H4 G = some (.lst []) := hg
        refine ⟨rfl, ?_⟩
        repeat walk_at "s"
        intro x dx hx hdx hne
        obtain ⟨m1, m2⟩ := made (C := GC K) (fs := gfs P0.b c0) (o := .own x) hx hdx hne
        refine ⟨x, dx, c0, .int P0.b, rfl, upd_same, .inl ⟨P0.b, rfl, ok0.1, rfl, ?_⟩⟩
        have hg5 := m1 _ _ hg
        exact ⟨_, hg5, sl rfl, ⟨x, upd_same, updL_gr hg5 ⟨dx, c0, m2, m1.t hcc0⟩⟩, (e4.trans m1).at hG⟩
      · obtain rfl := Option.some.inj hx
        obtain ⟨c0, hq0, hcc0⟩ := e4.pt pt1'
        obtain ⟨g0, hg, gr0⟩ := hg
        refine ⟨rfl, ?_⟩
        repeat walk_at "s"
        intro x dx hx hdx hne
        obtain ⟨m1, m2⟩ := made (C := GC K) (fs := gfs R1.b c0) (o := .own x) hx hdx hne
        refine ⟨x, dx, c0, .int R1.b, rfl, upd_same, .inl ⟨R1.b, rfl, okR.1, rfl, ?_⟩⟩
        have hg5 := m1 _ _ hg
        exact ⟨_, hg5, sl rfl, ⟨g0, x, upd_same, updL_gr hg5 (m1.gr gr0), updL_gr hg5 ⟨dx, c0, m2, m1.t hcc0⟩⟩, (e4.trans m1).at hG⟩
      · obtain rfl := Option.some.inj hx
        obtain ⟨c0, hq0, hcc0⟩ := e4.pt pt2'
        obtain ⟨g0, g1, hg, gr0, gr1⟩ := hg
        refine ⟨rfl, ?_⟩
        repeat walk_at "s"
        intro x dx hx hdx hne
        obtain ⟨m1, m2⟩ := made (C := GC K) (fs := gfs P2.b c0) (o := .own x) hx hdx hne
        refine ⟨x, dx, c0, .int P2.b, rfl, upd_same, .inl ⟨P2.b, rfl, ok2.1, rfl, ?_⟩⟩
        have hg5 := m1 _ _ hg
        exact ⟨_, hg5, sl rfl, ⟨g0, g1, x, upd_same, updL_gr hg5 (m1.gr gr0), updL_gr hg5 (m1.gr gr1), updL_gr hg5 ⟨dx, c0, m2, m1.t hcc0⟩⟩, (e4.trans m1).at hG⟩
    · rintro H4 ⟨⟨g0, g1, g2, hg4, gr0, gr1, gr2⟩, e4⟩
      have hGs : G ≠ s := S3.ne hG
      have w4 : WI K s D G p0 q1 p2 g0 g1 g2 P0 R1 P2 H4 := ⟨e4 _ _ hd3, hg4, e4.pt pt0', e4.pt pt1', e4.pt pt2', gr0, gr1, gr2, S3.ex e4⟩
      clear pt0' pt1' pt2' hd3 hD3 hg4 gr0 gr1 gr2 e4
      repeat walk_at "s"
      refine ⟨by decide, by decide, for_range (n := 3) (fun i σ H' => (∃ z, σ = [some (.ref a), some (.ref s), z, some (.ref D), some (.ref G), none, none, none, none, none]) ∧ WI K s D G p0 q1 p2 g0 g1 g2 P0 R1 P2 H') ⟨⟨_, rfl⟩, w4⟩ ?_ ?_⟩
      · rintro i σ H5 hi ⟨⟨z, rfl⟩, w5⟩
        obtain rfl | rfl | rfl : i = 0 ∨ i = 1 ∨ i = 2 := by omega
        · obtain ⟨hdx, hgx, _⟩ := id w5
          repeat walk_at "s"
          refine ⟨s, g0, p0, P0, rfl, w5.st, w5.2.2.2.2.2.1, w5.2.2.1, ok0.mono (by decide), fun H6 k6 S6 => ?_⟩
          have w6 := w5.kp hDs hGs k6 S6
          obtain ⟨hdx, hgx, _⟩ := id w6
          repeat walk_at "s"
          refine ⟨s, g0, p0, P0, rfl, w6.st, w6.2.2.2.2.2.1, w6.2.2.1, ok0.mono (by decide), fun H7 k7 S7 => ?_⟩
          have w7 := w6.kp hDs hGs k7 S7
          obtain ⟨hdx, hgx, _⟩ := id w7
          repeat walk_at "s"
          refine ⟨s, g0, p0, P0, rfl, w7.st, w7.2.2.2.2.2.1, w7.2.2.1, ok0.mono (by decide), fun H8 k8 S8 => ?_⟩
          repeat walk_at "s"
          exact ⟨⟨_, rfl⟩, w7.kp hDs hGs k8 S8⟩
        · obtain ⟨hdx, hgx, _⟩ := id w5
          repeat walk_at "s"
          refine ⟨s, g1, q1, R1, rfl, w5.st, w5.2.2.2.2.2.2.1, w5.2.2.2.1, okR.mono (by decide), fun H6 k6 S6 => ?_⟩
          have w6 := w5.kp hDs hGs k6 S6
          obtain ⟨hdx, hgx, _⟩ := id w6
          repeat walk_at "s"
          refine ⟨s, g1, q1, R1, rfl, w6.st, w6.2.2.2.2.2.2.1, w6.2.2.2.1, okR.mono (by decide), fun H7 k7 S7 => ?_⟩
          have w7 := w6.kp hDs hGs k7 S7
          obtain ⟨hdx, hgx, _⟩ := id w7
          repeat walk_at "s"
          refine ⟨s, g1, q1, R1, rfl, w7.st, w7.2.2.2.2.2.2.1, w7.2.2.2.1, okR.mono (by decide), fun H8 k8 S8 => ?_⟩
          repeat walk_at "s"
          exact ⟨⟨_, rfl⟩, w7.kp hDs hGs k8 S8⟩
        · obtain ⟨hdx, hgx, _⟩ := id w5
          repeat walk_at "s"
          refine ⟨s, g2, p2, P2, rfl, w5.st, w5.2.2.2.2.2.2.2.1, w5.2.2.2.2.1, ok2.mono (by decide), fun H6 k6 S6 => ?_⟩
          have w6 := w5.kp hDs hGs k6 S6
          obtain ⟨hdx, hgx, _⟩ := id w6
          repeat walk_at "s"
          refine ⟨s, g2, p2, P2, rfl, w6.st, w6.2.2.2.2.2.2.2.1, w6.2.2.2.2.1, ok2.mono (by decide), fun H7 k7 S7 => ?_⟩
          have w7 := w6.kp hDs hGs k7 S7
          obtain ⟨hdx, hgx, _⟩ := id w7
          repeat walk_at "s"
          refine ⟨s, g2, p2, P2, rfl, w7.st, w7.2.2.2.2.2.2.2.1, w7.2.2.2.2.1, ok2.mono (by decide), fun H8 k8 S8 => ?_⟩
          repeat walk_at "s"
          exact ⟨⟨_, rfl⟩, w7.kp hDs hGs k8 S8⟩
      · rintro σ H5 ⟨⟨z, rfl⟩, w5⟩
        obtain ⟨hdx, hgx, _⟩ := id w5
        repeat walk_at "s"
        refine ⟨p0, q1, P0, R1, rfl, w5.2.2.1, w5.2.2.2.1, ok0.mono (by decide), okR.mono (by decide), fun du H6 e6 hdu ptd => ?_⟩
        have w6 := w5.ex e6
        have okd : (addG P0 R1).ok 605 := addG_ok ok0 okR
        obtain ⟨hdx, hgx, _⟩ := id w6
        obtain ⟨da, ca, ha0, hca0⟩ := id w6.2.2.2.2.2.1
        obtain ⟨db, cb, hb0, hcb0⟩ := id w6.2.2.2.2.2.2.1
        repeat walk_at "s"
        refine ⟨g0, g1, da, db, _, _, rfl, rfl, ha0, hb0, g0, g1, P0, R1, rfl, w6.2.2.2.2.2.1, w6.2.2.2.2.2.2.1, ok0.mono (by decide), okR.mono (by decide), fun t1 H7 e7 ht1 gt1 => ?_⟩
        have w7 := w6.ex e7
        have ptd7 := e7.pt ptd
        obtain ⟨hdx, hgx, _⟩ := id w7
        repeat walk_at "s"
        refine ⟨g1, g0, db, da, _, _, rfl, rfl, e7 _ _ hb0, e7 _ _ ha0, g1, g0, R1, P0, rfl, w7.2.2.2.2.2.2.1, w7.2.2.2.2.2.1, okR.mono (by decide), ok0.mono (by decide), fun t2 H8 e8 ht2 gt2 => ?_⟩
        rw [addG_comm] at gt2
        have w8 := w7.ex e8
        have ptd8 := e8.pt ptd7
        have gt1' := e8.gr gt1
        refine ⟨sz rfl, fun TT hTT => ?_⟩
        have e9 := Ex.refl.at (o := .lst [.ref t1, .ref t2]) hTT
        have hTs : TT ≠ s := w8.st.ne hTT
        repeat walk_at "s"
        refine ⟨⟨_, lOf (atNew hTT)⟩, for_list (xs := [.ref t1, .ref t2]) (fun i σ H' => (∃ z2 z6, σ = [some (.ref a), some (.ref s), z2, some (.ref D), some (.ref G), some (.ref du), z6, none, none, none]) ∧ H' TT = some (.lst [.ref t1, .ref t2]) ∧ WI K s D G p0 q1 p2 g0 g1 g2 P0 R1 P2 H' ∧ PtAt K H' du (addG P0 R1) ∧ GrAt K H' t1 (addG P0 R1) ∧ GrAt K H' t2 (addG P0 R1))
          ⟨⟨_, _, rfl⟩, atNew hTT, w8.ex e9, e9.pt ptd8, e9.gr gt1', e9.gr gt2⟩ (fun i σ H' _ h => lOf h.2.1) ?_ ?_⟩
        · rintro i x σ H9 hx ⟨⟨z2, z6, rfl⟩, hT9, w9, ptd9, gr91, gr92⟩
          obtain ⟨t, rfl, gt⟩ : ∃ t, x = .ref t ∧ GrAt K H9 t (addG P0 R1) := by
            have hm := List.mem_of_getElem? hx
            simp only [List.mem_cons, List.not_mem_nil, or_false] at hm
            rcases hm with rfl | rfl
            · exact ⟨_, rfl, gr91⟩
            · exact ⟨_, rfl, gr92⟩
          repeat walk_at "s"
          refine ⟨s, t, du, addG P0 R1, rfl, w9.st, gt, ptd9, okd.mono (by decide), fun H10 k10 S10 => ?_⟩
          repeat walk_at "s"
          refine ⟨s, t, du, addG P0 R1, rfl, S10, k10.gr w9.st gt, k10.pt w9.st ptd9, okd.mono (by decide), fun H11 k11 S11 => ?_⟩
          repeat walk_at "s"
          have k911 := k10.trans k11
          refine ⟨s, t, du, addG P0 R1, rfl, S11, k911.gr w9.st gt, k911.pt w9.st ptd9, okd.mono (by decide), fun H12 k12 S12 => ?_⟩
          repeat walk_at "s"
          have kk := k911.trans k12
          exact ⟨⟨_, _, rfl⟩, kk.1 _ _ hTs hT9, w9.kp hDs hGs kk S12, kk.pt w9.st ptd9, kk.gr w9.st gr91, kk.gr w9.st gr92⟩
        · rintro σ H9 ⟨⟨z2, z6, rfl⟩, hT9, w9, ptd9, gr91, gr92⟩
          obtain ⟨hdx, hgx, _⟩ := id w9
          repeat walk_at "s"
          refine ⟨du, p2, _, P2, rfl, ptd9, w9.2.2.2.2.1, okd.mono (by decide), ok2.mono (by decide), fun wh H10 e10 hwh ptw => ?_⟩
          have okw : (addG (addG P0 R1) P2).ok 1820 := addG_ok okd (ok2.mono (by decide))
          have w10 := w9.ex e10
          obtain ⟨hdx, hgx, _⟩ := id w10
          obtain ⟨da, ca, ha0, hca0⟩ := id w10.2.2.2.2.2.1
          obtain ⟨db, cb, hb0, hcb0⟩ := id w10.2.2.2.2.2.2.1
          repeat walk_at "s"
          refine ⟨g0, g1, da, db, _, _, rfl, rfl, ha0, hb0, g0, g1, P0, R1, rfl, w10.2.2.2.2.2.1, w10.2.2.2.2.2.2.1, ok0.mono (by decide), okR.mono (by decide), fun t3 H11 e11 ht3 gt3 => ?_⟩
          have w11 := w10.ex e11
          obtain ⟨hdx, hgx, _⟩ := id w11
          obtain ⟨dc, cc, hc0, hcc0⟩ := id w11.2.2.2.2.2.2.2.1
          obtain ⟨d3, c3, h30, hc30⟩ := id gt3
          repeat walk_at "s"
          refine ⟨t3, g2, d3, dc, _, _, rfl, rfl, h30, hc0, t3, g2, addG P0 R1, P2, rfl, gt3, w11.2.2.2.2.2.2.2.1, okd.mono (by decide), ok2.mono (by decide), fun t4 H12 e12 ht4 gt4 => ?_⟩
          have w12 := w11.ex e12
          repeat walk_at "s"
          refine ⟨s, t4, wh, _, rfl, w12.st, gt4, (e11.trans e12).pt ptw, okw.mono (by decide), fun H13 k13 S13 => ?_⟩
          have w13 := w12.kp hDs hGs k13 S13
          have ptw13 := k13.pt w12.st ((e11.trans e12).pt ptw)
          obtain ⟨hdx, hgx, _⟩ := id w13
          obtain ⟨da, ca, ha0, hca0⟩ := id w13.2.2.2.2.2.1
          obtain ⟨db, cb, hb0, hcb0⟩ := id w13.2.2.2.2.2.2.1
          obtain ⟨dc, cc, hc0, hcc0⟩ := id w13.2.2.2.2.2.2.2.1
          repeat walk_at "s"
          refine ⟨g1, g2, db, dc, _, _, rfl, rfl, hb0, hc0, g1, g2, R1, P2, rfl, w13.2.2.2.2.2.2.1, w13.2.2.2.2.2.2.2.1, okR.mono (by decide), ok2.mono (by decide), fun t5 H14 e14 ht5 gt5 => ?_⟩
          have w14 := w13.ex e14
          obtain ⟨d5, c5, h50, hc50⟩ := id gt5
          refine ⟨g0, t5, da, d5, _, _, rfl, rfl, e14 _ _ ha0, h50, g0, t5, P0, addG R1 P2, rfl, w14.2.2.2.2.2.1, gt5, ok0.mono (by decide), (addG_ok okR ok2).mono (by decide), fun t6 H15 e15 ht6 gt6 => ?_⟩
          have w15 := w14.ex e15
          obtain ⟨cw, hw1, hw2⟩ := (e14.trans e15).pt ptw13
          repeat walk_at "s"
          intro x dx hx hdx hne
          obtain ⟨m1, m2⟩ := made (C := GC K) (fs := gfs (addG (addG P0 R1) P2).b cw) (o := .own x) hx hdx hne
          refine ⟨x, dx, cw, .int (addG (addG P0 R1) P2).b, rfl, upd_same, .inl ⟨_, rfl, okw.1, rfl, ?_⟩⟩
          obtain ⟨d6, c6, h60, hc60⟩ := m1.gr gt6
          have w16 := w15.ex m1
          refine ⟨t6, d6, _, .ref (GC K), rfl, h60, ow.ty T.c_Growth m2, HeZ.nfT_self nf, t6, .ref x, addG P0 (addG R1 P2), rfl, ⟨d6, c6, h60, hc60⟩, .inl ⟨x, addG (addG P0 R1) P2, rfl, ⟨dx, cw, m2, m1.t hw2⟩, ?_⟩⟩
          rw [addG_assoc, eqG_self]
          obtain ⟨hdx, hgx, _⟩ := id w16
          repeat walk_at "s"
          refine ⟨p2, p2, P2, P2, rfl, w16.2.2.2.2.1, w16.2.2.2.2.1, ok2.mono (by decide), ok2.mono (by decide), fun tw H17 e17 htw pttw => ?_⟩
          have okt : (addG P2 P2).ok 605 := addG_ok ok2 ok2
          have w17 := w16.ex e17
          obtain ⟨hdx, hgx, _⟩ := id w17
          obtain ⟨de, ce, he0, hce0⟩ := id w17.2.2.2.2.2.2.2.1
          repeat walk_at "s"
          refine ⟨g2, g2, de, de, _, _, rfl, rfl, he0, he0, g2, g2, P2, P2, rfl, w17.2.2.2.2.2.2.2.1, w17.2.2.2.2.2.2.2.1, ok2.mono (by decide), ok2.mono (by decide), fun t7 H18 e18 ht7 gt7 => ?_⟩
          have w18 := w17.ex e18
          repeat walk_at "s"
          refine ⟨s, t7, tw, _, rfl, w18.st, gt7, e18.pt pttw, okt.mono (by decide), fun H19 k19 S19 => ?_⟩
          have w19 := w18.kp hDs hGs k19 S19
          repeat walk_at "s"
          refine ⟨by decide, by decide, fun AA hA => lc_range (n := 3) (fun i H' => H' AA = some (.lst (([true, true, true].take i).map V.bl)) ∧ WI K s D G p0 q1 p2 g0 g1 g2 P0 R1 P2 H' ∧ Kp s H19 H') ⟨upd_same, w19.ex (Ex.refl.at hA), (Ex.refl.at hA).kp⟩ ?_ ?_⟩
          · rintro i H20 hi ⟨hA20, w20, k20⟩
            have hAs : AA ≠ s := w19.st.ne hA
            obtain rfl | rfl | rfl : i = 0 ∨ i = 1 ∨ i = 2 := by omega
            · obtain ⟨hdx, hgx, _⟩ := id w20
              refine ⟨rfl, ?_⟩
              repeat walk_at "s"
              refine ⟨s, g0, p0, P0, rfl, w20.st, w20.2.2.2.2.2.1, w20.2.2.1, ok0.mono (by decide), fun H21 k21 S21 => ?_⟩
              have hA21 := k21.1 _ _ hAs hA20
              exact ⟨_, hA21, sl rfl, upd_same, (w20.kp hDs hGs k21 S21).upd hA21 (ne_of_none w19.1 hA) (ne_of_none w19.2.1 hA) (w19.st.set2 S21 (k20.trans k21) hA), (k20.trans k21).at hA hAs⟩
            · obtain ⟨hdx, hgx, _⟩ := id w20
              refine ⟨rfl, ?_⟩
              repeat walk_at "s"
              refine ⟨s, g1, q1, R1, rfl, w20.st, w20.2.2.2.2.2.2.1, w20.2.2.2.1, okR.mono (by decide), fun H21 k21 S21 => ?_⟩
              have hA21 := k21.1 _ _ hAs hA20
              exact ⟨_, hA21, sl rfl, upd_same, (w20.kp hDs hGs k21 S21).upd hA21 (ne_of_none w19.1 hA) (ne_of_none w19.2.1 hA) (w19.st.set2 S21 (k20.trans k21) hA), (k20.trans k21).at hA hAs⟩
            · obtain ⟨hdx, hgx, _⟩ := id w20
              refine ⟨rfl, ?_⟩
              repeat walk_at "s"
              refine ⟨s, g2, p2, P2, rfl, w20.st, w20.2.2.2.2.2.2.2.1, w20.2.2.2.2.1, ok2.mono (by decide), fun H21 k21 S21 => ?_⟩
              have hA21 := k21.1 _ _ hAs hA20
              exact ⟨_, hA21, sl rfl, upd_same, (w20.kp hDs hGs k21 S21).upd hA21 (ne_of_none w19.1 hA) (ne_of_none w19.2.1 hA) (w19.st.set2 S21 (k20.trans k21) hA), (k20.trans k21).at hA hAs⟩
          · rintro H20 ⟨hA20, w20, k20⟩
            exact ⟨AA, [true, true, true], rfl, lOf hA20, k _⟩
end
end Lw
namespace Lw
open PySem PySem.Spec PyProof.Rows L2
theorem facts {w : World} {K : PySem.W.Frag} {h : Heap} {mg : Str → Option Value} {f : Addr} (X : K.In h) (G : h.Ns mainGlobals mg) (hfa : mg ("law" : Str) = some (.ref f)) (c : HeZ.SaysZ file fa fn ers gts exB K) :
    ∃ fd : FuncData, (∀ (s : Shared) (v : Value), BindsTo s fd ⟨[v], []⟩ [("script", v)]) ∧ ∀ base : Heap, K.In base → base.Ns mainGlobals mg → FnOk PP w K mg base CX0 12 f fd ["script"] (spLaw K) := by
  have T : Tx K mg := ⟨c, h, X, G⟩
  obtain ⟨fd, F⟩ := T.d 23
  have e := hfa.symm.trans (T.g 23 (x := "law"))
  cases e
  have b := FunD.bindsA (ps := ["script"]) F fun _ _ _ _ _ _ us hl => match us, hl with | [_], _ => rfl
  refine ⟨fd, fun s v => b s [v] rfl, fun base _ _ => ?_⟩
  exact d_law T F
end Lw
open PySem PySem.W PySem.Calls PyProof.Rows
theorem PySem.Challenge.cw_textbetween_k30_growths_add_holds : PySem.Challenge.rw_textbetween_k30_growths_add.Holds := by
  w_on; o_law
  refine HandSHeadRun.head_any (r := Lw.RR) (q := Lw.qv) (H := Lw.hk) (ob := Lw.ob) (M := 20000) (loose := Lw.loose) (d := HandSHeadRun.topDef Lw.RR.prog 60) (kwd := []) Lw.ob_eq
    (by kernel_rfl) (fun s => by kernel_rfl) Lw.run (by kernel_rfl) (by kernel_rfl) (by kernel_rfl) (by rfl) (by first | assumption | decide +kernel) (by decide +kernel) ⟨rfl, rfl, rfl, rfl, rfl, by decide +kernel⟩ ?hw ?hc
  case hw => w_witness2
  case hc =>
    refine L2.walk_ofE (l := PySem.Challenge.rw_textbetween_k30_growths_add) (n := 63) (k := 12) (x := "script") (CX := L2.CX0) rfl (by decide) (by kernel_rfl) ⟨rfl, by decide, by decide⟩ ?F (fun _ _ _ _ z => z)
    intro w mg fa h Y G hmg0
    obtain ⟨K, KX, c⟩ := Y
    have hmg : mg ("law" : PySem.Str) = some (.ref fa) := by
      have e : (HandSHeadRun.topDef Lw.RR.prog 60).name = ("law" : PySem.Str) := by kernel_rfl
      rw [← e]
      exact hmg0
    obtain ⟨fd, hb, hF⟩ := Lw.facts (w := w) KX G hmg c
    exact ⟨K, fd, Lw.spLaw K, KX, hb, fun H a ns hl hn hS => ⟨a, ns, rfl, hS, by first | assumption | exact hl | exact hn | omega, fun _ => rfl⟩, hF⟩
