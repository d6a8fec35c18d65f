import PyProof.Rows.All
import Wide.All
import OpenK.AllK
import Wide.FinOn
import KE.KExcSuper
import HandS.ForMost
import HandS.Exc
import HandS.ExcInit
import HandS.ExcCtx
import KE.KExcIs
import KE.GoesMore
import KE.GoesComp
import HandS.Hot
import HandS.HotCalls
import HandS.ExcField
import HandS.IsInst
import HandS.Defaults
import HandS.Head0
import HandS.Head1
import HandS.Head2
import HandS.HeadEnd
import HandS.HeadHook1
import HandS.HeadHook2
import HandS.Property
import HandS.Wide
import HandS.Conv
import HandS.Iter
import HandS.Flow
import HandS.OwnEq
import HandS.Codes
import HandS.NoneIn
import HandS.Star
import HandS.Set
import HandS.SetFor
import HandS.SortOrd
import HandS.SortInts
import HandS.Strs
import HandS.Dict
import HandS.WordsDict
import HandS.Style
import PySem.Challenge.RW_textbetween_k34_levels_turn
set_option Elab.async false
set_option linter.all false
set_option maxRecDepth 100000
set_option maxHeartbeats 0
/-! Own errors over ValueError through one class between, whose own maker calls super's with a text and then keeps one or two values. -/
namespace PySem
namespace ErX
open PySem.W PySem.Calls PyProof.Rows PySem.HandSPX
/-! ### the texts -/
def arg0 (x : Str) (p : Pos) : Arg := { arg := x, annotation := none, pos := p }
def prms (xs : List Arg) : Arguments := { posonlyargs := [], args := xs, vararg := none, kwonlyargs := [], kw_defaults := [], kwarg := none, defaults := [] }
def supSt (msg : Str) (j : Nat) (p0 p1 p2 p3 p4 p5 : Pos) : Stmt := .Expr (.Call (.Attribute (.Call (.Name "super" p0) [] [] p1) "__init__" p2) [.Constant (.str msg) j p3] [] p4) p5
def fldSt (x : Str) (p0 p1 p2 p3 : Pos) : Stmt := .Assign [.Attribute (.Name "self" p0) x p1] (.Name x p2) p3
def scp (xs : List Str) : Scope := { kind := .function, names := ((("self" : Str), NameKind.local) :: (xs.map fun x => (x, NameKind.local))) ++ [(("__class__" : Str), NameKind.free), (("super" : Str), NameKind.globalImplicit)], isGenerator := false, isCoroutine := false, more := [] }
/-- the world around, as the making asks it -/
structure Wd (prog : Program) (K : Frag) (mg : Str → Option Value) (h : Heap) : Prop where
  kin : K.In h
  lim : h.NoLimit
  glob : h.Ns mainGlobals mg
  blt : ∃ mb, h.Ns builtinsNs mb ∧ mb "super" = some (.type "super")
  sup : mg "super" = none
  top : (prog.main.scope.names.lookup ("super" : Str)).isSome = false
  tp : nsIn K cStatics "thirdparty.any" = some none
theorem Wd.keeps {prog : Program} {K : Frag} {mg : Str → Option Value} {h h' : Heap} (W : Wd prog K mg h) (k : ∀ b o, h.get? b = some o → h'.get? b = some o) : Wd prog K mg h' :=
  ⟨W.kin.keeps k, W.lim.keeps k, W.glob.keeps k, W.blt.elim fun mb q => ⟨mb, q.1.keeps k, q.2⟩, W.sup, W.top, W.tp⟩
/-- names of a maker that do not meet -/
structure ScOk (xs : List Str) : Prop where
  su : (scp xs).names.lookup ("super" : Str) = some .globalImplicit
  cc : (scp xs).names.lookup ("__class__" : Str) = some .free
  se : (scp xs).names.lookup ("self" : Str) = some .local
  lo : ∀ x ∈ xs, (scp xs).names.lookup x = some .local
  ne : ∀ x ∈ xs, (("self" : Str) == x) = false
  db : ∀ x ∈ xs, (x == ("__debug__" : Str)) = false
  nc : ∀ x ∈ (scp xs).names, x.2 ≠ .cell
/-- what the written part says of the class at C and of its maker at fI -/
structure ErTxt (prog : Program) (K : Frag) (mg : Str → Option Value) (nm qn : Str) (C fI : Addr) (xs : List Str) (body : List Stmt) : Prop where
  gC : mg nm = some (.ref C)
  cls : ∃ nm' q N bs bm sn sub ab col dd k0 k1 k2 k3 k5, K.lookup C = some (excClassObj nm' q C N bs bm true sn sub ab col dd k0 k1 k2 k3 k5 "ValueError.__new__") ∧ refsVE bm = true
  xi : excInitIn K C [.type "ValueError", .type "Exception", .type "BaseException", .type "object"] "ValueError.__new__" = true
  sa : findIn K (.ref C) "__setattr__" = some (some (.builtin "object.__setattr__"))
  nx : ∀ x ∈ xs, findIn K (.ref C) x = some none
  iC : findIn K (.ref C) "__init__" = some (some (.ref fI))
  tC : typeIn K (.ref fI) = some (.type "function")
  kC : keepIn K (.ref C) = true
  exC : subIn K (.ref C) (.type "BaseException") = some true
  veC : subIn K (.ref C) (.type "ValueError") = some true
  tyC : typeIn K (.ref C) = some (.type "type")
  seC : mroIn K C (.ref C) = some true
  suC : ks_superIn K C C "__init__" = some (some (.builtin "ValueError.__init__"))
  fn : ∃ (fd : FuncData) (oc : Value) (od : Option Addr) (osl : Array (Option Value)) (cda cc : Addr) (ccl : Value) (cdd : Option Addr) (vs : Array Value) (ccs : Array (Option Value)) (file : Str) (tf : Tok) (cl : Value) (cld : Option Addr) (csl : Array (Option Value)),
    K.lookup fI = some ⟨oc, od, .func fd, osl⟩ ∧ (∃ (ps : List Arg) (doc pm : Value) (an : Option Addr) (ct : Value), fd = ksFn "__init__" qn (prms ps) body (scp xs) .none .none doc pm an (.ref cda) ct cc ∧ ∃ ar, ps.head? = some ar ∧ ar.arg = "self") ∧
    codeIn K (.ref cda) qn = true ∧ K.lookup cda = some ⟨ccl, cdd, .fields vs, ccs⟩ ∧ vs[2]? = some (.str file tf) ∧ ((prog.main.file : Str) == file) = true ∧ K.lookup cc = some ⟨cl, cld, .cell (some (.ref C)), csl⟩ ∧
    ∀ (s : Shared) (us : List Value), us.length = xs.length + 1 → BindsTo s fd ⟨us, []⟩ ((("self" : Str) :: xs).zip us)
theorem call_form {env : Env} {o : Expr} {name : Str} {apos pos : Pos} {msg : Str} {j : Nat} {p3 : Pos} (hl : (apos.endLine == pos.line) = true) :
    eval (.Call (.Attribute o name apos) [.Constant (.str msg) j p3] [] pos) env = (do
      let ov ← attributeBase o name env (eval o env)
      standAt apos.atName
      let (f, first) ← holding [ov] (getMethod ov name (do return (← importBound o env).getD true))
      callWith pos f first (backTo pos (starEach [.Constant (.str msg) j p3] env)) []) := by
  show (do
      let ov ← attributeBase o name env (eval o env)
      standAt apos.atName
      methodCall o name apos pos env ov 1 (backTo pos (starEach [.Constant (.str msg) j p3] env)) []) = _
  have e : ∀ few : Bool, methodCallPos few o env apos pos = pure pos := fun few => by
    unfold methodCallPos
    rw [hl, Bool.or_true, if_pos rfl]
  unfold methodCall
  simp only [e, pure_bind]
  rfl
section
variable {prog : Program} {w : World} {A : Around} {E : Value → Shared → Prop} {R : Result → Shared → Prop} {K : Frag} {mg : Str → Option Value} {C fI : Addr}
/-- super().__init__(msg), self a fresh error of the class at C -/
theorem sup_ok {hp : Heap} {s : Shared} {xs : List Str} {bd : List Stmt} {q : Str} {L f cda cc x t0 : Addr} {m : Str → Option Value} {fd : FuncData} {ar : Arg} {msg : Str} {j : Nat} {p0 p1 p2 p3 p4 p5 : Pos} {Q : Flow → Shared → Prop}
    (W : Wd prog K mg hp) (cls : ∃ nm' q N bs bm sn sub ab col dd k0 k1 k2 k3 k5, K.lookup C = some (excClassObj nm' q C N bs bm true sn sub ab col dd k0 k1 k2 k3 k5 "ValueError.__new__") ∧ refsVE bm = true)
    (xi : excInitIn K C [.type "ValueError", .type "Exception", .type "BaseException", .type "object"] "ValueError.__new__" = true) (veC : subIn K (.ref C) (.type "ValueError") = some true) (seC : mroIn K C (.ref C) = some true)
    (suC : ks_superIn K C C "__init__" = some (some (.builtin "ValueError.__init__")))
    (Fm : Fr hp L s.heap m) (hx : s.heap.get? x = some (excObj C t0 none .none)) (hxL : x ≠ L) (hxn : hp.get? x = none) (hv : m "self" = some (.ref x))
    {oc ccl cl : Value} {od cdd cld : Option Addr} {osl ccs csl : Array (Option Value)} {vs : Array Value} {file : Str} {tf : Tok}
    (hf : K.lookup f = some ⟨oc, od, .func fd, osl⟩) (hpar : (fd.params.posonlyargs ++ fd.params.args).head? = some ar) (har : ar.arg = "self")
    (hcode : K.lookup cda = some ⟨ccl, cdd, .fields vs, ccs⟩) (hvs : vs[2]? = some (.str file tf)) (hfile : ((prog.main.file : Str) == file) = true) (hcell : K.lookup cc = some ⟨cl, cld, .cell (some (.ref C)), csl⟩)
    (hpos : (p2.endLine == p4.line) = true) (hks : (scp xs).names.lookup ("super" : Str) = some .globalImplicit) (hkc : (scp xs).names.lookup ("__class__" : Str) = some .free) (hka : (scp xs).names.lookup ("self" : Str) = some .local)
    (hq : ∀ h' tk t', Fr hp L h' m → h'.get? x = some (excObj C t' none .none) → Q .next { s with heap := h', toks := tk }) :
    _root_.PySem.wpAt (model prog w) A (.func bd (ksEnv q (scp xs) L f (.ref cda) cc)) (exec (supSt msg j p0 p1 p2 p3 p4 p5) (ksEnv q (scp xs) L f (.ref cda) cc)) Q E s := by
  obtain ⟨nm', q', N', bs, bm, sn, sub, ab, col, dd, k0, k1, k2, k3, k5, hC, hbm⟩ := cls
  have X : K.In s.heap := W.kin.keeps Fm.keep
  obtain ⟨mb, hmb, hsup⟩ := W.blt
  have hlr : News hp L s.heap [(x, excObj C t0 none .none)] := fun p hp' => by
    have e : p = (x, excObj C t0 none .none) := by simpa using hp'
    subst e
    exact ⟨hx, hxL, hxn⟩
  have I0 : InstAt s.heap x (excObj C t0 none .none) C none := ⟨hx, rfl, rfl, trivial⟩
  obtain ⟨h0, g, d, tk0, os⟩ := s
  have hCg : h0.get? C = some (excClassObj nm' q' C N' bs bm true sn sub ab col dd k0 k1 k2 k3 k5 "ValueError.__new__") := X _ _ hC
  unfold supSt
  refine ks_wpAt_Expr_any ?_
  refine ks_wpAt_MethodCall ?_ (call_form hpos)
  refine ks_wpAt_super_base (env := ksEnv q (scp xs) L f (.ref cda) cc) hks hkc (by decide) rfl (X _ _ hf) rfl hpar rfl (X _ _ hcode) rfl hvs hfile W.top ?_
  refine ks_loadName_global rfl hks (loadGlobal_builtin (env := ksEnv q (scp xs) L f (.ref cda) cc) (W.glob.keeps Fm.keep) W.sup (hmb.keeps Fm.keep) hsup ⟨rfl, ?_⟩)
  refine wpAny_loadName_free rfl hkc rfl ⟨_, X _ _ hcell, rfl⟩ ?_
  rw [har]
  refine wpAny_loadName_local rfl hka Fm.ns hv ?_
  refine ks_wpAny_isType_cls hCg rfl ⟨rfl, ?_⟩
  refine ks_wpAny_call_super hCg rfl hx rfl (fun c e => nomatch e) (looks_mroIn X seC) (fun h1 e1 k1 => ?_)
  obtain ⟨F1, N1, l1⟩ := ks_newsPush (s := ⟨h0, g, d, tk0, os⟩) Fm hlr rfl e1 k1
  refine kxs_method (odx := none) (s := ⟨h1, g, d, tk0, os⟩) kxs_ValueError F1 W.kin N1 (List.mem_cons_self) ⟨k1 _ _ hx, rfl, rfl, trivial⟩ W.tp suC veC (by decide) (fun u h2 F2 N2 l2 => ?_)
  refine kxs_callWith1 N2 List.mem_cons_self (spliced_cons (Constant_str (k := j) (pos := p3) (spliced_nil ⟨kxs_at N2 List.mem_cons_self, ?_⟩))) rfl rfl
  have n1 : x ≠ h0.objs.size := Nat.ne_of_lt (Heap.lt_size hx)
  have n2 : x ≠ u := Nat.ne_of_lt (l2 (x, excObj C t0 none .none) (.tail _ List.mem_cons_self))
  refine kxs_call (s := ⟨h2, g, d, _, os⟩) (newId := "ValueError.__new__") F2 W.kin N2 F.excBase_ValueError xi List.mem_cons_self (UpdF.tail (Ne.symm n2) (UpdF.tail (Ne.symm n1) (UpdF.head (fun p hp' => nomatch hp')))) (by show 1 ≤ sizeLine; rw [sizeLine_eq]; exact (by decide : 1 ≤ 16777216)) (fun t' h3 F3 N3 l3 => ?_)
  exact hq h3 _ t' F3 (N3 (x, excObj C t' none .none) (.tail _ (.tail _ (.tail _ List.mem_cons_self)))).1
/-- the first value kept -/
theorem fld_new {hp : Heap} {s : Shared} {q : Str} {xs : List Str} {L f cc x t0 : Addr} {cd : Value} {m : Str → Option Value} {y : Str} {v : Value} {p0 p1 p2 p3 : Pos} {Q : Flow → Shared → Prop}
    (W : Wd prog K mg hp) (cls : ∃ nm' q N bs bm sn sub ab col dd k0 k1 k2 k3 k5, K.lookup C = some (excClassObj nm' q C N bs bm true sn sub ab col dd k0 k1 k2 k3 k5 "ValueError.__new__") ∧ refsVE bm = true)
    (sa : findIn K (.ref C) "__setattr__" = some (some (.builtin "object.__setattr__"))) (nx : findIn K (.ref C) y = some none)
    (Fm : Fr hp L s.heap m) (hx : s.heap.get? x = some (excObj C t0 none .none)) (hxL : L ≠ x) (hxn : hp.get? x = none) (hv : m "self" = some (.ref x)) (hy : m y = some v) (sc : ScOk xs) (hyx : y ∈ xs)
    (hq : ∀ h' tk dx, Fr hp L h' m → h'.get? x = some (excObj C t0 (some dx) .none) → s.heap.objs.size ≤ dx → dx ≠ x → h'.Ns1 dx (fun z => if z = y then some v else none) → Q .next { s with heap := h', toks := tk }) :
    wpAny (model prog w) A (exec (fldSt y p0 p1 p2 p3) (ksEnv q (scp xs) L f cd cc)) Q E s := by
  obtain ⟨nm', q', N', bs, bm, sn, sub, ab, col, dd, k0, k1, k2, k3, k5, hC, hbm⟩ := cls
  have hcl : clsIn K C = some { name := nm', bases := bs, mro := .ref C :: bm, ns := N', qualname := q', hasDict := true, slotNames := sn, subclasses := sub, abstract := ab, collection := col, hasDel := false } := by
    unfold clsIn
    rw [hC] <;> rfl
  have X : K.In s.heap := W.kin.keeps Fm.keep
  refine plainObj_wpAny_Assign_Attribute ?_
  refine wpAny_Name (wpAny_loadName_local rfl (sc.lo y hyx) Fm.ns hy ?_) (sc.db y hyx)
  refine wpAny_Name (wpAny_loadName_local rfl sc.se Fm.ns hv ?_) (by decide)
  refine set_plain X (ox := excObj C t0 none .none) (od := none) ⟨hx, rfl, rfl, trivial⟩ sa ?_
  refine exc_osa X hx hcl (show refsVE (.ref C :: bm) = true from hbm) rfl nx (fun h3 tk3 dx k3 dn dne hx3 hn3 => ?_)
  obtain ⟨oL, es, ep, hL, r⟩ := Fm.ns
  exact hq h3 tk3 dx ⟨⟨oL, es, ep, k3 _ _ hxL hL, r⟩, fun b o z => k3 b o (fun e => by rw [e, hxn] at z; cases z) (Fm.keep b o z), Fm.above⟩ hx3 dn dne hn3
/-- one more -/
theorem fld_old {hp : Heap} {s : Shared} {q : Str} {xs : List Str} {L f cc x t0 dx : Addr} {cd : Value} {m m0 : Str → Option Value} {nl : List Str} {y : Str} {v : Value} {p0 p1 p2 p3 : Pos} {Q : Flow → Shared → Prop}
    (W : Wd prog K mg hp) (cls : ∃ nm' q N bs bm sn sub ab col dd k0 k1 k2 k3 k5, K.lookup C = some (excClassObj nm' q C N bs bm true sn sub ab col dd k0 k1 k2 k3 k5 "ValueError.__new__") ∧ refsVE bm = true)
    (sa : findIn K (.ref C) "__setattr__" = some (some (.builtin "object.__setattr__"))) (nx : findIn K (.ref C) y = some none)
    (Fm : Fr hp L s.heap m) (hx : s.heap.get? x = some (excObj C t0 (some dx) .none)) (hd : dx ≠ x) (hdL : L ≠ dx) (hdn : hp.get? dx = none) (hns : s.heap.Ns1 dx m0) (hw : Within m0 nl) (hz : nl.length ≤ 1000)
    (hv : m "self" = some (.ref x)) (hy : m y = some v) (sc : ScOk xs) (hyx : y ∈ xs)
    (hq : ∀ h' tk, Fr hp L h' m → h'.get? x = some (excObj C t0 (some dx) .none) → h'.Ns1 dx (fun z => if z = y then some v else m0 z) → Q .next { s with heap := h', toks := tk }) :
    wpAny (model prog w) A (exec (fldSt y p0 p1 p2 p3) (ksEnv q (scp xs) L f cd cc)) Q E s := by
  obtain ⟨nm', q', N', bs, bm, sn, sub, ab, col, dd, k0, k1, k2, k3, k5, hC, hbm⟩ := cls
  have hcl : clsIn K C = some { name := nm', bases := bs, mro := .ref C :: bm, ns := N', qualname := q', hasDict := true, slotNames := sn, subclasses := sub, abstract := ab, collection := col, hasDel := false } := by
    unfold clsIn
    rw [hC] <;> rfl
  have X : K.In s.heap := W.kin.keeps Fm.keep
  obtain ⟨oD, esD, epD, hoD, _, _⟩ := hns.count hw
  refine plainObj_wpAny_Assign_Attribute ?_
  refine wpAny_Name (wpAny_loadName_local rfl (sc.lo y hyx) Fm.ns hy ?_) (sc.db y hyx)
  refine wpAny_Name (wpAny_loadName_local rfl sc.se Fm.ns hv ?_) (by decide)
  refine set_plain X (ox := excObj C t0 (some dx) .none) (od := some oD) ⟨hx, rfl, rfl, hoD⟩ sa ?_
  refine OEX.osa_old X hx hns hw hz hcl (show refsVE (.ref C :: bm) = true from hbm) rfl nx (fun h3 tk3 k3 hn3 => ?_)
  obtain ⟨oL, es, ep, hL, r⟩ := Fm.ns
  exact hq h3 tk3 ⟨⟨oL, es, ep, k3 _ _ hdL hL, r⟩, fun b o z => k3 b o (fun e => by rw [e, hdn] at z; cases z) (Fm.keep b o z), Fm.above⟩ (k3 _ _ (Ne.symm hd) hx) hn3
/-- a made error -/
structure OwnMade (h h' : Heap) (e C d : Addr) (mA : Str → Option Value) : Prop where
  keep : ∀ b o, h.get? b = some o → h'.get? b = some o
  new : h.objs.size ≤ e
  obj : ∃ oe vs, h'.get? e = some oe ∧ oe.cls = .ref C ∧ oe.dict = some d ∧ oe.data = .fields vs ∧ vs[1]? = some .none ∧ vs[2]? = some .none
  dbig : h.objs.size ≤ d
  dne : d ≠ e
  ns : h'.Ns1 d mA
def Body1 (y : Str) (body : List Stmt) : Prop := ∃ (msg : Str) (j : Nat) (p0 p1 p2 p3 p4 p5 q0 q1 q2 q3 : Pos), body = [supSt msg j p0 p1 p2 p3 p4 p5, fldSt y q0 q1 q2 q3] ∧ (p2.endLine == p4.line) = true
def Body2 (y z : Str) (body : List Stmt) : Prop := ∃ (msg : Str) (j : Nat) (p0 p1 p2 p3 p4 p5 q0 q1 q2 q3 r0 r1 r2 r3 : Pos), body = [supSt msg j p0 p1 p2 p3 p4 p5, fldSt y q0 q1 q2 q3, fldSt z r0 r1 r2 r3] ∧ (p2.endLine == p4.line) = true
theorem look_self {x v : Value} {y : Str} (h : (("self" : Str) == y) = false) : List.lookup ("self" : Str) [(y, v), (("self" : Str), x)] = some x := by
  rw [List.lookup_cons, h, List.lookup_cons, beq_self_eq_true]
theorem look_one {x v : Value} {y : Str} : List.lookup y [(y, v), (("self" : Str), x)] = some v := by
  rw [List.lookup_cons, beq_self_eq_true]
theorem made1 {nm qn y : Str} {body : List Stmt} {s : Shared} {v : Value} (T : ErTxt prog K mg nm qn C fI [y] body) (B : Body1 y body) (sc : ScOk [y]) (W : Wd prog K mg s.heap) (hroom : A.depth + 1 < recursionLimit)
    (hq : ∀ h' tk e d, OwnMade s.heap h' e C d (fun z => if z = y then some v else none) → R (.ok (.ret (.ref e))) { s with heap := h', toks := tk }) :
    codeAny (model prog w) A (.call (.ref C) ⟨[v], []⟩) R s := by
  have cls := T.cls
  obtain ⟨nm', q', N', bs, bm, sn, sub, ab, col, dd, k0, k1, k2, k3, k5, hC, hbm⟩ := id cls
  obtain ⟨fd, oc, od, osl, cda, cc, ccl, cdd, vs, ccs, file, tf, cl, cld, csl, hf, ⟨ps, doc, pm, an, ct, efd, ar, har, hself⟩, hcd, hcode, hvs, hfile, hcell, hbind⟩ := T.fn
  obtain ⟨msg, j, p0, p1, p2, p3, p4, p5, q0, q1, q2, q3, eb, hpos⟩ := B
  obtain ⟨hp, g, dr, tk, os⟩ := s
  have W0 : Wd prog K mg hp := W
  have k : ∀ b o, hp.get? b = some o → ((hp.push (kdv_tup [v])).push (excO C hp.objs.size)).get? b = some o := fun b o e => Heap.get?_push_of_some _ (Heap.get?_push_of_some _ e)
  have hget : ((hp.push (kdv_tup [v])).push (excO C hp.objs.size)).get? (hp.objs.size + 1) = some (excObj C hp.objs.size none .none) := by heap_get
  have hz : ((hp.push (kdv_tup [v])).push (excO C hp.objs.size)).objs.size = hp.objs.size + 2 := by rw [Heap.size_push, Heap.size_push]
  have W1 := W0.keeps k
  refine call_own F.excBase_ValueError (fun X => refsVE_contains X bm hbm) (W0.kin _ _ hC) (looks_findIn W0.kin T.iC) (fun self => bind_fn W0.kin self T.tC) (by show 1 ≤ sizeLine; rw [sizeLine_eq]; exact (by decide : 1 ≤ 16777216)) ?_
  subst efd
  refine ks_codeAny_call_defAt (binds := [("self", .ref (hp.objs.size + 1)), (y, v)]) (body := body) (by show A.depth + 1 < recursionLimit; exact hroom) (W1.kin _ _ hf) rfl W1.lim (codeRec_of W1.kin hcd) rfl (hbind _ [.ref (hp.objs.size + 1), v] rfl) sc.nc (fun x hx => ?_) (fun h1 hns k1 => ?_)
  · rcases List.mem_cons.mp hx with rfl | hx
    · exact sc.se
    · rcases List.mem_cons.mp hx with rfl | hx
      · exact sc.lo _ List.mem_cons_self
      · exact nomatch hx
  · subst eb
    have F1 : Fr hp ((hp.push (kdv_tup [v])).push (excO C hp.objs.size)).objs.size h1 (fun z => List.lookup z [(y, v), (("self" : Str), .ref (hp.objs.size + 1))]) := ⟨hns, fun b o e => k1 b o (k b o e), by rw [hz]; omega⟩
    have hx1 := k1 _ _ hget
    have hz2 : hp.objs.size ≤ ((hp.push (kdv_tup [v])).push (excO C hp.objs.size)).objs.size := by
      rw [hz]
      omega
    have nL : hp.objs.size + 1 ≠ ((hp.push (kdv_tup [v])).push (excO C hp.objs.size)).objs.size := by
      rw [hz]
      omega
    have hxn : hp.get? (hp.objs.size + 1) = none := Heap.get?_none_of_le (by omega)
    refine ks_wpAt_execs_cons (sup_ok (fd := ksFn "__init__" qn (prms ps) _ (scp [y]) .none .none doc pm an (.ref cda) ct cc) (ar := ar) W0 cls T.xi T.veC T.seC T.suC F1 hx1 nL hxn (look_self (sc.ne _ List.mem_cons_self)) hf (by exact har) hself hcode hvs hfile hcell hpos sc.su sc.cc sc.se (fun h2 tk2 t2 F2 hx2 => ?_))
    refine _root_.PySem.wpAt_of_wpAny (wpAny_execs_cons (fld_new W0 cls T.sa (T.nx _ List.mem_cons_self) F2 hx2 nL.symm hxn (look_self (sc.ne _ List.mem_cons_self)) look_one sc List.mem_cons_self (fun h3 tk3 dx F3 hx3 dn dne hn3 => ?_)))
    refine wpAny_execs_nil ⟨rfl, hq h3 tk3 (hp.objs.size + 1) dx ⟨F3.keep, Nat.le_succ _, ⟨_, _, hx3, rfl, rfl, rfl, rfl, rfl⟩, Nat.le_trans hz2 (Nat.le_of_lt (Nat.lt_of_lt_of_le F2.ns.lt dn)), dne, hn3⟩⟩
theorem look_self2 {x v u : Value} {y z : Str} (h : (("self" : Str) == y) = false) (h2 : (("self" : Str) == z) = false) : List.lookup ("self" : Str) [(z, u), (y, v), (("self" : Str), x)] = some x := by
  rw [List.lookup_cons, h2]
  exact look_self h
theorem look_two {x v u : Value} {y z : Str} (h : (y == z) = false) : List.lookup y [(z, u), (y, v), (("self" : Str), x)] = some v := by
  rw [List.lookup_cons, h]
  exact look_one
theorem look_three {x v u : Value} {y z : Str} : List.lookup z [(z, u), (y, v), (("self" : Str), x)] = some u := by
  rw [List.lookup_cons, beq_self_eq_true]
theorem made2 {nm qn y z : Str} {body : List Stmt} {s : Shared} {v u : Value} (T : ErTxt prog K mg nm qn C fI [y, z] body) (B : Body2 y z body) (sc : ScOk [y, z]) (hyz : (y == z) = false) (W : Wd prog K mg s.heap) (hroom : A.depth + 1 < recursionLimit)
    (hq : ∀ h' tk e d, OwnMade s.heap h' e C d (fun x => if x = z then some u else if x = y then some v else none) → R (.ok (.ret (.ref e))) { s with heap := h', toks := tk }) :
    codeAny (model prog w) A (.call (.ref C) ⟨[v, u], []⟩) R s := by
  have cls := T.cls
  obtain ⟨nm', q', N', bs, bm, sn, sub, ab, col, dd, k0, k1, k2, k3, k5, hC, hbm⟩ := id cls
  obtain ⟨fd, oc, od, osl, cda, cc, ccl, cdd, vs, ccs, file, tf, cl, cld, csl, hf, ⟨ps, doc, pm, an, ct, efd, ar, har, hself⟩, hcd, hcode, hvs, hfile, hcell, hbind⟩ := T.fn
  obtain ⟨msg, j, p0, p1, p2, p3, p4, p5, q0, q1, q2, q3, r0, r1, r2, r3, eb, hpos⟩ := B
  obtain ⟨hp, g, dr, tk, os⟩ := s
  have W0 : Wd prog K mg hp := W
  have ys := sc.ne y List.mem_cons_self
  have zs := sc.ne z (.tail _ List.mem_cons_self)
  have k : ∀ b o, hp.get? b = some o → ((hp.push (kdv_tup [v, u])).push (excO C hp.objs.size)).get? b = some o := fun b o e => Heap.get?_push_of_some _ (Heap.get?_push_of_some _ e)
  have hget : ((hp.push (kdv_tup [v, u])).push (excO C hp.objs.size)).get? (hp.objs.size + 1) = some (excObj C hp.objs.size none .none) := by heap_get
  have hz : ((hp.push (kdv_tup [v, u])).push (excO C hp.objs.size)).objs.size = hp.objs.size + 2 := by rw [Heap.size_push, Heap.size_push]
  have W1 := W0.keeps k
  refine call_own F.excBase_ValueError (fun X => refsVE_contains X bm hbm) (W0.kin _ _ hC) (looks_findIn W0.kin T.iC) (fun self => bind_fn W0.kin self T.tC) (by show 2 ≤ sizeLine; rw [sizeLine_eq]; exact (by decide : 2 ≤ 16777216)) ?_
  subst efd
  refine ks_codeAny_call_defAt (binds := [("self", .ref (hp.objs.size + 1)), (y, v), (z, u)]) (body := body) (by show A.depth + 1 < recursionLimit; exact hroom) (W1.kin _ _ hf) rfl W1.lim (codeRec_of W1.kin hcd) rfl (hbind _ [.ref (hp.objs.size + 1), v, u] rfl) sc.nc (fun x hx => ?_) (fun h1 hns k1 => ?_)
  · rcases List.mem_cons.mp hx with rfl | hx
    · exact sc.se
    · rcases List.mem_cons.mp hx with rfl | hx
      · exact sc.lo _ List.mem_cons_self
      · rcases List.mem_cons.mp hx with rfl | hx
        · exact sc.lo _ (.tail _ List.mem_cons_self)
        · exact nomatch hx
  · subst eb
    have F1 : Fr hp ((hp.push (kdv_tup [v, u])).push (excO C hp.objs.size)).objs.size h1 (fun x => List.lookup x [(z, u), (y, v), (("self" : Str), .ref (hp.objs.size + 1))]) := ⟨hns, fun b o e => k1 b o (k b o e), by rw [hz]; omega⟩
    have hx1 := k1 _ _ hget
    have hz2 : hp.objs.size ≤ ((hp.push (kdv_tup [v, u])).push (excO C hp.objs.size)).objs.size := by
      rw [hz]
      omega
    have nL : hp.objs.size + 1 ≠ ((hp.push (kdv_tup [v, u])).push (excO C hp.objs.size)).objs.size := by
      rw [hz]
      omega
    have hxn : hp.get? (hp.objs.size + 1) = none := Heap.get?_none_of_le (by omega)
    refine ks_wpAt_execs_cons (sup_ok (fd := ksFn "__init__" qn (prms ps) _ (scp [y, z]) .none .none doc pm an (.ref cda) ct cc) (ar := ar) W0 cls T.xi T.veC T.seC T.suC F1 hx1 nL hxn (look_self2 ys zs) hf (by exact har) hself hcode hvs hfile hcell hpos sc.su sc.cc sc.se (fun h2 tk2 t2 F2 hx2 => ?_))
    refine _root_.PySem.wpAt_of_wpAny (wpAny_execs_cons (fld_new W0 cls T.sa (T.nx _ List.mem_cons_self) F2 hx2 nL.symm hxn (look_self2 ys zs) (look_two hyz) sc List.mem_cons_self (fun h3 tk3 dx F3 hx3 dn dne hn3 => ?_)))
    have dn' : hp.objs.size ≤ dx := Nat.le_trans hz2 (Nat.le_of_lt (Nat.lt_of_lt_of_le F2.ns.lt dn))
    have dL := Nat.lt_of_lt_of_le F2.ns.lt dn
    refine wpAny_execs_cons (fld_old (nl := [y]) W0 cls T.sa (T.nx _ (.tail _ List.mem_cons_self)) F3 hx3 dne (Nat.ne_of_lt dL) (Heap.get?_none_of_le dn') hn3 (fun x hx => ?_) (Nat.le_of_lt (by show 1 < 1000; decide)) (look_self2 ys zs) look_three sc (.tail _ List.mem_cons_self) (fun h4 tk4 F4 hx4 hn4 => ?_))
    · by_cases e : x = y
      · rw [e]
        exact List.mem_cons_self
      · rw [if_neg e] at hx
        exact absurd rfl hx
    · refine wpAny_execs_nil ⟨rfl, hq h4 tk4 (hp.objs.size + 1) dx ⟨F4.keep, Nat.le_succ _, ⟨_, _, hx4, rfl, rfl, rfl, rfl, rfl⟩, dn', dne, hn4⟩⟩
end
end ErX
end PySem
/-! Within an except suite: a def that is told the caught error reads its class and its values; a list of truths is sieved there. -/
namespace PySem
namespace HotY
open PySem.W PySem.Calls PyProof.Rows HotX
section
variable {prog : Program} {w : World} {A : Around} {E : Value → Shared → Prop} {s : Shared}
/-- a list's walk ends while an error is handled -/
theorem list_end {it l x1 : Addr} {i : Nat} {items : Array Value} {Q : Option Value → Shared → Prop} (hot : HotAt A x1 s.heap) (hne : x1 ≠ it) (hit : s.heap.IsListIter it l i) (hl : s.heap.IsList l items) (hx : items[i]? = none)
    (hQ : ∀ h', Heap.ExtBut it s.heap h' → Q none { s with heap := h' }) : wpAny (model prog w) A (pyNext (.ref it)) Q E s := by
  have hty := hit.typeIs
  obtain ⟨o, ho, hc, hd⟩ := id hit
  obtain ⟨ol, hol, hlc, nl, hdl⟩ := hl
  obtain ⟨hh, o1, vs1, h1, d1, c1⟩ := hot
  unfold pyNext
  refine wpAny_bind (wpAny_attempt (wpAny_callSpecial?_slot (name := Str.ofString "__next__") hty slot_listiter_next (wpAny_call_entry slot_listiter_next hty entry_listiter_next ?_ (args_listiter_next _))))
  show wpAny _ _ (field (.ref it) 0 >>= _) _ _ s
  refine wpAny_bind (wpAny_field ho hd (x := .ref l) rfl ?_)
  show wpAny _ _ (if (Value.ref l == Value.none) = true then _ else _) _ _ s
  rw [if_neg (fun z : (Value.ref l == Value.none) = true => Bool.false_ne_true z)]
  show wpAny _ _ (field (.ref it) 1 >>= _) _ _ s
  refine wpAny_bind (wpAny_field ho hd (x := .int i 0) rfl ?_)
  show wpAny _ _ (seqItems? (.ref l) >>= _) _ _ s
  refine wpAny_bind (wpAny_seqItems hol hdl ?_)
  simp only [Int.toNat_natCast, hx]
  refine wpAny_bind (wpAny_rule (wpAny_bind (wpAny_setField ho hd (by simp) ?_)))
  generalize hH : s.heap.update it _ = H1
  have kH : ∀ b o, b ≠ it → s.heap.get? b = some o → H1.get? b = some o := fun b o hb e => by
    rw [← hH, Heap.get?_update_other _ _ (Ne.symm hb)]
    exact e
  have g1 := kH _ _ hne h1
  show wpAny _ _ (newExc (.type "StopIteration") [] >>= _) _ _ _
  refine wpAny_bind ?_
  simp only [newExc, newTuple]
  refine wpAny_bind (wpAny_newObj_type ?_ (by size_fits))
  refine wpAny_bind (m := firstArgMember _ _) (wpAny_of_eq (a := Value.none) (by first | rfl | (simp only [firstArgMember]; rfl)) ?_)
  refine wpAny_newObj_type ?_ (by size_fits)
  refine raiseNew_hot (x1 := x1) ⟨hh, o1, vs1, Heap.get?_push_of_some _ (Heap.get?_push_of_some _ g1), d1, c1⟩ (Nat.ne_of_lt (Heap.lt_size (Heap.get?_push_of_some _ g1))) (Heap.get?_push_size _ rfl) rfl
    (by first | (simp; done) | (simp; omega) | (simp only [Array.size_append]; simp; omega)) ?_
  refine wpAny_bind (wpAny_isInstance (T := "StopIteration") (b := true) ⟨_, Heap.get?_update_self _ (Heap.get?_push_size _ rfl) rfl, rfl⟩ isSubtype_stop (wpAny_pure (hQ _ fun b ob hb e => ?_)))
  have e1 := kH b ob hb e
  rw [Heap.get?_update_other _ _ (Nat.ne_of_gt (Heap.lt_size (Heap.get?_push_of_some _ e1)))]
  exact Heap.get?_push_of_some _ (Heap.get?_push_of_some _ e1)
/-- the error handled stands, its context None -/
def HotO (x1 : Addr) (h : Heap) : Prop := ∃ (o : Obj) (vs : Array Value), h.get? x1 = some o ∧ o.data = .fields vs ∧ vs[2]? = some .none
theorem HotO.at {x1 : Addr} {h h' : Heap} (k : HotO x1 h) (e : ∀ o, h.get? x1 = some o → h'.get? x1 = some o) : HotO x1 h' := let ⟨o, vs, a, b, c⟩ := k; ⟨o, vs, e o a, b, c⟩
theorem goes_hot {target : Expr} {x1 : Addr} (hh : A.handled = some (.ref x1)) (I l : Addr) (hne : l ≠ I) (hx : x1 ≠ I) (items : Array Value) :
    Goes prog w A target I [I, l, x1] [I] items.size (fun i v _ => items[i]? = some v) (fun i h => h.IsListIter I l i ∧ h.IsList l items ∧ HotO x1 h) := by
  have W : Walks prog w A I [I, l, x1] [I] items.size (fun i v => items[i]? = some v) (fun i h => h.IsListIter I l i ∧ h.IsList l items ∧ HotO x1 h) :=
    { sub := fun b hb => by simp at hb; simp [hb]
      frame := fun _ _ _ st hk => ⟨st.1.at fun o e => hk I (by simp) o e, st.2.1.at fun o e => hk l (by simp) o e, st.2.2.at fun o e => hk x1 (by simp) o e⟩
      item := fun i s Q E hi st hQ => by
        refine wpAny_pyNext_list_item st.1 st.2.1 (x := items[i]) (by simp [hi]) fun h' hit' hs' => ?_
        exact hQ _ h' s.toks (by simp [hi]) ⟨hit', st.2.1.extBut hs'.extBut hne, st.2.2.at fun o e => hs'.extBut _ o hx e⟩ fun b o hb e => hs'.extBut b o (fun h => hb (by simp [h])) e
      done := fun s Q E st hQ => list_end ⟨hh, st.2.2⟩ hx st.1 st.2.1 (by simp) fun h' he' => hQ h' s.toks fun b o hb e => he' b o (fun h => hb (by simp [h])) e
      self := fun _ _ _ _ st hQ => wpAny_pyIter_listiter st.1 hQ }
  refine .ofWalks W fun i v s Q E st q => ?_
  obtain ⟨o, ho, hc, hd⟩ := st.1
  exact letGo_of_cls ho hc hd (by decide) q
theorem off1 {b N C D : Nat} (hb : b < N ∨ b = C) (hC : N + 1 ≤ C) (hD : N + 1 ≤ D) (h : D ≠ C) : ¬ (b = D ∨ b = N) := by omega
theorem ne1 {b N C : Nat} (hb : b < N + 1) (hC : N + 1 ≤ C) : b ≠ C := by omega
theorem lt1 {b N l x : Nat} (h : l < N) (hx : x < N) (hb : b = N ∨ b = l ∨ b = x) : b < N + 1 := by omega
/-- the truths of a list, in order -/
def truths (xs : List Value) : List Value := xs.filter fun v => match v with
  | .bool true => true
  | _ => false
theorem truths_one (b : Bool) : truths [Value.bool b] = if b = true then [Value.bool b] else [] := by cases b <;> rfl
theorem truths_more (xs : List Value) (v : Value) : truths (xs ++ [v]) = truths xs ++ truths [v] := List.filter_append ..
/-- [y for y in z if y] within a suite, z a list of bools -/
theorem sieve_raw {env : Env} {scope : Scope} {cl : List (Str × Addr)} {y z : Str} {l x1 : Addr} {xs : Array Value} {m : Str → Option Value} {pa pe pt pi pos : Pos} {Q : Value → Shared → Prop} (hot : HotAt A x1 s.heap) (hk : env.scope.kind = .function)
    (hclos : closureFor scope env = pure cl) (hcell : ∀ u ∈ scope.names, u.2 ≠ .cell) (hkind : scope.kind = .function) (hnames : ∀ u ∈ scope.names, u.2 = .local → scope.names.lookup u.1 = some .local)
    (hx : scope.names.lookup y = some .local) (hyd : (y == ("__debug__" : Str)) = false) (hzd : (z == ("__debug__" : Str)) = false) (hxs : env.kindOf z = some .local) (hn : s.heap.Ns env.locals m) (hm : m z = some (.ref l)) (hl : s.heap.IsList l xs) (hsz : xs.size ≤ sizeLine)
    (hb : ∀ (i : Nat) (v : Value), xs[i]? = some v → ∃ b, v = .bool b)
    (h : ∀ D h' tk (vs : List Value), s.heap.objs.size ≤ D → h'.PlainList D vs.toArray → vs = truths xs.toList → (∀ b o, s.heap.get? b = some o → h'.get? b = some o) → Q (.ref D) { s with heap := h', toks := tk }) :
    wpAny (model prog w) A (eval (.ListComp (.Name y pe) [⟨.Name y pa, .Name z pi, [.Name y pt], 0⟩] scope pos) env) Q E s := by
  obtain ⟨hh, hot0⟩ := hot
  have hlt : (l : Nat) < s.heap.objs.size := by
    obtain ⟨o, ho, _⟩ := hl
    exact Heap.lt_size ho
  have hxlt : (x1 : Nat) < s.heap.objs.size := by
    obtain ⟨o, vs, ho, _⟩ := hot0
    exact Heap.lt_size ho
  refine ListComp_goes hclos hcell hkind hnames ?_ (fun _ => rfl)
  rw [eval_Name _ _ _ hzd]
  refine wpAny_bind (wpAny_standAt (wpAny_loadName_local hk hxs hn hm ?_))
  refine wpAny_pyIter_list hl ?_
  refine ⟨_, _, _, _, _, _, rfl, goes_hot hh s.heap.objs.size l (Nat.ne_of_lt hlt) (Nat.ne_of_lt hxlt) xs, hsz, ⟨⟨_, Heap.get?_push_size _ rfl, rfl, rfl⟩, hl.push _, HotO.at hot0 fun o e => Heap.get?_push_of_some _ e⟩, ?_, fun D C s₃ hB => ?_⟩
  · intro b hb
    show b < (s.heap.push _).objs.size
    rw [Heap.size_push]
    exact lt1 hlt hxlt (by simpa using hb)
  · obtain ⟨⟨h₃, tk₃, rfl⟩, old, nD, nC, hDC, hnm⟩ := hB
    have nC' : (s.heap.objs.size + 1 : Nat) ≤ C := by
      have q : (s.heap.push { cls := .type "list_iterator", data := .fields #[.ref l, .int 0 0] }).objs.size ≤ C := nC
      rw [Heap.size_push] at q
      exact q
    have nD' : (s.heap.objs.size + 1 : Nat) ≤ D := by
      have q : (s.heap.push { cls := .type "list_iterator", data := .fields #[.ref l, .int 0 0] }).objs.size ≤ D := nD
      rw [Heap.size_push] at q
      exact q
    have hDC' : (D : Nat) ≠ C := hDC
    have kx : (compEnvC scope cl C env).kindOf y = some .local := lookup_relabel_local hx
    have hp : ((compEnvC scope cl C env).scope.kind == .class || ((compEnvC scope cl C env).scope.kind == .module && (compEnvC scope cl C env).locals != (compEnvC scope cl C env).globals)) = false := by
      show (scope.kind == .class || (scope.kind == .module && _)) = false
      rw [hkind]; rfl
    refine ⟨fun i vs s₁ => ∃ h' tk m, s₁ = { s with heap := h', toks := tk } ∧ h'.Ns C m ∧ vs = truths (xs.toList.take i) ∧ ∀ b o, s.heap.get? b = some o → h'.get? b = some o, ⟨h₃, tk₃, _, rfl, hnm, by simp [truths], fun b o e => old b o (Heap.get?_push_of_some _ e)⟩, ?_, ?_, ?_⟩
    · rintro i vs s₁ h' tk ⟨h₄, tk₄, m, rfl, n₄, e₄, k₄⟩ hk' _
      have off : ∀ b : Addr, (b < s.heap.objs.size ∨ b = C) → b ∉ D :: [s.heap.objs.size] := fun b hb hm => off1 hb nC' nD' hDC' (by simpa using hm)
      exact ⟨h', tk, m, rfl, n₄.at' fun o e => hk' _ o (off _ (.inr rfl)) e, e₄, fun b o e => hk' b o (off _ (.inl (Heap.lt_size e))) (k₄ b o e)⟩
    · rintro i v vs s₁ hi hv st ⟨h₄, tk₄, m, rfl, n₄, e₄, k₄⟩ hpl
      have q : xs.toList[i]? = some v := by simpa using hv
      have tk1 : xs.toList.take (i + 1) = xs.toList.take i ++ [v] := by simp [List.take_add_one, q]
      obtain ⟨bo, rfl⟩ := hb i v hv
      refine wpAny_assign_Name (wpAny_storeName_local kx n₄ (fun h₅ n₅ s₅ => ?_) hp)
      have offC : ∀ b : Addr, b < s.heap.objs.size + 1 → b ≠ C := fun b hb => ne1 hb nC'
      refine wpAny_tests_one ?_
      show wpAny _ _ (do let v ← eval (.Name y pt) _; standAt _; holding [v] (truthy v)) _ _ _
      rw [eval_Name _ _ _ hyd]
      refine wpAny_bind (wpAny_bind (wpAny_standAt (wpAny_loadName_local hkind kx n₅ (v := .bool bo) (if_pos rfl) ?_)))
      refine wpAny_bind (wpAny_standAt (wpAny_holding (wpAny_truthy_bool ?_)))
      have st5 : (h₅.IsListIter s.heap.objs.size l (i + 1) ∧ h₅.IsList l xs ∧ HotO x1 h₅) := ⟨st.1.at fun o e => s₅.extBut _ o (offC _ (Nat.lt_succ_self _)) e, st.2.1.at fun o e => s₅.extBut _ o (offC _ (Nat.lt_succ_of_lt hlt)) e, st.2.2.at fun o e => s₅.extBut _ o (offC _ (Nat.lt_succ_of_lt hxlt)) e⟩
      have k5 : ∀ b o, s.heap.get? b = some o → h₅.get? b = some o := fun b o e => s₅.extBut b o (offC b (Nat.lt_succ_of_lt (Heap.lt_size e))) (k₄ b o e)
      have pl5 := hpl.at fun o e => s₅.extBut _ o hDC e
      cases bo with
      | true =>
        rw [if_pos rfl, eval_Name _ _ _ hyd]
        refine wpAny_bind (wpAny_standAt (wpAny_loadName_local hkind kx n₅ (v := .bool true) (if_pos rfl) ?_))
        refine ⟨⟨h₅, _, _, rfl, n₅, ?_, k5⟩, st5, pl5⟩
        rw [tk1, truths_more, e₄] <;> rfl
      | false =>
        rw [if_neg Bool.false_ne_true]
        refine ⟨⟨h₅, _, _, rfl, n₅, ?_, k5⟩, st5, pl5⟩
        rw [tk1, truths_more, e₄]
        show _ = _ ++ []
        rw [List.append_nil]
    · rintro vs s₁ ⟨h₄, tk₄, m, rfl, n₄, e₄, k₄⟩ hpl
      refine ⟨m, n₄, fun h' hs' => h D h' tk₄ vs (Nat.le_trans (Nat.le_succ _) nD') (hpl.extBut hs'.extBut hDC) (by rw [e₄]; congr 1; exact List.take_of_length_le (by simp)) fun b o e => hs'.extBut b o (ne1 (Nat.lt_succ_of_lt (Heap.lt_size e)) nC') (k₄ b o e)⟩
end
end HotY
end PySem
/-! Within an except suite, over the layer: the caught error p, of the class at D, its dict at d. -/
namespace ErY
open PySem PySem.Spec PyProof.Rows L2 L2H
/-- what an error class says, for isinstance and for its instances' values -/
structure ErC (K : PySem.W.Frag) (D : Addr) : Prop where
  cl : (PySem.W.clsIn K D).isSome = true
  ga : PySem.W.findIn K (.ref D) "__getattribute__" = some (some (.builtin "BaseException.__getattribute__"))
  gg : PySem.W.findIn K (.ref D) "__getattr__" = some none
  ex : PySem.W.subIn K (.ref D) (.type "BaseException") = some true
  hd : PySem.W.hasDictIn K D = true
  ca : PySem.W.findIn K (.ref D) "__class__" = some (some (.builtin "object.__class__"))
  cg : PySem.W.specialIn K (.builtin "object.__class__") "__get__" = some (some (.builtin "getset_descriptor.__get__"))
  ct : PySem.W.takesIn K (.builtin "object.__class__") = some true
  mo : PySem.W.mroIn K D (.type "object") = some true
/-- the error p is pinned where X runs -/
structure Pin (X : Cx) (p : Addr × Obj) (D : Addr) (d : Option Addr) : Prop where
  mem : p ∈ X.pn
  zc : Zc (.ref D) d p.2
  dat : ∃ vs, p.2.data = .fields vs
/-- the dict of the error holds these -/
def Held (H : Hp) (d : Option Addr) (fs : List (Str × V)) : Prop := (d = none ∧ fs = []) ∨ ∃ dd, d = some dd ∧ H dd = some (.xd fs)
section
variable {X : Cx} {p : Addr × Obj} {D : Addr} {d : Option Addr}
theorem Pin.inst {pins : List (Addr × Obj)} {σ : L2.St} {H : Hp} {s : Shared} {fs : List (Str × V)} (P : Pin X p D d) (I : Inv X pins σ H s) (h : Held H d fs) : ∃ od, PySem.W.InstAt s.heap p.1 p.2 D od := by
  obtain ⟨hget, _⟩ := I.pin p (List.mem_append_left _ P.mem)
  obtain ⟨vs, hv⟩ := P.dat
  obtain ⟨h1, h2⟩ := P.zc
  have nc : PySem.W.notCls p.2 = true := by
    unfold PySem.W.notCls
    rw [hv] <;> rfl
  rcases h with ⟨e, _⟩ | ⟨dd, e, hd⟩
  · exact ⟨none, hget, h1, nc, by rw [h2, e]; trivial⟩
  · have hx : ObjOk X.prog X.w H s.heap dd (.xd fs) := I.hok dd _ hd
    obtain ⟨mA, hns, hr⟩ := hx
    obtain ⟨od, ho, hl⟩ := lookIn_ns hns
    exact ⟨some od, hget, h1, nc, by rw [h2, e]; exact ho⟩
/-- isinstance(e, c), e the error that is handled -/
def rIsP (K : PySem.W.Frag) (p : Addr × Obj) (D : Addr) (d : Option Addr) : List V → Hp → VK → Prop := fun xs H Q => ∃ (c : V) (cv : Value) (b : Bool) (fs : List (Str × V)), xs = [.ref p.1, c] ∧ ClsV c cv ∧ Held H d fs ∧ PySem.W.kitOne K (.ref D) cv = some b ∧ Q (.bl b) H
theorem call_isP (C : ErC X.K D) (P : Pin X p D d) : CallR X (.builtin "isinstance") (rIsP X.K p D d) := by
  intro pins s σ H xs us Q I r h
  obtain ⟨c, cv, b, fs, rfl, k, hh, e, q⟩ := h
  obtain ⟨u1, u2, rfl, r1, r2⟩ := vals2 r
  cases (show u1 = Value.ref p.1 from r1)
  have e2 := k.eq r2
  subst e2
  obtain ⟨od, J⟩ := P.inst I hh
  exact PySem.W.kia_one (PySem.W.kitx_exc C.cl C.ga C.gg C.ex C.ca C.cg C.ct C.mo) I.kIn J e (fun z => nomatch z) fun tk => ⟨.bl b, H, I.tok tk, rfl, q⟩
/-- isinstance(e, (c1, c2, ..)), the tuple just laid -/
def rIsPT (K : PySem.W.Frag) (p : Addr × Obj) (D : Addr) (d : Option Addr) : List V → Hp → VK → Prop := fun xs H Q => ∃ (tp : Addr) (cs : List V) (cvs : List Value) (b : Bool) (fs : List (Str × V)), xs = [.ref p.1, .ref tp] ∧ H tp = some (.tup cs) ∧ Paired ClsV cs cvs ∧ Held H d fs ∧ PySem.W.kitAny K (.ref D) cvs = some b ∧ Q (.bl b) H
theorem call_isPT (C : ErC X.K D) (P : Pin X p D d) : CallR X (.builtin "isinstance") (rIsPT X.K p D d) := by
  intro pins s σ H xs us Q I r h
  obtain ⟨tp, cs, cvs, b, fs, rfl, hT, k, hh, e, q⟩ := h
  obtain ⟨u1, u2, rfl, r1, r2⟩ := vals2 r
  cases (show u1 = Value.ref p.1 from r1)
  cases (show u2 = Value.ref tp from r2)
  obtain ⟨od, J⟩ := P.inst I hh
  obtain ⟨_, its, rv, o, h1, h2, n, h3⟩ := (show ObjOk X.prog X.w H s.heap tp (.tup cs) from I.hok tp _ hT)
  have e3 := ClsV.all k rv
  subst e3
  obtain ⟨oc, od', dt, sl⟩ := o
  simp only at h2 h3
  subst h2 h3
  exact PySem.W.kia_tup (PySem.W.kitx_exc C.cl C.ga C.gg C.ex C.ca C.cg C.ct C.mo) I.kIn J h1 e (fun z => nomatch z) fun tk => ⟨.bl b, H, I.tok tk, rfl, q⟩
/-- e.f -/
def tPf (K : PySem.W.Frag) (p : Addr × Obj) (D : Addr) (d : Option Addr) (f : Str) (te : TE) : TE := fun σ H Q => te σ H fun x H1 => x = .ref p.1 ∧ PySem.W.findIn K (.ref D) f = some none ∧ ∃ (dd : Addr) (fs : List (Str × V)) (v : V), d = some dd ∧ H1 dd = some (.xd fs) ∧ fs.lookup f = some v ∧ Q v H1
theorem pe_pf {e : Expr} {te : TE} {pos : Pos} {n : Str} (C : ErC X.K D) (P : Pin X p D d) (he : PE X e te) (hb : attributeBase e n X.env (eval e X.env) = eval e X.env := by rfl) : PE X (.Attribute e n pos) (tPf X.K p D d n te) := by
  refine ⟨fun pins s σ H Q I h => ?_⟩
  refine attr_of hb (thn (he.run pins s σ H _ I h) fun u s1 ⟨x, H1, I1, rx, ex, hno, dd, fs, v, ed, ea, l, q⟩ => ?_)
  subst ex
  obtain rfl : u = Value.ref p.1 := rx
  obtain ⟨hget, _⟩ := I1.pin p (List.mem_append_left _ P.mem)
  obtain ⟨vs, hv⟩ := P.dat
  have nc : PySem.W.notCls p.2 = true := by
    unfold PySem.W.notCls
    rw [hv] <;> rfl
  have hx : ObjOk X.prog X.w H1 s1.heap dd (.xd fs) := I1.hok dd _ ea
  obtain ⟨mA, hns, hr⟩ := hx
  obtain ⟨od, ho, hl⟩ := lookIn_ns hns
  obtain ⟨u, hu, ru⟩ := RelO.some_of (v := v) (o := mA n) (by rw [← l]; exact hr n)
  have J : PySem.W.InstAt s1.heap p.1 p.2 D (some od) := ⟨hget, P.zc.1, nc, by rw [P.zc.2, ed]; exact ho⟩
  exact HandSPX.exc_get I1.kIn J C.ga C.gg C.ex (PySem.W.findObj_own C.hd hno rfl (by rw [hl, hu])) (handed_of ru) ⟨v, H1, I1.tok _, ru, q⟩
/-- [y for y in z if y], z (in slot i) a list of truths -/
def tSieve (K : PySem.W.Frag) (i : Nat) : TE := fun σ H Q => ∃ (a : Addr) (bs : List Bool), σ[i]? = some (some (.ref a)) ∧ SqL K H a (bs.map V.bl) ∧ ∀ D, H D = none → Q (.ref D) (upd H D (.lst ((bs.filter id).map V.bl)))
theorem truths_bl : ∀ (bs : List Bool) (its : List Value), Vals (bs.map V.bl) its → its = bs.map Value.bool
  | [], _, .nil => rfl
  | b :: bs, _, .cons r t => by
    rw [truths_bl bs _ t]
    cases (show _ = Value.bool b from r)
    rfl
theorem truths_eq : ∀ bs : List Bool, PySem.HotY.truths (bs.map Value.bool) = (bs.filter id).map Value.bool
  | [] => rfl
  | true :: bs => by
    show Value.bool true :: PySem.HotY.truths (bs.map Value.bool) = _
    rw [truths_eq bs] <;> rfl
  | false :: bs => by
    show PySem.HotY.truths (bs.map Value.bool) = _
    rw [truths_eq bs] <;> rfl
theorem vals_bl : ∀ bs : List Bool, Vals (bs.map V.bl) (bs.map Value.bool)
  | [] => .nil
  | _ :: bs => .cons rfl (vals_bl bs)
theorem pe_sieve {y z : Str} {i : Nat} {scope : Scope} {pa pe pt pi pos : Pos} (hc : HotC X) (hN : X.N[i]? = some z) (hz : X.env.kindOf z = some .local) (hclos : closureFor scope X.env = pure [] := by rfl) (hcell : ∀ u ∈ scope.names, u.2 ≠ .cell := by decide) (hkind : scope.kind = .function := by rfl)
    (hnames : ∀ u ∈ scope.names, u.2 = .local → scope.names.lookup u.1 = some .local := by decide +kernel) (hx : scope.names.lookup y = some .local := by rfl) (hyd : (y == ("__debug__" : Str)) = false := by decide) (hzd : (z == ("__debug__" : Str)) = false := by decide) :
    PE X (.ListComp (.Name y pe) [⟨.Name y pa, .Name z pi, [.Name y pt], 0⟩] scope pos) (tSieve X.K i) := by
  refine ⟨fun pins s σ H Q I h => ?_⟩
  obtain ⟨a, bs, e, hS, q⟩ := h
  obtain ⟨m, hn, hl⟩ := I.loc
  obtain ⟨u, ru, hk⟩ := hl i z _ hN e (.inl hz)
  cases (show u = Value.ref a from ru)
  have hm : m z = some (.ref a) := by
    rcases hk with ⟨_, e⟩ | ⟨k, _⟩
    · exact e
    · rcases k with k | k <;> (rw [hz] at k; cases k)
  obtain ⟨its, rv, pl, hsz⟩ := I.list hS
  have ei := truths_bl _ _ rv
  subst ei
  obtain ⟨x1, hot⟩ := hc.at I
  refine PySem.HotY.sieve_raw hot I.ok.kind hclos hcell hkind hnames hx hyd hzd hz hn hm pl.isList (by rw [rv.length] at hsz; simpa using hsz) (fun j v hv => ?_) fun D' h' tk vs hD hpl evs hold => ?_
  · have hv' : (bs.map Value.bool)[j]? = some v := by simpa using hv
    rw [List.getElem?_map] at hv'
    cases hb : bs[j]? with
    | none => rw [hb] at hv'; cases hv'
    | some b => rw [hb] at hv'; cases hv'; exact ⟨b, rfl⟩
  · have evs' : vs = (bs.filter id).map Value.bool := by rw [evs, ← truths_eq] <;> simp
    subst evs'
    obtain ⟨n, ho⟩ := hpl
    have hlen : ((bs.filter id).map V.bl).length ≤ sizeLine := by
      rw [List.length_map] at hsz ⊢
      exact Nat.le_trans (List.length_filter_le _ _) hsz
    exact ⟨.ref D', upd H D' (.lst ((bs.filter id).map V.bl)), I.laid (t' := tk) hold hD ⟨hlen, _, n, vals_bl _, ho⟩, rfl, q D' (I.hok.fresh hD)⟩
end
/-! ### a def that is told the error -/
/-- the def at f keeps the promise sp p, wherever the error p is handled -/
def FnT (P : Program) (w : World) (K : PySem.W.Frag) (mg : Str → Option Value) (base : Heap) (k : Nat) (f : Addr) (fd : FuncData) (sp : Addr × Obj → Sp) : Prop :=
  ∀ (A : Around) (outer : List Env) (s : Shared) (H : Hp) (us : List Value) (vs : List V) (Q : VK) (p : Addr × Obj), RoomH k A → Hot1 A p → PinOk outer H s p → Env0 P w K mg base A outer s H → Vals vs us → sp p vs H Q (fun _ _ _ => False) →
    codeAny (model P w) A (.call (.ref f) ⟨us, []⟩) (CR CX0 outer P w H s Q (fun _ _ _ => False)) s
theorem fn_ofT {P : Program} {w : World} {K : PySem.W.Frag} {mg : Str → Option Value} {base : Heap} {k : Nat} {f : Addr} {fd : FuncData} {name qual : Str} {params : Arguments} {body : List Stmt} {scope : Scope} {dvs : List V} {kws : List (Str × V)} {N ps : List Str} {sp : Addr × Obj → Sp}
    (F : FunD K name qual params body scope dvs kws f fd) (hb : Binds K fd ps []) (S : FnScope N ps scope) (len : ∀ p vs H Q E, sp p vs H Q E → vs.length = ps.length)
    (hbody : ∀ (cdv : Value) (A : Around) (outer : List Env) (s : Shared) (H : Hp) (vs : List V) (Q : VK) (p : Addr × Obj), Hot1 A p → RoomH k (A.deeper (envOfC qual scope s.heap.objs.size f cdv)) → sp p vs H Q (fun _ _ _ => False) →
      ∃ t, PSs (cxH CX0 P w K mg base N qual scope f cdv A outer s H (fun _ _ _ => False) p) body t ∧ t { nx := fun _ H' => Q .non H', rt := Q } (L2.start N vs) H) :
    FnT P w K mg base (k + 1) f fd sp := by
  obtain ⟨oc, od, dV, kV, doc, pm, an, cdv, ct, osl, rfl, lk, hcd, _, _⟩ := F.ex
  intro A outer s H us vs Q p hr hot hpin e0 r hsp
  have hl := len _ _ _ _ _ hsp
  have X0 : K.In s.heap := e0.mod.kin.keeps fun b o e => (e0.bs b o e).1
  have bd : BindsTo s (PySem.W.fnOf name qual params body scope dV kV doc pm an cdv ct) ⟨us, []⟩ (ps.zip us) := by
    have z := hb s us X0 (by rw [List.append_nil, ← r.length]; exact hl)
    rw [List.append_nil] at z
    exact z
  refine codeAny_call_function hr.depth (X0 _ _ lk) rfl S.co S.gen rfl (PySem.W.codeRec_of X0 hcd) (bd _ _ _ _ ?_)
  refine wpAny_newFunctionEnv_cells S.kind (fun y hy => ?_) fun env he s1 x => ?_
  · rcases S.par y.1 (List.of_mem_zip (show (y.1, y.2) ∈ ps.zip us from hy)).1 with q | q
    · exact .inl q
    · exact .inr ⟨q, PySem.W.cellsFrom_some _ _ _ (.inl q)⟩
  subst he
  have lim : s.heap.NoLimit := e0.mod.nolimit.keeps fun b o e => (e0.bs b o e).1
  refine ⟨lim.keeps x.toInCall.keep, codeAny_func ?_⟩
  obtain ⟨t, ht, hq⟩ := hbody cdv A outer s H vs Q p hot (hr.deeper _) hsp
  refine wpAny_mono (ht.run [] s1 (L2.start N vs) H _ (inv_startH S hpin e0 hl r x) hq) (fun fl s' hs => ?_) fun e s' hs => hs
  rcases fl with _ | _ | _ | u
  all_goals first
    | (obtain ⟨_, _, _, z⟩ := hs; exact z.elim)
    | (obtain ⟨σ', H', J, z⟩ := hs; exact ⟨V.non, H', J.os, J.bare, J.base, J.hok, rfl, z⟩)
    | (obtain ⟨v, σ', H', J, rv, z⟩ := hs; exact ⟨v, H', J.os, J.bare, J.base, J.hok, rv, z⟩)
/-- the call of such a def within the suite, the error handed on -/
def tCallT (sp : Addr × Obj → Sp) (p : Addr × Obj) (t : TA) : TE := fun σ H Q => t σ H fun vs H1 => sp p vs H1 Q (fun _ _ _ => False)
theorem pe_callT {X : Cx} {p : Addr × Obj} {k : Nat} {f : Addr} {fd : FuncData} {sp : Addr × Obj → Sp} {x : Str} {q pos : Pos} {e : Expr} {es : List Expr} {t : TA} (F : FnT X.prog X.w X.K X.mg X.base k f fd sp) (hr : RoomH k X.A) (hot : Hot1 X.A p) (hp : p ∈ X.pn)
    (hg : Gl X x) (hm : X.mg x = some (.ref f)) (hk : PySem.W.keepIn X.K (.ref f) = true) (ha : PA X (e :: es) t) (hdb : (x == ("__debug__" : Str)) = false := by decide)
    (he : starEach (e :: es) X.env = (false, eval e X.env) :: starEach es X.env := by rfl) (hpl : (backTo pos (starEach es X.env)).any (·.1) = false := by rfl) :
    PE X (.Call (.Name x q) (e :: es) [] pos) (tCallT sp p t) := by
  refine ⟨fun pins s σ H Q I h => wpAny_Call_Name_kw (ld_glob I hg hm ?_ hdb)⟩
  refine PySem.W.callWith_K (h₀ := X.base) I.ok.mod.kin hk (thn (ha.run pos pins s σ H _ I h) fun us s1 ⟨vs, H1, I1, r, z⟩ => ⟨I1.kIn, ?_⟩) he hpl
  obtain ⟨g1, g2, g3, g4, g5⟩ := I1.pin p (List.mem_append_left _ hp)
  refine wpAny_call (codeAny_mono (F X.A X.stack s1 H1 us vs Q p hr hot ⟨g1, g2, fun hm => (List.mem_cons.mp (I1.stkSub p.1 hm)).elim g3 g4, g5⟩ I1.env0 r z) fun rr s' hq => ?_)
  rcases rr with e | (u | _ | _ | _)
  all_goals first
    | exact hq.elim
    | exact I1.after hq
end ErY
/-! raise of such an error, over the layer. -/
namespace ErY
open PySem PySem.Spec PyProof.Rows L2
/-- what the module says for every making -/
structure Mk0 (P : Program) (K : PySem.W.Frag) (mg : Str → Option Value) : Prop where
  sup : mg "super" = none
  top : (P.main.scope.names.lookup ("super" : Str)).isSome = false
  tp : PySem.W.nsIn K PySem.cStatics "thirdparty.any" = some none
theorem boot_super : bootBuiltins "super" = some (.type "super") := by decide +kernel
theorem wd_of {X : Cx} {pins : List (Addr × Obj)} {σ : L2.St} {H : Hp} {s : Shared} (m : Mk0 X.prog X.K X.mg) (I : Inv X pins σ H s) : PySem.ErX.Wd X.prog X.K X.mg s.heap := by
  obtain ⟨mb, h1, h2⟩ := I.mod.blt
  exact ⟨I.kIn, I.nolimit, I.mod.glob.keeps I.bk, ⟨mb, h1.keeps I.bk, (h2 _ (by decide)).trans boot_super⟩, m.sup, m.top, m.tp⟩
theorem relO_put1 {v : V} {u : Value} (y : Str) (r : RelV v u) (f : Str) : RelO (List.lookup f [(y, v)]) (if f = y then some u else none) := by
  rw [List.lookup_cons]
  by_cases h : f = y
  · subst h
    rw [beq_self_eq_true, if_pos rfl]
    exact r
  · rw [if_neg h, (beq_eq_false_iff_ne.mpr h : (f == y) = false)]
    exact trivial
theorem relO_put2 {v v2 : V} {u u2 : Value} (y z : Str) (r : RelV v u) (r2 : RelV v2 u2) (hyz : y ≠ z) (f : Str) : RelO (List.lookup f [(y, v), (z, v2)]) (if f = z then some u2 else if f = y then some u else none) := by
  rw [List.lookup_cons]
  by_cases h : f = y
  · subst h
    rw [beq_self_eq_true, if_neg hyz, if_pos rfl]
    exact r
  · rw [(beq_eq_false_iff_ne.mpr h : (f == y) = false), if_neg h]
    exact relO_put1 z r2 f
/-- X(e): the error's class, its dict -/
def tMkE (C : Addr) (ys : List Str) (ta : TA) : L2.St → Hp → XK → Prop := fun σ H Q => ta σ H fun vs H1 => vs.length = ys.length ∧ ∀ d, H1 d = none → Q (.ref C) (some d) (upd H1 d (.xd (ys.zip vs)))
section
variable {X : Cx} {C fI : Addr}
/-- what is left behind a made error -/
theorem mk_left {pins : List (Addr × Obj)} {σ : L2.St} {H1 : Hp} {Q : XK} {hp h' : Heap} {g : Array GenState} {dr : Drawn} {tk tk' : Nat} {os : OsState} {e d : Addr} {mA : Str → Option Value} {fs : List (Str × V)} (I1 : Inv X pins σ H1 ⟨hp, g, dr, tk, os⟩) (M : PySem.ErX.OwnMade hp h' e C d mA)
    (hr : ∀ f, RelO (fs.lookup f) (mA f)) (rs : Raises X (.ref C)) (q : Q (.ref C) (some d) (upd H1 d (.xd fs))) : L2N.MkP X pins σ Q (.ref e) ⟨h', g, dr, tk', os⟩ := by
  obtain ⟨oe, fv, hoe, hc, hd, hdat, h1, h2⟩ := M.obj
  obtain ⟨G', g1, g2⟩ := restrict h' fun b => decide (b ≠ e)
  have gk : ∀ b, b ≠ e → G'.get? b = h'.get? b := fun b hb => g1 b (decide_eq_true hb)
  have ge : G'.get? e = none := g2 e (by simp)
  have old : ∀ b o, hp.get? b = some o → G'.get? b = some o := fun b o z => (gk b (Nat.ne_of_lt (Nat.lt_of_lt_of_le (Heap.lt_size z) M.new))).trans (M.keep b o z)
  have ob : ObjOk X.prog X.w (upd H1 d (.xd fs)) G' d (.xd fs) := ⟨_, M.ns.at (fun o z => (gk d M.dne).trans z), hr⟩
  have J : Inv X pins σ (upd H1 d (.xd fs)) ⟨G', g, dr, tk', os⟩ := I1.laid (t' := tk') old M.dbig ob
  refine ⟨e, oe, fv, ⟨G', g, dr, tk', os⟩, _, .ref C, some d, rfl, J, fun b o z => ?_, ge, hoe, ⟨hc, hd, fun vs z => ?_⟩, hdat, h1, ?_, rfl, I1.bare, rs, q⟩
  · by_cases hb : b = e
    · rw [hb, ge] at z
      cases z
    · exact (gk b hb).symm.trans z
  · rw [hdat] at z
    cases z
    exact h2
  · rw [upd_ne (Ne.symm M.dne)]
    exact I1.hok.fresh M.new
theorem pmk_e1 {nm qn y : Str} {body : List Stmt} {a : Expr} {ta : TA} {p pos : Pos} {k : Nat} (m : Mk0 X.prog X.K X.mg) (T : PySem.ErX.ErTxt X.prog X.K X.mg nm qn C fI [y] body) (B : PySem.ErX.Body1 y body) (sc : PySem.ErX.ScOk [y]) (hr : Room k X.A) (ha : PA X [a] ta) (hg : Gl X nm)
    (hdb : (nm == ("__debug__" : Str)) = false := by decide) (he : starEach (a :: []) X.env = (false, eval a X.env) :: starEach [] X.env := by rfl) (hpl : (backTo pos (starEach [] X.env)).any (·.1) = false := by rfl) :
    L2N.PMk X (.Call (.Name nm p) [a] [] pos) (tMkE C [y] ta) := by
  intro pins s σ H Q I h
  refine wpAny_Call_Name_kw (ld_glob I hg T.gC ?_ hdb)
  refine PySem.W.callWith_K (h₀ := X.base) I.ok.mod.kin T.kC (thn (ha.run pos pins s σ H _ I h) fun us s1 ⟨vs, H1, I1, r1, hl, q1⟩ => ⟨I1.kIn, ?_⟩) he hpl
  obtain ⟨v, rfl⟩ : ∃ v, vs = [v] := List.length_eq_one_iff.mp hl
  obtain ⟨u, rfl, rv⟩ := vals1 r1
  show wpAny _ _ (call (.ref C) [u]) _ _ _
  have W := wd_of m I1
  obtain ⟨hp, g, dr, tk, os⟩ := s1
  have hroom : X.A.in1.depth + 1 < recursionLimit := by
    have := hr.dp
    show X.A.depth + 1 < recursionLimit
    omega
  refine wpAny_call (PySem.ErX.made1 T B sc W hroom fun h' tk' e d M => ?_)
  show L2N.MkP X pins σ Q (.ref e) ⟨h', g, dr, tk', os⟩
  exact mk_left I1 M (fun f => relO_put1 y rv f) (raises_own T.exC T.tyC) (q1 d (I1.hok.fresh M.dbig))
/-- raise X(e) -/
def tRaiseE (C : Addr) (ys : List Str) (W : WX) (ta : TA) : TS := fun _ σ H => tMkE C ys ta σ H fun cls d H' => W cls d σ H'
theorem ps_raiseE1 {nm qn y : Str} {body : List Stmt} {a : Expr} {ta : TA} {W : WX} {p pos pos2 : Pos} {k : Nat} (hc : X.calm = true) (m : Mk0 X.prog X.K X.mg) (T : PySem.ErX.ErTxt X.prog X.K X.mg nm qn C fI [y] body) (B : PySem.ErX.Body1 y body) (sc : PySem.ErX.ScOk [y]) (hr : Room k X.A) (tk : L2N.Takes X W) (ha : PA X [a] ta)
    (hg : Gl X nm := by rfl) (hdb : (nm == ("__debug__" : Str)) = false := by decide) (he : starEach (a :: []) X.env = (false, eval a X.env) :: starEach [] X.env := by rfl) (hpl : (backTo pos (starEach [] X.env)).any (·.1) = false := by rfl) :
    PS X (.Raise (some (.Call (.Name nm p) [a] [] pos)) none pos2) (tRaiseE C [y] W ta) := L2N.ps_raise hc tk (pmk_e1 m T B sc hr ha hg hdb he hpl)
theorem pmk_e2 {nm qn y z : Str} {body : List Stmt} {a b : Expr} {ta : TA} {p pos : Pos} {k : Nat} (m : Mk0 X.prog X.K X.mg) (T : PySem.ErX.ErTxt X.prog X.K X.mg nm qn C fI [y, z] body) (B : PySem.ErX.Body2 y z body) (sc : PySem.ErX.ScOk [y, z]) (hyz : (y == z) = false) (hr : Room k X.A) (ha : PA X [a, b] ta) (hg : Gl X nm)
    (hdb : (nm == ("__debug__" : Str)) = false := by decide) (he : starEach (a :: [b]) X.env = (false, eval a X.env) :: starEach [b] X.env := by rfl) (hpl : (backTo pos (starEach [b] X.env)).any (·.1) = false := by rfl) :
    L2N.PMk X (.Call (.Name nm p) [a, b] [] pos) (tMkE C [y, z] ta) := by
  intro pins s σ H Q I h
  refine wpAny_Call_Name_kw (ld_glob I hg T.gC ?_ hdb)
  refine PySem.W.callWith_K (h₀ := X.base) I.ok.mod.kin T.kC (thn (ha.run pos pins s σ H _ I h) fun us s1 ⟨vs, H1, I1, r1, hl, q1⟩ => ⟨I1.kIn, ?_⟩) he hpl
  obtain ⟨v, v2, rfl⟩ : ∃ v v2, vs = [v, v2] := by
    match vs, hl with
    | [v, v2], _ => exact ⟨v, v2, rfl⟩
  obtain ⟨u, u2, rfl, rv, rv2⟩ := vals2 r1
  show wpAny _ _ (call (.ref C) [u, u2]) _ _ _
  have W := wd_of m I1
  obtain ⟨hp, g, dr, tk, os⟩ := s1
  have hroom : X.A.in1.depth + 1 < recursionLimit := by
    have := hr.dp
    show X.A.depth + 1 < recursionLimit
    omega
  refine wpAny_call (PySem.ErX.made2 T B sc hyz W hroom fun h' tk' e d M => ?_)
  show L2N.MkP X pins σ Q (.ref e) ⟨h', g, dr, tk', os⟩
  exact mk_left I1 M (fun f => relO_put2 y z rv rv2 (beq_eq_false_iff_ne.mp hyz) f) (raises_own T.exC T.tyC) (q1 d (I1.hok.fresh M.dbig))
theorem ps_raiseE2 {nm qn y z : Str} {body : List Stmt} {a b : Expr} {ta : TA} {W : WX} {p pos pos2 : Pos} {k : Nat} (hc : X.calm = true) (m : Mk0 X.prog X.K X.mg) (T : PySem.ErX.ErTxt X.prog X.K X.mg nm qn C fI [y, z] body) (B : PySem.ErX.Body2 y z body) (sc : PySem.ErX.ScOk [y, z]) (hyz : (y == z) = false) (hr : Room k X.A) (tk : L2N.Takes X W) (ha : PA X [a, b] ta)
    (hg : Gl X nm := by rfl) (hdb : (nm == ("__debug__" : Str)) = false := by decide) (he : starEach (a :: [b]) X.env = (false, eval a X.env) :: starEach [b] X.env := by rfl) (hpl : (backTo pos (starEach [b] X.env)).any (·.1) = false := by rfl) :
    PS X (.Raise (some (.Call (.Name nm p) [a, b] [] pos)) none pos2) (tRaiseE C [y, z] W ta) := L2N.ps_raise hc tk (pmk_e2 m T B sc hyz hr ha hg hdb he hpl)
end
end ErY
/-! The head's facts of such errors, read by a hook. -/
namespace HeZ
open PySem PySem.Spec PyProof.Rows L2 He
/-- an error's class: its name, its maker's qualified name, its values, the maker's parameters and body -/
structure ErD where
  nm : Str
  qn : Str
  xs : List Str
  ps : List Arg
  body : List Stmt
def mkA (K : PySem.W.Frag) (nm : Str) : Addr := ma K (ga K nm) "__init__"
def clsB (K : PySem.W.Frag) (C : Addr) : Bool := match K.lookup C with
  | some ⟨.type "type", _, .cls cd, sl⟩ => (match cd.mro, sl.toList with
    | .ref C' :: bm, [_, _, _, _, some (.builtin n), _] => C' == C && (n == "ValueError.__new__" && (!cd.hasDel && (cd.hasDict && PySem.HandSPX.refsVE bm)))
    | _, _ => false)
  | _ => false
theorem clsB_ok {K : PySem.W.Frag} {C : Addr} (q : clsB K C = true) : ∃ nm' q N bs bm sn sub ab col dd k0 k1 k2 k3 k5, K.lookup C = some (excClassObj nm' q C N bs bm true sn sub ab col dd k0 k1 k2 k3 k5 "ValueError.__new__") ∧ PySem.HandSPX.refsVE bm = true := by
  unfold clsB at q
  split at q
  · rename_i dd cd sl ho
    split at q
    · rename_i C' bm k0 k1 k2 k3 n k5 hm hs
      simp only [Bool.and_eq_true, beq_iff_eq, Bool.not_eq_true'] at q
      obtain ⟨rfl, rfl, hdel, hdct, ht⟩ := q
      obtain ⟨nm, bs, mro, ns, qn, hd, sn, sub, ab, col, del⟩ := cd
      dsimp only at hm hdel hdct
      subst hm hdel hdct
      obtain ⟨l⟩ := sl
      simp only at hs
      subst hs
      exact ⟨nm, qn, ns, bs, bm, sn, sub, ab, col, dd, k0, k1, k2, k3, k5, ho, ht⟩
    · cases q
  · cases q
abbrev ErV : Type := Option (Str × Str × Arguments × FuncBody × Scope × Addr × List Str × Value × Value × Addr)
def erV (K : PySem.W.Frag) (d : ErD) : ErV := match K.lookup (mkA K d.nm) with
  | some ⟨_, _, .func fd, _⟩ => some (fd.name, fd.qualname, fd.params, fd.body, fd.scope, fd.globals, fd.closure.map (·.1), fd.defaults, fd.kwdefaults, fd.builtins)
  | _ => none
def ErD.val (d : ErD) : ErV := some ("__init__", d.qn, PySem.ErX.prms d.ps, .stmts d.body, PySem.ErX.scp d.xs, mainGlobals, ["__class__"], .none, .none, builtinsNs)
/-- the code object and the cell of a maker -/
def codB (K : PySem.W.Frag) (file : Str) (C : Addr) (qn : Str) (fd : FuncData) : Bool := match fd.code, fd.closure with
  | .ref cda, [(_, cc)] => PySem.W.codeIn K (.ref cda) qn && ((match K.lookup cda with
      | some ⟨_, _, Data.fields vs, _⟩ => (match (vs[2]? : Option Value) with
        | some (Value.str f _) => file == f
        | _ => false)
      | _ => false) && (match K.lookup cc with
      | some ⟨_, _, .cell (some (.ref D)), _⟩ => D == C
      | _ => false))
  | _, _ => false
theorem codB_ok {K : PySem.W.Frag} {file : Str} {C : Addr} {qn : Str} {fd : FuncData} (h : codB K file C qn fd = true) :
    ∃ (cda cc : Addr) (z : Str) (ccl : Value) (cdd : Option Addr) (vs : Array Value) (ccs : Array (Option Value)) (f : Str) (tf : Tok) (cl : Value) (cld : Option Addr) (csl : Array (Option Value)),
      fd.code = .ref cda ∧ fd.closure = [(z, cc)] ∧ PySem.W.codeIn K (.ref cda) qn = true ∧ K.lookup cda = some ⟨ccl, cdd, .fields vs, ccs⟩ ∧ vs[2]? = some (.str f tf) ∧ (file == f) = true ∧ K.lookup cc = some ⟨cl, cld, .cell (some (.ref C)), csl⟩ := by
  unfold codB at h
  split at h
  · rename_i cda z cc hc hcl
    obtain ⟨h1, h0⟩ := ba h
    obtain ⟨h2, h3⟩ := ba h0
    clear h0 h
    split at h2
    · rename_i ccl cdd vs ccs hl
      split at h2
      · rename_i f tf hv
        split at h3
        · rename_i cl cld D csl hk
          have e : D = C := by simpa using h3
          subst e
          exact ⟨cda, cc, z, ccl, cdd, vs, ccs, f, tf, cl, cld, csl, hc, hcl, h1, hl, hv, h2, hk⟩
        · cases h3
      · cases h2
    · cases h2
  · cases h
def erB (K : PySem.W.Frag) (file : Str) (d : ErD) : Bool :=
  clsB K (ga K d.nm) && (PySem.W.excInitIn K (ga K d.nm) veBase "ValueError.__new__" && (eqO (PySem.W.findIn K (.ref (ga K d.nm)) "__setattr__") (some (some (.builtin "object.__setattr__"))) && (d.xs.all (fun x => eqO (PySem.W.findIn K (.ref (ga K d.nm)) x) (some none)) &&
  (eqO (PySem.W.findIn K (.ref (ga K d.nm)) "__init__") (some (some (.ref (mkA K d.nm)))) && (decide (PySem.W.typeIn K (.ref (mkA K d.nm)) = some (.type "function")) && (PySem.W.keepIn K (.ref (ga K d.nm)) && (decide (PySem.W.subIn K (.ref (ga K d.nm)) (.type "BaseException") = some true) &&
  (decide (PySem.W.subIn K (.ref (ga K d.nm)) (.type "ValueError") = some true) && (decide (PySem.W.typeIn K (.ref (ga K d.nm)) = some (.type "type")) && (decide (PySem.W.mroIn K (ga K d.nm) (.ref (ga K d.nm)) = some true) && (eqO (PySem.W.ks_superIn K (ga K d.nm) (ga K d.nm) "__init__") (some (some (.builtin "ValueError.__init__"))) &&
  (match K.lookup (mkA K d.nm) with
    | some ⟨_, _, .func fd, _⟩ => codB K file (ga K d.nm) d.qn fd
    | _ => false))))))))))))
/-- what such a class says -/
theorem erB_ok {P : Program} {K : PySem.W.Frag} {mg : Str → Option Value} {d : ErD} (g : mg d.nm = some (.ref (ga K d.nm))) (h : erB K P.main.file d = true) (v : erV K d = d.val) (hs : ∃ ar, d.ps.head? = some ar ∧ ar.arg = "self")
    (hb : ∀ (fd : FuncData) (s : Shared) (us : List Value), fd.params = PySem.ErX.prms d.ps → fd.defaults = .none → fd.kwdefaults = .none → us.length = d.xs.length + 1 → BindsTo s fd ⟨us, []⟩ ((("self" : Str) :: d.xs).zip us)) :
    PySem.ErX.ErTxt P K mg d.nm d.qn (ga K d.nm) (mkA K d.nm) d.xs d.body := by
  obtain ⟨h1, h⟩ := ba h
  obtain ⟨h2, h⟩ := ba h
  obtain ⟨h3, h⟩ := ba h
  obtain ⟨h4, h⟩ := ba h
  obtain ⟨h5, h⟩ := ba h
  obtain ⟨h6, h⟩ := ba h
  obtain ⟨h7, h⟩ := ba h
  obtain ⟨h8, h⟩ := ba h
  obtain ⟨h9, h⟩ := ba h
  obtain ⟨h10, h⟩ := ba h
  obtain ⟨h11, h⟩ := ba h
  obtain ⟨h12, h13⟩ := ba h
  refine ⟨g, clsB_ok h1, h2, eqO_ok h3, fun x hx => eqO_ok (List.all_eq_true.mp h4 x hx), eqO_ok h5, of_decide_eq_true h6, h7, of_decide_eq_true h8, of_decide_eq_true h9, of_decide_eq_true h10, of_decide_eq_true h11, eqO_ok h12, ?_⟩
  unfold erV at v
  split at h13
  · rename_i oc od fd osl hl
    rw [hl] at v
    obtain ⟨cda, cc, z, ccl, cdd, vs, ccs, f, tf, cl, cld, csl, e1, e2, e3, e4, e5, e6, e7⟩ := codB_ok h13
    obtain ⟨n1, n2, n3, n4, n5, n6, n7, n8, n9, n10, n11, n12, n13, n14, n15⟩ := fd
    have e0 : (some (n1, n2, n3, n4, n5, n6, n7.map (·.1), n8, n9, n15) : ErV) = d.val := v
    unfold ErD.val at e0
    simp only [Option.some.injEq, Prod.mk.injEq] at e0
    obtain ⟨g1, g2, g3, g4, g5, g6, g7, g8, g9, g10⟩ := e0
    dsimp only at e1 e2
    subst e2
    have g7' : z = "__class__" := by simpa using g7
    subst g1 g2 g3 g4 g5 g6 g7' g8 g9 g10 e1
    exact ⟨_, oc, od, osl, cda, cc, ccl, cdd, vs, ccs, f, tf, cl, cld, csl, hl, ⟨d.ps, n10, n11, n12, n14, rfl, hs⟩, e3, e4, e5, e6, e7, fun s us hu => hb _ s us rfl rfl rfl hu⟩
  · cases h13
/-- what isinstance and a value's reading ask of a class -/
def ecB (K : PySem.W.Frag) (C : Addr) : Bool :=
  (PySem.W.clsIn K C).isSome && (eqO (PySem.W.findIn K (.ref C) "__getattribute__") (some (some (.builtin "BaseException.__getattribute__"))) && (eqO (PySem.W.findIn K (.ref C) "__getattr__") (some none) && (decide (PySem.W.subIn K (.ref C) (.type "BaseException") = some true) &&
  (PySem.W.hasDictIn K C && (eqO (PySem.W.findIn K (.ref C) "__class__") (some (some (.builtin "object.__class__"))) && (eqO (PySem.W.specialIn K (.builtin "object.__class__") "__get__") (some (some (.builtin "getset_descriptor.__get__"))) && (decide (PySem.W.takesIn K (.builtin "object.__class__") = some true) && decide (PySem.W.mroIn K C (.type "object") = some true))))))))
theorem ecB_ok {K : PySem.W.Frag} {C : Addr} (h : ecB K C = true) : ErY.ErC K C := by
  obtain ⟨h1, h⟩ := ba h
  obtain ⟨h2, h⟩ := ba h
  obtain ⟨h3, h⟩ := ba h
  obtain ⟨h4, h⟩ := ba h
  obtain ⟨h5, h⟩ := ba h
  obtain ⟨h6, h⟩ := ba h
  obtain ⟨h7, h⟩ := ba h
  obtain ⟨h8, h9⟩ := ba h
  exact ⟨h1, eqO_ok h2, eqO_ok h3, of_decide_eq_true h4, h5, eqO_ok h6, eqO_ok h7, of_decide_eq_true h8, of_decide_eq_true h9⟩
/-- a table of isinstance: the class named x, asked for each of these -/
def isB (K : PySem.W.Frag) (x : Str) (l : List (Str × Bool)) : Bool := l.all fun q => decide (PySem.W.kitOne K (.ref (ga K x)) (.ref (ga K q.1)) = some q.2)
theorem isB_ok {K : PySem.W.Frag} {x : Str} {l : List (Str × Bool)} (h : isB K x l = true) {y : Str} {b : Bool} (hm : (y, b) ∈ l) : PySem.W.kitOne K (.ref (ga K x)) (.ref (ga K y)) = some b := of_decide_eq_true (List.all_eq_true.mp h _ hm)
/-! ### properties, own classes -/
/-- the getter of the property named p.2 of the class named p.1 -/
def gfA (K : PySem.W.Frag) (p : Str × Option Str) : Addr := match PySem.W.recIn K (fAd K p) "property" with
  | some (.ref g :: _) => g
  | _ => 0
def gtB (K : PySem.W.Frag) (d : DefD) : Bool :=
  eqO (PySem.W.findIn K (.ref (ga K d.at_.1)) d.name) (some (some (.ref (fAd K d.at_)))) && (eqO (PySem.W.specialIn K (.ref (fAd K d.at_)) "__get__") (some (some (.builtin "property.__get__"))) && (decide (PySem.W.takesIn K (.ref (fAd K d.at_)) = some true) &&
  ((match PySem.W.recIn K (fAd K d.at_) "property" with
    | some (.ref _ :: _) => true
    | _ => false) && (PySem.W.keepIn K (.ref (gfA K d.at_)) && (match K.lookup (gfA K d.at_) with
  | some ⟨_, _, .func fd, _⟩ => PySem.W.codeIn K fd.code d.qual && (dflB K fd.defaults [] && kwdB K fd.kwdefaults [])
  | _ => false)))))
def gtW (K : PySem.W.Frag) (p : Str × Option Str) : FnW := match K.lookup (gfA K p) with
  | some ⟨_, _, .func fd, _⟩ => some (fd.name, fd.qualname, fd.params, fd.body, fd.scope, fd.globals, fd.closure, fd.builtins)
  | _ => none
theorem gtB_ok {K : PySem.W.Frag} {d : DefD} (e : gtW K d.at_ = d.val) (c : gtB K d = true) :
    PropOf K (ga K d.at_.1) d.name (fAd K d.at_) (gfA K d.at_) ∧ ∃ fd, FunD K d.name d.qual d.params d.body d.scope [] [] (gfA K d.at_) fd := by
  obtain ⟨c1, c⟩ := ba c
  obtain ⟨c2, c⟩ := ba c
  obtain ⟨c3, c⟩ := ba c
  obtain ⟨c4, c⟩ := ba c
  obtain ⟨kp, c5⟩ := ba c
  refine ⟨⟨eqO_ok c1, eqO_ok c2, of_decide_eq_true c3, ?_⟩, ?_⟩
  · unfold gfA
    split at c4
    · rename_i g rest hg
      exact ⟨rest, by rw [hg]⟩
    · cases c4
  · unfold gtW at e
    cases q : K.lookup (gfA K d.at_) with
    | none =>
      rw [q] at c5
      cases c5
    | some o =>
      obtain ⟨oc, od, dt, osl⟩ := o
      rw [q] at c5 e
      cases dt with
      | func fd =>
        obtain ⟨n1, n2, n3, n4, n5, n6, n7, n8, n9, n10, n11, n12, n13, n14, n15⟩ := fd
        have e2 : (some (n1, n2, n3, n4, n5, n6, n7, n15) : FnW) = some (d.name, d.qual, d.params, .stmts d.body, d.scope, mainGlobals, [], builtinsNs) := e
        simp only [Option.some.injEq, Prod.mk.injEq] at e2
        obtain ⟨h1, h2, h3, h4, h5, h6, h7, h8⟩ := e2
        subst h1 h2 h3 h4 h5 h6 h7 h8
        have c3 : (PySem.W.codeIn K n13 d.qual && (dflB K n8 [] && kwdB K n9 [])) = true := c5
        obtain ⟨k1, k2⟩ := ba c3
        obtain ⟨k3, k4⟩ := ba k2
        exact ⟨_, ⟨oc, od, n8, n9, n10, n11, n12, n13, n14, osl, rfl, q, k1, dflB_ok k3, kwdB_ok k4⟩, kp⟩
      | _ => cases c5
/-- what isinstance asks of an own class -/
structure OwnC (K : PySem.W.Frag) (C : Addr) : Prop where
  ca : PySem.W.findIn K (.ref C) "__class__" = some (some (.builtin "object.__class__"))
  cg : PySem.W.specialIn K (.builtin "object.__class__") "__get__" = some (some (.builtin "getset_descriptor.__get__"))
  ct : PySem.W.takesIn K (.builtin "object.__class__") = some true
  mo : PySem.W.mroIn K C (.type "object") = some true
def owB (K : PySem.W.Frag) (C : Addr) : Bool := eqO (PySem.W.findIn K (.ref C) "__class__") (some (some (.builtin "object.__class__"))) && (eqO (PySem.W.specialIn K (.builtin "object.__class__") "__get__") (some (some (.builtin "getset_descriptor.__get__"))) && (decide (PySem.W.takesIn K (.builtin "object.__class__") = some true) && decide (PySem.W.mroIn K C (.type "object") = some true)))
theorem owB_ok {K : PySem.W.Frag} {C : Addr} (h : owB K C = true) : OwnC K C := by
  obtain ⟨h1, h⟩ := ba h
  obtain ⟨h2, h⟩ := ba h
  obtain ⟨h3, h4⟩ := ba h
  exact ⟨eqO_ok h1, eqO_ok h2, of_decide_eq_true h3, of_decide_eq_true h4⟩
theorem OwnC.ty {K : PySem.W.Frag} {H : Hp} {C a dx : Addr} {fs : List (Str × V)} (o : OwnC K C) (c : Cls K C) (h : H a = some (.ins C dx fs)) : TyX K H (.ref a) (.ref C) := .base (.ins h c o.ca o.cg o.ct o.mo)
/-- a table of isinstance: built-in types by name, the class named y -/
def isT (K : PySem.W.Frag) (y : Str) (l : List (String × Bool)) : Bool := l.all fun q => decide (PySem.W.kitOne K (.type q.1) (.ref (ga K y)) = some q.2)
theorem isT_ok {K : PySem.W.Frag} {y : Str} {l : List (String × Bool)} (h : isT K y l = true) {t : String} {b : Bool} (hm : (t, b) ∈ l) : PySem.W.kitOne K (.type t) (.ref (ga K y)) = some b := of_decide_eq_true (List.all_eq_true.mp h _ hm)
/-- == of an instance: the other's type is no heir -/
def nfT (K : PySem.W.Frag) (y : Str) (l : List String) : Bool := PySem.W.notFirst K (ga K y) (.ref (ga K y)) && l.all fun q => PySem.W.notFirst K (ga K y) (.type q)
theorem nfT_self {K : PySem.W.Frag} {y : Str} {l : List String} (h : nfT K y l = true) : PySem.W.notFirst K (ga K y) (.ref (ga K y)) = true := (ba h).1
theorem nfT_ok {K : PySem.W.Frag} {y : Str} {l : List String} (h : nfT K y l = true) {t : String} (hm : t ∈ l) : PySem.W.notFirst K (ga K y) (.type t) = true := List.all_eq_true.mp (ba h).2 _ hm
/-! ### the hook -/
abbrev AlZ : Type := AlD × Bool × List ErV × List FnW
def obsZ (file : Str) (fa : List Fa) (fn : List DefD) (er : List ErD) (gs : List DefD) (ex : PySem.W.Frag → Bool) (K : PySem.W.Frag) : AlZ := (obsD fa fn K, (er.all (erB K file) && (gs.all (gtB K) && (eqO (PySem.W.nsIn K PySem.cStatics "thirdparty.any") (some none) && ex K))), er.map (erV K), gs.map fun d => gtW K d.at_)
def valZ (fn : List DefD) (er : List ErD) (gs : List DefD) : AlZ := (valD fn, true, er.map ErD.val, gs.map DefD.val)
def SaysZ (file : Str) (fa : List Fa) (fn : List DefD) (er : List ErD) (gs : List DefD) (ex : PySem.W.Frag → Bool) (K : PySem.W.Frag) : Prop := obsZ file fa fn er gs ex K = valZ fn er gs
/-- .. and what a property's getter needs -/
def asP (g : Addr → Option Obj) (n : Nat) : List Addr := PySem.cStatics :: (asD g n) ++ (asD g n).flatMap fun a => match g a with
  | some ⟨.type "property", _, .fields vs, _⟩ => vs.toList.flatMap fun v => (match v with
    | .ref b => b :: (match g b with
      | some o => refsO o
      | none => [])
    | _ => [])
  | _ => []
def obsZG (file : Str) (n : Nat) (fa : List Fa) (fn : List DefD) (er : List ErD) (gs : List DefD) (ex : PySem.W.Frag → Bool) (g : Addr → Option Obj) : AlZ := obsZ file fa fn er gs ex (frG g (asP g n))
def hookZ (file : Str) (n : Nat) (fa : List Fa) (fn : List DefD) (er : List ErD) (gs : List DefD) (ex : PySem.W.Frag → Bool) : PySem.W.Hook where
  α := AlZ
  obs := fun s => obsZG file n fa fn er gs ex s.heap.get?
  val := fun _ => valZ fn er gs
  says := fun _ h => ∃ K : PySem.W.Frag, K.In h ∧ SaysZ file fa fn er gs ex K
  of := fun _ _ e => ⟨_, frG_in, e⟩
  keeps := fun _ _ _ ⟨K, hK, c⟩ k => ⟨K, PySem.W.Frag.In.keeps hK k, c⟩
theorem obsZG_eq {file : Str} {n : Nat} {fa : List Fa} {fn : List DefD} {er : List ErD} {gs : List DefD} {ex : PySem.W.Frag → Bool} {g : Addr → Option Obj} {s : Shared} (h : ∀ a, g a = s.heap.get? a) : obsZG file n fa fn er gs ex g = (hookZ file n fa fn er gs ex).obs s := by
  have e : g = s.heap.get? := funext h
  rw [e] <;> rfl
section
variable {file : Str} {fa : List Fa} {fn : List DefD} {er : List ErD} {gs : List DefD} {ex : PySem.W.Frag → Bool} {K : PySem.W.Frag}
theorem SaysZ.d (c : SaysZ file fa fn er gs ex K) : SaysD fa fn K := congrArg (fun z : AlZ => z.1) c
theorem SaysZ.all (c : SaysZ file fa fn er gs ex K) : (er.all (erB K file) && (gs.all (gtB K) && (eqO (PySem.W.nsIn K PySem.cStatics "thirdparty.any") (some none) && ex K))) = true := congrArg (fun z : AlZ => z.2.1) c
theorem SaysZ.more (c : SaysZ file fa fn er gs ex K) : ex K = true := (ba (ba (ba c.all).2).2).2
theorem SaysZ.tp (c : SaysZ file fa fn er gs ex K) : PySem.W.nsIn K PySem.cStatics "thirdparty.any" = some none := eqO_ok (ba (ba (ba c.all).2).2).1
theorem SaysZ.err (c : SaysZ file fa fn er gs ex K) {d : ErD} (hd : d ∈ er) : erB K file d = true ∧ erV K d = d.val := by
  refine ⟨List.all_eq_true.mp (ba c.all).1 d hd, ?_⟩
  have e : er.map (erV K) = er.map ErD.val := congrArg (fun z : AlZ => z.2.2.1) c
  exact (List.map_inj_left.mp e) d hd
theorem SaysZ.get (c : SaysZ file fa fn er gs ex K) {d : DefD} (hd : d ∈ gs) : PropOf K (ga K d.at_.1) d.name (fAd K d.at_) (gfA K d.at_) ∧ ∃ fd, FunD K d.name d.qual d.params d.body d.scope [] [] (gfA K d.at_) fd := by
  have e : gs.map (fun d => gtW K d.at_) = gs.map DefD.val := congrArg (fun z : AlZ => z.2.2.2) c
  exact gtB_ok ((List.map_inj_left.mp e) d hd) (List.all_eq_true.mp (ba (ba c.all).2).1 d hd)
end
end HeZ
/-! Operators by what stands there; a def by its name; heaps that grow. -/
namespace Lw
open PySem PySem.Spec PyProof.Rows L2
/-! ### operators -/
section
variable {X : Cx}
def CPowA (i j : Int) : Prop := 0 ≤ j ∧ (Builtin.Int.intBits i : Int) * j ≤ 2 ^ 27
theorem op_powA : OpR X (binaryOp .Pow) (rI CPowA fun i j => .int (i ^ j.toNat)) := opI fun _ _ _ _ _ _ _ hc q => pow_int hc.1 hc.2 q
def CMulA (i j : Int) : Prop := CMul i j ∨ CMulW i j
theorem op_mulA : OpR X (binaryOp .Mult) (rI CMulA fun i j => .int (i * j)) := opI fun _ _ _ _ _ _ _ hc q => mul_int q (hc.elim CMul.ok CMulW.ok)
/-- ints, texts, lists, tuples -/
def rAdd (K : PySem.W.Frag) : R2 := fun x y H Q => match x, y with
  | .int i, .int j => Q (.int (i + j)) H
  | .str i, .str j => i.length + j.length ≤ sizeLine ∧ Q (.str (i ++ j)) H
  | .ref a, .ref b => rCat (.ref a) (.ref b) H Q ∨ rCatT K (.ref a) (.ref b) H Q
  | _, _ => False
theorem op_addA : OpR X (binaryOp .Add) (rAdd X.K) := by
  intro pins s σ H x y v u Q I rx ry h
  match x, y, h with
  | .int i, .int j, h => exact op_add pins s σ H _ _ v u Q I rx ry ⟨i, j, rfl, rfl, h⟩
  | .str i, .str j, h => exact op_add_str pins s σ H _ _ v u Q I rx ry ⟨i, j, rfl, rfl, h⟩
  | .ref a, .ref b, h => exact (op_cat.or op_catT) pins s σ H _ _ v u Q I rx ry h
end
/-! ### a def by its name -/
/-- the module's name x stands for a def that keeps the promise sp -/
def Dn (P : Program) (w : World) (K : PySem.W.Frag) (mg : Str → Option Value) (base : Heap) (CX : CXT) (k : Nat) (x : Str) (ps : List Str) (sp : Sp) : Prop :=
  ∃ (f : Addr) (fd : FuncData), mg x = some (.ref f) ∧ PySem.W.keepIn K (.ref f) = true ∧ Binds K fd ps [] ∧ FnOk P w K mg base CX k f fd ps sp
section
variable {X : Cx} {CX : CXT} {k : Nat} {ps : List Str} {sp : Sp} {E : XK} {x : Str} {p pos : Pos} {e : Expr} {es : List Expr} {t : TA}
theorem pe_d (D : Dn X.prog X.w X.K X.mg X.base CX k x ps sp) (hr : Room k X.A) (hg : Gl X x) (hx : Passes CX X E) (ha : PA X (e :: es) t)
    (hdb : (x == ("__debug__" : Str)) = false := by decide) (he : starEach (e :: es) X.env = (false, eval e X.env) :: starEach es X.env := by rfl) (hpl : (backTo pos (starEach es X.env)).any (·.1) = false := by rfl) :
    PE X (.Call (.Name x p) (e :: es) [] pos) (tCall sp [] E t) :=
  let ⟨_, _, h1, h2, h3, h4⟩ := D
  pe_call h4 hr hg h1 h2 h3 .nil hx ha hdb he hpl
theorem pe_d0 (D : Dn X.prog X.w X.K X.mg X.base CX k x ps sp) (hr : Room k X.A) (hg : Gl X x) (hx : Passes CX X E) (hdb : (x == ("__debug__" : Str)) = false := by decide) : PE X (.Call (.Name x p) [] [] pos) (tCall sp [] E tNil) :=
  let ⟨_, _, h1, h2, h3, h4⟩ := D
  pe_call0 h4 hr hg h1 h2 h3 .nil hx hdb
end
/-! ### heaps -/
/-- all that is tracked stays, but for what may change at s: a list whose first entry stays -/
def Kp (s : Addr) (H H' : Hp) : Prop := (∀ a o, a ≠ s → H a = some o → H' a = some o) ∧ ∀ v xs, H s = some (.lst (v :: xs)) → ∃ ys, H' s = some (.lst (v :: ys))
/-- all that is tracked stays -/
def Ex (H H' : Hp) : Prop := ∀ a o, H a = some o → H' a = some o
theorem Ex.refl {H : Hp} : Ex H H := fun _ _ h => h
theorem Ex.trans {H H1 H2 : Hp} (a : Ex H H1) (b : Ex H1 H2) : Ex H H2 := fun x o h => b x o (a x o h)
theorem Ex.new {H H1 : Hp} {p : Addr} {o : HO} (e : Ex H H1) (h : H1 p = none) : Ex H (upd H1 p o) := fun a u z => by
  rw [upd_ne (ne_of_none (e a u z) h)]
  exact e a u z
theorem Ex.at {H H1 : Hp} {p : Addr} {o : HO} (e : Ex H H1) (h : H p = none) : Ex H (upd H1 p o) := fun a u z => by
  rw [upd_ne (ne_of_none z h)]
  exact e a u z
theorem Ex.none {H H1 : Hp} {p : Addr} (e : Ex H H1) (h : H1 p = none) : H p = none := by
  cases q : H p with
  | none => rfl
  | some o =>
    rw [e p o q] at h
    cases h
theorem Kp.refl {s : Addr} {H : Hp} : Kp s H H := ⟨fun _ _ _ h => h, fun _ _ h => ⟨_, h⟩⟩
theorem Ex.kp {s : Addr} {H H' : Hp} (e : Ex H H') : Kp s H H' := ⟨fun a o _ h => e a o h, fun _ _ h => ⟨_, e _ _ h⟩⟩
theorem Kp.trans {s : Addr} {H H1 H2 : Hp} (a : Kp s H H1) (b : Kp s H1 H2) : Kp s H H2 := ⟨fun x o n h => b.1 x o n (a.1 x o n h), fun v xs h =>
  let ⟨_, h1⟩ := a.2 v xs h
  b.2 _ _ h1⟩
theorem Kp.new {s : Addr} {H H1 : Hp} {p : Addr} {o : HO} (e : Kp s H H1) (h : H1 p = none) : Kp s H (upd H1 p o) := e.trans (Ex.refl.new h).kp
theorem Kp.set {s : Addr} {H H1 : Hp} {v : V} {xs ys : List V} (e : Kp s H H1) (h : H1 s = some (.lst (v :: xs))) : Kp s H (upd H1 s (.lst (v :: ys))) := e.trans ⟨fun a u n z => by
  rw [upd_ne n]
  exact z, fun w zs z => by
  rw [h] at z
  cases z
  exact ⟨_, upd_same⟩⟩
theorem Kp.at {s : Addr} {H H1 : Hp} {p : Addr} {o : HO} (e : Kp s H H1) (h : H p = none) (hn : p ≠ s) : Kp s H (upd H1 p o) := ⟨fun a u n z => by
  rw [upd_ne (ne_of_none z h)]
  exact e.1 a u n z, fun v xs z =>
  let ⟨ys, q⟩ := e.2 v xs z
  ⟨ys, by rw [upd_ne (Ne.symm hn)]; exact q⟩⟩
theorem look_new {H : Hp} {p a : Addr} {o u : HO} (hp : H p = none) (h : H a = some u) : upd H p o a = some u := by
  rw [upd_ne (ne_of_none h hp)]
  exact h
theorem look_ne {H : Hp} {p a : Addr} {o u : HO} (hn : a ≠ p) (h : H a = some u) : upd H p o a = some u := by
  rw [upd_ne hn]
  exact h
theorem ex_rd {H H' : Hp} {a : Addr} {u : HO} (e : Ex H H') (h : Rd H a u) : Rd H' a u := h.elim (fun h => .inl (e _ _ h)) fun ⟨o, h⟩ => .inr ⟨o, e _ _ h⟩
theorem Ex.l {K : PySem.W.Frag} {H H' : Hp} {a : Addr} {xs : List V} (e : Ex H H') (h : SqL K H a xs) : SqL K H' a xs := h.elim (fun h => .inl (ex_rd e h)) .inr
theorem Ex.t {K : PySem.W.Frag} {H H' : Hp} {a : Addr} {xs : List V} (e : Ex H H') (h : SqT K H a xs) : SqT K H' a xs := h.elim (fun h => .inl (ex_rd e h)) .inr
theorem lOf {K : PySem.W.Frag} {H : Hp} {a : Addr} {xs : List V} (h : H a = some (.lst xs)) : SqL K H a xs := .inl (.inl h)
theorem tOf {K : PySem.W.Frag} {H : Hp} {a : Addr} {xs : List V} (h : H a = some (.tup xs)) : SqT K H a xs := .inl (.inl h)
end Lw
/-! Own classes: +, == by the text's own methods; defs that may raise. -/
namespace Lw
open PySem PySem.Spec PyProof.Rows L2
theorem passN {X : Cx} : Passes (L2N.CX X.prog X.w) X E0 := fun _ _ _ _ _ _ _ h => by
  obtain ⟨_, _, _, _, _, _, _, _, _, _, _, _, q⟩ := h
  exact q.elim
/-- in a def that may raise: what a callee lets out goes on -/
theorem passW {X : Cx} {E : XK} (tk : L2N.Takes X (fun cls d _ H => E cls d H)) : Passes (L2N.CX X.prog X.w) X E := fun _ σ _ _ e s' I c => tk e s' (L2N.XE.of_call I (fun _ _ _ h => h) c)
section
variable {X : Cx} {k : Nat} {ps : List Str} {sp : Sp} {x : Str} {p pos : Pos} {e : Expr} {es : List Expr} {t : TA} {W : WX}
/-- a def that may raise, called where W takes it -/
theorem pe_dS (D : Dn X.prog X.w X.K X.mg X.base (L2N.CX X.prog X.w) k x ps sp) (tk : L2N.Takes X W) (hr : Room k X.A) (hg : Gl X x) (ha : PA X (e :: es) t)
    (hdb : (x == ("__debug__" : Str)) = false := by decide) (he : starEach (e :: es) X.env = (false, eval e X.env) :: starEach es X.env := by rfl) (hpl : (backTo pos (starEach es X.env)).any (·.1) = false := by rfl) :
    PE X (.Call (.Name x p) (e :: es) [] pos) (tCallS sp (WE W) t) :=
  let ⟨_, _, h1, h2, h3, h4⟩ := D
  pe_callS h4 hr hg h1 h2 h3 (fun σ => L2N.passAt tk σ) ha hdb he hpl
end
/-! ### types of values, looked at -/
section
variable {X : Cx} {pins : List (Addr × Obj)} {σ : L2.St} {H : Hp} {s : Shared}
theorem looksTy {x : V} {u t : Value} (I : Inv X pins σ H s) (rx : RelV x u) (ty : TyX X.K H x t) : PySem.W.Looks (model X.prog X.w) s.heap (typeOf u) t :=
  let ⟨_, h1, h2, _⟩ := kit_of I rx ty
  h1.ty _ _ I.kIn h2
theorem rel_ni {v : V} {u : Value} (r : RelV v u) : u ≠ .notImplemented := by
  intro e
  subst e
  cases v <;> first | (cases r; done) | (obtain ⟨t, e⟩ := r; cases e)
theorem cmpBack {Q : VK} {u : Value} {s' : Shared} (h : EP X pins σ Q u s') : PySem.W.CmpBack (EP X pins σ Q) u s' := by
  obtain ⟨v, H', I', r, q⟩ := h
  have n := rel_ni r
  unfold PySem.W.CmpBack
  split
  · exact n rfl
  · exact ⟨v, H', I', r, q⟩
end
section
variable {X : Cx} {CX : CXT} {k : Nat} {C f : Addr} {fd : FuncData} {ps : List Str} {sp : Sp} {E : XK}
/-- x + y by the text's own __add__, both of the class at C -/
def rOwn (C : Addr) (sp : Sp) (E : XK) : R2 := fun x y H Q => ∃ a b dx dy fs gs, x = .ref a ∧ y = .ref b ∧ H a = some (.ins C dx fs) ∧ H b = some (.ins C dy gs) ∧ sp [.ref a, .ref b] H Q E
theorem op_own {op : Operator} (c : PySem.W.selfFirst X.K C = true) (hs : PySem.W.findIn X.K (.ref C) (PySem.dunder op.info.2) = some (some (.ref f))) (hf : PySem.W.isFn X.K (.ref f) = true) (F : FnOk X.prog X.w X.K X.mg X.base CX k f fd ps sp)
    (hr : Room k X.A) (hb : Binds X.K fd ps []) (hx : Passes CX X E) : OpR X (binaryOp op) (rOwn C sp E) := by
  intro pins s σ H x y v u Q I rx ry h
  obtain ⟨a, b, dx, dy, fs, gs, rfl, rfl, ha, hb', hsp⟩ := h
  cases rx
  cases ry
  obtain ⟨mA, J, _⟩ := ins_get I.hok ha
  obtain ⟨mB, J', _⟩ := ins_get I.hok hb'
  obtain ⟨od, J, _⟩ := J.look
  obtain ⟨od', J', _⟩ := J'.look
  obtain ⟨m, hF⟩ := I.fr
  refine PySem.W.binop_K hF I.ok.mod.kin J J'.type c hs hf (wpAny_mono (run_fn (us := [.ref a, .ref b]) (vs := [.ref a, .ref b]) F hr hb .nil hx I (.cons rfl (.cons rfl .nil)) hsp) (fun v s' q => cmpBack q) fun _ _ x => x)
/-- x == y by the text's own __eq__, x of the class at C -/
def rOwnEq (K : PySem.W.Frag) (C : Addr) (sp : Sp) (E : XK) : R2 := fun x y H Q => ∃ a dx fs t, x = .ref a ∧ H a = some (.ins C dx fs) ∧ TyX K H y t ∧ PySem.W.notFirst K C t = true ∧ sp [.ref a, y] H Q E
theorem op_ownEq (hu : X.A.units < cLine) (hs : PySem.W.findIn X.K (.ref C) "__eq__" = some (some (.ref f))) (hf : PySem.W.isFn X.K (.ref f) = true) (F : FnOk X.prog X.w X.K X.mg X.base CX k f fd ps sp)
    (hr : Room k X.A) (hb : Binds X.K fd ps []) (hx : Passes CX X E) : OpR X (compareOp .Eq) (rOwnEq X.K C sp E) := by
  intro pins s σ H x y v u Q I rx ry h
  obtain ⟨a, dx, fs, t, rfl, ha, ty, nf, hsp⟩ := h
  cases rx
  obtain ⟨mA, J, _⟩ := ins_get I.hok ha
  obtain ⟨od, J, _⟩ := J.look
  obtain ⟨m, hF⟩ := I.fr
  refine PySem.W.cmp_K (op := .Eq) hu hF I.ok.mod.kin J (looksTy I ry ty) nf hs hf (wpAny_mono (run_fn (us := [.ref a, u]) (vs := [.ref a, y]) F hr hb .nil hx I (.cons rfl (.cons ry .nil)) hsp) (fun v s' q => cmpBack q) fun _ _ x => x)
end
/-! ### methods -/
/-- the def at f keeps the promise sp -/
def Fm (P : Program) (w : World) (K : PySem.W.Frag) (mg : Str → Option Value) (base : Heap) (CX : CXT) (k : Nat) (f : Addr) (ps : List Str) (sp : Sp) : Prop := ∃ fd, Binds K fd ps [] ∧ FnOk P w K mg base CX k f fd ps sp
section
variable {X : Cx} {CX : CXT} {k : Nat} {C f : Addr} {ps : List Str} {sp : Sp} {E : XK} {x g : Str} {p pos : Pos} {e : Expr} {es : List Expr} {t : TA} {te tf : TE}
theorem Fm.r {P : Program} {w : World} {K : PySem.W.Frag} {mg : Str → Option Value} {base : Heap} (F : Fm P w K mg base CX k f ps sp) : FnR P w K mg base CX k f sp :=
  let ⟨_, hb, F⟩ := F
  (F.raw hb .nil).imp fun vs H Q E h => by
    rw [List.append_nil]
    exact h
theorem op_ownM {op : Operator} (c : PySem.W.selfFirst X.K C = true) (hs : PySem.W.findIn X.K (.ref C) (PySem.dunder op.info.2) = some (some (.ref f))) (hf : PySem.W.isFn X.K (.ref f) = true) (F : Fm X.prog X.w X.K X.mg X.base CX k f ps sp)
    (hr : Room k X.A) (hx : Passes CX X E) : OpR X (binaryOp op) (rOwn C sp E) :=
  let ⟨_, hb, F⟩ := F
  op_own c hs hf F hr hb hx
theorem op_ownEqM (hu : X.A.units < cLine) (m : Meth X.K C "__eq__" f) (F : Fm X.prog X.w X.K X.mg X.base CX k f ps sp) (hr : Room k X.A) (hx : Passes CX X E) : OpR X (compareOp .Eq) (rOwnEq X.K C sp E) :=
  let ⟨_, hb, F⟩ := F
  op_ownEq hu m.at_ m.fn F hr hb hx
/-- C(e, ..) -/
theorem pe_mk (F : Fm X.prog X.w X.K X.mg X.base CX k f ps sp) (M : Mk X.K C f) (hr : Room (k + 1) X.A) (hg : Gl X x) (hm : X.mg x = some (.ref C)) (hx : Passes CX X E)
    (ha : PA X (e :: es) t) (hdb : (x == ("__debug__" : Str)) = false := by decide) (he : starEach (e :: es) X.env = (false, eval e X.env) :: starEach es X.env := by rfl) (hpl : (backTo pos (starEach es X.env)).any (·.1) = false := by rfl) :
    PE X (.Call (.Name x p) (e :: es) [] pos) (tMake C sp [] E t) :=
  let ⟨_, hb, F⟩ := F
  pe_make M F hr hg hm hb .nil hx ha hdb he hpl
/-- e.g, a property -/
theorem pe_pr {pr : Addr} (F : Fm X.prog X.w X.K X.mg X.base CX k f ps sp) (c : Cls X.K C) (hp : PropOf X.K C g pr f) (hr : Room (k + 1) X.A) (hx : Passes CX X.nox E) (he : PE X e te)
    (hab : attributeBase e g X.env (eval e X.env) = eval e X.env := by rfl) : PE X (.Attribute e g pos) (tProp C sp [] E te) :=
  let ⟨_, hb, F⟩ := F
  pe_prop he c hp F hr hb .nil hx hab
/-- f(e, ..), f an instance -/
theorem pe_co {fe : Expr} (F : Fm X.prog X.w X.K X.mg X.base CX k f ps sp) (c : StX.CallO X.K C f) (hr : Room k X.A) (hx : Passes CX X E) (hf : PE X fe tf) (ha : PA X (e :: es) t)
    (ht : eval (.Call fe (e :: es) [] pos) X.env = (do callWith pos (← eval fe X.env) [] (backTo pos (starEach (e :: es) X.env)) (backToKw pos (keywordEach [] X.env))) := by rfl)
    (he : starEach (e :: es) X.env = (false, eval e X.env) :: starEach es X.env := by rfl) (hpl : (backTo pos (starEach es X.env)).any (·.1) = false := by rfl) : PE X (.Call fe (e :: es) [] pos) (StX.tCallO X C sp E tf t) :=
  StX.pe_callO hf c F.r hr hx ha ht he hpl
theorem tkOf {P : Program} {w : World} {K : PySem.W.Frag} {mg : Str → Option Value} {base : Heap} {N : List Str} {qual : Str} {scope : Scope} {f : Addr} {cdv : Value} {A : Around} {outer : List Env} {s : Shared} {H : Hp} {E : XK} :
    L2N.Takes (cxOf (L2N.CX P w) P w K mg base N qual scope f cdv A outer s H E) (fun cls d _ H => E cls d H) := L2N.takes_of rfl rfl rfl rfl
end
end Lw
/-! set(a list of ints), its sorted list, any number of them; a slice as a target. -/
namespace L2
open PySem PySem.Spec PyProof.Rows
section
variable {P : Program} {w : World} {A : Around} {E : Value → Shared → Prop} {s : Shared}
abbrev sO (w : World) : Obj := { cls := .type "set", dict := none, data := .set #[] 0 (.fresh 0 0 (!w.params.followText "set-order")) }
theorem call_set_lstI {la : Addr} {vs : Array Value} (zs : List Int) {Q : Value → Shared → Prop} (nh : A.handled = none) (hla : s.heap.IsList la vs) (are : IntsAre vs.toList zs) (few : zs.length + 1 < scanBound)
    (fin : ∀ (h2 : Heap) (tk c : Nat), SetR w h2 s.heap.objs.size (fun j => decide (j ∈ zs)) c → c ≤ zs.length → (∀ b u, s.heap.get? b = some u → h2.get? b = some u) → Q (.ref s.heap.objs.size) { s with heap := h2, toks := tk }) :
    wpAny (model P w) A (call (.type "set") [.ref la]) Q E s := by
  have size : vs.size = zs.length := by
    have q := IntsAre.length are
    rw [Array.length_toList] at q
    exact q
  obtain ⟨c0, tl0, mro⟩ := F.called_set.mro
  have made := F.called_set.made
  have sub := F.called_set.sub
  refine wpAny_call (codeAny_of_tree ?_)
  show wpAny _ _ (callAny (Value.type "set") _) _ _ _
  refine wpAny_pure (And.intro (Code.quiet_builtin _ (by decide +kernel)) (codeAny_builtin F.entry_type_call ?_))
  rw [Around.under_plain (weight_type_call_type "set" [Value.ref la] []) rfl]
  have f1 := F.called_set.notType
  have f2 := F.called_set.canCreate
  have fct := F.typeCall_set_1 (.ref la)
  repeat (any_goals (first | assumption | wp_step))

  refine codeAny_mono (code_set_led1 (.ref la) (E := E) (Q₁ := fun ob t => ob = .ref s.heap.objs.size ∧ t = { s with heap := s.heap.push (sO w) }) ⟨rfl, rfl⟩) fun r t hr => ?_
  cases r with
  | error e => exact hr
  | ok fl =>
    cases fl with
    | ret ob =>
      obtain ⟨rfl, rfl⟩ := hr
      have gS : (s.heap.push (sO w)).get? s.heap.objs.size = some (sO w) := Heap.get?_push_size _ rfl
      have tyS : Shared.TypeIs { s with heap := s.heap.push (sO w) } (.ref s.heap.objs.size) "set" := ⟨_, gS, rfl⟩
      have li := F.called_set.init.lookup
      have bi := F.called_set.init.bind (.ref s.heap.objs.size)
      repeat (any_goals (first | assumption | wp_step))

      refine codeAny_mono (codeAny_call_builtin (R := wants (fun r t2 => r = .none ∧ ∃ h2 tk c, t2 = { s with heap := h2, toks := tk } ∧ SetR w h2 s.heap.objs.size (fun j => decide (j ∈ zs)) c ∧ c ≤ zs.length ∧
          (∀ b u, s.heap.get? b = some u → h2.get? b = some u)) E) F.called_set.init.plain F.entry_set_init (check_set_init_1 tyS ?_)) fun r2 t2 hr2 => ?_
      · obtain ⟨ol, gl, cl, nl, dl⟩ := hla
        obtain ⟨ocls, odict, odata, oslots⟩ := ol
        simp only at cl dl
        subst cl; subst dl
        have gl' : (s.heap.push (sO w)).get? la = some { cls := .type "list", dict := odict, data := .seq vs nl, slots := oslots } := Heap.get?_push_of_some _ gl
        have s1 := F.sub_list_set
        have s2 := F.sub_list_frozenset
        have nd : (Value.type "list" == Value.type "dict") = false := by decide
        have lst : (s.heap.push (sO w)).IsList la vs := ⟨_, gl', rfl, nl, rfl⟩
        unfold Builtin.«set.__init__» noKeywords Builtin.Frozenset.updateFrom
        generalize gPI : pyIter = PI
        wp_walk
        subst gPI

        refine wpAny_pyIter_list lst ?_
        refine wpAny_bind (wpAny_runValue ?_)
        have lt1 : la < s.heap.objs.size := Heap.lt_size gl
        have nh3 : A.in1.in1.in1.handled = none := by simp [nh]
        have neI : la ≠ (s.heap.push (sO w)).objs.size := by
          rw [Heap.size_push]; exact Nat.ne_of_lt (Nat.lt_succ_of_lt lt1)
        have offS : s.heap.objs.size ∉ [(s.heap.push (sO w)).objs.size, la] := by
          rw [Heap.size_push]
          intro z
          rcases List.mem_cons.mp z with z | z
          · exact absurd z (Nat.ne_of_lt (Nat.lt_succ_self _))
          · exact absurd (List.mem_singleton.mp z) (Nat.ne_of_gt lt1)
        have vals : ∀ (i : Nat) (v : Value), vs[i]? = some v → ∃ k u, zs[i]? = some k ∧ v = .int k u := fun i v hv => by
          have hi : i < zs.length := by rw [← size]; exact (Array.getElem?_eq_some_iff.mp hv).1
          obtain ⟨u, e⟩ := PyProof.Rows.IntsAre.int_at are i v (by rw [Array.getElem?_toList]; exact hv)
          refine ⟨zs[i], u, List.getElem?_eq_getElem hi, ?_⟩
          rw [e, List.getD_eq_getElem?_getD, List.getElem?_eq_getElem hi] <;> rfl
        refine set_update_ints ((Walks.list nh3 _ la neI vs).toS) s.heap.objs.size offS zs size few vals (vs.size - 0) 0 _ (by omega) (Nat.zero_le _)
          ⟨⟨_, Heap.get?_push_size _ rfl, rfl, rfl⟩, (lst.push _)⟩ ?c0 ?c1
        case c0 =>
          have g2 : ((s.heap.push (sO w)).push { cls := .type "list_iterator", data := .fields #[.ref la, .int 0 0] }).get? s.heap.objs.size = some (sO w) := Heap.get?_push_of_some _ gS
          exact ⟨0, Nat.le_refl 0, setR_new_at g2⟩
        case c1 =>
          intro t c2 mv hc2 R2
          obtain ⟨h2, g2, d2, tk2, os2⟩ := t
          have eg : g2 = s.gens := mv.gens
          have ed : d2 = s.drawn := mv.drawn
          have eo : os2 = s.os := mv.os
          subst eg; subst ed; subst eo
          show wpAny _ _ _ _ _ _
          refine wpAny_pure ?_
          show wpAny _ _ (ret Value.none) _ _ _
          rw [size] at hc2
          refine wpAny_pure ⟨rfl, h2, tk2, c2, rfl, R2, hc2, fun b u e => ?_⟩
          have b0 : b < s.heap.objs.size := Heap.lt_size e
          refine mv.heap b u (fun z => ?_) (Heap.get?_push_of_some _ (Heap.get?_push_of_some _ e))
          rcases List.mem_cons.mp z with z | z
          · exact absurd z (Nat.ne_of_lt b0)
          · have z := List.mem_singleton.mp z
            rw [Heap.size_push] at z
            exact absurd z (Nat.ne_of_lt (Nat.lt_succ_of_lt b0))

      · cases r2 with
        | error e => exact hr2
        | ok fl2 =>
          cases fl2 with
          | ret r =>
            obtain ⟨rfl, h2, tk, c2, rfl, R2, hc2, kp⟩ := hr2
            repeat (any_goals (first | assumption | wp_step))
            exact fin _ _ _ R2 hc2 kp
          | _ => exact hr2.elim
    | _ => exact hr.elim
variable {a : Addr}
theorem sorted_setN {S : Int → Bool} {n : Nat} {Q : Value → Shared → Prop} (R : SetR w s.heap a S n) (nh : A.handled = none) (few : n ≤ 1000)
    (fin : ∀ t p (out : Array Value) (c : Nat) (zs : List Int), (∀ b u, s.heap.get? b = some u → t.heap.get? b = some u) → t.gens = s.gens → t.os = s.os → s.heap.objs.size ≤ p →
      t.heap.get? p = some (seqObj "list" out c) → IntsAre out.toList zs → zs.Pairwise (· < ·) → (∀ k, k ∈ zs ↔ S k = true) → zs.length = n → Q (.ref p) t) :
    wpAny (model P w) A (call (.builtin "sorted") [.ref a]) Q E s := by
  obtain ⟨o, es, ep, tb, ho, hex, hd, g, nd, hm, hb, hf, hn, hr, hl⟩ := R
  refine Calls.call_function_entry kind_sorted plain_sorted entry_sorted (args_sorted1 _) ?_
  unfold Builtin.«sorted»
  refine wpAny_bind (m := checkCount "sorted" 1 1 _) (wpAny_pure ?_)
  refine wpAny_bind (collect_set (A := A.in1) nh ⟨o, ho, hex.1, hd⟩ hf hb hr hl fun t us k1 hz g1 o1 pm => ?_)
  have ul : us.length = n := by rw [pm.length_eq, List.length_map, Array.length_toList]; exact hn
  have us64 : us.length ≤ sizeLine := by rw [ul, sizeLine_eq]; omega
  have are : IntsAre us (us.map Builtin.Re.reRawOf) := ints_of us fun v hv => by
    obtain ⟨e, he, q⟩ := List.mem_map.mp (pm.mem_iff.mp hv)
    obtain ⟨k, tk, z1, _⟩ := g e he
    exact ⟨k, tk, by rw [← q]; exact z1⟩
  have pk : (us.map Builtin.Re.reRawOf).Perm (es.toList.map keyOf) := by
    have q := pm.map Builtin.Re.reRawOf
    rw [List.map_map] at q
    exact q
  refine wpAny_bind (wpAny_newList ?_ us64)
  have oL : (t.heap.push (seqObj "list" us.toArray 0)).get? t.heap.objs.size = some (seqObj "list" us.toArray 0) := Heap.get?_push_size _ rfl
  refine wpAny_bind (wpAny_holding (wpAny_call_entry slot_list_sort ⟨_, oL, rfl⟩ entry_list_sort (SrtO.list_sort_ord SrtO.swo_int oL us64 (fun h2 => SrtO.ints_sortable are h2) fun out q1 q2 => ⟨_, rfl, ?_⟩) (args_list_sort _)))
  obtain ⟨a1, a2, a3⟩ := SrtO.ints_out are q1 q2
  obtain ⟨c, hc⟩ := sortedHeap_at (vs := us) (out := out.toArray) oL
  have pn : (out.map SrtO.iv).Perm (es.toList.map keyOf) := a2.trans pk
  refine wpAny_pure ⟨_, rfl, fin _ t.heap.objs.size out.toArray c (out.map SrtO.iv) (fun b u e => ?_) g1 o1 hz hc (by simpa using a1) (lt_of_le_nodup _ a3 (pn.nodup_iff.mpr nd)) (fun k => by rw [pn.mem_iff, ← hm k]) ?_⟩
  · have q := k1 b u e
    have lt := Heap.lt_size q
    show (sortedHeap (t.heap.push (seqObj "list" us.toArray 0)) t.heap.objs.size us out.toArray).get? b = some u
    rw [sortedHeap_old (Nat.ne_of_lt lt) (by rw [size_push']; exact Nat.lt_succ_of_lt lt)]
    exact Heap.get?_push_of_some _ q
  · rw [pn.length_eq, List.length_map, Array.length_toList]; exact hn
end
section
variable {X : Cx}
/-- set(xs), xs a list of ints -/
def rSetLN (K : PySem.W.Frag) (w : World) : List V → Hp → VK → Prop := fun vs H Q => ∃ (a : Addr) (zs : List Int), vs = [.ref a] ∧ SqL K H a (zs.map V.int) ∧ zs.length ≤ 1000 ∧
  ∀ p c, H p = none → c ≤ zs.length → Q (.ref p) (upd H p (SetO w p (fun j => decide (j ∈ zs)) c))
theorem cr_setL (hc : X.calm = true) : CallR X (.type "set") (rSetLN X.K X.w) := by
  intro pins s σ H vs us Q I r h
  obtain ⟨a, zs, rfl, hq, hl, q⟩ := h
  rw [Vals.ref1 r]
  obtain ⟨its, rv, pt, hz⟩ := I.list hq
  refine call_set_lstI zs (I.ok.hd hc) pt.isList (by simpa using rv.ints) (by unfold scanBound; omega) fun h2 tk c R hcn k => ?_
  have hn : H s.heap.objs.size = none := I.hok.fresh (Nat.le_refl _)
  exact ⟨.ref s.heap.objs.size, upd H s.heap.objs.size (SetO X.w s.heap.objs.size (fun j => decide (j ∈ zs)) c), I.laid (t' := tk) k (Nat.le_refl _) (setO_new R), rfl, q _ c hn hcn⟩
/-- sorted(found), at most 1000 members -/
def rSortedSN (w : World) : List V → Hp → VK → Prop := fun vs H Q => ∃ (a : Addr) (S : Int → Bool) (n : Nat), vs = [V.ref a] ∧ H a = some (SetO w a S n) ∧ n ≤ 1000 ∧
  ∀ (zs : List Int) (p : Addr), zs.Pairwise (· < ·) → (∀ k : Int, k ∈ zs ↔ S k = true) → zs.length = n → H p = none → Q (.ref p) (upd H p (.lst (zs.map V.int)))
theorem cr_sortedSN (hc : X.calm = true) : CallR X (.builtin "sorted") (rSortedSN X.w) := by
  intro pins s σ H vs us Q I r h
  obtain ⟨a, S, n, rfl, ha, few, q⟩ := h
  have R := setO_get I ha
  rw [Vals.ref1 r]
  refine sorted_setN R (I.ok.hd hc) few fun t p out c zs k g o hp hg hi hs hm hl => ?_
  have zl : (zs.map V.int).length ≤ sizeLine := by rw [List.length_map, hl, sizeLine_eq]; omega
  have hn : H p = none := I.hok.fresh hp
  have J : Inv X pins σ (upd H p (.lst (zs.map V.int))) { s with heap := t.heap, gens := t.gens, drawn := t.drawn, toks := t.toks } :=
    I.call (ch := []) (Un.laid k hp hn) (I.hok.laid k hp ⟨zl, out.toList, c, vals_of_ints hi, hg⟩) (by rw [g]; exact I.bare) (fun _ z => nomatch z)
  have e : t = { s with heap := t.heap, gens := t.gens, drawn := t.drawn, toks := t.toks } := by
    cases t
    cases s
    cases o
    rfl
  rw [e]
  exact ⟨.ref p, _, J, rfl, q zs p hs hm hl hn⟩
/-- o[i:j] = .. -/
def gSlc (to tl th : TE) : TG := fun v σ H Q => to σ H fun x H1 => tl σ H1 fun y H2 => th σ H2 fun z H3 => ∃ (l b : Addr) (xs ys : List V) (i j : Int), x = .ref l ∧ v = .ref b ∧ y = .int i ∧ z = .int j ∧
  H3 l = some (.lst xs) ∧ H3 b = some (.lst ys) ∧ l ≠ b ∧ 0 ≤ i ∧ i ≤ j ∧ j ≤ xs.length ∧ xs.length + ys.length ≤ sizeLine ∧ Q σ (upd H3 l (.lst (xs.take i.toNat ++ ys ++ xs.drop j.toNat)))
theorem pg_slc {o lo hi : Expr} {to tl th : TE} {p2 pos : Pos} (ho : PE X o to) (h1 : PE X lo tl) (h2 : PE X hi th)
    (ha : ∀ v, assign (.Subscript o (.Slice (some lo) (some hi) none p2) pos) X.env v = (do
      let ov ← holding [v] (eval o X.env)
      let iv ← holding [v, ov] (eval (.Slice (some lo) (some hi) none p2) X.env)
      standAt pos
      holding [v, ov, iv] (setItem ov iv v)
      release [iv, v, ov] []) := by intro _; rfl) : PG X (.Subscript o (.Slice (some lo) (some hi) none p2) pos) (gSlc to tl th) := by
  refine ⟨fun pins s σ H v u Q I r h => ?_⟩
  rw [ha]
  refine wpAny_bind (wpAny_holding (thn (ho.run pins s σ H _ I h) fun ov s1 ⟨x, H1, I1, r1, q1⟩ => ?_))
  refine wpAny_bind (wpAny_holding (wpAny_Slice ?_))
  rw [evalPart_some]
  refine thn (h1.run pins s1 σ H1 _ I1 q1) fun vl s2 ⟨y, H2, I2, r2, q2⟩ => ?_
  rw [evalPart_some]
  refine thn (h2.run pins s2 σ H2 _ I2 q2) fun vu s3 ⟨z, H3, I3, r3, q3⟩ => ?_
  rw [evalPart_none]
  refine wpAny_pure ?_
  have I4 : Inv X pins σ H3 { s3 with heap := s3.heap.push { cls := .type "slice", data := .fields #[vl, vu, .none] } } := I3.kept (t' := s3.toks) fun b ob q => Heap.get?_push_of_some _ q
  obtain ⟨l, b, xs, ys, i, j, rfl, rfl, rfl, rfl, hH, hB, hne, i0, ij, jn, hz, q⟩ := q3
  cases r1
  cases r
  refine wpAny_bind (wpAny_standAt (wpAny_bind (wpAny_holding (set_slice I4 hH hB hne (Heap.IsSliceOf.new ..) r2 r3 i0 ij jn hz fun s' I' => ?_))))
  exact wpAny_release ⟨σ, _, I', q⟩
end
end L2
/-! Orders told by the parity of the least number between two places: plain lists, no program. -/
namespace TurnX
/-- the gap's number -/
def G (gs : List Int) (k : Nat) : Int := gs.getD k 0
/-- no gap between the two is below h -/
def Cn (gs : List Int) (h : Int) (i j : Nat) : Prop := ∀ g, min i j ≤ g → g < max i j → h ≤ G gs g
/-- the least of the d + 1 gaps from i on -/
def mn (gs : List Int) (i : Nat) : Nat → Int
  | 0 => G gs i
  | d + 1 => min (mn gs i d) (G gs (i + d + 1))
/-- the least number between two places -/
def M (gs : List Int) (i j : Nat) : Int := mn gs (min i j) (max i j - min i j - 1)
theorem M_comm (gs : List Int) (i j : Nat) : M gs i j = M gs j i := by
  unfold M
  rw [Nat.min_comm, Nat.max_comm]
theorem mn_le {gs : List Int} {i : Nat} : ∀ {d k : Nat}, k ≤ d → mn gs i d ≤ G gs (i + k)
  | 0, k, h => by
    obtain rfl : k = 0 := by omega
    exact Int.le_refl _
  | d + 1, k, h => by
    show min (mn gs i d) (G gs (i + d + 1)) ≤ _
    by_cases e : k = d + 1
    · subst e
      exact Int.min_le_right ..
    · exact Int.le_trans (Int.min_le_left ..) (mn_le (by omega))
theorem mn_at {gs : List Int} {i : Nat} : ∀ d : Nat, ∃ k, k ≤ d ∧ mn gs i d = G gs (i + k)
  | 0 => ⟨0, Nat.le_refl _, rfl⟩
  | d + 1 => by
    obtain ⟨k, h, e⟩ := mn_at (gs := gs) (i := i) d
    by_cases c : mn gs i d ≤ G gs (i + d + 1)
    · refine ⟨k, by omega, ?_⟩
      show min (mn gs i d) _ = _
      rw [Int.min_eq_left c, e]
    · refine ⟨d + 1, by omega, ?_⟩
      show min (mn gs i d) _ = _
      rw [Int.min_eq_right (by omega)]
      rfl
theorem M_le {gs : List Int} {i j g : Nat} (h1 : min i j ≤ g) (h2 : g < max i j) : M gs i j ≤ G gs g := by
  have := mn_le (gs := gs) (i := min i j) (d := max i j - min i j - 1) (k := g - min i j) (by omega)
  rwa [show min i j + (g - min i j) = g by omega] at this
theorem M_at {gs : List Int} {i j : Nat} (h : i ≠ j) : ∃ g, min i j ≤ g ∧ g < max i j ∧ M gs i j = G gs g := by
  obtain ⟨k, hk, e⟩ := mn_at (gs := gs) (i := min i j) (max i j - min i j - 1)
  exact ⟨min i j + k, by omega, by omega, e⟩
theorem Cn.refl {gs : List Int} {h : Int} {i : Nat} : Cn gs h i i := fun g h1 h2 => by omega
theorem Cn.symm {gs : List Int} {h : Int} {i j : Nat} (c : Cn gs h i j) : Cn gs h j i := fun g h1 h2 => c g (by omega) (by omega)
theorem Cn.trans {gs : List Int} {h : Int} {i j k : Nat} (c : Cn gs h i j) (d : Cn gs h j k) : Cn gs h i k := fun g h1 h2 => by
  by_cases e : min i j ≤ g ∧ g < max i j
  · exact c g e.1 e.2
  · exact d g (by omega) (by omega)
theorem Cn.mono {gs : List Int} {h h' : Int} {i j : Nat} (c : Cn gs h i j) (e : h' ≤ h) : Cn gs h' i j := fun g h1 h2 => Int.le_trans e (c g h1 h2)
/-- places apart stay in order -/
theorem apart {gs : List Int} {h : Int} {a b u v : Nat} (n : ¬ Cn gs h u v) (ca : Cn gs h a u) (cb : Cn gs h b v) (hab : a < b) : u < v := by
  have n2 : ¬ Cn gs h a b := fun c => n (ca.symm.trans (c.trans cb))
  obtain ⟨g, h1, h2, h3⟩ : ∃ g, a ≤ g ∧ g < b ∧ ¬ h ≤ G gs g := by
    false_or_by_contra
    rename_i q
    exact n2 fun g h1 h2 => by
      false_or_by_contra
      rename_i z
      exact q ⟨g, by omega, by omega, z⟩
  have e1 : u ≤ g := by
    false_or_by_contra
    exact h3 (ca g (by omega) (by omega))
  have e2 : g < v := by
    false_or_by_contra
    exact h3 (cb g (by omega) (by omega))
  omega
/-! ### the order while heights are turned -/
structure St (gs : List Int) (L : List Nat) (h p : Int) : Prop where
  len : L.length = gs.length + 1
  bd : ∀ k v : Nat, L[k]? = some v → v ≤ gs.length ∧ Cn gs h k v
  inj : ∀ a b v : Nat, L[a]? = some v → L[b]? = some v → a = b
  ord : ∀ a b u v : Nat, a < b → L[a]? = some u → L[b]? = some v → Cn gs h u v → (u < v ↔ (M gs u v - p) % 2 = 0)
theorem St.start {gs : List Int} {h p : Int} (hh : ∀ g ∈ gs, g < h) : St gs (List.range (gs.length + 1)) h p where
  len := List.length_range
  bd := fun k v e => by
    obtain ⟨h1, h2⟩ := List.getElem?_eq_some_iff.mp e
    rw [List.getElem_range] at h2
    rw [List.length_range] at h1
    subst h2
    exact ⟨by omega, Cn.refl⟩
  inj := fun a b v e1 e2 => by
    obtain ⟨_, h1⟩ := List.getElem?_eq_some_iff.mp e1
    obtain ⟨_, h2⟩ := List.getElem?_eq_some_iff.mp e2
    rw [List.getElem_range] at h1 h2
    omega
  ord := fun a b u v hab e1 e2 c => by
    obtain ⟨ha, h1⟩ := List.getElem?_eq_some_iff.mp e1
    obtain ⟨hb, h2⟩ := List.getElem?_eq_some_iff.mp e2
    rw [List.getElem_range] at h1 h2
    rw [List.length_range] at ha hb
    exfalso
    have q := c u (by omega) (by omega)
    have hu : u < gs.length := by omega
    have hm : G gs u ∈ gs := by
      unfold G
      rw [List.getD_eq_getElem?_getD, List.getElem?_eq_getElem hu]
      exact List.getElem_mem hu
    have := hh _ hm
    omega
/-- the next height comes in, nothing turned: the order says h -/
theorem St.low {gs : List Int} {L : List Nat} {h1 h : Int} (S : St gs L h1 h) (hl : h ≤ h1) (gap : ∀ k, k < gs.length → h ≤ G gs k → G gs k = h ∨ h1 ≤ G gs k) : St gs L h h where
  len := S.len
  bd := fun k v e => ⟨(S.bd k v e).1, (S.bd k v e).2.mono hl⟩
  inj := S.inj
  ord := fun a b u v hab e1 e2 c => by
    by_cases c1 : Cn gs h1 u v
    · exact S.ord a b u v hab e1 e2 c1
    · have lt := apart c1 (S.bd a u e1).2 (S.bd b v e2).2 hab
      obtain ⟨g, q1, q2, q3⟩ : ∃ g, min u v ≤ g ∧ g < max u v ∧ ¬ h1 ≤ G gs g := by
        false_or_by_contra
        rename_i q
        exact c1 fun g h1 h2 => by
          false_or_by_contra
          rename_i z
          exact q ⟨g, h1, h2, z⟩
      have bv := (S.bd b v e2).1
      have e := (gap g (by omega) (c g q1 q2)).resolve_right q3
      obtain ⟨g2, r1, r2, r3⟩ := M_at (gs := gs) (show u ≠ v by omega)
      have m1 := M_le (gs := gs) q1 q2
      have m2 := c g2 r1 r2
      have : M gs u v = h := by omega
      rw [this]
      simp [lt]
/-- one turn of all stretches at h: the entry k of the new list is entry s + e - k of the old -/
def Turned (gs : List Int) (h : Int) (L O : List Nat) : Prop :=
  O.length = L.length ∧ ∀ k, k < L.length → ∃ s e, s ≤ k ∧ k ≤ e ∧ e ≤ gs.length ∧ Cn gs h s e ∧ (s = 0 ∨ G gs (s - 1) < h) ∧ (e = gs.length ∨ G gs e < h) ∧ O[k]? = L[s + e - k]?
theorem stretch_one {gs : List Int} {h : Int} {s e s' e' k k' : Nat} (h1 : s ≤ k) (h2 : k ≤ e) (h1' : s' ≤ k') (h2' : k' ≤ e') (c : Cn gs h k k') (cs : Cn gs h s e) (cs' : Cn gs h s' e') (b1 : s = 0 ∨ G gs (s - 1) < h)
    (b1' : s' = 0 ∨ G gs (s' - 1) < h) (b2 : e = gs.length ∨ G gs e < h) (b2' : e' = gs.length ∨ G gs e' < h) (m : e ≤ gs.length) (m' : e' ≤ gs.length) : s = s' ∧ e = e' := by
  have all : Cn gs h s e' := by
    have a1 : Cn gs h s k := fun g z1 z2 => cs g (by omega) (by omega)
    have a2 : Cn gs h k' e' := fun g z1 z2 => cs' g (by omega) (by omega)
    exact a1.trans (c.trans a2)
  have all2 : Cn gs h s' e := by
    have a1 : Cn gs h s' k' := fun g z1 z2 => cs' g (by omega) (by omega)
    have a2 : Cn gs h k e := fun g z1 z2 => cs g (by omega) (by omega)
    exact a1.trans (c.symm.trans a2)
  have lo : ∀ {s e s' e' : Nat}, s ≤ e → s' ≤ e' → Cn gs h s e → Cn gs h s' e' → Cn gs h s e' → Cn gs h s' e → (s = 0 ∨ G gs (s - 1) < h) → ¬ s' < s := fun z1 z2 c1 c2 c3 c4 b hlt => by
    rename_i s e s' e'
    have b := b.resolve_left (by omega)
    have := c4 (s - 1) (by omega) (by omega)
    omega
  have hi : ∀ {s e s' e' : Nat}, s ≤ e → s' ≤ e' → e' ≤ gs.length → Cn gs h s e → Cn gs h s' e' → Cn gs h s e' → Cn gs h s' e → (e = gs.length ∨ G gs e < h) → ¬ e < e' := fun z1 z2 z3 c1 c2 c3 c4 b hlt => by
    rename_i s e s' e'
    have b := b.resolve_left (by omega)
    have := c3 e (by omega) (by omega)
    omega
  have l1 := lo (by omega) (by omega) cs cs' all all2 b1
  have l2 := lo (by omega) (by omega) cs' cs all2 all b1'
  have l3 := hi (by omega) (by omega) m' cs cs' all all2 b2
  have l4 := hi (by omega) (by omega) m cs' cs all2 all b2'
  omega
theorem St.turn {gs : List Int} {L O : List Nat} {h p : Int} (S : St gs L h h) (T : Turned gs h L O) (hp : (h - p) % 2 = 1) : St gs O h p where
  len := T.1.trans S.len
  bd := fun k v e => by
    have hk : k < L.length := by
      have := (List.getElem?_eq_some_iff.mp e).1
      rw [T.1] at this
      exact this
    obtain ⟨s, t, h1, h2, h3, c, _, _, q⟩ := T.2 k hk
    rw [q] at e
    obtain ⟨b1, b2⟩ := S.bd _ v e
    have a1 : Cn gs h k (s + t - k) := fun g z1 z2 => c g (by omega) (by omega)
    exact ⟨b1, a1.trans b2⟩
  inj := fun a b v e1 e2 => by
    have ha : a < L.length := by
      have := (List.getElem?_eq_some_iff.mp e1).1
      rw [T.1] at this
      exact this
    have hb : b < L.length := by
      have := (List.getElem?_eq_some_iff.mp e2).1
      rw [T.1] at this
      exact this
    obtain ⟨s, t, h1, h2, h3, c, l1, r1, q1⟩ := T.2 a ha
    obtain ⟨s', t', h1', h2', h3', c', l2, r2, q2⟩ := T.2 b hb
    rw [q1] at e1
    rw [q2] at e2
    have e := S.inj _ _ v e1 e2
    have cab : Cn gs h a b := by
      have a1 : Cn gs h a (s + t - a) := fun g z1 z2 => c g (by omega) (by omega)
      have a2 : Cn gs h (s' + t' - b) b := fun g z1 z2 => c' g (by omega) (by omega)
      exact a1.trans (by rw [e]; exact a2)
    obtain ⟨z1, z2⟩ := stretch_one h1 h2 h1' h2' cab c c' l1 l2 r1 r2 h3 h3'
    omega
  ord := fun a b u v hab e1 e2 cuv => by
    have ha : a < L.length := by
      have := (List.getElem?_eq_some_iff.mp e1).1
      rw [T.1] at this
      exact this
    have hb : b < L.length := by
      have := (List.getElem?_eq_some_iff.mp e2).1
      rw [T.1] at this
      exact this
    obtain ⟨s, t, h1, h2, h3, c, l1, r1, q1⟩ := T.2 a ha
    obtain ⟨s', t', h1', h2', h3', c', l2, r2, q2⟩ := T.2 b hb
    rw [q1] at e1
    rw [q2] at e2
    have c1 := (S.bd _ u e1).2
    have c2 := (S.bd _ v e2).2
    have cab : Cn gs h a b := by
      have a1 : Cn gs h a (s + t - a) := fun g z1 z2 => c g (by omega) (by omega)
      have a2 : Cn gs h (s' + t' - b) b := fun g z1 z2 => c' g (by omega) (by omega)
      exact a1.trans (c1.trans (cuv.trans (c2.symm.trans a2)))
    obtain ⟨z1, z2⟩ := stretch_one h1 h2 h1' h2' cab c c' l1 l2 r1 r2 h3 h3'
    subst z1 z2
    have o := S.ord (s + t - b) (s + t - a) v u (by omega) e2 e1 cuv.symm
    have ne : u ≠ v := fun z => by
      subst z
      have := S.inj _ _ u e1 e2
      omega
    rw [M_comm] at o
    constructor
    · intro lt
      have : ¬ (M gs u v - h) % 2 = 0 := fun z => by
        have := o.mpr z
        omega
      omega
    · intro z
      have : ¬ v < u := fun z2 => by
        have := o.mp z2
        omega
      omega
theorem St.same {gs : List Int} {L : List Nat} {h p : Int} (S : St gs L h h) (hp : (h - p) % 2 = 0) : St gs L h p where
  len := S.len
  bd := S.bd
  inj := S.inj
  ord := fun a b u v hab e1 e2 c => by
    rw [S.ord a b u v hab e1 e2 c]
    omega
/-! ### the loop over the gaps -/
structure Lp (gs : List Int) (h : Int) (L O : List Nat) (s i : Nat) : Prop where
  len : O.length = L.length
  si : s ≤ i
  hi : ∀ g, s ≤ g → g < i → h ≤ G gs g
  lo : s = 0 ∨ G gs (s - 1) < h ∨ s = gs.length + 1
  old : ∀ k, k < s → ∃ a e, a ≤ k ∧ k ≤ e ∧ e ≤ gs.length ∧ Cn gs h a e ∧ (a = 0 ∨ G gs (a - 1) < h) ∧ (e = gs.length ∨ G gs e < h) ∧ O[k]? = L[a + e - k]?
  new : ∀ k, s ≤ k → O[k]? = L[k]?
theorem Lp.start {gs : List Int} {h : Int} {L : List Nat} : Lp gs h L L 0 0 := ⟨rfl, Nat.le_refl _, fun g _ h => by omega, .inl rfl, fun k h => by omega, fun k _ => rfl⟩
theorem Lp.on {gs : List Int} {h : Int} {L O : List Nat} {s i : Nat} (P : Lp gs h L O s i) (hh : h ≤ G gs i) : Lp gs h L O s (i + 1) :=
  ⟨P.len, Nat.le_succ_of_le P.si, fun g h1 h2 => by
    by_cases e : g = i
    · rw [e]
      exact hh
    · exact P.hi g h1 (by omega), P.lo, P.old, P.new⟩
/-- the piece from s to i reversed -/
def piece (O : List Nat) (s i : Nat) : List Nat := O.take s ++ ((O.drop s).take (i + 1 - s)).reverse ++ O.drop (i + 1)
theorem piece_at {O : List Nat} {s i : Nat} (h : s ≤ i) (hi : i < O.length) (k : Nat) : (piece O s i)[k]? = if s ≤ k ∧ k ≤ i then O[s + i - k]? else O[k]? := by
  have l1 : (O.take s).length = s := by rw [List.length_take]; omega
  have l2 : ((O.drop s).take (i + 1 - s)).reverse.length = i + 1 - s := by rw [List.length_reverse, List.length_take, List.length_drop]; omega
  have l2' : ((O.drop s).take (i + 1 - s)).length = i + 1 - s := by rw [List.length_take, List.length_drop]; omega
  unfold piece
  by_cases h1 : k < s
  · rw [if_neg (by omega), List.getElem?_append_left (by rw [List.length_append, l1, l2]; omega), List.getElem?_append_left (by omega), List.getElem?_take, if_pos h1]
  by_cases h2 : k ≤ i
  · rw [if_pos ⟨by omega, h2⟩, List.getElem?_append_left (by rw [List.length_append, l1, l2]; omega), List.getElem?_append_right (by omega), l1, List.getElem?_reverse (by omega), l2', List.getElem?_take, if_pos (by omega), List.getElem?_drop]
    congr 1
    omega
  · rw [if_neg (by omega), List.getElem?_append_right (by rw [List.length_append, l1, l2]; omega), List.length_append, l1, l2, List.getElem?_drop]
    congr 1
    omega
theorem piece_len {O : List Nat} {s i : Nat} (h : s ≤ i) (hi : i < O.length) : (piece O s i).length = O.length := by
  unfold piece
  rw [List.length_append, List.length_append, List.length_reverse, List.length_take, List.length_take, List.length_drop, List.length_drop]
  omega
theorem Lp.cut {gs : List Int} {h : Int} {L O : List Nat} {s i : Nat} (P : Lp gs h L O s i) (hi : i ≤ gs.length) (hL : L.length = gs.length + 1) (hh : i = gs.length ∨ G gs i < h) : Lp gs h L (piece O s i) (i + 1) (i + 1) where
  len := (piece_len P.si (by rw [P.len]; omega)).trans P.len
  si := Nat.le_refl _
  hi := fun g h1 h2 => by omega
  lo := hh.elim (fun e => .inr (.inr (by rw [e]))) fun e => .inr (.inl e)
  old := fun k hk => by
    have hl : i < O.length := by rw [P.len]; omega
    by_cases h1 : k < s
    · obtain ⟨a, e, q1, q2, q3, q4, q5, q6, q7⟩ := P.old k h1
      refine ⟨a, e, q1, q2, q3, q4, q5, q6, ?_⟩
      rw [piece_at P.si hl, if_neg (by omega)]
      exact q7
    · have hk2 : k ≤ i := by omega
      refine ⟨s, i, by omega, hk2, hi, fun g z1 z2 => P.hi g (by omega) (by omega), P.lo.imp id (fun z => z.resolve_right (by omega)), hh, ?_⟩
      rw [piece_at P.si hl, if_pos ⟨by omega, hk2⟩]
      exact P.new _ (by omega)
  new := fun k hk => by
    rw [piece_at P.si (by rw [P.len]; omega), if_neg (by omega)]
    exact P.new k (by have := P.si; omega)
theorem Lp.done {gs : List Int} {h : Int} {L O : List Nat} {i : Nat} (P : Lp gs h L O (gs.length + 1) i) (hL : L.length = gs.length + 1) : Turned gs h L O := ⟨P.len, fun k hk => P.old k (by omega)⟩
/-! ### the whole order -/
/-- the places in the order that the least numbers tell -/
structure Fin (gs : List Int) (L : List Nat) : Prop where
  len : L.length = gs.length + 1
  bd : ∀ k v : Nat, L[k]? = some v → v ≤ gs.length
  inj : ∀ a b v : Nat, L[a]? = some v → L[b]? = some v → a = b
  ord : ∀ a b u v : Nat, a < b → L[a]? = some u → L[b]? = some v → (u < v ↔ M gs u v % 2 = 0)
theorem St.fin {gs : List Int} {L : List Nat} {h : Int} (S : St gs L h 0) (hh : ∀ k, k < gs.length → h ≤ G gs k) : Fin gs L where
  len := S.len
  bd := fun k v e => (S.bd k v e).1
  inj := S.inj
  ord := fun a b u v hab e1 e2 => by
    have q := S.ord a b u v hab e1 e2 fun g h1 h2 => hh g (by have := (S.bd _ _ e1).1; have := (S.bd _ _ e2).1; omega)
    rw [q, Int.sub_zero]
/-- the height below the first m ones, 0 below all -/
def below (zs : List Int) (m : Nat) : Int := if m = 0 then 0 else zs.getD (m - 1) 0
/-- the heights from m on are turned -/
def Inv (gs zs : List Int) (m : Nat) (L : List Nat) : Prop := ∃ h1, St gs L h1 (below zs m) ∧ (∀ j z, j < m → zs[j]? = some z → z < h1) ∧ ∀ k, k < gs.length → G gs k < h1 → ∃ j, j < m ∧ zs[j]? = some (G gs k)
theorem G_mem {gs : List Int} {k : Nat} (h : k < gs.length) : G gs k ∈ gs := by
  unfold G
  rw [List.getD_eq_getElem?_getD, List.getElem?_eq_getElem h]
  exact List.getElem_mem h
theorem above (gs : List Int) : ∃ h : Int, ∀ g ∈ gs, g < h := by
  induction gs with
  | nil => exact ⟨0, fun g h => by cases h⟩
  | cons x gs ih =>
    obtain ⟨h, q⟩ := ih
    refine ⟨max (x + 1) h, fun g hg => ?_⟩
    rcases List.mem_cons.mp hg with e | e
    · omega
    · have := q g e
      omega
theorem Inv.start {gs zs : List Int} (mem : ∀ z, z ∈ zs ↔ z ∈ gs) : Inv gs zs zs.length (List.range (gs.length + 1)) := by
  obtain ⟨h1, q⟩ := above gs
  refine ⟨h1, St.start q, fun j z hj e => q z ((mem z).mp (List.mem_of_getElem? e)), fun k hk _ => ?_⟩
  obtain ⟨j, e⟩ := List.getElem?_of_mem ((mem _).mpr (G_mem hk))
  exact ⟨j, (List.getElem?_eq_some_iff.mp e).1, e⟩
theorem asc {zs : List Int} (hz : zs.Pairwise (· < ·)) {i j : Nat} {x y : Int} (h : i < j) (hx : zs[i]? = some x) (hy : zs[j]? = some y) : x < y := by
  obtain ⟨h1, rfl⟩ := List.getElem?_eq_some_iff.mp hx
  obtain ⟨h2, rfl⟩ := List.getElem?_eq_some_iff.mp hy
  exact List.pairwise_iff_getElem.mp hz i j h1 h2 h
theorem Inv.low {gs zs : List Int} {m : Nat} {L : List Nat} {h : Int} (hz : zs.Pairwise (· < ·)) (I : Inv gs zs (m + 1) L) (hm : zs[m]? = some h) : St gs L h h := by
  obtain ⟨h1, S, a, b⟩ := I
  have e : below zs (m + 1) = h := by
    unfold below
    rw [if_neg (by omega), List.getD_eq_getElem?_getD]
    show (zs[m]?).getD 0 = h
    rw [hm]
    rfl
  rw [e] at S
  refine S.low (Int.le_of_lt (a m h (by omega) hm)) fun k hk hle => ?_
  by_cases c : G gs k < h1
  · obtain ⟨j, hj, ej⟩ := b k hk c
    by_cases q : j = m
    · subst q
      rw [hm] at ej
      cases ej
      exact .inl rfl
    · have := asc hz (show j < m by omega) ej hm
      omega
  · exact .inr (by omega)
theorem Inv.next {gs zs : List Int} {m : Nat} {L : List Nat} {h : Int} (mem : ∀ z, z ∈ zs ↔ z ∈ gs) (hz : zs.Pairwise (· < ·)) (hm : zs[m]? = some h) (S : St gs L h (below zs m)) : Inv gs zs m L := by
  refine ⟨h, S, fun j z hj e => asc hz hj e hm, fun k hk hlt => ?_⟩
  obtain ⟨j, e⟩ := List.getElem?_of_mem ((mem _).mpr (G_mem hk))
  refine ⟨j, ?_, e⟩
  false_or_by_contra
  rename_i c
  by_cases q : j = m
  · subst q
    rw [hm] at e
    cases e
    omega
  · have := asc hz (show m < j by omega) hm e
    omega
theorem Inv.turn {gs zs : List Int} {m : Nat} {L O : List Nat} {h : Int} (mem : ∀ z, z ∈ zs ↔ z ∈ gs) (hz : zs.Pairwise (· < ·)) (I : Inv gs zs (m + 1) L) (hm : zs[m]? = some h) (T : Turned gs h L O) (hp : (h - below zs m) % 2 = 1) : Inv gs zs m O :=
  .next mem hz hm ((I.low hz hm).turn T hp)
theorem Inv.stay {gs zs : List Int} {m : Nat} {L : List Nat} {h : Int} (mem : ∀ z, z ∈ zs ↔ z ∈ gs) (hz : zs.Pairwise (· < ·)) (I : Inv gs zs (m + 1) L) (hm : zs[m]? = some h) (hp : ¬ (h - below zs m) % 2 = 1) : Inv gs zs m L :=
  .next mem hz hm ((I.low hz hm).same (by omega))
theorem Inv.fin {gs zs : List Int} {L : List Nat} (I : Inv gs zs 0 L) : Fin gs L := by
  obtain ⟨h1, S, a, b⟩ := I
  refine St.fin (h := h1) S fun k hk => ?_
  false_or_by_contra
  rename_i c
  obtain ⟨j, hj, _⟩ := b k hk (by omega)
  omega
/-- y is shown ahead of x -/
def bef (gs : List Int) (y x : Nat) : Bool := if y < x then decide (M gs y x % 2 = 0) else if x < y then decide (¬ M gs y x % 2 = 0) else false
theorem Fin.bef {gs : List Int} {L : List Nat} (F : Fin gs L) {a b x y : Nat} (ha : L[a]? = some x) (hb : L[b]? = some y) : bef gs y x = decide (b < a) := by
  unfold TurnX.bef
  by_cases h : b < a
  · have o := F.ord b a y x h hb ha
    by_cases c : y < x
    · rw [if_pos c, decide_eq_true h]
      exact decide_eq_true (o.mp c)
    · have ne : x ≠ y := fun z => by
        subst z
        have := F.inj _ _ _ ha hb
        omega
      rw [if_neg c, if_pos (by omega), decide_eq_true h]
      exact decide_eq_true fun z => c (o.mpr z)
  · rw [decide_eq_false h]
    by_cases e : a = b
    · subst e
      rw [ha] at hb
      cases hb
      rw [if_neg (Nat.lt_irrefl _), if_neg (Nat.lt_irrefl _)]
    · have o := F.ord a b x y (by omega) ha hb
      rw [M_comm] at o
      by_cases c : y < x
      · rw [if_pos c]
        refine decide_eq_false fun z => ?_
        have := o.mpr z
        omega
      · rw [if_neg c]
        by_cases c2 : x < y
        · rw [if_pos c2]
          exact decide_eq_false fun z => z (o.mp c2)
        · rw [if_neg c2]
theorem perm_of {R : List Nat} : ∀ {L : List Nat}, L.Nodup → (∀ v ∈ L, v ∈ R) → R.length ≤ L.length → L.Perm R := by
  intro L
  induction L generalizing R with
  | nil =>
    intro _ _ h
    have : R = [] := List.eq_nil_of_length_eq_zero (by simpa using h)
    rw [this]
  | cons x L ih =>
    intro nd sub hl
    obtain ⟨n1, n2⟩ := List.nodup_cons.mp nd
    have hx := sub x List.mem_cons_self
    have q := List.perm_cons_erase hx
    refine (List.Perm.cons x (ih n2 (fun v hv => ?_) ?_)).trans q.symm
    · have : v ≠ x := fun e => n1 (e ▸ hv)
      exact (List.mem_erase_of_ne this).mpr (sub v (List.mem_cons_of_mem _ hv))
    · have := q.length_eq
      simp only [List.length_cons] at this hl
      omega
theorem Fin.nodup {gs : List Int} {L : List Nat} (F : Fin gs L) : L.Nodup := by
  rw [List.Nodup, List.pairwise_iff_getElem]
  intro i j h1 h2 lt e
  have := F.inj i j L[i] (List.getElem?_eq_getElem h1) (by rw [e]; exact List.getElem?_eq_getElem h2)
  omega
theorem Fin.perm {gs : List Int} {L : List Nat} (F : Fin gs L) : L.Perm (List.range (gs.length + 1)) := by
  refine perm_of F.nodup (fun v hv => ?_) (by rw [List.length_range, F.len]; omega)
  obtain ⟨k, e⟩ := List.getElem?_of_mem hv
  exact List.mem_range.mpr (by have := F.bd k v e; omega)
theorem count_pos {L : List Nat} {f : Nat → Bool} : ∀ {a : Nat}, a ≤ L.length → (∀ b y, L[b]? = some y → f y = decide (b < a)) → L.countP f = a := by
  induction L with
  | nil =>
    intro a h _
    simp at h
    simp [h]
  | cons x L ih =>
    intro a h hf
    rw [List.countP_cons]
    have h0 := hf 0 x rfl
    cases a with
    | zero =>
      rw [h0, ih (a := 0) (Nat.zero_le _) fun b y e => by rw [hf (b + 1) y e]; simp]
      simp
    | succ a =>
      rw [h0, ih (a := a) (by simpa using h) fun b y e => by rw [hf (b + 1) y e]; simp]
      simp
/-- a place's index is the number of places ahead of it -/
theorem Fin.idx {gs : List Int} {L : List Nat} (F : Fin gs L) {a x : Nat} (ha : L[a]? = some x) : (List.range (gs.length + 1)).countP (fun y => TurnX.bef gs y x) = a := by
  rw [← F.perm.countP_eq]
  exact count_pos (Nat.le_of_lt (List.getElem?_eq_some_iff.mp ha).1) fun b y hb => F.bef ha hb
/-! ### counting pair by pair -/
/-- how many of the pairs looked at so far (first place below i, or i with the second below j) show something ahead of x -/
def cnt (gs : List Int) (i j x : Nat) : Nat := (List.range (gs.length + 1)).countP fun y => bef gs y x && (decide (min x y < i) || (decide (min x y = i) && decide (max x y < j)))
theorem countP_or {l : List Nat} {p q r : Nat → Bool} : (∀ y ∈ l, r y = (p y || q y)) → (∀ y ∈ l, p y = true → q y = false) → l.countP r = l.countP p + l.countP q := by
  induction l with
  | nil => intro _ _; rfl
  | cons x l ih =>
    intro h d
    rw [List.countP_cons, List.countP_cons, List.countP_cons, ih (fun y hy => h y (List.mem_cons_of_mem _ hy)) (fun y hy => d y (List.mem_cons_of_mem _ hy)), h x List.mem_cons_self]
    have := d x List.mem_cons_self
    cases hp : p x
    · cases hq : q x <;> simp <;> omega
    · rw [this hp]
      simp
      omega
theorem countP_one {y0 : Nat} {c : Bool} : ∀ {n : Nat}, y0 < n → (List.range n).countP (fun y => decide (y = y0) && c) = if c = true then 1 else 0 := by
  intro n
  induction n with
  | zero => intro h; omega
  | succ n ih =>
    intro h
    rw [List.range_succ, List.countP_append]
    by_cases e : y0 = n
    · subst e
      have z : (List.range y0).countP (fun y => decide (y = y0) && c) = 0 := by
        rw [List.countP_eq_zero]
        intro y hy
        have := List.mem_range.mp hy
        have : ¬ y = y0 := by omega
        simp [this]
      rw [z]
      cases c <;> simp
    · rw [ih (by omega)]
      have : ¬ n = y0 := fun z => e z.symm
      simp [this]
theorem bef_self {gs : List Int} {x : Nat} : bef gs x x = false := by
  unfold bef
  rw [if_neg (Nat.lt_irrefl _), if_neg (Nat.lt_irrefl _)]
theorem cnt_zero (gs : List Int) (x : Nat) : cnt gs 0 1 x = 0 := by
  unfold cnt
  rw [List.countP_eq_zero]
  intro y _
  by_cases e : x = y
  · subst e
    rw [bef_self]
    simp
  · have h1 : ¬ max x y < 1 := by omega
    simp [h1]
theorem cnt_next (gs : List Int) (i x : Nat) (hx : x ≤ gs.length) : cnt gs (i + 1) (i + 2) x = cnt gs i (gs.length + 1) x := by
  unfold cnt
  refine List.countP_congr fun y hy => ?_
  have hy := List.mem_range.mp hy
  by_cases e : x = y
  · subst e
    rw [bef_self]
    simp
  · have h1 : (decide (min x y < i + 1) || (decide (min x y = i + 1) && decide (max x y < i + 2))) = (decide (min x y < i) || (decide (min x y = i) && decide (max x y < gs.length + 1))) := by
      by_cases a : min x y < i
      · have b : min x y < i + 1 := by omega
        simp only [a, b, decide_true, Bool.true_or]
      · by_cases b : min x y = i
        · have c : min x y < i + 1 := by omega
          have d : max x y < gs.length + 1 := by omega
          simp only [b, c, d, decide_true, Bool.true_or, Bool.or_true, Bool.true_and, Nat.lt_succ_self]
        · have c : ¬ min x y < i + 1 := by omega
          have d : ¬ (min x y = i + 1 ∧ max x y < i + 2) := by omega
          have d' : (decide (min x y = i + 1) && decide (max x y < i + 2)) = false := by
            rw [← Bool.decide_and]
            exact decide_eq_false d
          rw [d', decide_eq_false a, decide_eq_false b, decide_eq_false c]
          rfl
    rw [h1]
theorem cnt_step (gs : List Int) {i j : Nat} (hij : i < j) (hj : j ≤ gs.length) (x : Nat) :
    cnt gs i (j + 1) x = cnt gs i j x + (if x = j then (if bef gs i j = true then 1 else 0) else if x = i then (if bef gs j i = true then 1 else 0) else 0) := by
  unfold cnt
  rw [countP_or (p := fun y => bef gs y x && (decide (min x y < i) || (decide (min x y = i) && decide (max x y < j)))) (q := fun y => bef gs y x && (decide (min x y = i) && decide (max x y = j)))]
  · congr 1
    by_cases h1 : x = j
    · rw [if_pos h1, ← countP_one (y0 := i) (c := bef gs i j) (n := gs.length + 1) (by omega)]
      refine List.countP_congr fun y hy => ?_
      subst h1
      by_cases e : y = i
      · subst e
        have a : min x y = y := by omega
        have b : max x y = x := by omega
        simp [a, b]
      · have a : ¬ (min x y = i ∧ max x y = x) := by omega
        have a' : (decide (min x y = i) && decide (max x y = x)) = false := by
          rw [← Bool.decide_and]
          exact decide_eq_false a
        rw [a', decide_eq_false e]
        simp
    · rw [if_neg h1]
      by_cases h2 : x = i
      · rw [if_pos h2, ← countP_one (y0 := j) (c := bef gs j i) (n := gs.length + 1) (by omega)]
        refine List.countP_congr fun y hy => ?_
        subst h2
        by_cases e : y = j
        · subst e
          have a : min x y = x := by omega
          have b : max x y = y := by omega
          simp [a, b]
        · have a : ¬ (min x y = x ∧ max x y = j) := by omega
          have a' : (decide (min x y = x) && decide (max x y = j)) = false := by
            rw [← Bool.decide_and]
            exact decide_eq_false a
          rw [a', decide_eq_false e]
          simp
      · rw [if_neg h2, List.countP_eq_zero]
        intro y hy
        have a : ¬ (min x y = i ∧ max x y = j) := by omega
        have a' : (decide (min x y = i) && decide (max x y = j)) = false := by
          rw [← Bool.decide_and]
          exact decide_eq_false a
        rw [a']
        simp
  · intro y hy
    have e : (decide (max x y < j + 1)) = (decide (max x y < j) || decide (max x y = j)) := by
      by_cases a : max x y < j
      · have : max x y < j + 1 := by omega
        rw [decide_eq_true a, decide_eq_true this, Bool.true_or]
      · by_cases b : max x y = j
        · have : max x y < j + 1 := by omega
          rw [decide_eq_true b, decide_eq_true this, Bool.or_true]
        · have : ¬ max x y < j + 1 := by omega
          rw [decide_eq_false a, decide_eq_false b, decide_eq_false this]
          rfl
    rw [e]
    cases bef gs y x <;> cases decide (min x y < i) <;> cases decide (min x y = i) <;> simp
  · intro y hy h
    by_cases a : max x y = j
    · rw [Bool.and_eq_true] at h
      have h2 := h.2
      have b : ¬ max x y < j := by omega
      by_cases c : min x y < i
      · have d : ¬ min x y = i := by omega
        rw [decide_eq_false d]
        simp
      · rw [decide_eq_false b, decide_eq_false c] at h2
        simp at h2
    · rw [decide_eq_false a]
      simp
theorem cnt_all {gs : List Int} {L : List Nat} (F : Fin gs L) {a x j : Nat} (ha : L[a]? = some x) : cnt gs (gs.length + 1) j x = a := by
  have hx := F.bd _ _ ha
  rw [← F.idx ha]
  unfold cnt
  refine List.countP_congr fun y hy => ?_
  have hy := List.mem_range.mp hy
  have : min x y < gs.length + 1 := by omega
  rw [decide_eq_true this, Bool.true_or, Bool.and_true]
theorem cnt_le (gs : List Int) (i j x : Nat) (hx : x ≤ gs.length) : cnt gs i j x ≤ gs.length := by
  unfold cnt
  have h := List.countP_le_length (p := fun y => (bef gs y x && (decide (min x y < i) || (decide (min x y = i) && decide (max x y < j)))) || decide (y = x)) (l := List.range (gs.length + 1))
  rw [countP_or (p := fun y => bef gs y x && (decide (min x y < i) || (decide (min x y = i) && decide (max x y < j)))) (q := fun y => decide (y = x) && true) (fun y _ => by simp) (fun y _ e => by
    by_cases c : y = x
    · subst c
      rw [bef_self] at e
      simp at e
    · simp [c]), countP_one (by omega), List.length_range] at h
  simp at h
  exact h
end TurnX
namespace TurnX
/-! ### there is one such order -/
theorem Fin.at_ {gs : List Int} {L : List Nat} (F : Fin gs L) {x : Nat} (hx : x ≤ gs.length) : ∃ a : Nat, L[a]? = some x := by
  have h : x ∈ L := F.perm.mem_iff.mpr (List.mem_range.mpr (by omega))
  exact List.getElem?_of_mem h
theorem Fin.unique {gs : List Int} {L O : List Nat} (F : Fin gs L) (D : Fin gs O) : L = O := by
  refine List.ext_getElem? fun a => ?_
  by_cases h : a < L.length
  · have e := List.getElem?_eq_getElem h
    have hx := F.bd _ _ e
    obtain ⟨b, hb⟩ := D.at_ hx
    have h1 := F.idx e
    have h2 := D.idx hb
    have q : b = a := h2.symm.trans h1
    rw [q] at hb
    rw [e, hb]
  · rw [List.getElem?_eq_none (by omega), List.getElem?_eq_none (by rw [D.len, ← F.len]; omega)]
theorem turned_ex {gs : List Int} {h : Int} {L : List Nat} (hL : L.length = gs.length + 1) : ∃ O, Turned gs h L O := by
  have go : ∀ i, i ≤ gs.length + 1 → ∃ O s, Lp gs h L O s i ∧ (i = gs.length + 1 → s = gs.length + 1) := by
    intro i
    induction i with
    | zero => exact fun _ => ⟨L, 0, .start, fun z => by omega⟩
    | succ i ih =>
      intro hi
      obtain ⟨O, s, P, _⟩ := ih (by omega)
      by_cases c : i = gs.length ∨ G gs i < h
      · exact ⟨_, _, P.cut (by omega) hL c, fun z => z⟩
      · exact ⟨O, s, P.on (by omega), fun z => by omega⟩
  obtain ⟨O, s, P, e⟩ := go _ (Nat.le_refl _)
  have e := e rfl
  subst e
  exact ⟨O, P.done hL⟩
theorem heights_ex (gs : List Int) : ∃ zs : List Int, zs.Pairwise (· < ·) ∧ ∀ z, z ∈ zs ↔ z ∈ gs := by
  induction gs with
  | nil => exact ⟨[], .nil, fun z => Iff.rfl⟩
  | cons x gs ih =>
    obtain ⟨zs, h1, h2⟩ := ih
    by_cases c : x ∈ gs
    · exact ⟨zs, h1, fun z => by
        rw [h2, List.mem_cons]
        exact ⟨.inr, fun e => e.elim (fun e => e ▸ c) id⟩⟩
    · refine ⟨zs.filter (fun z => decide (z < x)) ++ x :: zs.filter (fun z => decide (x < z)), ?_, fun z => ?_⟩
      · rw [List.pairwise_append]
        refine ⟨h1.filter _, List.pairwise_cons.mpr ⟨fun y hy => of_decide_eq_true (List.mem_filter.mp hy).2, h1.filter _⟩, fun a ha b hb => ?_⟩
        have a1 : a < x := of_decide_eq_true (List.mem_filter.mp ha).2
        rcases List.mem_cons.mp hb with e | e
        · omega
        · have : x < b := of_decide_eq_true (List.mem_filter.mp e).2
          omega
      · rw [List.mem_append, List.mem_cons, List.mem_cons, List.mem_filter, List.mem_filter, h2]
        constructor
        · rintro (⟨e, _⟩ | e | ⟨e, _⟩)
          · exact .inr e
          · exact .inl e
          · exact .inr e
        · rintro (e | e)
          · exact .inr (.inl e)
          · have : z ≠ x := fun q => c (q ▸ e)
            by_cases q : z < x
            · exact .inl ⟨e, decide_eq_true q⟩
            · exact .inr (.inr ⟨e, decide_eq_true (show x < z by omega)⟩)
theorem Fin.ex (gs : List Int) : ∃ L, Fin gs L := by
  obtain ⟨zs, asc, mem⟩ := heights_ex gs
  have go : ∀ m, m ≤ zs.length → ∃ L, Inv gs zs (zs.length - m) L := by
    intro m
    induction m with
    | zero => exact fun _ => ⟨_, Inv.start mem⟩
    | succ m ih =>
      intro hm
      obtain ⟨L, I⟩ := ih (by omega)
      rw [show zs.length - m = zs.length - (m + 1) + 1 by omega] at I
      generalize hj : zs.length - (m + 1) = j at I
      have e : zs[j]? = some zs[j] := List.getElem?_eq_getElem (by omega)
      by_cases c : (zs[j] - below zs j) % 2 = 1
      · obtain ⟨h1, S, _⟩ := id I
        obtain ⟨O, T⟩ := turned_ex (h := zs[j]) S.len
        exact ⟨O, I.turn mem asc e T c⟩
      · exact ⟨L, I.stay mem asc e c⟩
  obtain ⟨L, I⟩ := go _ (Nat.le_refl _)
  rw [Nat.sub_self] at I
  exact ⟨L, I.fin⟩
/-! ### the least of a stretch of places -/
def less (ns : List Int) : List Int := (List.range (ns.length - 1)).map fun k => min (ns.getD k 0) (ns.getD (k + 1) 0)
theorem less_len (ns : List Int) : (less ns).length = ns.length - 1 := by
  unfold less
  rw [List.length_map, List.length_range]
theorem less_G {ns : List Int} {k : Nat} (h : k + 1 < ns.length) : G (less ns) k = min (ns.getD k 0) (ns.getD (k + 1) 0) := by
  unfold G less
  rw [List.getD_eq_getElem?_getD, List.getElem?_map, List.getElem?_range (by omega)]
  rfl
def lst (ns : List Int) (i : Nat) : Nat → Int
  | 0 => ns.getD i 0
  | d + 1 => min (lst ns i d) (ns.getD (i + d + 1) 0)
theorem lst_le {ns : List Int} {i : Nat} : ∀ d, lst ns i d ≤ ns.getD (i + d) 0
  | 0 => Int.le_refl _
  | d + 1 => Int.min_le_right ..
theorem lst_mn {ns : List Int} {i : Nat} : ∀ d, i + d + 1 < ns.length → lst ns i (d + 1) = mn (less ns) i d
  | 0, h => by
    show min (ns.getD i 0) _ = G (less ns) i
    rw [less_G h]
  | d + 1, h => by
    have e := lst_mn (ns := ns) (i := i) d (by omega)
    have l := lst_le (ns := ns) (i := i) (d + 1)
    have l : lst ns i (d + 1) ≤ ns.getD (i + d + 1) 0 := l
    show min (lst ns i (d + 1)) (ns.getD (i + (d + 1) + 1) 0) = min (mn (less ns) i d) (G (less ns) (i + d + 1))
    rw [less_G (by omega), ← e]
    have e2 : i + (d + 1) + 1 = i + d + 1 + 1 := by omega
    rw [e2]
    omega
theorem bef_lst {ns : List Int} {i j : Nat} (hij : i < j) (hj : j < ns.length) : bef (less ns) i j = decide (lst ns i (j - i) % 2 = 0) := by
  unfold bef
  rw [if_pos hij]
  have : M (less ns) i j = lst ns i (j - i) := by
    unfold M
    rw [show min i j = i by omega, show max i j - i - 1 = j - i - 1 by omega, ← lst_mn (j - i - 1) (by omega)]
    congr 1
    omega
  rw [this]
theorem bef_swap {gs : List Int} {i j : Nat} (hij : i < j) : bef gs j i = !bef gs i j := by
  unfold bef
  rw [if_neg (by omega), if_pos hij, if_pos hij, M_comm]
  by_cases c : M gs i j % 2 = 0
  · rw [decide_eq_true c, decide_eq_false (fun z => z c)]
    rfl
  · rw [decide_eq_false c, decide_eq_true c]
    rfl
/-- the counts as a list -/
def cl (gs : List Int) (i j : Nat) : List Nat := (List.range (gs.length + 1)).map (cnt gs i j)
theorem cl_at {gs : List Int} {i j x : Nat} (h : x ≤ gs.length) : (cl gs i j)[x]? = some (cnt gs i j x) := by
  unfold cl
  rw [List.getElem?_map, List.getElem?_range (by omega)]
  rfl
theorem cl_len {gs : List Int} {i j : Nat} : (cl gs i j).length = gs.length + 1 := by
  unfold cl
  rw [List.length_map, List.length_range]
theorem cl_set {gs : List Int} {i j k : Nat} (hij : i < j) (hj : j ≤ gs.length) (hk : k = if bef gs i j = true then j else i) : (cl gs i j).set k (cnt gs i j k + 1) = cl gs i (j + 1) := by
  have hk2 : k ≤ gs.length := by
    rw [hk]
    split <;> omega
  refine List.ext_getElem? fun x => ?_
  by_cases h : x ≤ gs.length
  · rw [cl_at h, cnt_step gs hij hj x, bef_swap hij]
    by_cases e : k = x
    · rw [e, List.getElem?_set_self (by rw [cl_len]; omega)]
      subst e
      congr 2
      by_cases b : bef gs i j = true
      · rw [if_pos b] at hk
        rw [if_pos hk, if_pos b]
      · rw [if_neg b] at hk
        rw [if_neg (by omega), if_pos hk]
        have : bef gs i j = false := by simpa using b
        rw [this]
        rfl
    · rw [List.getElem?_set_ne e, cl_at h]
      have : (if x = j then (if bef gs i j = true then 1 else 0) else if x = i then (if (!bef gs i j) = true then 1 else 0) else 0) = 0 := by
        by_cases b : bef gs i j = true
        · rw [if_pos b] at hk
          rw [if_neg (fun z => e (by omega)), b]
          simp
        · rw [if_neg b] at hk
          have b2 : bef gs i j = false := by simpa using b
          rw [b2, if_neg (fun z : x = i => e (by omega))]
          simp
      rw [this]
      rfl
  · rw [List.getElem?_eq_none (by rw [List.length_set, cl_len]; omega), List.getElem?_eq_none (by rw [cl_len]; omega)]
theorem cl_zero (gs : List Int) : cl gs 0 1 = List.replicate (gs.length + 1) 0 := by
  refine List.ext_getElem? fun x => ?_
  by_cases h : x ≤ gs.length
  · rw [cl_at h, cnt_zero, List.getElem?_replicate, if_pos (by omega)]
  · rw [List.getElem?_eq_none (by rw [cl_len]; omega), List.getElem?_eq_none (by rw [List.length_replicate]; omega)]
theorem cl_next (gs : List Int) (i : Nat) : cl gs (i + 1) (i + 2) = cl gs i (gs.length + 1) := by
  refine List.map_congr_left fun x hx => cnt_next gs i x ?_
  have := List.mem_range.mp hx
  omega
/-- the list while the places are laid at their counts -/
def laid (L : List Nat) (m : Nat) : List Nat := L.map fun x => if x < m then x else 0
theorem laid_zero (L : List Nat) : laid L 0 = List.replicate L.length 0 := by
  unfold laid
  rw [← List.map_const']
  exact List.map_congr_left fun x _ => by simp
theorem laid_all {gs : List Int} {L : List Nat} (F : Fin gs L) : laid L (gs.length + 1) = L := by
  unfold laid
  conv => rhs; rw [← List.map_id L]
  refine List.map_congr_left fun x hx => ?_
  obtain ⟨k, e⟩ := List.getElem?_of_mem hx
  have := F.bd _ _ e
  rw [if_pos (by omega)]
  rfl
theorem laid_next {gs : List Int} {L : List Nat} (F : Fin gs L) {m j : Nat} (hm : m ≤ gs.length) : cnt gs (gs.length + 1) j m < L.length ∧ (laid L m).set (cnt gs (gs.length + 1) j m) m = laid L (m + 1) := by
  obtain ⟨a, ha⟩ := F.at_ hm
  have hal := (List.getElem?_eq_some_iff.mp ha).1
  rw [cnt_all F ha]
  refine ⟨hal, List.ext_getElem? fun k => ?_⟩
  unfold laid
  by_cases e : a = k
  · subst e
    rw [List.getElem?_set_self (by rw [List.length_map]; exact hal), List.getElem?_map, ha]
    show some m = some (if m < m + 1 then m else 0)
    rw [if_pos (by omega)]
  · rw [List.getElem?_set_ne e, List.getElem?_map, List.getElem?_map]
    cases h : L[k]? with
    | none => rfl
    | some x =>
      have : x ≠ m := fun z => e (F.inj _ _ m ha (by rw [h, z]))
      show some (if x < m then x else 0) = some (if x < m + 1 then x else 0)
      by_cases c : x < m
      · rw [if_pos c, if_pos (by omega)]
      · rw [if_neg c, if_neg (by omega)]
end TurnX
namespace Lw
open PySem PySem.Spec PyProof.Rows L2
/-! ### the text by places -/
def topS (i : Nat) : Stmt := PySem.Challenge.pw_textbetween_k34_levels_turn.main.body.getD i (.Pass ⟨0, 0, 0, 0⟩)
abbrev s_is_whole : Stmt := topS 34
abbrev s_is_place : Stmt := topS 35
abbrev s_order_fault : Stmt := topS 36
abbrev s_check_order : Stmt := topS 37
abbrev s_is_level : Stmt := topS 41
abbrev s_check_levels : Stmt := topS 42
abbrev s_level_saying : Stmt := topS 43
abbrev s_level_word : Stmt := topS 44
abbrev s_turn_stretches : Stmt := topS 45
abbrev s_turn_gaps : Stmt := topS 46
abbrev s_turn_levels : Stmt := topS 47
abbrev s_shows_levels : Stmt := topS 48
abbrev s_l_store : Stmt := topS 50
abbrev s_l_mixed : Stmt := topS 51
abbrev s_l_take : Stmt := topS 52
abbrev s_l_edge : Stmt := topS 53
abbrev s_l_size : Stmt := topS 54
abbrev s_l_maybe : Stmt := topS 55
abbrev s_l_pick : Stmt := topS 56
abbrev s_l_odd : Stmt := topS 57
abbrev s_l_notin : Stmt := topS 58
abbrev s_l_sort : Stmt := topS 59
abbrev s_l_same : Stmt := topS 60
abbrev s_l_places : Stmt := topS 61
abbrev s_l_numbers : Stmt := topS 62
abbrev s_l_badnumbers : Stmt := topS 63
abbrev s_l_told : Stmt := topS 64
abbrev s_l_orderby : Stmt := topS 65
abbrev s_l_call : Stmt := topS 66
abbrev s_l_fault : Stmt := topS 67
abbrev s_l_orders : Stmt := topS 68
abbrev s_l_refused : Stmt := topS 69
abbrev s_l_right : Stmt := topS 70
abbrev s_law : Stmt := topS 71
/-! ### the head's facts -/
def fa0 : List He.Fa := [.glo "is_whole", .glo "is_place", .glo "order_fault", .glo "check_order", .glo "is_level", .glo "check_levels", .glo "level_saying", .glo "level_word", .glo "turn_stretches", .glo "turn_gaps", .glo "turn_levels", .glo "shows_levels", .glo "_law_store", .glo "_law_mixed", .glo "_law_take", .glo "_law_edge", .glo "_law_size", .glo "_law_maybe", .glo "_law_pick", .glo "_law_odd", .glo "_law_notin", .glo "_law_sort", .glo "_law_same", .glo "_law_places", .glo "_law_numbers"]
def fa1 : List He.Fa := [.glo "_law_badnumbers", .glo "_law_told", .glo "_law_orderby", .glo "_law_call", .glo "_law_fault", .glo "_law_orders", .glo "_law_refused", .glo "_law_right", .glo "law", .glo "Bad", .glo "BadWeb", .glo "BadName", .glo "BadRow", .glo "BadWord", .glo "BadFit", .glo "BadPlace", .glo "BadGap", .glo "BadRank", .glo "BadNumber", .glo "BadText", .glo "BadRule", .glo "TooMany", .glo "BadMachine", .glo "UnlikeEnds", .glo "NotClosed"]
def fa2 : List He.Fa := [.glo "NotGood", .glo "Round", .glo "MissingWord", .glo "Unstable", .glo "BadOrder", .glo "BadPattern", .glo "NotNested", .glo "BadPieces", .glo "BadEdit", .glo "NotPlain", .glo "NotStrict", .glo "BadLevel", .glo "NeedsBlanks", .glo "BadWish", .glo "BadBreak", .glo "BadDesk", .free "ValueError", .free "bool", .free "dict", .free "enumerate", .free "int", .free "isinstance", .free "len", .free "list", .free "max"]
def fa3 : List He.Fa := [.free "min", .free "range", .free "set", .free "sorted", .free "str", .free "super", .free "tuple", .int "GREATEST_LEVEL" 1000, .int "MOST_PLACES" 60, .exm "TooMany" "Bad" true, .exm "BadOrder" "Bad" true, .exm "BadLevel" "Bad" true]
def fa : List He.Fa := fa0 ++ fa1 ++ fa2 ++ fa3
def fd0 : He.DefD := ⟨("is_whole", none), "is_whole", "is_whole", defArgs s_is_whole, defBody s_is_whole, defScope s_is_whole, [], []⟩
def fd1 : He.DefD := ⟨("is_place", none), "is_place", "is_place", defArgs s_is_place, defBody s_is_place, defScope s_is_place, [], []⟩
def fd2 : He.DefD := ⟨("order_fault", none), "order_fault", "order_fault", defArgs s_order_fault, defBody s_order_fault, defScope s_order_fault, [], []⟩
def fd3 : He.DefD := ⟨("check_order", none), "check_order", "check_order", defArgs s_check_order, defBody s_check_order, defScope s_check_order, [], []⟩
def fd4 : He.DefD := ⟨("is_level", none), "is_level", "is_level", defArgs s_is_level, defBody s_is_level, defScope s_is_level, [], []⟩
def fd5 : He.DefD := ⟨("check_levels", none), "check_levels", "check_levels", defArgs s_check_levels, defBody s_check_levels, defScope s_check_levels, [], []⟩
def fd6 : He.DefD := ⟨("level_saying", none), "level_saying", "level_saying", defArgs s_level_saying, defBody s_level_saying, defScope s_level_saying, [], []⟩
def fd7 : He.DefD := ⟨("level_word", none), "level_word", "level_word", defArgs s_level_word, defBody s_level_word, defScope s_level_word, [], []⟩
def fd8 : He.DefD := ⟨("turn_stretches", none), "turn_stretches", "turn_stretches", defArgs s_turn_stretches, defBody s_turn_stretches, defScope s_turn_stretches, [], []⟩
def fd9 : He.DefD := ⟨("turn_gaps", none), "turn_gaps", "turn_gaps", defArgs s_turn_gaps, defBody s_turn_gaps, defScope s_turn_gaps, [], []⟩
def fd10 : He.DefD := ⟨("turn_levels", none), "turn_levels", "turn_levels", defArgs s_turn_levels, defBody s_turn_levels, defScope s_turn_levels, [], []⟩
def fd11 : He.DefD := ⟨("shows_levels", none), "shows_levels", "shows_levels", defArgs s_shows_levels, defBody s_shows_levels, defScope s_shows_levels, [], []⟩
def fd12 : He.DefD := ⟨("_law_store", none), "_law_store", "_law_store", defArgs s_l_store, defBody s_l_store, defScope s_l_store, [], []⟩
def fd13 : He.DefD := ⟨("_law_mixed", none), "_law_mixed", "_law_mixed", defArgs s_l_mixed, defBody s_l_mixed, defScope s_l_mixed, [], []⟩
def fd14 : He.DefD := ⟨("_law_take", none), "_law_take", "_law_take", defArgs s_l_take, defBody s_l_take, defScope s_l_take, [], []⟩
def fd15 : He.DefD := ⟨("_law_edge", none), "_law_edge", "_law_edge", defArgs s_l_edge, defBody s_l_edge, defScope s_l_edge, [], []⟩
def fd16 : He.DefD := ⟨("_law_size", none), "_law_size", "_law_size", defArgs s_l_size, defBody s_l_size, defScope s_l_size, [], []⟩
def fd17 : He.DefD := ⟨("_law_maybe", none), "_law_maybe", "_law_maybe", defArgs s_l_maybe, defBody s_l_maybe, defScope s_l_maybe, [], []⟩
def fd18 : He.DefD := ⟨("_law_pick", none), "_law_pick", "_law_pick", defArgs s_l_pick, defBody s_l_pick, defScope s_l_pick, [], []⟩
def fd19 : He.DefD := ⟨("_law_odd", none), "_law_odd", "_law_odd", defArgs s_l_odd, defBody s_l_odd, defScope s_l_odd, [], []⟩
def fd20 : He.DefD := ⟨("_law_notin", none), "_law_notin", "_law_notin", defArgs s_l_notin, defBody s_l_notin, defScope s_l_notin, [], []⟩
def fd21 : He.DefD := ⟨("_law_sort", none), "_law_sort", "_law_sort", defArgs s_l_sort, defBody s_l_sort, defScope s_l_sort, [], []⟩
def fd22 : He.DefD := ⟨("_law_same", none), "_law_same", "_law_same", defArgs s_l_same, defBody s_l_same, defScope s_l_same, [], []⟩
def fd23 : He.DefD := ⟨("_law_places", none), "_law_places", "_law_places", defArgs s_l_places, defBody s_l_places, defScope s_l_places, [], []⟩
def fd24 : He.DefD := ⟨("_law_numbers", none), "_law_numbers", "_law_numbers", defArgs s_l_numbers, defBody s_l_numbers, defScope s_l_numbers, [], []⟩
def fd25 : He.DefD := ⟨("_law_badnumbers", none), "_law_badnumbers", "_law_badnumbers", defArgs s_l_badnumbers, defBody s_l_badnumbers, defScope s_l_badnumbers, [], []⟩
def fd26 : He.DefD := ⟨("_law_told", none), "_law_told", "_law_told", defArgs s_l_told, defBody s_l_told, defScope s_l_told, [], []⟩
def fd27 : He.DefD := ⟨("_law_orderby", none), "_law_orderby", "_law_orderby", defArgs s_l_orderby, defBody s_l_orderby, defScope s_l_orderby, [], []⟩
def fd28 : He.DefD := ⟨("_law_call", none), "_law_call", "_law_call", defArgs s_l_call, defBody s_l_call, defScope s_l_call, [], []⟩
def fd29 : He.DefD := ⟨("_law_fault", none), "_law_fault", "_law_fault", defArgs s_l_fault, defBody s_l_fault, defScope s_l_fault, [], []⟩
def fd30 : He.DefD := ⟨("_law_orders", none), "_law_orders", "_law_orders", defArgs s_l_orders, defBody s_l_orders, defScope s_l_orders, [], []⟩
def fd31 : He.DefD := ⟨("_law_refused", none), "_law_refused", "_law_refused", defArgs s_l_refused, defBody s_l_refused, defScope s_l_refused, [], []⟩
def fd32 : He.DefD := ⟨("_law_right", none), "_law_right", "_law_right", defArgs s_l_right, defBody s_l_right, defScope s_l_right, [], []⟩
def fd33 : He.DefD := ⟨("law", none), "law", "law", defArgs s_law, defBody s_law, defScope s_law, [], []⟩
def fn0 : List He.DefD := [fd0, fd1, fd2, fd3, fd4, fd5, fd6, fd7, fd8, fd9, fd10, fd11, fd12, fd13, fd14, fd15, fd16, fd17, fd18, fd19, fd20, fd21, fd22, fd23, fd24]
def fn1 : List He.DefD := [fd25, fd26, fd27, fd28, fd29, fd30, fd31, fd32, fd33]
def fn : List He.DefD := fn0 ++ fn1
def er0 : HeZ.ErD := ⟨"TooMany", "TooMany.__init__", ["limit_name", "limit"], (defArgs (inClass (topS 13) 0)).args, defBody (inClass (topS 13) 0)⟩
def er1 : HeZ.ErD := ⟨"BadOrder", "BadOrder.__init__", ["order_fault"], (defArgs (inClass (topS 21) 0)).args, defBody (inClass (topS 21) 0)⟩
def er2 : HeZ.ErD := ⟨"BadLevel", "BadLevel.__init__", ["level_at"], (defArgs (inClass (topS 28) 0)).args, defBody (inClass (topS 28) 0)⟩
def ers0 : List HeZ.ErD := [er0, er1, er2]
def ers : List HeZ.ErD := ers0
def is_TooMany : List (Str × Bool) := [("BadWeb", false), ("BadName", false), ("BadRow", false), ("BadWord", false), ("BadFit", false), ("BadPlace", false), ("BadGap", false), ("BadRank", false), ("BadNumber", false), ("BadText", false), ("BadRule", false), ("TooMany", true), ("BadMachine", false), ("UnlikeEnds", false), ("NotClosed", false), ("NotGood", false), ("Round", false), ("MissingWord", false), ("Unstable", false), ("BadOrder", false), ("BadPattern", false), ("NotNested", false), ("BadPieces", false), ("BadEdit", false), ("NotPlain", false), ("NotStrict", false), ("BadLevel", false), ("NeedsBlanks", false), ("BadWish", false), ("BadBreak", false), ("BadDesk", false), ("Bad", true)]
def is_BadOrder : List (Str × Bool) := [("BadWeb", false), ("BadName", false), ("BadRow", false), ("BadWord", false), ("BadFit", false), ("BadPlace", false), ("BadGap", false), ("BadRank", false), ("BadNumber", false), ("BadText", false), ("BadRule", false), ("TooMany", false), ("BadMachine", false), ("UnlikeEnds", false), ("NotClosed", false), ("NotGood", false), ("Round", false), ("MissingWord", false), ("Unstable", false), ("BadOrder", true), ("BadPattern", false), ("NotNested", false), ("BadPieces", false), ("BadEdit", false), ("NotPlain", false), ("NotStrict", false), ("BadLevel", false), ("NeedsBlanks", false), ("BadWish", false), ("BadBreak", false), ("BadDesk", false), ("Bad", true)]
def is_BadLevel : List (Str × Bool) := [("BadWeb", false), ("BadName", false), ("BadRow", false), ("BadWord", false), ("BadFit", false), ("BadPlace", false), ("BadGap", false), ("BadRank", false), ("BadNumber", false), ("BadText", false), ("BadRule", false), ("TooMany", false), ("BadMachine", false), ("UnlikeEnds", false), ("NotClosed", false), ("NotGood", false), ("Round", false), ("MissingWord", false), ("Unstable", false), ("BadOrder", false), ("BadPattern", false), ("NotNested", false), ("BadPieces", false), ("BadEdit", false), ("NotPlain", false), ("NotStrict", false), ("BadLevel", true), ("NeedsBlanks", false), ("BadWish", false), ("BadBreak", false), ("BadDesk", false), ("Bad", true)]
def gts0 : List He.DefD := []
def gts : List He.DefD := gts0
def exB (K : PySem.W.Frag) : Bool := HeZ.ecB K (He.ga K "TooMany") && (HeZ.isB K "TooMany" is_TooMany && (decide (PySem.W.kitOne K (.ref (He.ga K "TooMany")) (.type "ValueError") = some true) && (HeZ.ecB K (He.ga K "BadOrder") && (HeZ.isB K "BadOrder" is_BadOrder && (decide (PySem.W.kitOne K (.ref (He.ga K "BadOrder")) (.type "ValueError") = some true) && (HeZ.ecB K (He.ga K "BadLevel") && (HeZ.isB K "BadLevel" is_BadLevel && (decide (PySem.W.kitOne K (.ref (He.ga K "BadLevel")) (.type "ValueError") = some true)))))))))
def loose0 : List PySem.Str := ["Bad", "BadWeb", "BadName", "BadRow", "BadWord", "BadFit", "BadPlace", "BadGap", "BadRank", "BadNumber", "BadText", "BadRule", "TooMany", "BadMachine", "UnlikeEnds", "NotClosed", "NotGood", "Round", "MissingWord", "Unstable", "BadOrder", "BadPattern", "NotNested", "BadPieces", "BadEdit", "NotPlain", "NotStrict", "BadLevel", "NeedsBlanks", "BadWish"]
def loose1 : List PySem.Str := ["BadBreak", "BadDesk", "is_whole", "is_place", "order_fault", "check_order", "GREATEST_LEVEL", "MOST_PLACES", "is_level", "check_levels", "level_saying", "level_word", "turn_stretches", "turn_gaps", "turn_levels", "shows_levels", "_law_store", "_law_mixed", "_law_take", "_law_edge", "_law_size", "_law_maybe", "_law_pick", "_law_odd", "_law_notin", "_law_sort", "_law_same", "_law_places", "_law_numbers", "_law_badnumbers"]
def loose2 : List PySem.Str := ["_law_told", "_law_orderby", "_law_call", "_law_fault", "_law_orders", "_law_refused", "_law_right"]
abbrev loose : List PySem.Str := loose0 ++ loose1 ++ loose2
abbrev RR : PySem.W.OpenRow := PySem.W.OpenLaw.row PySem.Challenge.rw_textbetween_k34_levels_turn
abbrev qv : PySem.Program := PySem.W.view RR.prog [71]
abbrev file : Str := PySem.Challenge.pw_textbetween_k34_levels_turn.main.file
abbrev hk : PySem.W.Hook := HeZ.hookZ file 4 fa fn ers gts exB
def ob (s : PySem.W.SharedT) : HeZ.AlZ := HeZ.obsZG file 4 fa fn ers gts exB (HandSHeadRun.getT s)
theorem ob_eq (s : PySem.W.SharedT) : ob s = hk.obs s.abs := HeZ.obsZG_eq (HandSHeadRun.getT_eq s)
theorem run (w : World) : HandSHeadRun.RunEq RR qv hk ob 20000 loose w := by
  intro os
  kernel_rfl
end Lw
namespace Lw
open PySem PySem.Spec PyProof.Rows L2
/-! ### the module's facts by place -/
abbrev PP : Program := RR.prog
structure Tx (K : PySem.W.Frag) (mg : Str → Option Value) : Prop where
  says : HeZ.SaysZ file fa fn ers gts exB K
  at_ : ∃ h : Heap, K.In h ∧ h.Ns mainGlobals mg
section
variable {K : PySem.W.Frag} {mg : Str → Option Value}
theorem Tx.g (T : Tx K mg) (i : Nat) {x : Str} (h : fa[i]? = some (.glo x) := by rfl) : mg x = some (.ref (He.ga K x)) := let ⟨_, X, G⟩ := T.at_; He.glo_ok X G (T.says.d.fact i h)
theorem Tx.f (T : Tx K mg) (i : Nat) {x : Str} (h : fa[i]? = some (.free x) := by rfl) : mg x = none := let ⟨_, X, G⟩ := T.at_; He.free_ok X G (T.says.d.fact i h)
theorem Tx.i (T : Tx K mg) (i : Nat) {x : Str} {n : Int} (h : fa[i]? = some (.int x n) := by rfl) : ∃ t, mg x = some (.int n t) := let ⟨_, X, G⟩ := T.at_; He.int_ok X G (T.says.d.fact i h)
theorem Tx.d (T : Tx K mg) (i : Nat) {d : He.DefD} (h : fn[i]? = some d := by rfl) : ∃ fd, FunD K d.name d.qual d.params d.body d.scope (d.dvs K) (d.kws K) (He.fAd K d.at_) fd := T.says.d.def_ i h
end
end Lw
namespace Lw
open PySem PySem.Spec PyProof.Rows L2
/-! ### the draws -/
local macro_rules | `(tactic| walk_at "len") => `(tactic| (intro vs H Q E h; first | (obtain ⟨_, e, _⟩ := h; subst e; rfl) | (obtain ⟨_, _, e, _⟩ := h; subst e; rfl) | (obtain ⟨_, _, _, e, _⟩ := h; subst e; rfl) | (obtain ⟨_, _, _, _, e, _⟩ := h; subst e; rfl) | (obtain ⟨_, _, _, _, _, e, _⟩ := h; subst e; rfl) | (obtain ⟨_, _, _, _, _, _, e, _⟩ := h; subst e; rfl) | (obtain ⟨_, _, _, _, _, _, _, e, _⟩ := h; subst e; rfl)))
local macro_rules | `(tactic| walk_at "get") => `(tactic| (first | assumption | exact upd_same | (refine look_new (by assumption) ?_; walk_at "get") | (refine look_ne (by assumption) ?_; walk_at "get")))
local macro_rules | `(tactic| walk_at "s") => `(tactic| (first
  | refine ⟨_, rfl, ?_⟩
  | refine Or.inl ⟨_, rfl, ?_⟩
  | refine Or.inl ⟨_, _, _, _, rfl, rfl, lOf (by walk_at "get"), rfl, ?_⟩
  | refine ⟨_, _, _, _, rfl, rfl, (by walk_at "get"), rfl, ?_⟩
  | refine ⟨_, _, rfl, rfl, Or.inl (Or.inr ⟨by decide, by decide⟩), ?_⟩
  | refine ⟨_, _, rfl, rfl, (by show (0 : Int) < _; first | assumption | decide), ?_⟩
  | refine ⟨_, _, rfl, rfl, ⟨by decide, by decide⟩, ?_⟩
  | refine ⟨_, _, rfl, rfl, ⟨by decide, by decide +kernel⟩, ?_⟩
  | refine ⟨_, _, rfl, rfl, (by show (0 : Int) < _; decide +kernel), ?_⟩
  | refine ⟨(show CMulA _ _ from Or.inl (Or.inl ⟨by (try dsimp only); omega, by (try dsimp only); omega⟩)), ?_⟩
  | refine ⟨_, _, rfl, rfl, ?_⟩
  | refine ⟨_, _, rfl, ?_⟩
  | refine ⟨rfl, _, rfl, ?_⟩
  | refine ⟨rfl, ?_⟩))
local macro_rules | `(tactic| walk_at "c") => `(tactic| (try dsimp only [L2.start, List.set, List.map, List.length, List.replicate, List.cons_append, List.nil_append, List.append, HAppend.hAppend, Append.append, Int.toNat, Nat.reduceSub, Nat.reduceAdd]))
/-- the store at s, as its five parts -/
def StA (H : Hp) (s c : Addr) (cells : List Int) (i big mixed t : Int) : Prop :=
  H s = some (.lst [.ref c, .int i, .int big, .int mixed, .int t]) ∧ H c = some (.lst (cells.map V.int)) ∧ c ≠ s ∧ 0 ≤ i ∧ 0 ≤ big ∧ 0 ≤ mixed ∧ mixed < 2147483647 ∧ cells.length ≤ 63
def StO (H : Hp) (s : Addr) : Prop := ∃ c cells i big mixed t, StA H s c cells i big mixed t
theorem StA.set {H : Hp} {s c : Addr} {cells : List Int} {i big mixed t i' big' mixed' t' : Int} (h : StA H s c cells i big mixed t) (h1 : 0 ≤ i') (h2 : 0 ≤ big') (h3 : 0 ≤ mixed') (h4 : mixed' < 2147483647) :
    StA (upd H s (.lst [.ref c, .int i', .int big', .int mixed', .int t'])) s c cells i' big' mixed' t' :=
  ⟨upd_same, look_ne h.2.2.1 h.2.1, h.2.2.1, h1, h2, h3, h4, h.2.2.2.2.2.2.2⟩
theorem at_int {ns : List Int} {i : Int} (h0 : 0 ≤ i) (h1 : i < (ns.length : Int)) : ∃ z, atI (ns.map V.int) i = some (.int z) ∧ ns[i.toNat]? = some z := by
  obtain ⟨n, rfl⟩ := Int.eq_ofNat_of_zero_le h0
  have hn : n < ns.length := by omega
  refine ⟨ns[n], atI_nat (j := n) ?_, ?_⟩
  · rw [List.getElem?_map, List.getElem?_eq_getElem hn] <;> rfl
  · rw [Int.toNat_natCast, List.getElem?_eq_getElem hn]
section
variable {w : World} {K : PySem.W.Frag} {mg : Str → Option Value} {base : Heap}
def spMixed : Sp := fun vs H Q _ => ∃ (s : Addr) (seed many : Int), vs = [.ref s, .int seed, .int many] ∧ ∃ c cells i big mixed t, StA H s c cells i big mixed t ∧
  ∀ v mixed', 0 ≤ v → 0 ≤ mixed' → mixed' < 2147483647 → Q (.int v) (upd H s (.lst [.ref c, .int i, .int big, .int mixed', .int t]))
theorem sc_l_mixed : FnScope ["store", "seed", "many", "one", "two", "value", "k"] ["store", "seed", "many"] (defScope s_l_mixed) := ⟨rfl, rfl, rfl, by decide +kernel, rfl, by decide +kernel, by decide +kernel⟩
theorem d_l_mixed (T : Tx K mg) : Dn PP w K mg base CX0 1 "_law_mixed" ["store", "seed", "many"] (spMixed) := by
  obtain ⟨fd, F⟩ := T.d 13
  refine ⟨_, fd, T.g 13, F.kp, FunD.bindsN F (fun _ _ _ _ _ _ us hl => match us, hl with | [_, _, _], _ => rfl), FunD.ok F sc_l_mixed (by walk_at "len") (fun cdv A outer s H vs Q E hr h => ?_)⟩
  obtain ⟨s, seed, many, rfl, c, cells, i, big, mixed, t, S, k⟩ := h
  have hs := S.1
  refine ⟨_, PSs.nox ((pss_cons (ps_set (i := 3) sc_l_mixed.nd rfl (.inl rfl) (pe_op op_mod (pe_callTy call_int1 (by rfl) (T.f 70) (by decide +kernel) (pa_cons (pe_op op_addA (pe_op op_addA (pe_op op_addA (pe_op op_mulA (pe_ix ix_seq (pv 0) pe_int (fun _ _ => rfl)) pe_int) (pe_op op_mulA (pv 1) pe_int)) (pe_op op_mulA (pe_ix ix_seq (pv 0) pe_int (fun _ _ => rfl)) pe_int)) pe_int) pa_nil)) pe_int))
      (pss_cons (ps_asg (pv 3) (pg_sub (pv 0) pe_int set_list))
      (pss_cons (ps_set (i := 4) sc_l_mixed.nd rfl (.inl rfl) (pe_op op_mod (pe_callTy call_int1 (by rfl) (T.f 70) (by decide +kernel) (pa_cons (pe_op op_addA (pe_op op_addA (pe_op op_mulA (pv 3) (pv 3)) (pe_op op_mulA (pe_op op_fdivW (pv 3) pe_int) pe_int)) (pe_ix ix_seq (pv 0) pe_int (fun _ _ => rfl))) pa_nil)) pe_int))
      (pss_cons (ps_set (i := 5) sc_l_mixed.nd rfl (.inl rfl) (pe_op op_mod (pe_callTy call_int1 (by rfl) (T.f 70) (by decide +kernel) (pa_cons (pe_op op_addA (pe_op op_mulA (pe_op op_fdivW (pv 4) pe_int) pe_int) (pv 4)) pa_nil)) pe_int))
      (pss_cons (ps_if (pt_cmpR op_gt (pv 2) pe_int (nomark _)) (pss_one (ps_for PassesOwn.never rfl (pi_range1 rfl (T.f 76) (pa_cons pe_int pa_nil)) (pg_name (i := 6) sc_l_mixed.nd rfl (.inl rfl)) (pss_cons (ps_set (i := 4) sc_l_mixed.nd rfl (.inl rfl) (pe_op op_mod (pe_callTy call_int1 (by rfl) (T.f 70) (by decide +kernel) (pa_cons (pe_op op_addA (pe_op op_addA (pe_op op_mulA (pv 4) pe_int) (pe_op op_fdivW (pv 5) pe_int)) (pv 6)) pa_nil)) pe_int))
      (pss_one (ps_set (i := 5) sc_l_mixed.nd rfl (.inl rfl) (pe_op op_addA (pe_op op_mulA (pv 5) pe_int) (pe_op op_mod (pe_callTy call_int1 (by rfl) (T.f 70) (by decide +kernel) (pa_cons (pe_op op_addA (pe_op op_mulA (pv 4) (pv 4)) (pv 6)) pa_nil)) pe_int))))))) pss_nil)
      (pss_one (ps_ret (pe_op op_fdivW (pv 5) pe_int))))))))), ?_⟩
  repeat walk_at "s"
  walk_at "c"
  have b1 : 0 ≤ (mixed * 48271 + seed * 69621 + t * 40692 + 1) % 2147483647 := Int.emod_nonneg _ (by decide)
  have b2 : (mixed * 48271 + seed * 69621 + t * 40692 + 1) % 2147483647 < 2147483647 := Int.emod_lt_of_pos _ (by decide)
  generalize (mixed * 48271 + seed * 69621 + t * 40692 + 1) % 2147483647 = one at b1 b2
  repeat walk_at "s"
  walk_at "c"
  have fin : ∀ (σ : L2.St) (value : Int), σ[5]? = some (some (.int value)) → 0 ≤ value → (tRet (tOp (rI CDivW fun i j => V.int (i / j)) (tVar 5) (tC (.int 5)))) { nx := fun _ H' => Q .non H', rt := Q } σ (upd H s (.lst [.ref c, .int i, .int big, .int one, .int t])) := fun σ value hσ h0 => by
    refine ⟨_, hσ, _, _, rfl, rfl, ⟨by decide, by decide⟩, ?_⟩
    exact k _ _ (Int.ediv_nonneg h0 (by decide)) b1 b2
  refine ite2 (fun _ => ?_) (fun _ => ?_)
  · refine ⟨6, rfl, by decide, by decide, for_range (n := 6) (fun _ σ H' => ∃ (two value : Int) (z : Option V), σ = [some (.ref s), some (.int seed), some (.int many), some (.int one), some (.int two), some (.int value), z] ∧ 0 ≤ two ∧ 0 ≤ value ∧ H' = upd H s (.lst [.ref c, .int i, .int big, .int one, .int t]))
      ?_ ?_ ?_⟩
    · refine ⟨_, _, none, rfl, ?_, ?_, rfl⟩
      · exact Int.emod_nonneg _ (by decide)
      · exact Int.emod_nonneg _ (by decide)
    · rintro n σ _ _ ⟨two, value, z, rfl, h1, h2, rfl⟩
      repeat walk_at "s"
      refine ⟨_, _, _, rfl, ?_, ?_, rfl⟩
      · exact Int.emod_nonneg _ (by decide)
      · exact Int.add_nonneg (Int.mul_nonneg h2 (by decide)) (Int.emod_nonneg _ (by decide))
    · rintro σ _ ⟨two, value, z, rfl, h1, h2, rfl⟩
      exact fin _ value rfl h2
  · unfold tNext
    refine fin _ _ rfl ?_
    exact Int.emod_nonneg _ (by decide)
/-- a draw: 0 below two, else below many -/
def spTake : Sp := fun vs H Q _ => ∃ (s : Addr) (many : Int), vs = [.ref s, .int many] ∧ StO H s ∧ many.natAbs.log2 < 9000 ∧
  ∀ v H', Kp s H H' → StO H' s → 0 ≤ v → (many < 2 → v = 0) → (2 ≤ many → v < many) → Q (.int v) H'
theorem sc_l_take : FnScope ["store", "many", "seed", "cell", "value"] ["store", "many"] (defScope s_l_take) := ⟨rfl, rfl, rfl, by decide +kernel, rfl, by decide +kernel, by decide +kernel⟩
theorem d_l_take (T : Tx K mg) : Dn PP w K mg base CX0 2 "_law_take" ["store", "many"] (spTake) := by
  obtain ⟨fd, F⟩ := T.d 14
  refine ⟨_, fd, T.g 14, F.kp, FunD.bindsN F (fun _ _ _ _ _ _ us hl => match us, hl with | [_, _], _ => rfl), FunD.ok F sc_l_take (by walk_at "len") (fun cdv A outer s H vs Q E hr h => ?_)⟩
  obtain ⟨s, many, rfl, ⟨c, cells, i, big, mixed, t, S⟩, hw, k⟩ := h
  have hs := S.1
  have hi0 := S.2.2.2.1
  refine ⟨_, PSs.nox ((pss_cons (ps_if (pt_cmpR op_lt (pv 1) pe_int (nomark _)) (pss_one (ps_ret pe_int)) pss_nil)
      (pss_cons (ps_asg (pe_op op_addA (pe_ix ix_seq (pv 0) pe_int (fun _ _ => rfl)) pe_int) (pg_sub (pv 0) pe_int set_list))
      (pss_cons (ps_set (i := 2) sc_l_take.nd rfl (.inl rfl) pe_int)
      (C8.pss_cut (ps_if (PW.pt (pw_and (pt_cmpR op_lt (pe_ix ix_seq (pv 0) pe_int (fun _ _ => rfl)) pe_int (nomark _)) (pw_and1 (pt_cmpR op_lt (pe_ix ix_seq (pv 0) pe_int (fun _ _ => rfl)) (pe_callB call_len (by rfl) (T.f 72) boot_len (pa_cons (pe_ix ix_seq (pv 0) pe_int (fun _ _ => rfl)) pa_nil)) (nomark _))))) (pss_cons (ps_set (i := 3) sc_l_take.nd rfl (.inl rfl) (pe_ix ix_seq (pe_ix ix_seq (pv 0) pe_int (fun _ _ => rfl)) (pe_ix ix_seq (pv 0) pe_int (fun _ _ => rfl)) (fun _ _ => rfl)))
      (pss_cons (ps_asg (pe_op op_addA (pe_ix ix_seq (pv 0) pe_int (fun _ _ => rfl)) pe_int) (pg_sub (pv 0) pe_int set_list))
      (pss_cons (ps_set (i := 2) sc_l_take.nd rfl (.inl rfl) (pe_op op_addA (pe_op op_mod (pe_callTy call_int1 (by rfl) (T.f 70) (by decide +kernel) (pa_cons (pv 3) pa_nil)) pe_int) pe_int))
      (pss_one (ps_if (pt_cmpR op_ge (pv 3) (pe_op op_powA pe_int pe_int) (nomark _)) (pss_one (ps_asg (pe_op op_mod (pe_callTy call_int1 (by rfl) (T.f 70) (by decide +kernel) (pa_cons (pv 3) pa_nil)) (pe_op op_powA (pe_op op_powA pe_int pe_int) pe_int)) (pg_sub (pv 0) pe_int set_list))) pss_nil))))) pss_nil)
      (pss_cons (ps_if (pt_cmpR op_ge (pe_ix ix_seq (pv 0) pe_int (fun _ _ => rfl)) pe_int (nomark _)) (pss_cons (ps_set (i := 4) sc_l_take.nd rfl (.inl rfl) (pe_op op_mod (pe_callTy call_int1 (by rfl) (T.f 70) (by decide +kernel) (pa_cons (pe_ix ix_seq (pv 0) pe_int (fun _ _ => rfl)) pa_nil)) (pv 1)))
      (pss_cons (ps_asg (pe_op op_fdivW (pe_callTy call_int1 (by rfl) (T.f 70) (by decide +kernel) (pa_cons (pe_ix ix_seq (pv 0) pe_int (fun _ _ => rfl)) pa_nil)) (pv 1)) (pg_sub (pv 0) pe_int set_list))
      (pss_one (ps_ret (pv 4))))) pss_nil)
      (pss_one (ps_ret (pe_op op_mod (pe_callTy call_int1 (by rfl) (T.f 70) (by decide +kernel) (pa_cons (pe_d (d_l_mixed T) (hr.mono (by decide)) rfl pass0 (pa_cons (pv 0) (pa_cons (pv 2) (pa_cons (pv 1) pa_nil)))) pa_nil)) (pv 1)))))))))), ?_⟩
  repeat walk_at "s"
  walk_at "c"
  refine ite2 (fun e => ?_) (fun e => ?_)
  · have e := of_decide_eq_true e
    refine k 0 H Kp.refl ⟨c, cells, i, big, mixed, t, S⟩ (by decide) (fun _ => rfl) (fun h => by omega)
  have e : ¬ many < 2 := fun h => e (decide_eq_true h)
  have hm : 2 ≤ many := by omega
  have hp : (0 : Int) < many := by omega
  unfold tNext
  repeat walk_at "s"
  walk_at "c"
  refine ⟨fun σ H' => ∃ (seed i big : Int) (z1 z2 : Option V), σ = [some (.ref s), some (.int many), some (.int seed), z1, z2] ∧ 0 ≤ i ∧ 0 ≤ big ∧ H' = upd H s (.lst [.ref c, .int i, .int big, .int mixed, .int (t + 1)]), ?_, ?_⟩
  · repeat walk_at "s"
    refine ite2 (fun e1 => ?_) (fun e1 => ?_)
    · repeat walk_at "s"
      refine ⟨_, cells.length, rfl, .inl ⟨_, lOf (look_ne S.2.2.1 S.2.1), (List.length_map _).symm⟩, _, _, rfl, rfl, _, rfl, ?_⟩
      refine ite2 (fun e2 => ?_) (fun e2 => ?_)
      · have e2 := of_decide_eq_true e2
        obtain ⟨z, hz, _⟩ := at_int S.2.2.2.1 e2
        repeat walk_at "s"
        refine .inl ⟨_, _, _, _, rfl, rfl, lOf (look_ne S.2.2.1 S.2.1), hz, ?_⟩
        repeat walk_at "s"
        walk_at "c"
        refine ite2 (fun _ => ?_) (fun _ => ?_)
        · repeat walk_at "s"
          walk_at "c"
          refine ⟨_, i + 1, z % (10 ^ 64) ^ 6, _, _, rfl, by omega, ?_, ?_⟩
          · exact Int.emod_nonneg _ (by decide +kernel)
          · rw [upd_upd, upd_upd]
        · refine ⟨_, i + 1, big, _, _, rfl, by omega, S.2.2.2.2.1, ?_⟩
          rw [upd_upd]
      · exact ⟨0, i, big, _, _, rfl, S.2.2.2.1, S.2.2.2.2.1, rfl⟩
    · exact ⟨0, i, big, _, _, rfl, S.2.2.2.1, S.2.2.2.2.1, rfl⟩
  · rintro σ _ ⟨seed, i', big', z1, z2, rfl, hi, hb, rfl⟩
    have S1 : StA (upd H s (.lst [.ref c, .int i', .int big', .int mixed, .int (t + 1)])) s c cells i' big' mixed (t + 1) := S.set hi hb S.2.2.2.2.2.1 S.2.2.2.2.2.2.1
    repeat walk_at "s"
    walk_at "c"
    refine ite2 (fun e1 => ?_) (fun e1 => ?_)
    · have e1 := of_decide_eq_true e1
      repeat walk_at "s"
      refine ⟨⟨hp, hw⟩, ?_⟩
      repeat walk_at "s"
      walk_at "c"
      rw [upd_upd]
      exact k _ _ (Kp.refl.set S.1) ⟨_, _, _, _, _, _, S.set hi (Int.ediv_nonneg hb (by omega)) S.2.2.2.2.2.1 S.2.2.2.2.2.2.1⟩ (Int.emod_nonneg _ (by omega)) (fun h => by omega) fun _ => Int.emod_lt_of_pos _ hp
    · repeat walk_at "s"
      refine ⟨s, seed, many, rfl, _, _, _, _, _, _, S1, fun v mixed' h0 h1 h2 => ?_⟩
      rw [upd_upd]
      refine Or.inl ⟨_, rfl, ?_⟩
      repeat walk_at "s"
      exact k _ _ (Kp.refl.set S.1) ⟨_, _, _, _, _, _, S.set hi hb h1 h2⟩ (Int.emod_nonneg _ (by omega)) (fun h => by omega) fun _ => Int.emod_lt_of_pos _ hp
end
end Lw
namespace Lw
open PySem PySem.Spec PyProof.Rows L2
/-! ### the draws -/
local macro_rules | `(tactic| walk_at "len") => `(tactic| (intro vs H Q E h; first | (obtain ⟨_, e, _⟩ := h; subst e; rfl) | (obtain ⟨_, _, e, _⟩ := h; subst e; rfl) | (obtain ⟨_, _, _, e, _⟩ := h; subst e; rfl) | (obtain ⟨_, _, _, _, e, _⟩ := h; subst e; rfl) | (obtain ⟨_, _, _, _, _, e, _⟩ := h; subst e; rfl) | (obtain ⟨_, _, _, _, _, _, e, _⟩ := h; subst e; rfl) | (obtain ⟨_, _, _, _, _, _, _, e, _⟩ := h; subst e; rfl)))
local macro_rules | `(tactic| walk_at "get") => `(tactic| (first | assumption | exact upd_same | (refine look_new (by assumption) ?_; walk_at "get") | (refine look_ne (by assumption) ?_; walk_at "get")))
local macro_rules | `(tactic| walk_at "s") => `(tactic| (first
  | refine ⟨_, rfl, ?_⟩
  | refine Or.inl ⟨_, rfl, ?_⟩
  | refine Or.inl ⟨_, _, _, _, rfl, rfl, lOf (by walk_at "get"), rfl, ?_⟩
  | refine ⟨_, _, _, _, rfl, rfl, (by walk_at "get"), rfl, ?_⟩
  | refine ⟨_, _, rfl, rfl, Or.inl (Or.inr ⟨by decide, by decide⟩), ?_⟩
  | refine ⟨_, _, rfl, rfl, (by show (0 : Int) < _; first | assumption | decide), ?_⟩
  | refine ⟨_, _, rfl, rfl, ⟨by decide, by decide⟩, ?_⟩
  | refine ⟨_, _, rfl, rfl, ⟨by decide, by decide +kernel⟩, ?_⟩
  | refine ⟨_, _, rfl, rfl, (by show (0 : Int) < _; decide +kernel), ?_⟩
  | refine ⟨(show CMulA _ _ from Or.inl (Or.inl ⟨by (try dsimp only); omega, by (try dsimp only); omega⟩)), ?_⟩
  | refine ⟨_, _, rfl, rfl, ?_⟩
  | refine ⟨_, _, rfl, ?_⟩
  | refine ⟨rfl, _, rfl, ?_⟩
  | refine ⟨rfl, ?_⟩))
local macro_rules | `(tactic| walk_at "c") => `(tactic| (try dsimp only [L2.start, List.set, List.map, List.length, List.replicate, List.cons_append, List.nil_append, List.append, HAppend.hAppend, Append.append, Int.toNat, Nat.reduceSub, Nat.reduceAdd]))
def Nw (n : Nat) (i : Int) : Prop := i.natAbs < 2 ^ n
theorem StO.ex {H H' : Hp} {s : Addr} (S : StO H s) (e : Ex H H') : StO H' s :=
  let ⟨c, cells, i, big, mixed, t, h1, h2, h3⟩ := S
  ⟨c, cells, i, big, mixed, t, e _ _ h1, e _ _ h2, h3⟩
theorem StO.ne {H : Hp} {s p : Addr} (S : StO H s) (h : H p = none) : p ≠ s :=
  let ⟨_, _, _, _, _, _, h1, _⟩ := S
  fun e => by rw [e, h1] at h; cases h
theorem sz {n : Nat} (h : n.blt 64 = true) : n ≤ sizeLine := small64 (Nat.le_of_ble_eq_true h)
theorem ln {n : Nat} (h : n.blt 64 = true) : n < 2 ^ 60 := Nat.lt_trans (Nat.le_of_ble_eq_true h) (by decide)
theorem Kp.none {s : Addr} {H H1 : Hp} {p : Addr} (e : Kp s H H1) (hn : p ≠ s) (h : H1 p = none) : H p = none := by
  cases q : H p with
  | none => rfl
  | some o =>
    rw [e.1 p o hn q] at h
    cases h
/-- a list that was not there at first may change -/
theorem StO.set2 {H H1 : Hp} {s p : Addr} {o : HO} (S : StO H s) (S1 : StO H1 s) (e : Kp s H H1) (h : H p = none) : StO (upd H1 p o) s := by
  obtain ⟨c, cells, i, big, mixed, t, h1, h2, h3⟩ := S
  obtain ⟨c', cells', i', big', mixed', t', g1, g2, g3⟩ := S1
  obtain ⟨ys, q⟩ := e.2 _ _ h1
  rw [g1] at q
  cases q
  have n1 : p ≠ s := fun e => by rw [e, h1] at h; cases h
  have n2 : p ≠ c := fun e => by rw [e, h2] at h; cases h
  exact ⟨c, cells', i', big', mixed', t', look_ne (Ne.symm n1) g1, look_ne (Ne.symm n2) g2, g3⟩
section
variable {w : World} {K : PySem.W.Frag} {mg : Str → Option Value} {base : Heap}
theorem lg {i : Int} {n : Nat} (h : i.natAbs < 2 ^ n) (h0 : 0 < n) (h9 : n ≤ 9000) : i.natAbs.log2 < 9000 := Nat.lt_of_lt_of_le (PySem.Flt.log2_lt_of h0 h) h9
theorem lg40 (room : Int) (h : 1 ≤ room) : (if (40 : Int) < room then 40 else room).natAbs.log2 < 9000 := by
  split
  · decide
  · exact lg (n := 6) (by omega) (by decide) (by decide)
theorem pw200 {top : Int} {m : Nat} (h1 : 1 ≤ top) (h2 : top ≤ 10 ^ (m + 1)) (hm : m ≤ 41) : top.natAbs < 2 ^ 200 := by
  have h3 : (10 : Int) ^ (m + 1) ≤ 10 ^ 42 := by
    have := Nat.pow_le_pow_right (n := 10) (by decide) (show m + 1 ≤ 42 by omega)
    exact_mod_cast this
  have h4 : (10 : Int) ^ 42 < 2 ^ 200 := by decide +kernel
  have h5 : ((2 : Nat) ^ 200 : Nat) = (2 : Int) ^ 200 := by norm_cast
  omega
def spMaybe : Sp := fun vs H Q _ => ∃ (s : Addr) (many : Int), vs = [.ref s, .int many] ∧ StO H s ∧ many.natAbs.log2 < 9000 ∧
  ∀ b H', Kp s H H' → StO H' s → Q (.bl b) H'
theorem sc_l_maybe : FnScope ["store", "many"] ["store", "many"] (defScope s_l_maybe) := ⟨rfl, rfl, rfl, by decide +kernel, rfl, by decide +kernel, by decide +kernel⟩
theorem d_l_maybe (T : Tx K mg) : Dn PP w K mg base CX0 3 "_law_maybe" ["store", "many"] (spMaybe) := by
  obtain ⟨fd, F⟩ := T.d 17
  refine ⟨_, fd, T.g 17, F.kp, FunD.bindsN F (fun _ _ _ _ _ _ us hl => match us, hl with | [_, _], _ => rfl), FunD.ok F sc_l_maybe (by walk_at "len") (fun cdv A outer s H vs Q E hr h => ?_)⟩
  obtain ⟨s, many, rfl, S, hw, k⟩ := h
  refine ⟨_, PSs.nox ((pss_one (ps_ret (pe_cmpR op_eq (pe_d (d_l_take T) (hr.mono (by decide)) rfl pass0 (pa_cons (pv 0) (pa_cons (pv 1) pa_nil))) (pe_op op_sub (pv 1) pe_int) (nomark _))))), ?_⟩
  repeat walk_at "s"
  refine ⟨S, hw, fun v H1 k1 S1 w0 _ w6 => ?_⟩
  repeat walk_at "s"
  exact k _ H1 k1 S1
/-- an entry of a list -/
def spPick (K : PySem.W.Frag) : Sp := fun vs H Q _ => ∃ (s r : Addr) (xs : List V), vs = [.ref s, .ref r] ∧ StO H s ∧ H r = some (.lst xs) ∧ r ≠ s ∧ xs ≠ [] ∧ xs.length < 2 ^ 60 ∧
  ∀ v H', Kp s H H' → StO H' s → v ∈ xs → Q v H'
theorem sc_l_pick : FnScope ["store", "row"] ["store", "row"] (defScope s_l_pick) := ⟨rfl, rfl, rfl, by decide +kernel, rfl, by decide +kernel, by decide +kernel⟩
theorem d_l_pick (T : Tx K mg) : Dn PP w K mg base CX0 3 "_law_pick" ["store", "row"] (spPick K) := by
  obtain ⟨fd, F⟩ := T.d 18
  refine ⟨_, fd, T.g 18, F.kp, FunD.bindsN F (fun _ _ _ _ _ _ us hl => match us, hl with | [_, _], _ => rfl), FunD.ok F sc_l_pick (by walk_at "len") (fun cdv A outer s H vs Q E hr h => ?_)⟩
  obtain ⟨s, r, xs, rfl, S, h1, hrs, hx, hl, k⟩ := h
  have hl : xs.length < 2 ^ 60 := hl
  have hx0 : 0 < xs.length := List.length_pos_iff.mpr hx
  refine ⟨_, PSs.nox ((pss_one (ps_ret (pe_ix ix_seq (pv 1) (pe_d (d_l_take T) (hr.mono (by decide)) rfl pass0 (pa_cons (pv 0) (pa_cons (pe_callB call_len (by rfl) (T.f 72) boot_len (pa_cons (pv 1) pa_nil)) pa_nil))) (fun _ _ => rfl))))), ?_⟩
  repeat walk_at "s"
  refine ⟨_, xs.length, rfl, .inl ⟨_, lOf h1, rfl⟩, ?_⟩
  repeat walk_at "s"
  refine ⟨S, lg (n := 60) (by omega) (by decide) (by decide), fun v H1 k1 S1 v0 vl vh => ?_⟩
  have hv : v < xs.length := by
    by_cases h : 2 ≤ (xs.length : Int)
    · exact vh h
    · have := vl (by omega)
      omega
  obtain ⟨n, rfl⟩ := Int.eq_ofNat_of_zero_le v0
  have hn : n < xs.length := by omega
  have hg : xs[n]? = some xs[n] := List.getElem?_eq_getElem hn
  refine .inl ⟨_, _, _, _, rfl, rfl, lOf (k1.1 _ _ hrs h1), atI_nat hg, ?_⟩
  exact k _ H1 k1 S1 (List.getElem_mem hn)
/-- a value that is no whole number -/
def Odd6 (v : V) (H : Hp) : Prop := v = .bl true ∨ v = .bl false ∨ v = .non ∨ v = .str "0" ∨ (∃ p, v = .ref p ∧ H p = some (.tup [.int 0])) ∨ v = .str ""
def spOdd : Sp := fun vs H Q _ => ∃ (s : Addr), vs = [.ref s] ∧ StO H s ∧
  ∀ p v H', Kp s H H' → StO H' s → H p = none → H' p = some (.lst [v]) → Odd6 v H' → Q (.ref p) H'
theorem sc_l_odd : FnScope ["store"] ["store"] (defScope s_l_odd) := ⟨rfl, rfl, rfl, by decide +kernel, rfl, by decide +kernel, by decide +kernel⟩
theorem d_l_odd (T : Tx K mg) : Dn PP w K mg base CX0 4 "_law_odd" ["store"] (spOdd) := by
  obtain ⟨fd, F⟩ := T.d 19
  refine ⟨_, fd, T.g 19, F.kp, FunD.bindsN F (fun _ _ _ _ _ _ us hl => match us, hl with | [_], _ => rfl), FunD.ok F sc_l_odd (by walk_at "len") (fun cdv A outer s H vs Q E hr h => ?_)⟩
  obtain ⟨s, rfl, S, k⟩ := h
  refine ⟨_, PSs.nox ((pss_one (ps_ret (pe_lst (pa_cons (pe_d (d_l_pick T) (hr.mono (by decide)) rfl pass0 (pa_cons (pv 0) (pa_cons (pe_lst (pa_cons pe_bl (pa_cons pe_bl (pa_cons pe_non (pa_cons pe_str (pa_cons (pe_tup (pa_cons pe_int pa_nil)) (pa_cons pe_str pa_nil))))))) pa_nil))) pa_nil))))), ?_⟩
  have hs : ∀ {p}, H p = none → p ≠ s := S.ne
  repeat walk_at "s"
  refine ⟨sz rfl, fun t ht => ?_⟩
  repeat walk_at "s"
  refine ⟨sz rfl, fun r hr => ?_⟩
  have hrs : r ≠ s := S.ne (Ex.refl.at ht |>.none hr)
  refine ⟨_, _, _, rfl, (S.ex (Ex.refl.at ht)).ex (Ex.refl.at hr), upd_same, hrs, (fun h => nomatch h), ln rfl, fun v H1 k1 S1 hv => ?_⟩
  refine ⟨sz rfl, fun p hp => ?_⟩
  have k2 : Kp s H (upd H1 p (.lst [v])) := ((Ex.refl.at ht).kp.trans ((Ex.refl.at hr).kp.trans k1)).new hp
  have htu : upd H1 p (.lst [v]) t = some (.tup [.int 0]) := look_new hp (k1.1 _ _ (S.ne ht) (look_new hr upd_same))
  have hp0 : H p = none := ((Ex.refl.at ht).kp.trans ((Ex.refl.at hr).kp.trans k1)).none (S1.ne hp) hp
  refine k p v _ k2 (S1.ex (Ex.refl.at hp)) hp0 upd_same ?_
  · rcases List.mem_cons.mp hv with e | hv
    · exact .inl e
    rcases List.mem_cons.mp hv with e | hv
    · exact .inr (.inl e)
    rcases List.mem_cons.mp hv with e | hv
    · exact .inr (.inr (.inl e))
    rcases List.mem_cons.mp hv with e | hv
    · exact .inr (.inr (.inr (.inl e)))
    rcases List.mem_cons.mp hv with e | hv
    · exact .inr (.inr (.inr (.inr (.inl ⟨t, e, htu⟩))))
    rcases List.mem_cons.mp hv with e | hv
    · exact .inr (.inr (.inr (.inr (.inr e))))
    cases hv
end
end Lw
namespace Lw
open PySem PySem.Spec PyProof.Rows L2
/-! ### the draws -/
local macro_rules | `(tactic| walk_at "len") => `(tactic| (intro vs H Q E h; first | (obtain ⟨_, e, _⟩ := h; subst e; rfl) | (obtain ⟨_, _, e, _⟩ := h; subst e; rfl) | (obtain ⟨_, _, _, e, _⟩ := h; subst e; rfl) | (obtain ⟨_, _, _, _, e, _⟩ := h; subst e; rfl) | (obtain ⟨_, _, _, _, _, e, _⟩ := h; subst e; rfl) | (obtain ⟨_, _, _, _, _, _, e, _⟩ := h; subst e; rfl) | (obtain ⟨_, _, _, _, _, _, _, e, _⟩ := h; subst e; rfl)))
local macro_rules | `(tactic| walk_at "get") => `(tactic| (first | assumption | exact upd_same | (refine look_new (by assumption) ?_; walk_at "get") | (refine look_ne (by assumption) ?_; walk_at "get")))
local macro_rules | `(tactic| walk_at "s") => `(tactic| (first
  | refine ⟨_, rfl, ?_⟩
  | refine Or.inl ⟨_, rfl, ?_⟩
  | refine Or.inl ⟨_, _, _, _, rfl, rfl, lOf (by walk_at "get"), rfl, ?_⟩
  | refine ⟨_, _, _, _, rfl, rfl, (by walk_at "get"), rfl, ?_⟩
  | refine ⟨_, _, rfl, rfl, Or.inl (Or.inr ⟨by decide, by decide⟩), ?_⟩
  | refine ⟨_, _, rfl, rfl, (by show (0 : Int) < _; first | assumption | decide), ?_⟩
  | refine ⟨_, _, rfl, rfl, ⟨by decide, by decide⟩, ?_⟩
  | refine ⟨_, _, rfl, rfl, ⟨by decide, by decide +kernel⟩, ?_⟩
  | refine ⟨_, _, rfl, rfl, (by show (0 : Int) < _; decide +kernel), ?_⟩
  | refine ⟨(show CMulA _ _ from Or.inl (Or.inl ⟨by (try dsimp only); omega, by (try dsimp only); omega⟩)), ?_⟩
  | refine ⟨_, _, rfl, rfl, ?_⟩
  | refine ⟨_, _, rfl, ?_⟩
  | refine ⟨rfl, _, rfl, ?_⟩
  | refine ⟨rfl, ?_⟩
  | refine ⟨_, _, _, _, _, rfl, .ty _, (by assumption), kit_ty (by rfl), ?_⟩))
local macro_rules | `(tactic| walk_at "c") => `(tactic| (try dsimp only [L2.start, List.set, List.map, List.length, List.replicate, List.cons_append, List.nil_append, List.append, HAppend.hAppend, Append.append, Int.toNat, Nat.reduceSub, Nat.reduceAdd]))
theorem iteT {b : Bool} {p q : Prop} (h : b = true) (x : p) : if b = true then p else q := by
  rw [if_pos h]
  exact x
theorem iteF {b : Bool} {p q : Prop} (h : b = false) (x : q) : if b = true then p else q := by
  rw [if_neg (by rw [h]; exact Bool.false_ne_true)]
  exact x
local macro_rules | `(tactic| walk_at "T") => `(tactic| ((repeat walk_at "s"); refine iteT (by first | rfl | assumption | decide) ?_; (repeat walk_at "s")))
local macro_rules | `(tactic| walk_at "F") => `(tactic| ((repeat walk_at "s"); refine iteF (by first | rfl | assumption | decide) ?_; (repeat walk_at "s")))
local macro_rules | `(tactic| walk_at "isi") => `(tactic| ((repeat walk_at "s"); refine ⟨_, _, _, _, _, rfl, .ty _, (by assumption), kit_ty (by rfl), ?_⟩; (repeat walk_at "s")))
/-! ### data -/
def tyD : PyData → String
  | .none => "NoneType"
  | .bool _ => "bool"
  | .int _ => "int"
  | .str _ => "str"
  | .list _ => "list"
  | .tuple _ => "tuple"
  | .dict _ => "dict"
def sortD : PyData → Str
  | .none => "none"
  | .bool _ => "bool"
  | .int _ => "int"
  | .str _ => "str"
  | .list _ => "list"
  | .tuple _ => "tuple"
  | .dict _ => "dict"
theorem dp_ty {K : PySem.W.Frag} {H : Hp} {v : V} {d : PyData} (h : Dp K H v d) : TyX K H v (.type (tyD d)) := by
  cases h with
  | non => exact .base .non
  | bl b => exact .base (.bl b)
  | int i => exact .base (.int i)
  | str x => exact .base (.str x)
  | lst h _ =>
    rcases h with (h | ⟨o, h⟩) | ⟨o, its, n, h, hc, _⟩
    · exact .base (.lst h)
    · exact .base (.frz h)
    · exact .kList h hc
  | tup h _ =>
    rcases h with (h | ⟨o, h⟩) | ⟨o, its, n, h, hc, _⟩
    · exact .base (.tup h)
    · exact .fTuple h
    · exact .kTuple h hc
mutual
theorem Ex.dp {K : PySem.W.Frag} {H H' : Hp} (e : Ex H H') : ∀ {d : PyData} {v : V}, Dp K H v d → Dp K H' v d
  | .none, _, .non => .non
  | .bool _, _, .bl b => .bl b
  | .int _, _, .int i => .int i
  | .str _, _, .str i => .str i
  | .list _, _, .lst h t => .lst (e.l h) (e.dps t)
  | .tuple _, _, .tup h t => .tup (e.t h) (e.dps t)
theorem Ex.dps {K : PySem.W.Frag} {H H' : Hp} (e : Ex H H') : ∀ {ds : List PyData} {vs : List V}, DpAll K H vs ds → DpAll K H' vs ds
  | [], _, .nil => .nil
  | _ :: _, _, .cons h t => .cons (e.dp h) (e.dps t)
end
mutual
def sizeD : PyData → Nat
  | .list ds => 1 + sizeDs ds
  | .tuple ds => 1 + sizeDs ds
  | _ => 1
def sizeDs : List PyData → Nat
  | [] => 0
  | d :: ds => sizeD d + sizeDs ds
end
section
variable {w : World} {K : PySem.W.Frag} {mg : Str → Option Value} {base : Heap}
def spSort (K : PySem.W.Frag) : Sp := fun vs H Q _ => ∃ (v : V) (d : PyData), vs = [v] ∧ Dp K H v d ∧ Q (.str (sortD d)) H
theorem sc_l_sort : FnScope ["value"] ["value"] (defScope s_l_sort) := ⟨rfl, rfl, rfl, by decide +kernel, rfl, by decide +kernel, by decide +kernel⟩
theorem d_l_sort (T : Tx K mg) : Dn PP w K mg base CX0 2 "_law_sort" ["value"] (spSort K) := by
  obtain ⟨fd, F⟩ := T.d 21
  refine ⟨_, fd, T.g 21, F.kp, FunD.bindsN F (fun _ _ _ _ _ _ us hl => match us, hl with | [_], _ => rfl), FunD.ok F sc_l_sort (by walk_at "len") (fun cdv A outer s H vs Q E hr h => ?_)⟩
  obtain ⟨v, d, rfl, hd, k⟩ := h
  have ty := dp_ty hd
  refine ⟨_, PSs.nox ((pss_cons (ps_if (pt_cmpR op_isN (pv 0) pe_non (nomark _)) (pss_one (ps_ret pe_str)) pss_nil)
      (pss_cons (ps_if (pt_truth (pe_callB call_isi (by rfl) (T.f 71) (by decide +kernel) (pa_cons (pv 0) (pa_cons (pe_bltn (v := .ty "bool") (by rfl) (T.f 67) (by decide +kernel) rfl) pa_nil))) (by intro _; rfl)) (pss_one (ps_ret pe_str)) pss_nil)
      (pss_cons (ps_if (pt_truth (pe_callB call_isi (by rfl) (T.f 71) (by decide +kernel) (pa_cons (pv 0) (pa_cons (pe_bltn (v := .ty "int") (by rfl) (T.f 70) (by decide +kernel) rfl) pa_nil))) (by intro _; rfl)) (pss_one (ps_ret pe_str)) pss_nil)
      (pss_cons (ps_if (pt_truth (pe_callB call_isi (by rfl) (T.f 71) (by decide +kernel) (pa_cons (pv 0) (pa_cons (pe_bltn (v := .ty "str") (by rfl) (T.f 79) (by decide +kernel) rfl) pa_nil))) (by intro _; rfl)) (pss_one (ps_ret pe_str)) pss_nil)
      (pss_cons (ps_if (pt_truth (pe_callB call_isi (by rfl) (T.f 71) (by decide +kernel) (pa_cons (pv 0) (pa_cons (pe_bltn (v := .ty "list") (by rfl) (T.f 73) (by decide +kernel) rfl) pa_nil))) (by intro _; rfl)) (pss_one (ps_ret pe_str)) pss_nil)
      (pss_cons (ps_if (pt_truth (pe_callB call_isi (by rfl) (T.f 71) (by decide +kernel) (pa_cons (pv 0) (pa_cons (pe_bltn (v := .ty "tuple") (by rfl) (T.f 81) (by decide +kernel) rfl) pa_nil))) (by intro _; rfl)) (pss_one (ps_ret pe_str)) pss_nil)
      (pss_cons (ps_if (pt_truth (pe_callB call_isi (by rfl) (T.f 71) (by decide +kernel) (pa_cons (pv 0) (pa_cons (pe_bltn (v := .ty "dict") (by rfl) (T.f 68) (by decide +kernel) rfl) pa_nil))) (by intro _; rfl)) (pss_one (ps_ret pe_str)) pss_nil)
      (pss_one (ps_ret pe_str)))))))))), ?_⟩
  cases hd
  all_goals
    repeat walk_at "s"
  all_goals exact k
end
end Lw
namespace Lw
open PySem PySem.Spec PyProof.Rows L2
/-! ### the draws -/
local macro_rules | `(tactic| walk_at "len") => `(tactic| (intro vs H Q E h; first | (obtain ⟨_, e, _⟩ := h; subst e; rfl) | (obtain ⟨_, _, e, _⟩ := h; subst e; rfl) | (obtain ⟨_, _, _, e, _⟩ := h; subst e; rfl) | (obtain ⟨_, _, _, _, e, _⟩ := h; subst e; rfl) | (obtain ⟨_, _, _, _, _, e, _⟩ := h; subst e; rfl) | (obtain ⟨_, _, _, _, _, _, e, _⟩ := h; subst e; rfl) | (obtain ⟨_, _, _, _, _, _, _, e, _⟩ := h; subst e; rfl)))
local macro_rules | `(tactic| walk_at "get") => `(tactic| (first | assumption | exact upd_same | (refine look_new (by assumption) ?_; walk_at "get") | (refine look_ne (by assumption) ?_; walk_at "get")))
local macro_rules | `(tactic| walk_at "s") => `(tactic| (first
  | refine ⟨_, rfl, ?_⟩
  | refine Or.inl ⟨_, rfl, ?_⟩
  | refine Or.inl ⟨_, _, _, _, rfl, rfl, lOf (by walk_at "get"), rfl, ?_⟩
  | refine ⟨_, _, _, _, rfl, rfl, (by walk_at "get"), rfl, ?_⟩
  | refine ⟨_, _, rfl, rfl, Or.inl (Or.inr ⟨by decide, by decide⟩), ?_⟩
  | refine ⟨_, _, rfl, rfl, (by show (0 : Int) < _; first | assumption | decide), ?_⟩
  | refine ⟨_, _, rfl, rfl, ⟨by decide, by decide⟩, ?_⟩
  | refine ⟨_, _, rfl, rfl, ⟨by decide, by decide +kernel⟩, ?_⟩
  | refine ⟨_, _, rfl, rfl, (by show (0 : Int) < _; decide +kernel), ?_⟩
  | refine ⟨(show CMulA _ _ from Or.inl (Or.inl ⟨by (try dsimp only); omega, by (try dsimp only); omega⟩)), ?_⟩
  | refine ⟨_, _, rfl, rfl, ?_⟩
  | refine ⟨_, _, rfl, (show Dp _ _ _ _ by assumption), ?_⟩
  | refine ⟨_, _, rfl, (show SqT _ _ _ _ by assumption), ?_⟩
  | refine ⟨_, _, rfl, (show SqL _ _ _ _ by assumption), ?_⟩
  | refine ⟨_, _, rfl, ?_⟩
  | refine ⟨rfl, _, rfl, ?_⟩
  | refine ⟨rfl, ?_⟩
  | refine ⟨_, _, _, _, _, rfl, .ty _, (by assumption), kit_ty (by rfl), ?_⟩))
local macro_rules | `(tactic| walk_at "c") => `(tactic| (try dsimp only [L2.start, List.set, List.map, List.length, List.replicate, List.cons_append, List.nil_append, List.append, HAppend.hAppend, Append.append, Int.toNat, Nat.reduceSub, Nat.reduceAdd]))
local macro_rules | `(tactic| walk_at "T") => `(tactic| ((repeat walk_at "s"); refine iteT (by first | rfl | assumption | decide) ?_; (repeat walk_at "s")))
local macro_rules | `(tactic| walk_at "F") => `(tactic| ((repeat walk_at "s"); refine iteF (by first | rfl | assumption | decide) ?_; (repeat walk_at "s")))
local macro_rules | `(tactic| walk_at "isi") => `(tactic| ((repeat walk_at "s"); refine ⟨_, _, _, _, _, rfl, .ty _, (by assumption), kit_ty (by rfl), ?_⟩; (repeat walk_at "s")))
/-! ### sameness of data -/
def PairOk (K : PySem.W.Frag) (H H' : Hp) (v : V) (d : PyData) : Prop := ∃ t x y, v = .ref t ∧ H' t = some (.tup [x, y]) ∧ Dp K H x d ∧ Dp K H y d
def tot (ts : List (V × PyData)) : Nat := sizeDs (ts.map (·.2))
theorem sizeDs_app : ∀ xs ys : List PyData, sizeDs (xs ++ ys) = sizeDs xs + sizeDs ys
  | [], ys => by simp [sizeDs]
  | x :: xs, ys => by
    show sizeD x + sizeDs (xs ++ ys) = (sizeD x + sizeDs xs) + sizeDs ys
    rw [sizeDs_app xs ys]
    omega
theorem sizeD_pos (d : PyData) : 1 ≤ sizeD d := by cases d <;> simp [sizeD]
theorem dsl : ∀ ds : List PyData, ds.length ≤ sizeDs ds
  | [] => Nat.zero_le _
  | d :: ds => by
    have := dsl ds
    have := sizeD_pos d
    show ds.length + 1 ≤ sizeD d + sizeDs ds
    omega
theorem last_app {xs : List V} {v : V} : (xs ++ [v])[(xs ++ [v]).length - 1]? = some v := by simp
theorem dps_len {K : PySem.W.Frag} {H : Hp} : ∀ {ds : List PyData} {vs : List V}, DpAll K H vs ds → vs.length = ds.length
  | [], _, .nil => rfl
  | _ :: _, _, .cons _ t => congrArg (· + 1) (dps_len t)
theorem dps_get {K : PySem.W.Frag} {H : Hp} : ∀ {ds : List PyData} {vs : List V}, DpAll K H vs ds → ∀ k, k < ds.length → ∃ v d, vs[k]? = some v ∧ ds[k]? = some d ∧ Dp K H v d
  | [], _, .nil, _, h => absurd h (Nat.not_lt_zero _)
  | d :: _, _, .cons h _, 0, _ => ⟨_, _, rfl, rfl, h⟩
  | _ :: _, _, .cons _ t, k + 1, h => dps_get t k (Nat.lt_of_succ_lt_succ h)
theorem atI_z {xs : List V} {i : Nat} {v : V} (h : xs[i]? = some v) : atI xs (0 + (i : Int)) = some v := by
  rw [Int.zero_add]
  exact atI_nat h
theorem take_size : ∀ {ds : List PyData} {i : Nat} {d : PyData}, ds[i]? = some d → sizeDs (ds.take (i + 1)) = sizeDs (ds.take i) + sizeD d
  | d :: ds, 0, _, h => by
    obtain rfl := Option.some.inj h
    simp [sizeDs]
  | d :: ds, i + 1, e, h => by
    have := take_size (ds := ds) (i := i) h
    show sizeD d + sizeDs (ds.take (i + 1)) = (sizeD d + sizeDs (ds.take i)) + sizeD e
    omega
theorem take_le : ∀ (ds : List PyData) (i : Nat), sizeDs (ds.take i) ≤ sizeDs ds
  | [], i => by simp [sizeDs]
  | d :: ds, 0 => by simp [sizeDs]
  | d :: ds, i + 1 => by
    have := take_le ds i
    show sizeD d + sizeDs (ds.take i) ≤ sizeD d + sizeDs ds
    omega
theorem tot_app {ts : List (V × PyData)} {t : V} {d : PyData} : tot (ts ++ [(t, d)]) = tot ts + sizeD d := by
  unfold tot
  rw [List.map_append, sizeDs_app]
  simp [sizeDs]
theorem tot_len : ∀ ts : List (V × PyData), ts.length ≤ tot ts
  | [] => Nat.zero_le _
  | t :: ts => by
    have h1 := tot_len ts
    have h2 := sizeD_pos t.2
    show ts.length + 1 ≤ sizeD t.2 + tot ts
    omega
section
variable {w : World} {K : PySem.W.Frag} {mg : Str → Option Value} {base : Heap}
/-- the same data gives True; all that is there stays -/
def spSame (K : PySem.W.Frag) : Sp := fun vs H Q _ => ∃ (x y : V) (d : PyData), vs = [x, y] ∧ Dp K H x d ∧ Dp K H y d ∧ sizeD d < 100000 ∧ ∀ H', Ex H H' → Q (.bl true) H'
theorem sc_l_same : FnScope ["one", "two", "pairs", "turn", "pair", "here", "there", "sort", "k"] ["one", "two"] (defScope s_l_same) := ⟨rfl, rfl, rfl, by decide +kernel, rfl, by decide +kernel, by decide +kernel⟩
theorem d_l_same (T : Tx K mg) : Dn PP w K mg base CX0 3 "_law_same" ["one", "two"] (spSame K) := by
  obtain ⟨fd, F⟩ := T.d 22
  refine ⟨_, fd, T.g 22, F.kp, FunD.bindsN F (fun _ _ _ _ _ _ us hl => match us, hl with | [_, _], _ => rfl), FunD.ok F sc_l_same (by walk_at "len") (fun cdv A outer s H vs Q E hr h => ?_)⟩
  obtain ⟨x, y, d, rfl, hx, hy, hs, k⟩ := h
  refine ⟨_, PSs.nox ((pss_cons (ps_set (i := 2) sc_l_same.nd rfl (.inl rfl) (pe_lst (pa_cons (pe_tup (pa_cons (pv 0) (pa_cons (pv 1) pa_nil))) pa_nil)))
      (pss_cons (ps_for PassesOwn.never rfl (pi_range1 rfl (T.f 76) (pa_cons pe_int pa_nil)) (pg_name (i := 3) sc_l_same.nd rfl (.inl rfl)) (pss_cons (ps_if (pt_not (pt_truth (pv 2) (by intro _; rfl))) (pss_one (ps_ret pe_bl)) pss_nil)
      (pss_cons (ps_set (i := 4) sc_l_same.nd rfl (.inl rfl) (pe_bm0 PySem.F.plainAttrs_list PySem.F.slot_list_pop PySem.F.type_list_pop mt_pop (pv 2)))
      (pss_cons (ps_set (i := 5) sc_l_same.nd rfl (.inl rfl) (pe_ix ix_seq (pv 4) pe_int (fun _ _ => rfl)))
      (pss_cons (ps_set (i := 6) sc_l_same.nd rfl (.inl rfl) (pe_ix ix_seq (pv 4) pe_int (fun _ _ => rfl)))
      (pss_cons (ps_set (i := 7) sc_l_same.nd rfl (.inl rfl) (pe_d (d_l_sort T) (hr.mono (by decide)) rfl pass0 (pa_cons (pv 5) pa_nil)))
      (pss_cons (ps_if (PW.pt (pw_or (pt_cmpR op_eq (pv 7) pe_str (nomark _)) (pw_or1 (pt_cmpR op_ne (pv 7) (pe_d (d_l_sort T) (hr.mono (by decide)) rfl pass0 (pa_cons (pv 6) pa_nil)) (nomark _))))) (pss_one (ps_ret pe_bl)) pss_nil)
      (pss_one (ps_if (pt_cmpR op_eq (pv 7) pe_str (nomark _)) (pss_one ps_never) (pss_one (ps_if (PW.pt (pw_or (pt_cmpR op_eq (pv 7) pe_str (nomark _)) (pw_or1 (pt_cmpR op_eq (pv 7) pe_str (nomark _))))) (pss_cons (ps_if (pt_cmpR op_ne (pe_callB call_len (by rfl) (T.f 72) boot_len (pa_cons (pv 5) pa_nil)) (pe_callB call_len (by rfl) (T.f 72) boot_len (pa_cons (pv 6) pa_nil)) (nomark _)) (pss_one (ps_ret pe_bl)) pss_nil)
      (pss_one (ps_for PassesOwn.never rfl (pi_range1 rfl (T.f 76) (pa_cons (pe_callB call_len (by rfl) (T.f 72) boot_len (pa_cons (pv 5) pa_nil)) pa_nil)) (pg_name (i := 8) sc_l_same.nd rfl (.inl rfl)) (pss_one (ps_expr (pe_bm PySem.F.plainAttrs_list PySem.F.slot_list_append PySem.F.type_list_append mt_append (pv 2) (pa_cons (pe_tup (pa_cons (pe_ix ix_seq (pv 5) (pv 8) (fun _ _ => rfl)) (pa_cons (pe_ix ix_seq (pv 6) (pv 8) (fun _ _ => rfl)) pa_nil))) pa_nil))))))) (pss_one (ps_if (pt_cmpR op_ne (pv 5) (pv 6) (nomark _)) (pss_one (ps_ret pe_bl)) pss_nil)))))))))))))
      (pss_one (ps_ret pe_bl))))), ?_⟩
  repeat walk_at "s"
  refine ⟨sz rfl, fun t ht => ?_⟩
  repeat walk_at "s"
  refine ⟨sz rfl, fun p hp => ?_⟩
  have hp0 : H p = none := Ex.refl.at ht |>.none hp
  repeat walk_at "s"
  refine ⟨by decide, by decide, for_range (n := 1000000) (fun m σ H' => ∃ (ts : List (V × PyData)) (z1 z2 z3 z4 z5 z6 : Option V), σ = [some x, some y, some (.ref p), z1, z2, z3, z4, z5, z6] ∧ Ex H H' ∧ H' p = some (.lst (ts.map (·.1))) ∧
    (∀ t ∈ ts, PairOk K H H' t.1 t.2) ∧ m + tot ts ≤ 100000) ?_ ?_ ?_⟩
  · refine ⟨[(.ref t, d)], _, _, _, _, _, _, rfl, (Ex.refl.at ht).trans (Ex.refl.at hp), upd_same, ?_, ?_⟩
    · intro u hu
      obtain rfl := List.mem_singleton.mp hu
      exact ⟨t, x, y, rfl, look_new hp upd_same, hx, hy⟩
    · show 0 + (sizeD d + 0) ≤ 100000
      omega
  · rintro m σ H1 hm ⟨ts, z1, z2, z3, z4, z5, z6, rfl, e1, hpl, hts, hto⟩
    rcases List.eq_nil_or_concat ts with e | ⟨ts1, ⟨v, d1⟩, e⟩
    · subst e
      repeat walk_at "s"
      refine ⟨false, .inl ⟨[], lOf hpl, rfl⟩, ?_⟩
      repeat walk_at "s"
      exact k _ e1
    · rw [List.concat_eq_append] at e
      subst e
      have hpl' : H1 p = some (.lst (ts1.map (·.1) ++ [v])) := by rw [hpl, List.map_append]; rfl
      obtain ⟨t1, x1, y1, ev, ht1, hx1, hy1⟩ := hts (v, d1) (List.mem_append_right _ (List.mem_cons_self ..))
      have ev : v = .ref t1 := ev
      subst ev
      have hto1 : m + (tot ts1 + sizeD d1) ≤ 100000 := by
        have : tot (ts1 ++ [(V.ref t1, d1)]) = tot ts1 + sizeD d1 := by
          unfold tot
          rw [List.map_append, sizeDs_app]
          simp [sizeDs]
        omega
      have hts1 : ∀ t ∈ ts1, PairOk K H H1 t.1 t.2 := fun t h => hts t (List.mem_append_left _ h)
      repeat walk_at "s"
      refine ⟨true, .inl ⟨_, lOf hpl', by simp⟩, ?_⟩
      repeat walk_at "s"
      refine ⟨.inl ⟨rfl, _, lOf hpl'⟩, p, _, _, rfl, rfl, hpl', last_app, ?_⟩
      rw [List.dropLast_concat]
      have hne : t1 ≠ p := fun e => by rw [e, hpl] at ht1; cases ht1
      have e2 : Ex H (upd H1 p (.lst (ts1.map (·.1)))) := e1.at hp0
      have ht2 : upd H1 p (.lst (ts1.map (·.1))) t1 = some (.tup [x1, y1]) := look_ne hne ht1
      have hts2 : ∀ t ∈ ts1, PairOk K H (upd H1 p (.lst (ts1.map (·.1)))) t.1 t.2 := fun t h =>
        let ⟨t2, x2, y2, a, b, c, d⟩ := hts1 t h
        ⟨t2, x2, y2, a, look_ne (fun e => by rw [e, hpl] at b; cases b) b, c, d⟩
      have hp2 : upd H1 p (.lst (ts1.map (·.1))) p = some (.lst (ts1.map (·.1))) := upd_same
      generalize upd H1 p (.lst (ts1.map (·.1))) = H2 at e2 ht2 hts2 hp2
      repeat walk_at "s"
      refine .inr (.inl ⟨_, _, 0, _, rfl, rfl, tOf ht2, rfl, ?_⟩)
      repeat walk_at "s"
      refine .inr (.inl ⟨_, _, 1, _, rfl, rfl, tOf ht2, rfl, ?_⟩)
      have hx2 := e2.dp hx1
      have hy2 := e2.dp hy1
      cases hx1 <;> cases hy1
      all_goals
        repeat walk_at "s"
      · first
          | exact ⟨ts1, _, _, _, _, _, _, rfl, e2, hp2, hts2, by have := sizeD_pos PyData.none; omega⟩
          | exact iteF (by simp) ⟨ts1, _, _, _, _, _, _, rfl, e2, hp2, hts2, by have := sizeD_pos PyData.none; omega⟩
      · rename_i d1
        exact iteF (by simp) ⟨ts1, _, _, _, _, _, _, rfl, e2, hp2, hts2, by have := sizeD_pos (PyData.bool d1); omega⟩
      · rename_i d1
        exact iteF (by simp) ⟨ts1, _, _, _, _, _, _, rfl, e2, hp2, hts2, by have := sizeD_pos (PyData.int d1); omega⟩
      · rename_i d1
        exact iteF (by simp) ⟨ts1, _, _, _, _, _, _, rfl, e2, hp2, hts2, by have := sizeD_pos (PyData.str d1); omega⟩
      · rename_i a1 xs1 ds1 hs1 ha1 a2 xs2 hs2 ha2
        have hz : sizeD (PyData.list ds1) = 1 + sizeDs ds1 := by simp [sizeD]
        have hto2 : m + (tot ts1 + (1 + sizeDs ds1)) ≤ 100000 := by rw [← hz]; exact hto1
        refine ⟨_, ds1.length, rfl, .inl ⟨_, e2.l hs1, (dps_len ha1).symm⟩, ?_⟩
        repeat walk_at "s"
        refine ⟨_, ds1.length, rfl, .inl ⟨_, e2.l hs2, (dps_len ha2).symm⟩, ?_⟩
        repeat walk_at "s"
        refine iteF (by simp) ?_
        repeat walk_at "s"
        refine ⟨_, ds1.length, rfl, .inl ⟨_, e2.l hs1, (dps_len ha1).symm⟩, ?_⟩
        have hn := dsl ds1
        refine ⟨_, rfl, by omega, by omega, for_range (n := ds1.length) (fun i σ H' => ∃ (ts : List (V × PyData)) (z6 : Option V), σ = [some x, some y, some (.ref p), some (.int (0 + (m : Int))), some (.ref t1), some (.ref a1), some (.ref a2), some (.str "list"), z6] ∧ Ex H H' ∧ H' p = some (.lst (ts.map (·.1))) ∧
          (∀ t ∈ ts, PairOk K H H' t.1 t.2) ∧ tot ts = tot ts1 + sizeDs (ds1.take i)) ?_ ?_ ?_⟩
        · exact ⟨ts1, _, rfl, e2, hp2, hts2, by simp [sizeDs]⟩
        · rintro i σ H3 hi ⟨ts, z6, rfl, e3, hp3, hts3, hto3⟩
          obtain ⟨v1, d1, hv1, hd1, hdp1⟩ := dps_get ha1 i hi
          obtain ⟨v2, d2, hv2, hd2, hdp2⟩ := dps_get ha2 i hi
          obtain rfl : d1 = d2 := Option.some.inj (hd1.symm.trans hd2)
          have hsz := take_size hd1
          have hle := take_le ds1 (i + 1)
          repeat walk_at "s"
          refine ⟨.inl ⟨rfl, _, lOf hp3⟩, ?_⟩
          repeat walk_at "s"
          refine .inl ⟨_, _, _, _, rfl, rfl, e3.l hs1, atI_z hv1, ?_⟩
          repeat walk_at "s"
          refine .inl ⟨_, _, _, _, rfl, rfl, e3.l hs2, atI_z hv2, ?_⟩
          refine ⟨sz rfl, fun q hq => ?_⟩
          have hl := tot_len ts
          refine ⟨_, _, _, rfl, rfl, look_new hq hp3, ?_, ?_⟩
          · rw [List.length_map, sizeLine_eq]
            omega
          have hqp : q ≠ p := fun e => by rw [e, hp3] at hq; cases hq
          refine ⟨ts ++ [(.ref q, d1)], _, rfl, (e3.new hq).at hp0, ?_, ?_, ?_⟩
          · rw [List.map_append]
            exact upd_same
          · intro t ht
            rcases List.mem_append.mp ht with ht | ht
            · obtain ⟨t2, x2, y2, a, b, c, d⟩ := hts3 t ht
              exact ⟨t2, x2, y2, a, look_ne (fun e => by rw [e, hp3] at b; cases b) (look_new hq b), c, d⟩
            · obtain rfl := List.mem_singleton.mp ht
              exact ⟨q, v1, v2, rfl, look_ne hqp upd_same, hdp1, hdp2⟩
          · rw [tot_app, hto3, hsz]
            omega
        · rintro σ H3 ⟨ts, z6, rfl, e3, hp3, hts3, hto3⟩
          rw [List.take_length] at hto3
          refine ⟨ts, _, _, _, _, _, _, rfl, e3, hp3, hts3, by omega⟩
      · rename_i a1 xs1 ds1 hs1 ha1 a2 xs2 hs2 ha2
        have hz : sizeD (PyData.tuple ds1) = 1 + sizeDs ds1 := by simp [sizeD]
        have hto2 : m + (tot ts1 + (1 + sizeDs ds1)) ≤ 100000 := by rw [← hz]; exact hto1
        refine ⟨_, ds1.length, rfl, .inr ⟨_, e2.t hs1, (dps_len ha1).symm⟩, ?_⟩
        repeat walk_at "s"
        refine ⟨_, ds1.length, rfl, .inr ⟨_, e2.t hs2, (dps_len ha2).symm⟩, ?_⟩
        repeat walk_at "s"
        refine iteF (by simp) ?_
        repeat walk_at "s"
        refine ⟨_, ds1.length, rfl, .inr ⟨_, e2.t hs1, (dps_len ha1).symm⟩, ?_⟩
        have hn := dsl ds1
        refine ⟨_, rfl, by omega, by omega, for_range (n := ds1.length) (fun i σ H' => ∃ (ts : List (V × PyData)) (z6 : Option V), σ = [some x, some y, some (.ref p), some (.int (0 + (m : Int))), some (.ref t1), some (.ref a1), some (.ref a2), some (.str "tuple"), z6] ∧ Ex H H' ∧ H' p = some (.lst (ts.map (·.1))) ∧
          (∀ t ∈ ts, PairOk K H H' t.1 t.2) ∧ tot ts = tot ts1 + sizeDs (ds1.take i)) ?_ ?_ ?_⟩
        · exact ⟨ts1, _, rfl, e2, hp2, hts2, by simp [sizeDs]⟩
        · rintro i σ H3 hi ⟨ts, z6, rfl, e3, hp3, hts3, hto3⟩
          obtain ⟨v1, d1, hv1, hd1, hdp1⟩ := dps_get ha1 i hi
          obtain ⟨v2, d2, hv2, hd2, hdp2⟩ := dps_get ha2 i hi
          obtain rfl : d1 = d2 := Option.some.inj (hd1.symm.trans hd2)
          have hsz := take_size hd1
          have hle := take_le ds1 (i + 1)
          repeat walk_at "s"
          refine ⟨.inl ⟨rfl, _, lOf hp3⟩, ?_⟩
          repeat walk_at "s"
          refine .inr <| .inl ⟨_, _, _, _, rfl, rfl, e3.t hs1, atI_z hv1, ?_⟩
          repeat walk_at "s"
          refine .inr <| .inl ⟨_, _, _, _, rfl, rfl, e3.t hs2, atI_z hv2, ?_⟩
          refine ⟨sz rfl, fun q hq => ?_⟩
          have hl := tot_len ts
          refine ⟨_, _, _, rfl, rfl, look_new hq hp3, ?_, ?_⟩
          · rw [List.length_map, sizeLine_eq]
            omega
          have hqp : q ≠ p := fun e => by rw [e, hp3] at hq; cases hq
          refine ⟨ts ++ [(.ref q, d1)], _, rfl, (e3.new hq).at hp0, ?_, ?_, ?_⟩
          · rw [List.map_append]
            exact upd_same
          · intro t ht
            rcases List.mem_append.mp ht with ht | ht
            · obtain ⟨t2, x2, y2, a, b, c, d⟩ := hts3 t ht
              exact ⟨t2, x2, y2, a, look_ne (fun e => by rw [e, hp3] at b; cases b) (look_new hq b), c, d⟩
            · obtain rfl := List.mem_singleton.mp ht
              exact ⟨q, v1, v2, rfl, look_ne hqp upd_same, hdp1, hdp2⟩
          · rw [tot_app, hto3, hsz]
            omega
        · rintro σ H3 ⟨ts, z6, rfl, e3, hp3, hts3, hto3⟩
          rw [List.take_length] at hto3
          refine ⟨ts, _, _, _, _, _, _, rfl, e3, hp3, hts3, by omega⟩
  · rintro σ H1 ⟨ts, z1, z2, z3, z4, z5, z6, rfl, e1, hpl, hts, hto⟩
    omega
end
end Lw
namespace Lw
open PySem PySem.Spec PyProof.Rows L2 L2H
/-! ### the draws -/
local macro_rules | `(tactic| walk_at "len") => `(tactic| (intro vs H Q E h; first | (obtain ⟨_, e, _⟩ := h; subst e; rfl) | (obtain ⟨_, _, e, _⟩ := h; subst e; rfl) | (obtain ⟨_, _, _, e, _⟩ := h; subst e; rfl) | (obtain ⟨_, _, _, _, e, _⟩ := h; subst e; rfl) | (obtain ⟨_, _, _, _, _, e, _⟩ := h; subst e; rfl) | (obtain ⟨_, _, _, _, _, _, e, _⟩ := h; subst e; rfl) | (obtain ⟨_, _, _, _, _, _, _, e, _⟩ := h; subst e; rfl)))
local macro_rules | `(tactic| walk_at "get") => `(tactic| (first | assumption | exact upd_same | (refine look_new (by assumption) ?_; walk_at "get") | (refine look_ne (by assumption) ?_; walk_at "get")))
local macro_rules | `(tactic| walk_at "sqt") => `(tactic| (first | assumption | (apply Ex.t (Ex.refl.at (by assumption)); walk_at "sqt")))
local macro_rules | `(tactic| walk_at "s") => `(tactic| (first
  | refine ⟨_, rfl, ?_⟩
  | refine Or.inl ⟨_, rfl, ?_⟩
  | refine Or.inl ⟨_, _, _, _, rfl, rfl, lOf (by walk_at "get"), rfl, ?_⟩
  | refine Or.inl ⟨_, _, _, _, rfl, rfl, (show SqL _ _ _ _ by assumption), rfl, ?_⟩
  | refine Or.inr (Or.inl ⟨_, _, _, _, rfl, rfl, (show SqT _ _ _ _ by walk_at "sqt"), rfl, ?_⟩)
  | refine ⟨_, _, _, _, rfl, rfl, (by walk_at "get"), rfl, ?_⟩
  | refine ⟨_, _, rfl, rfl, Or.inl (Or.inr ⟨by decide, by decide⟩), ?_⟩
  | refine ⟨_, _, rfl, rfl, (by show (0 : Int) < _; first | assumption | decide), ?_⟩
  | refine ⟨_, _, rfl, rfl, ⟨by decide, by decide⟩, ?_⟩
  | refine ⟨_, _, rfl, rfl, ⟨by decide, by decide +kernel⟩, ?_⟩
  | refine ⟨_, _, rfl, rfl, (by show (0 : Int) < _; decide +kernel), ?_⟩
  | refine ⟨(show CMulA _ _ from Or.inl (Or.inl ⟨by (try dsimp only); omega, by (try dsimp only); omega⟩)), ?_⟩
  | refine ⟨_, _, rfl, rfl, ?_⟩
  | refine ⟨_, _, rfl, .inl ⟨_, (show SqL _ _ _ _ by assumption), rfl⟩, ?_⟩
  | refine ⟨_, _, rfl, .inl ⟨_, lOf (by walk_at "get"), rfl⟩, ?_⟩
  | refine ⟨_, _, rfl, (show Dp _ _ _ _ by assumption), ?_⟩
  | refine ⟨_, _, rfl, (show SqT _ _ _ _ by assumption), ?_⟩
  | refine ⟨_, _, rfl, (show SqL _ _ _ _ by assumption), ?_⟩
  | refine ⟨_, _, rfl, ?_⟩
  | refine ⟨rfl, _, rfl, ?_⟩
  | refine ⟨rfl, ?_⟩
  | refine ⟨_, _, _, _, _, rfl, (by walk_at "get"), (by assumption), (by assumption), rfl, ?_⟩
  | refine ⟨_, _, _, _, _, rfl, .own _, (by assumption), (by assumption), ?_⟩
  | refine ⟨_, _, _, _, _, rfl, .ty _, (by assumption), kit_ty (by rfl), ?_⟩))
local macro_rules | `(tactic| walk_at "c") => `(tactic| (try dsimp only [L2.start, List.set, List.map, List.length, List.replicate, List.cons_append, List.nil_append, List.append, HAppend.hAppend, Append.append, Int.toNat, Nat.reduceSub, Nat.reduceAdd]))
local macro_rules | `(tactic| walk_at "T") => `(tactic| ((repeat walk_at "s"); refine iteT (by first | rfl | assumption | decide) ?_; (repeat walk_at "s")))
local macro_rules | `(tactic| walk_at "F") => `(tactic| ((repeat walk_at "s"); refine iteF (by first | rfl | assumption | decide) ?_; (repeat walk_at "s")))
local macro_rules | `(tactic| walk_at "isi") => `(tactic| ((repeat walk_at "s"); refine ⟨_, _, _, _, _, rfl, .ty _, (by assumption), kit_ty (by rfl), ?_⟩; (repeat walk_at "s")))
local macro_rules | `(tactic| walk_at "mem") => `(tactic| (first | exact List.Mem.head _ | (refine List.Mem.tail _ ?_; walk_at "mem")))
local macro_rules | `(tactic| walk_at "ext") => `(tactic| (first | exact Ex.refl | (refine Ex.new ?_ (by assumption); walk_at "ext")))
local macro_rules | `(tactic| walk_at "al") => `(tactic| ((repeat walk_at "s"); refine ⟨sz rfl, fun _ _ => ?_⟩))
theorem for_enum {K : PySem.W.Frag} {a : Addr} {xs : List V} {g : TG} {tb : TS} {D : Ends} {σ : L2.St} {H : Hp} (Pv : Nat → L2.St → Hp → Prop) (h0 : Pv 0 σ H) (hl : ∀ i σ H, i ≤ xs.length → Pv i σ H → SqL K H a xs)
    (hs : ∀ i x σ H T, xs[i]? = some x → Pv i σ H → H T = none → g (.ref T) σ (upd H T (.tup [.int (i : Nat), x])) fun σ2 H2 => tb { D with nx := Pv (i + 1), ct := Pv (i + 1), bk := D.nx } σ2 H2) (hd : ∀ σ H, Pv xs.length σ H → D.nx σ H) :
    ∃ W : Nat → Nat → L2.St → Hp → Prop, (∃ m, W 0 m σ H) ∧ ∀ i m σ H, W i m σ H →
      ((Ite K a).stop i H ∧ D.nx σ H) ∨ ((Ite K a).go i H ∧ ∃ N : L2.St → Hp → Prop, (∀ σ' H', N σ' H' → ∃ m', m' < m ∧ W (i + 1) m' σ' H') ∧ ∀ x H', (Ite K a).yld i H x H' → g x σ H' fun σ2 H2 => tb { D with nx := N, ct := N, bk := D.nx } σ2 H2) := by
  refine ⟨fun i m σ H => m = xs.length - i ∧ i ≤ xs.length ∧ Pv i σ H, ⟨xs.length, by simp, Nat.zero_le _, h0⟩, ?_⟩
  rintro i m σ H ⟨rfl, hi, p⟩
  have q := hl i σ H hi p
  by_cases lt : i < xs.length
  · refine .inr ⟨⟨xs, xs[i], q, by simp [lt]⟩, Pv (i + 1), fun σ' H' p' => ⟨xs.length - (i + 1), by omega, rfl, lt, p'⟩, fun x H' y => ?_⟩
    obtain ⟨T, z, rfl, hT, rfl, y⟩ := y
    exact hs i z σ _ T (y xs q) p hT
  · have e : i = xs.length := by omega
    subst e
    exact .inl ⟨⟨xs, q, Nat.le_refl _⟩, hd σ H p⟩
theorem pe_globI {X : Cx} {x : Str} {n : Int} {p : Pos} (hg : Gl X x) (h : ∃ t, X.mg x = some (.int n t)) (hdb : (x == ("__debug__" : Str)) = false := by decide) : PE X (.Name x p) (tC (.int n)) :=
  let ⟨t, e⟩ := h
  pe_glob (v := .int n) hg e ⟨t, rfl⟩ hdb
theorem Ex.ty {K : PySem.W.Frag} {H H' : Hp} {v : V} {t : Value} (e : Ex H H') (h : TyX K H v t) : TyX K H' v t := by
  cases h with
  | base b =>
    refine .base ?_
    cases b with
    | non => exact .non
    | bl x => exact .bl x
    | int i => exact .int i
    | str x => exact .str x
    | flt x => exact .flt x
    | lst h => exact .lst (e _ _ h)
    | frz h => exact .frz (e _ _ h)
    | tup h => exact .tup (e _ _ h)
    | dK h => exact .dK (e _ _ h)
    | dT h => exact .dT (e _ _ h)
    | ins h c a1 a2 a3 a4 => exact .ins (e _ _ h) c a1 a2 a3 a4
  | byt b => exact .byt b
  | set h => exact .set (e _ _ h)
  | kList h c => exact .kList h c
  | kTuple h c => exact .kTuple h c
  | kDict h c => exact .kDict h c
  | fTuple h => exact .fTuple (e _ _ h)
  | fDict h => exact .fDict (e _ _ h)
/-! ### what the module says -/
section
variable {K : PySem.W.Frag} {mg : Str → Option Value}
abbrev TM (K : PySem.W.Frag) : Addr := He.ga K "TooMany"
abbrev BL (K : PySem.W.Frag) : Addr := He.ga K "BadLevel"
abbrev BO (K : PySem.W.Frag) : Addr := He.ga K "BadOrder"
theorem Tx.m0 (T : Tx K mg) : ErY.Mk0 PP K mg := ⟨T.f 80, by decide +kernel, T.says.tp⟩
theorem Tx.ex (T : Tx K mg) : (ErY.ErC K (TM K) ∧ HeZ.isB K "TooMany" is_TooMany = true ∧ PySem.W.kitOne K (.ref (TM K)) (.type "ValueError") = some true) ∧
    (ErY.ErC K (BO K) ∧ HeZ.isB K "BadOrder" is_BadOrder = true ∧ PySem.W.kitOne K (.ref (BO K)) (.type "ValueError") = some true) ∧
    ErY.ErC K (BL K) ∧ HeZ.isB K "BadLevel" is_BadLevel = true ∧ PySem.W.kitOne K (.ref (BL K)) (.type "ValueError") = some true := by
  have e : exB K = true := T.says.more
  unfold exB at e
  obtain ⟨e1, e⟩ := He.ba e
  obtain ⟨e2, e⟩ := He.ba e
  obtain ⟨e3, e⟩ := He.ba e
  obtain ⟨e4, e⟩ := He.ba e
  obtain ⟨e5, e⟩ := He.ba e
  obtain ⟨e6, e⟩ := He.ba e
  obtain ⟨e7, e⟩ := He.ba e
  obtain ⟨e8, e9⟩ := He.ba e
  exact ⟨⟨HeZ.ecB_ok e1, e2, of_decide_eq_true e3⟩, ⟨HeZ.ecB_ok e4, e5, of_decide_eq_true e6⟩, HeZ.ecB_ok e7, e8, of_decide_eq_true e9⟩
theorem Tx.e_TooMany (T : Tx K mg) : PySem.ErX.ErTxt PP K mg "TooMany" "TooMany.__init__" (TM K) (HeZ.mkA K "TooMany") ["limit_name", "limit"] er0.body := by
  obtain ⟨e1, e2⟩ := T.says.err (d := er0) (List.mem_of_getElem? (i := 0) rfl)
  refine HeZ.erB_ok (T.g 46) e1 e2 ⟨_, rfl, rfl⟩ fun fd s us h1 h2 h3 hl => ?_
  obtain ⟨a, b, c, rfl⟩ : ∃ a b c, us = [a, b, c] := by
    match us, hl with
    | [a, b, c], _ => exact ⟨a, b, c, rfl⟩
  obtain ⟨n1, n2, n3, n4, n5, n6, n7, n8, n9, n10, n11, n12, n13, n14, n15⟩ := fd
  dsimp only at h1 h2 h3
  subst h1 h2 h3
  exact .of_eq rfl
theorem Tx.b_TooMany (T : Tx K mg) : PySem.ErX.Body2 "limit_name" "limit" er0.body := ⟨_, _, _, _, _, _, _, _, _, _, _, _, _, _, _, _, rfl, rfl⟩
theorem Tx.s_TooMany (T : Tx K mg) : PySem.ErX.ScOk ["limit_name", "limit"] := ⟨rfl, rfl, rfl, by decide, by decide, by decide, by decide⟩
theorem Tx.e_BadOrder (T : Tx K mg) : PySem.ErX.ErTxt PP K mg "BadOrder" "BadOrder.__init__" (BO K) (HeZ.mkA K "BadOrder") ["order_fault"] er1.body := by
  obtain ⟨e1, e2⟩ := T.says.err (d := er1) (List.mem_of_getElem? (i := 1) rfl)
  refine HeZ.erB_ok (T.g 54) e1 e2 ⟨_, rfl, rfl⟩ fun fd s us h1 h2 h3 hl => ?_
  obtain ⟨a, b, rfl⟩ : ∃ a b, us = [a, b] := by
    match us, hl with
    | [a, b], _ => exact ⟨a, b, rfl⟩
  obtain ⟨n1, n2, n3, n4, n5, n6, n7, n8, n9, n10, n11, n12, n13, n14, n15⟩ := fd
  dsimp only at h1 h2 h3
  subst h1 h2 h3
  exact .of_eq rfl
theorem Tx.b_BadOrder (T : Tx K mg) : PySem.ErX.Body1 "order_fault" er1.body := ⟨_, _, _, _, _, _, _, _, _, _, _, _, rfl, rfl⟩
theorem Tx.s_BadOrder (T : Tx K mg) : PySem.ErX.ScOk ["order_fault"] := ⟨rfl, rfl, rfl, by decide, by decide, by decide, by decide⟩
theorem Tx.e_BadLevel (T : Tx K mg) : PySem.ErX.ErTxt PP K mg "BadLevel" "BadLevel.__init__" (BL K) (HeZ.mkA K "BadLevel") ["level_at"] er2.body := by
  obtain ⟨e1, e2⟩ := T.says.err (d := er2) (List.mem_of_getElem? (i := 2) rfl)
  refine HeZ.erB_ok (T.g 61) e1 e2 ⟨_, rfl, rfl⟩ fun fd s us h1 h2 h3 hl => ?_
  obtain ⟨a, b, rfl⟩ : ∃ a b, us = [a, b] := by
    match us, hl with
    | [a, b], _ => exact ⟨a, b, rfl⟩
  obtain ⟨n1, n2, n3, n4, n5, n6, n7, n8, n9, n10, n11, n12, n13, n14, n15⟩ := fd
  dsimp only at h1 h2 h3
  subst h1 h2 h3
  exact .of_eq rfl
theorem Tx.b_BadLevel (T : Tx K mg) : PySem.ErX.Body1 "level_at" er2.body := ⟨_, _, _, _, _, _, _, _, _, _, _, _, rfl, rfl⟩
theorem Tx.s_BadLevel (T : Tx K mg) : PySem.ErX.ScOk ["level_at"] := ⟨rfl, rfl, rfl, by decide, by decide, by decide, by decide⟩
end
section
variable {w : World} {K : PySem.W.Frag} {mg : Str → Option Value} {base : Heap}
/-! ### level numbers -/
def lv (i : Int) : Bool := decide (0 ≤ i) && decide (i ≤ 1000)
/-- no whole number -/
def Odd (K : PySem.W.Frag) (H : Hp) (v : V) : Prop := ∃ t, TyX K H v (.type t) ∧ (t = "bool" ∨ t = "NoneType" ∨ t = "str" ∨ t = "tuple")
/-- no level number -/
def NoLv (K : PySem.W.Frag) (H : Hp) (v : V) : Prop := (∃ i, v = .int i ∧ lv i = false) ∨ Odd K H v
def spLevel (K : PySem.W.Frag) : Sp := fun vs H Q _ => ∃ v, vs = [v] ∧ ((∃ i, v = .int i ∧ lv i = true ∧ Q (.bl true) H) ∨ (NoLv K H v ∧ Q (.bl false) H))
theorem sc_is_level : FnScope ["number"] ["number"] (defScope s_is_level) := ⟨rfl, rfl, rfl, by decide +kernel, rfl, by decide +kernel, by decide +kernel⟩
theorem d_is_level (T : Tx K mg) : Dn PP w K mg base CX0 2 "is_level" ["number"] (spLevel K) := by
  obtain ⟨fd, F⟩ := T.d 4
  refine ⟨_, fd, T.g 4, F.kp, FunD.bindsN F (fun _ _ _ _ _ _ us hl => match us, hl with | [_], _ => rfl), FunD.ok F sc_is_level (by walk_at "len") (fun cdv A outer s H vs Q E hr h => ?_)⟩
  obtain ⟨v, rfl, hh⟩ := h
  refine ⟨_, PSs.nox ((pss_cons (ps_if (PW.pt (pw_or (pt_truth (pe_callB call_isi (by rfl) (T.f 71) (by decide +kernel) (pa_cons (pv 0) (pa_cons (pe_bltn (v := .ty "bool") (by rfl) (T.f 67) (by decide +kernel) rfl) pa_nil))) (by intro _; rfl)) (pw_or1 (pt_not (pt_truth (pe_callB call_isi (by rfl) (T.f 71) (by decide +kernel) (pa_cons (pv 0) (pa_cons (pe_bltn (v := .ty "int") (by rfl) (T.f 70) (by decide +kernel) rfl) pa_nil))) (by intro _; rfl)))))) (pss_one (ps_ret pe_bl)) pss_nil)
      (pss_one (ps_ret (pe_chain op_le op_le pe_int (pv 0) (pe_globI rfl (T.i 82))))))), ?_⟩
  rcases hh with ⟨i, rfl, hl, k⟩ | ⟨⟨i, rfl, hl⟩ | ⟨t, ty, ht⟩, k⟩
  · have ty : TyX K H (.int i) (.type "int") := .base (.int i)
    simp only [lv, Bool.and_eq_true, decide_eq_true_eq] at hl
    repeat walk_at "s"
    refine iteT (decide_eq_true hl.1) ?_
    repeat walk_at "s"
    show Q (.bl (decide (i ≤ 1000))) H
    rw [decide_eq_true hl.2]
    exact k
  · have ty : TyX K H (.int i) (.type "int") := .base (.int i)
    simp only [lv, Bool.and_eq_false_iff, decide_eq_false_iff_not] at hl
    repeat walk_at "s"
    refine ite2 (fun e => ?_) (fun _ => k)
    have e := of_decide_eq_true e
    repeat walk_at "s"
    show Q (.bl (decide (i ≤ 1000))) H
    rw [decide_eq_false (hl.resolve_left (fun z => z e))]
    exact k
  · rcases ht with e | e | e | e
    all_goals subst e
    all_goals
      repeat walk_at "s"
    all_goals exact k
/-- the errors with their values -/
def TellTM (K : PySem.W.Frag) (E : XK) (limit : Int) (H : Hp) : Prop := ∀ d, H d = none → E (.ref (TM K)) (some d) (upd H d (.xd [("limit_name", .str "places"), ("limit", .int limit)]))
def TellBL (K : PySem.W.Frag) (E : XK) (at_ : Int) (H : Hp) : Prop := ∀ d, H d = none → E (.ref (BL K)) (some d) (upd H d (.xd [("level_at", .int at_)]))
/-- the list of level numbers -/
def Nums (ns : List Int) : Prop := ∀ n ∈ ns, lv n = true
/-- the entry at is the first that is no level number -/
def FirstBad (K : PySem.W.Frag) (H : Hp) (xs : List V) (k : Nat) : Prop := ∃ v, xs[k]? = some v ∧ NoLv K H v ∧ ∀ j, j < k → ∃ i, xs[j]? = some (.int i) ∧ lv i = true
theorem NoLv.ex {H H' : Hp} {v : V} (h : NoLv K H v) (e : Ex H H') : NoLv K H' v := h.imp id fun ⟨t, ty, ht⟩ => ⟨t, e.ty ty, ht⟩
def spCheckL (K : PySem.W.Frag) : Sp := fun vs H Q E => ∃ (a : Addr) (xs : List V) (most limit : Int), vs = [.ref a, .int most, .int limit] ∧ SqL K H a xs ∧ xs.length < 1000 ∧
  ((most < xs.length ∧ ∀ H', Ex H H' → TellTM K E limit H') ∨ ((xs.length : Int) ≤ most ∧ ∃ k, FirstBad K H xs k ∧ ∀ H', Ex H H' → TellBL K E (k : Nat) H') ∨
    ((xs.length : Int) ≤ most ∧ (∃ ns : List Int, xs = ns.map V.int ∧ Nums ns) ∧ ∀ H', Ex H H' → Q .non H'))
theorem sc_check_levels : FnScope ["numbers", "most", "limit", "at", "number"] ["numbers", "most", "limit"] (defScope s_check_levels) := ⟨rfl, rfl, rfl, by decide +kernel, rfl, by decide +kernel, by decide +kernel⟩
theorem d_check_levels (T : Tx K mg) : Dn PP w K mg base (L2N.CX PP w) 5 "check_levels" ["numbers", "most", "limit"] (spCheckL K) := by
  obtain ⟨fd, F⟩ := T.d 5
  refine ⟨_, fd, T.g 5, F.kp, FunD.bindsN F (fun _ _ _ _ _ _ us hl => match us, hl with | [_, _, _], _ => rfl), FunD.ok F sc_check_levels (by walk_at "len") (fun cdv A outer s H vs Q E hr h => ?_)⟩
  obtain ⟨a, xs, most, limit, rfl, ha, hx, hh⟩ := h
  refine ⟨_, (pss_cons (ps_if (pt_cmpR op_gt (pe_callB call_len (by rfl) (T.f 72) boot_len (pa_cons (pv 0) pa_nil)) (pv 1) (nomark _)) (pss_one (ErY.ps_raiseE2 rfl T.m0 T.e_TooMany T.b_TooMany (T.s_TooMany) (by decide) hr tkOf (pa_cons pe_str (pa_cons (pv 2) pa_nil)))) pss_nil)
      (pss_one (ps_for (passes_of rfl) rfl (pi_enum (by rfl) (T.f 69) (pa_cons (pv 0) pa_nil)) (pg_tup rfl (pgs_cons (pg_name (i := 3) sc_check_levels.nd rfl (.inl rfl)) (pgs_cons (pg_name (i := 4) sc_check_levels.nd rfl (.inl rfl)) pgs_nil))) (pss_one (ps_if (pt_not (pt_truth (pe_d (d_is_level T) (hr.mono (by decide)) rfl pass0 (pa_cons (pv 4) pa_nil)) (by intro _; rfl))) (pss_one (ErY.ps_raiseE1 rfl T.m0 T.e_BadLevel T.b_BadLevel (T.s_BadLevel) hr tkOf (pa_cons (pv 3) pa_nil))) pss_nil))))), ?_⟩
  repeat walk_at "s"
  rcases hh with ⟨hm, k⟩ | ⟨hm, kb, bad, k⟩ | ⟨hm, ⟨ns, rfl, good⟩, k⟩
  · refine iteT (decide_eq_true hm) ?_
    repeat walk_at "s"
    exact k H Ex.refl
  · obtain ⟨v, hv, nl, before⟩ := bad
    have kl : kb < xs.length := (List.getElem?_eq_some_iff.mp hv).1
    refine iteF (decide_eq_false (by omega)) ?_
    repeat walk_at "s"
    refine for_enum (xs := xs) (fun i σ H' => (∃ z1 z2, σ = [some (.ref a), some (.int most), some (.int limit), z1, z2]) ∧ Ex H H' ∧ i ≤ kb) ⟨⟨_, _, rfl⟩, Ex.refl, Nat.zero_le _⟩ (fun i σ H' _ h => h.2.1.l ha) ?_ ?_
    · rintro i x σ H1 T1 hx ⟨⟨z1, z2, rfl⟩, e1, hi⟩ hT
      have e2 := e1.trans (Ex.refl.at (o := .tup [.int (i : Nat), x]) hT)
      have ht : SqT K (upd H1 T1 (.tup [.int (i : Nat), x])) T1 [.int (i : Nat), x] := tOf upd_same
      repeat walk_at "s"
      by_cases e : i = kb
      · subst e
        cases hv.symm.trans hx
        refine .inr ⟨nl.ex e2, ?_⟩
        repeat walk_at "s"
        exact k _ e2
      · obtain ⟨j, hj, lj⟩ := before i (by omega)
        cases hj.symm.trans hx
        refine .inl ⟨j, rfl, lj, ?_⟩
        repeat walk_at "s"
        exact ⟨⟨_, _, rfl⟩, e2, by omega⟩
    · rintro σ H1 ⟨_, _, hi⟩
      omega
  · rw [List.length_map] at hm
    refine iteF (decide_eq_false (by rw [List.length_map]; omega)) ?_
    repeat walk_at "s"
    refine for_enum (xs := ns.map V.int) (fun i σ H' => (∃ z1 z2, σ = [some (.ref a), some (.int most), some (.int limit), z1, z2]) ∧ Ex H H') ⟨⟨_, _, rfl⟩, Ex.refl⟩ (fun i σ H' _ h => h.2.l ha) ?_ ?_
    · rintro i x σ H1 T1 hx ⟨⟨z1, z2, rfl⟩, e1⟩ hT
      have e2 := e1.trans (Ex.refl.at (o := .tup [.int (i : Nat), x]) hT)
      have ht : SqT K (upd H1 T1 (.tup [.int (i : Nat), x])) T1 [.int (i : Nat), x] := tOf upd_same
      obtain ⟨j, hj, rfl⟩ := List.mem_map.mp (List.mem_of_getElem? hx)
      repeat walk_at "s"
      refine ⟨good j hj, ?_⟩
      repeat walk_at "s"
      exact ⟨⟨_, _, rfl⟩, e2⟩
    · rintro σ H1 ⟨_, e1⟩
      exact k _ e1
end
end Lw
namespace Lw
open PySem PySem.Spec PyProof.Rows L2 L2H
/-! ### the draws -/
local macro_rules | `(tactic| walk_at "len") => `(tactic| (intro vs H Q E h; first | (obtain ⟨_, e, _⟩ := h; subst e; rfl) | (obtain ⟨_, _, e, _⟩ := h; subst e; rfl) | (obtain ⟨_, _, _, e, _⟩ := h; subst e; rfl) | (obtain ⟨_, _, _, _, e, _⟩ := h; subst e; rfl) | (obtain ⟨_, _, _, _, _, e, _⟩ := h; subst e; rfl) | (obtain ⟨_, _, _, _, _, _, e, _⟩ := h; subst e; rfl) | (obtain ⟨_, _, _, _, _, _, _, e, _⟩ := h; subst e; rfl)))
local macro_rules | `(tactic| walk_at "get") => `(tactic| (first | assumption | exact upd_same | (refine look_new (by assumption) ?_; walk_at "get") | (refine look_ne (by assumption) ?_; walk_at "get")))
local macro_rules | `(tactic| walk_at "sqt") => `(tactic| (first | assumption | (apply Ex.t (Ex.refl.at (by assumption)); walk_at "sqt")))
local macro_rules | `(tactic| walk_at "s") => `(tactic| (first
  | refine ⟨_, rfl, ?_⟩
  | refine Or.inl ⟨_, rfl, ?_⟩
  | refine Or.inl ⟨_, _, _, _, rfl, rfl, lOf (by walk_at "get"), rfl, ?_⟩
  | refine Or.inl ⟨_, _, _, _, rfl, rfl, (show SqL _ _ _ _ by assumption), rfl, ?_⟩
  | refine Or.inr (Or.inl ⟨_, _, _, _, rfl, rfl, (show SqT _ _ _ _ by walk_at "sqt"), rfl, ?_⟩)
  | refine ⟨_, _, _, _, rfl, rfl, (by walk_at "get"), rfl, ?_⟩
  | refine ⟨_, _, rfl, rfl, Or.inl (Or.inr ⟨by decide, by decide⟩), ?_⟩
  | refine ⟨_, _, rfl, rfl, (by show (0 : Int) < _; first | assumption | decide), ?_⟩
  | refine ⟨_, _, rfl, rfl, ⟨by decide, by decide⟩, ?_⟩
  | refine ⟨_, _, rfl, rfl, ⟨by decide, by decide +kernel⟩, ?_⟩
  | refine ⟨_, _, rfl, rfl, (by show (0 : Int) < _; decide +kernel), ?_⟩
  | refine ⟨(show CMulA _ _ from Or.inl (Or.inl ⟨by (try dsimp only); omega, by (try dsimp only); omega⟩)), ?_⟩
  | refine ⟨_, _, rfl, rfl, ?_⟩
  | refine ⟨_, _, rfl, .inl ⟨_, (show SqL _ _ _ _ by assumption), rfl⟩, ?_⟩
  | refine ⟨_, _, rfl, .inl ⟨_, lOf (by walk_at "get"), rfl⟩, ?_⟩
  | refine ⟨_, _, rfl, (show Dp _ _ _ _ by assumption), ?_⟩
  | refine ⟨_, _, rfl, (show SqT _ _ _ _ by assumption), ?_⟩
  | refine ⟨_, _, rfl, (show SqL _ _ _ _ by assumption), ?_⟩
  | refine ⟨_, _, rfl, ?_⟩
  | refine ⟨rfl, _, rfl, ?_⟩
  | refine ⟨rfl, ?_⟩
  | refine ⟨_, _, _, _, _, rfl, (by walk_at "get"), (by assumption), (by assumption), rfl, ?_⟩
  | refine ⟨_, _, _, _, _, rfl, .own _, (by assumption), (by assumption), ?_⟩
  | refine ⟨_, _, _, _, _, rfl, .ty _, (by assumption), kit_ty (by rfl), ?_⟩))
local macro_rules | `(tactic| walk_at "c") => `(tactic| (try dsimp only [L2.start, List.set, List.map, List.length, List.replicate, List.cons_append, List.nil_append, List.append, HAppend.hAppend, Append.append, Int.toNat, Nat.reduceSub, Nat.reduceAdd]))
local macro_rules | `(tactic| walk_at "T") => `(tactic| ((repeat walk_at "s"); refine iteT (by first | rfl | assumption | decide) ?_; (repeat walk_at "s")))
local macro_rules | `(tactic| walk_at "F") => `(tactic| ((repeat walk_at "s"); refine iteF (by first | rfl | assumption | decide) ?_; (repeat walk_at "s")))
local macro_rules | `(tactic| walk_at "isi") => `(tactic| ((repeat walk_at "s"); refine ⟨_, _, _, _, _, rfl, .ty _, (by assumption), kit_ty (by rfl), ?_⟩; (repeat walk_at "s")))
local macro_rules | `(tactic| walk_at "mem") => `(tactic| (first | exact List.Mem.head _ | (refine List.Mem.tail _ ?_; walk_at "mem")))
local macro_rules | `(tactic| walk_at "ext") => `(tactic| (first | exact Ex.refl | (refine Ex.new ?_ (by assumption); walk_at "ext")))
local macro_rules | `(tactic| walk_at "al") => `(tactic| ((repeat walk_at "s"); refine ⟨sz rfl, fun _ _ => ?_⟩))
section
variable {w : World} {K : PySem.W.Frag} {mg : Str → Option Value} {base : Heap}
/-- places as values -/
def N (n : Nat) : V := .int (n : Int)
def spWhole (K : PySem.W.Frag) : Sp := fun vs H Q _ => ∃ v, vs = [v] ∧ ((∃ i, v = .int i ∧ Q (.bl true) H) ∨ (Odd K H v ∧ Q (.bl false) H))
theorem sc_is_whole : FnScope ["value"] ["value"] (defScope s_is_whole) := ⟨rfl, rfl, rfl, by decide +kernel, rfl, by decide +kernel, by decide +kernel⟩
theorem d_is_whole (T : Tx K mg) : Dn PP w K mg base CX0 2 "is_whole" ["value"] (spWhole K) := by
  obtain ⟨fd, F⟩ := T.d 0
  refine ⟨_, fd, T.g 0, F.kp, FunD.bindsN F (fun _ _ _ _ _ _ us hl => match us, hl with | [_], _ => rfl), FunD.ok F sc_is_whole (by walk_at "len") (fun cdv A outer s H vs Q E hr h => ?_)⟩
  obtain ⟨v, rfl, hh⟩ := h
  refine ⟨_, PSs.nox ((pss_one (ps_ret (pe_and (pe_callB call_isi (by rfl) (T.f 71) (by decide +kernel) (pa_cons (pv 0) (pa_cons (pe_bltn (v := .ty "int") (by rfl) (T.f 70) (by decide +kernel) rfl) pa_nil))) (pe_one (pe_not (pe_callB call_isi (by rfl) (T.f 71) (by decide +kernel) (pa_cons (pv 0) (pa_cons (pe_bltn (v := .ty "bool") (by rfl) (T.f 67) (by decide +kernel) rfl) pa_nil))))))))), ?_⟩
  rcases hh with ⟨i, rfl, k⟩ | ⟨⟨t, ty, ht⟩, k⟩
  · have ty : TyX K H (.int i) (.type "int") := .base (.int i)
    repeat walk_at "s"
    exact k
  · rcases ht with e | e | e | e
    all_goals subst e
    all_goals
      repeat walk_at "s"
    all_goals exact k
/-- no place below n -/
def NoPl (K : PySem.W.Frag) (H : Hp) (n : Nat) (v : V) : Prop := (∃ i, v = .int i ∧ (i < 0 ∨ (n : Int) ≤ i)) ∨ Odd K H v
theorem NoPl.ex {H H' : Hp} {n : Nat} {v : V} (h : NoPl K H n v) (e : Ex H H') : NoPl K H' n v := h.imp id fun ⟨t, ty, ht⟩ => ⟨t, e.ty ty, ht⟩
def spPlace (K : PySem.W.Frag) : Sp := fun vs H Q _ => ∃ (v : V) (n : Nat), vs = [v, .int (n : Int)] ∧ ((∃ u : Nat, v = N u ∧ u < n ∧ Q (.bl true) H) ∨ (NoPl K H n v ∧ Q (.bl false) H))
theorem sc_is_place : FnScope ["value", "size"] ["value", "size"] (defScope s_is_place) := ⟨rfl, rfl, rfl, by decide +kernel, rfl, by decide +kernel, by decide +kernel⟩
theorem d_is_place (T : Tx K mg) : Dn PP w K mg base CX0 3 "is_place" ["value", "size"] (spPlace K) := by
  obtain ⟨fd, F⟩ := T.d 1
  refine ⟨_, fd, T.g 1, F.kp, FunD.bindsN F (fun _ _ _ _ _ _ us hl => match us, hl with | [_, _], _ => rfl), FunD.ok F sc_is_place (by walk_at "len") (fun cdv A outer s H vs Q E hr h => ?_)⟩
  obtain ⟨v, n, rfl, hh⟩ := h
  refine ⟨_, PSs.nox ((pss_one (ps_ret (pe_and (pe_d (d_is_whole T) (hr.mono (by decide)) rfl pass0 (pa_cons (pv 0) pa_nil)) (pe_one (pe_chain op_le op_lt pe_int (pv 0) (pv 1))))))), ?_⟩
  repeat walk_at "s"
  rcases hh with ⟨u, rfl, hu, k⟩ | ⟨⟨i, rfl, hi⟩ | od, k⟩
  · refine .inl ⟨(u : Int), rfl, ?_⟩
    repeat walk_at "s"
    show Q (.bl (decide ((u : Int) < (n : Int)))) H
    rw [decide_eq_true (show (u : Int) < (n : Int) by omega)]
    exact k
  · refine .inl ⟨i, rfl, ?_⟩
    repeat walk_at "s"
    refine ite2 (fun e => ?_) (fun _ => k)
    have e := of_decide_eq_true e
    repeat walk_at "s"
    show Q (.bl (decide (i < (n : Int)))) H
    rw [decide_eq_false (show ¬ i < (n : Int) by omega)]
    exact k
  · refine .inr ⟨od, ?_⟩
    repeat walk_at "s"
    exact k
/-! ### orders -/
/-- the places met -/
def mets (L : List Nat) : List (L2.Key × V) := L.map fun v : Nat => ((Sum.inl (v : Int) : L2.Key), V.bl true)
theorem mets_in : ∀ {L : List Nat} {u : Nat}, u ∈ L → valV (mets L) (Sum.inl (u : Int)) = some (.bl true)
  | v :: L, u, h => by
    by_cases e : v = u
    · subst e
      exact valV_pos (p := ((Sum.inl (v : Int) : L2.Key), V.bl true)) rfl
    · have : u ∈ L := (List.mem_cons.mp h).resolve_left (fun z => e z.symm)
      exact (valV_neg (p := ((Sum.inl (v : Int) : L2.Key), V.bl true)) (fun z => e (by have := Sum.inl.inj z; omega))).trans (mets_in this)
theorem mets_not : ∀ {L : List Nat} {u : Nat}, u ∉ L → valV (mets L) (Sum.inl (u : Int)) = none
  | [], _, _ => rfl
  | v :: L, u, h => by
    have h1 : ¬ v = u := fun e => h (e ▸ List.mem_cons_self)
    have h2 : u ∉ L := fun z => h (List.mem_cons_of_mem _ z)
    exact (valV_neg (p := ((Sum.inl (v : Int) : L2.Key), V.bl true)) (fun z => h1 (by have := Sum.inl.inj z; omega))).trans (mets_not h2)
theorem mets_put {L : List Nat} {u : Nat} (h : u ∉ L) : putK (mets L) (Sum.inl (u : Int)) (.bl true) = mets (L ++ [u]) := by
  rw [putK_new _ (mets_not h)]
  unfold mets
  rw [List.map_append]
  rfl
/-- so far there are places, no one twice -/
def Pls (xs : List V) (k n : Nat) (L : List Nat) : Prop := xs.take k = L.map N ∧ L.length = k ∧ L.Nodup ∧ ∀ v ∈ L, v < n
theorem Pls.at_ {xs : List V} {k n i : Nat} {L : List Nat} (P : Pls xs k n L) (h : i < k) : ∃ v, xs[i]? = some (N v) ∧ L[i]? = some v ∧ v < n ∧ v ∉ L.take i ∧ L.take (i + 1) = L.take i ++ [v] := by
  obtain ⟨h1, h2, h3, h4⟩ := P
  have hi : i < L.length := by omega
  refine ⟨L[i], ?_, List.getElem?_eq_getElem hi, h4 _ (List.getElem_mem hi), fun z => ?_, ?_⟩
  · have q : (xs.take k)[i]? = some (N L[i]) := by
      rw [h1, List.getElem?_map, List.getElem?_eq_getElem hi]
      rfl
    rw [List.getElem?_take, if_pos h] at q
    exact q
  · obtain ⟨j, hj, e⟩ := List.mem_iff_getElem.mp z
    rw [List.length_take] at hj
    rw [List.getElem_take] at e
    have := (List.nodup_iff_pairwise_ne.mp h3)
    have q := List.pairwise_iff_getElem.mp this j i (by omega) hi (by omega)
    exact q e
  · rw [List.take_succ, List.getElem?_eq_getElem hi]
    rfl
def spOrderF (K : PySem.W.Frag) : Sp := fun vs H Q _ => ∃ (a : Addr) (xs : List V) (k : Nat) (L : List Nat), vs = [.ref a, .int (xs.length : Nat)] ∧ SqL K H a xs ∧ 0 < xs.length ∧ xs.length < 1000 ∧ Pls xs k xs.length L ∧
  ((k = xs.length ∧ ∀ H', Ex H H' → Q (.str "") H') ∨ (∃ v, xs[k]? = some v ∧ NoPl K H xs.length v ∧ ∀ H', Ex H H' → Q (.str "place") H') ∨ ∃ u, xs[k]? = some (N u) ∧ u < xs.length ∧ u ∈ L ∧ ∀ H', Ex H H' → Q (.str "twice") H')
theorem sc_order_fault : FnScope ["order", "size", "met", "place"] ["order", "size"] (defScope s_order_fault) := ⟨rfl, rfl, rfl, by decide +kernel, rfl, by decide +kernel, by decide +kernel⟩
theorem d_order_fault (T : Tx K mg) : Dn PP w K mg base CX0 4 "order_fault" ["order", "size"] (spOrderF K) := by
  obtain ⟨fd, F⟩ := T.d 2
  refine ⟨_, fd, T.g 2, F.kp, FunD.bindsN F (fun _ _ _ _ _ _ us hl => match us, hl with | [_, _], _ => rfl), FunD.ok F sc_order_fault (by walk_at "len") (fun cdv A outer s H vs Q E hr h => ?_)⟩
  obtain ⟨a, xs, k, L, rfl, ha, n0, n1, P, hh⟩ := h
  refine ⟨_, PSs.nox ((pss_cons (ps_set (i := 2) sc_order_fault.nd rfl (.inl rfl) pe_dnewK)
      (pss_cons (ps_for PassesOwn.never rfl (pi_list (pv 0)) (pg_name (i := 3) sc_order_fault.nd rfl (.inl rfl)) (pss_cons (ps_if (pt_not (pt_truth (pe_d (d_is_place T) (hr.mono (by decide)) rfl pass0 (pa_cons (pv 3) (pa_cons (pv 1) pa_nil))) (by intro _; rfl))) (pss_one (ps_ret pe_str)) pss_nil)
      (pss_cons (ps_if (pt_cmp (pc_din (hu_of hr) (pv 3) (pv 2))) (pss_one (ps_ret pe_str)) pss_nil)
      (pss_one (ps_dput (hu_of hr) (pv 2) (pv 3) pe_bl rfl)))))
      (pss_cons (ps_if (PW.pt (pw_or (pt_cmpR op_eq (pv 1) pe_int (nomark _)) (pw_or1 (pt_cmpR op_lt (pe_callB call_lenD (by rfl) (T.f 72) boot_len (pa_cons (pv 2) pa_nil)) (pv 1) (nomark _))))) (pss_one (ps_ret pe_str)) pss_nil)
      (pss_one (ps_ret pe_str)))))), ?_⟩
  repeat walk_at "s"
  intro m hm
  repeat walk_at "s"
  have kl : k ≤ xs.length := by
    have := congrArg List.length P.1
    rw [List.length_take, List.length_map, P.2.1] at this
    omega
  refine ⟨⟨xs, Ex.l (Ex.refl.at hm) ha⟩, for_list (xs := xs) (fun i σ H' => (∃ z, σ = [some (.ref a), some (.int (xs.length : Nat)), some (.ref m), z]) ∧ i ≤ k ∧ H' m = some (.dK (mets (L.take i))) ∧ Ex H H') ⟨⟨_, rfl⟩, Nat.zero_le _, upd_same, Ex.refl.at hm⟩ (fun i σ H' _ h => h.2.2.2.l ha) ?_ ?_⟩
  · rintro i x σ H1 hx ⟨⟨z, rfl⟩, hi, hd, e1⟩
    by_cases e : i < k
    · obtain ⟨v, h1, h2, h3, h4, h5⟩ := P.at_ e
      cases hx.symm.trans h1
      repeat walk_at "s"
      refine ⟨h3, ?_⟩
      repeat walk_at "s"
      refine ⟨m, _, rfl, DGet.k (k := Sum.inl (v : Int)) hd, ?_⟩
      rw [mets_not h4]
      repeat walk_at "s"
      refine ⟨m, _, rfl, DPut.k (k := Sum.inl (v : Int)) hd (by unfold mets; rw [List.length_map, List.length_take, sizeLine_eq]; omega), ?_⟩
      refine ⟨⟨_, rfl⟩, e, ?_, e1.at hm⟩
      rw [mets_put h4, ← h5]
      exact upd_same
    · obtain rfl : i = k := by omega
      have tl : L.take i = L := List.take_of_length_le (by have := P.2.1; omega)
      rw [tl] at hd
      rcases hh with ⟨e2, _⟩ | ⟨v, hv, np, q⟩ | ⟨u, hu, hun, hum, q⟩
      · have := (List.getElem?_eq_some_iff.mp hx).1
        omega
      · cases hx.symm.trans hv
        repeat walk_at "s"
        refine .inr ⟨np.ex e1, ?_⟩
        repeat walk_at "s"
        exact q _ e1
      · cases hx.symm.trans hu
        repeat walk_at "s"
        refine ⟨hun, ?_⟩
        repeat walk_at "s"
        refine ⟨m, _, rfl, DGet.k (k := Sum.inl (u : Int)) hd, ?_⟩
        rw [mets_in hum]
        repeat walk_at "s"
        exact q _ e1
  · rintro σ H1 ⟨⟨z, rfl⟩, hi, hd, e1⟩
    rcases hh with ⟨e2, q⟩ | ⟨v, hv, np, q⟩ | ⟨u, hu, hun, hum, q⟩
    · have tl : L.take xs.length = L := List.take_of_length_le (by have := P.2.1; omega)
      rw [tl] at hd
      have ll : (mets L).length = xs.length := by
        unfold mets
        rw [List.length_map, P.2.1, e2]
      repeat walk_at "s"
      refine iteF (decide_eq_false fun z => by have := V.int.inj z; omega) ?_
      repeat walk_at "s"
      refine ⟨m, _, rfl, hd, ?_⟩
      repeat walk_at "s"
      refine iteF (decide_eq_false (by rw [ll]; omega)) ?_
      repeat walk_at "s"
      exact q _ e1
    · have := (List.getElem?_eq_some_iff.mp hv).1
      omega
    · have := (List.getElem?_eq_some_iff.mp hu).1
      omega
def TellBO (K : PySem.W.Frag) (E : XK) (f : Str) (H : Hp) : Prop := ∀ d, H d = none → E (.ref (BO K)) (some d) (upd H d (.xd [("order_fault", .str f)]))
/-- an order, or the first fault of what is none -/
def OrdCase (K : PySem.W.Frag) (H : Hp) (xs : List V) (ok : List Nat → Prop) (bad : Str → Prop) : Prop := ∃ (k : Nat) (L : List Nat), Pls xs k xs.length L ∧
  ((k = xs.length ∧ ok L) ∨ (∃ v, xs[k]? = some v ∧ NoPl K H xs.length v ∧ bad "place") ∨ ∃ u, xs[k]? = some (N u) ∧ u < xs.length ∧ u ∈ L ∧ bad "twice")
def spCheckO (K : PySem.W.Frag) : Sp := fun vs H Q E => ∃ (a : Addr) (xs : List V), vs = [.ref a, .int (xs.length : Nat)] ∧ SqL K H a xs ∧ 0 < xs.length ∧ xs.length < 1000 ∧
  OrdCase K H xs (fun _ => ∀ H', Ex H H' → Q .non H') (fun f => ∀ H', Ex H H' → TellBO K E f H')
theorem sc_check_order : FnScope ["order", "n", "fault"] ["order", "n"] (defScope s_check_order) := ⟨rfl, rfl, rfl, by decide +kernel, rfl, by decide +kernel, by decide +kernel⟩
theorem d_check_order (T : Tx K mg) : Dn PP w K mg base (L2N.CX PP w) 5 "check_order" ["order", "n"] (spCheckO K) := by
  obtain ⟨fd, F⟩ := T.d 3
  refine ⟨_, fd, T.g 3, F.kp, FunD.bindsN F (fun _ _ _ _ _ _ us hl => match us, hl with | [_, _], _ => rfl), FunD.ok F sc_check_order (by walk_at "len") (fun cdv A outer s H vs Q E hr h => ?_)⟩
  obtain ⟨a, xs, rfl, ha, n0, n1, kk, L, P, hh⟩ := h
  refine ⟨_, (pss_cons (ps_if (PW.pt (pw_or (pt_not (pt_truth (pe_d (d_is_whole T) (hr.mono (by decide)) rfl pass0 (pa_cons (pv 1) pa_nil)) (by intro _; rfl))) (pw_or1 (pt_cmpR op_lt (pv 1) pe_int (nomark _))))) (pss_one ps_never) pss_nil)
      (pss_cons (ps_set (i := 2) sc_check_order.nd rfl (.inl rfl) (pe_d (d_order_fault T) (hr.mono (by decide)) rfl pass0 (pa_cons (pv 0) (pa_cons (pv 1) pa_nil))))
      (pss_one (ps_if (pt_cmpR op_ne (pv 2) pe_str (nomark _)) (pss_one (ErY.ps_raiseE1 rfl T.m0 T.e_BadOrder T.b_BadOrder (T.s_BadOrder) hr tkOf (pa_cons (pv 2) pa_nil))) pss_nil)))), ?_⟩
  repeat walk_at "s"
  refine iteF (decide_eq_false (by omega)) ?_
  repeat walk_at "s"
  refine ⟨a, xs, kk, L, rfl, ha, n0, n1, P, ?_⟩
  rcases hh with ⟨e, q⟩ | ⟨v, hv, np, q⟩ | ⟨u, hu, hun, hum, q⟩
  · refine .inl ⟨e, fun H1 e1 => ?_⟩
    repeat walk_at "s"
    exact q _ e1
  · refine .inr (.inl ⟨v, hv, np, fun H1 e1 => ?_⟩)
    repeat walk_at "s"
    exact q _ e1
  · refine .inr (.inr ⟨u, hu, hun, hum, fun H1 e1 => ?_⟩)
    repeat walk_at "s"
    exact q _ e1
end
end Lw
namespace Lw
open PySem PySem.Spec PyProof.Rows L2 L2H
/-! ### the draws -/
local macro_rules | `(tactic| walk_at "len") => `(tactic| (intro vs H Q E h; first | (obtain ⟨_, e, _⟩ := h; subst e; rfl) | (obtain ⟨_, _, e, _⟩ := h; subst e; rfl) | (obtain ⟨_, _, _, e, _⟩ := h; subst e; rfl) | (obtain ⟨_, _, _, _, e, _⟩ := h; subst e; rfl) | (obtain ⟨_, _, _, _, _, e, _⟩ := h; subst e; rfl) | (obtain ⟨_, _, _, _, _, _, e, _⟩ := h; subst e; rfl) | (obtain ⟨_, _, _, _, _, _, _, e, _⟩ := h; subst e; rfl)))
local macro_rules | `(tactic| walk_at "get") => `(tactic| (first | assumption | exact upd_same | (refine look_new (by assumption) ?_; walk_at "get") | (refine look_ne (by assumption) ?_; walk_at "get")))
local macro_rules | `(tactic| walk_at "sqt") => `(tactic| (first | assumption | (apply Ex.t (Ex.refl.at (by assumption)); walk_at "sqt")))
local macro_rules | `(tactic| walk_at "s") => `(tactic| (first
  | refine ⟨_, rfl, ?_⟩
  | refine Or.inl ⟨_, rfl, ?_⟩
  | refine Or.inl ⟨_, _, _, _, rfl, rfl, lOf (by walk_at "get"), rfl, ?_⟩
  | refine Or.inl ⟨_, _, _, _, rfl, rfl, (show SqL _ _ _ _ by assumption), rfl, ?_⟩
  | refine Or.inr (Or.inl ⟨_, _, _, _, rfl, rfl, (show SqT _ _ _ _ by walk_at "sqt"), rfl, ?_⟩)
  | refine ⟨_, _, _, _, rfl, rfl, (by walk_at "get"), rfl, ?_⟩
  | refine ⟨_, _, rfl, rfl, Or.inl (Or.inr ⟨by decide, by decide⟩), ?_⟩
  | refine ⟨_, _, rfl, rfl, (by show (0 : Int) < _; first | assumption | decide), ?_⟩
  | refine ⟨_, _, rfl, rfl, ⟨by decide, by decide⟩, ?_⟩
  | refine ⟨_, _, rfl, rfl, ⟨by decide, by decide +kernel⟩, ?_⟩
  | refine ⟨_, _, rfl, rfl, (by show (0 : Int) < _; decide +kernel), ?_⟩
  | refine ⟨(show CMulA _ _ from Or.inl (Or.inl ⟨by (try dsimp only); omega, by (try dsimp only); omega⟩)), ?_⟩
  | refine ⟨_, _, rfl, rfl, ?_⟩
  | refine ⟨_, _, rfl, .inl ⟨_, (show SqL _ _ _ _ by assumption), rfl⟩, ?_⟩
  | refine ⟨_, _, rfl, .inl ⟨_, lOf (by walk_at "get"), rfl⟩, ?_⟩
  | refine ⟨_, _, rfl, (show Dp _ _ _ _ by assumption), ?_⟩
  | refine ⟨_, _, rfl, (show SqT _ _ _ _ by assumption), ?_⟩
  | refine ⟨_, _, rfl, (show SqL _ _ _ _ by assumption), ?_⟩
  | refine ⟨_, _, rfl, ?_⟩
  | refine ⟨rfl, _, rfl, ?_⟩
  | refine ⟨rfl, ?_⟩
  | refine ⟨_, _, _, _, _, rfl, (by walk_at "get"), (by assumption), (by assumption), rfl, ?_⟩
  | refine ⟨_, _, _, _, _, rfl, .own _, (by assumption), (by assumption), ?_⟩
  | refine ⟨_, _, _, _, _, rfl, .ty _, (by assumption), kit_ty (by rfl), ?_⟩))
local macro_rules | `(tactic| walk_at "c") => `(tactic| (try dsimp only [L2.start, List.set, List.map, List.length, List.replicate, List.cons_append, List.nil_append, List.append, HAppend.hAppend, Append.append, Int.toNat, Nat.reduceSub, Nat.reduceAdd]))
local macro_rules | `(tactic| walk_at "T") => `(tactic| ((repeat walk_at "s"); refine iteT (by first | rfl | assumption | decide) ?_; (repeat walk_at "s")))
local macro_rules | `(tactic| walk_at "F") => `(tactic| ((repeat walk_at "s"); refine iteF (by first | rfl | assumption | decide) ?_; (repeat walk_at "s")))
local macro_rules | `(tactic| walk_at "isi") => `(tactic| ((repeat walk_at "s"); refine ⟨_, _, _, _, _, rfl, .ty _, (by assumption), kit_ty (by rfl), ?_⟩; (repeat walk_at "s")))
local macro_rules | `(tactic| walk_at "mem") => `(tactic| (first | exact List.Mem.head _ | (refine List.Mem.tail _ ?_; walk_at "mem")))
local macro_rules | `(tactic| walk_at "ext") => `(tactic| (first | exact Ex.refl | (refine Ex.new ?_ (by assumption); walk_at "ext")))
local macro_rules | `(tactic| walk_at "al") => `(tactic| ((repeat walk_at "s"); refine ⟨sz rfl, fun _ _ => ?_⟩))
/-- all but the list at o stays -/
def Bt (o : Addr) (H H' : Hp) : Prop := ∀ a u, a ≠ o → H a = some u → H' a = some u
theorem Bt.refl {o : Addr} {H : Hp} : Bt o H H := fun _ _ _ h => h
theorem Bt.trans {o : Addr} {H H1 H2 : Hp} (a : Bt o H H1) (b : Bt o H1 H2) : Bt o H H2 := fun x u n h => b x u n (a x u n h)
theorem Bt.at {o : Addr} {H : Hp} {u : HO} : Bt o H (upd H o u) := fun a v n h => look_ne n h
theorem Ex.bt {o : Addr} {H H' : Hp} (e : Ex H H') : Bt o H H' := fun a u _ h => e a u h
theorem Bt.ex {o : Addr} {H H' : Hp} (e : Bt o H H') (h : H o = none) : Ex H H' := fun a u z => e a u (fun q => by rw [q, h] at z; cases z) z
section
variable {w : World} {K : PySem.W.Frag} {mg : Str → Option Value} {base : Heap}
theorem sl {n : Nat} (h : n.blt 64 = true) : n < sizeLine := by
  have : n < 64 := Nat.le_of_ble_eq_true h
  rw [sizeLine_eq]
  omega
theorem cut_nat {xs : List V} {a b : Nat} (h1 : a ≤ b) (h2 : b ≤ xs.length) : cutV xs (some (a : Int)) (some (b : Int)) = (xs.drop a).take (b - a) := by
  unfold cutV
  rw [HT.sIx_nat, HT.sIx_nat]
  congr 1
  · omega
  · congr 1
    omega
theorem atI_z1 {xs : List V} {i : Nat} {v : V} (h : xs[i + 1]? = some v) : atI xs (0 + (i : Int) + 1) = some v := by
  rw [show (0 : Int) + (i : Int) + 1 = ((i + 1 : Nat) : Int) by omega]
  exact atI_nat h
/-- all stretches of at least the height turned -/
def spTurnS (K : PySem.W.Frag) : Sp := fun vs H Q _ => ∃ (o g : Addr) (h : Int) (L : List Nat) (gs : List Int), vs = [.ref o, .ref g, .int h] ∧ H o = some (.lst (L.map N)) ∧ H g = some (.lst (gs.map V.int)) ∧ g ≠ o ∧
  L.length = gs.length + 1 ∧ gs.length ≤ 1000 ∧ ∀ O H', TurnX.Turned gs h L O → Bt o H H' → H' o = some (.lst (O.map N)) → Q .non H'
theorem sc_turn_stretches : FnScope ["order", "gaps", "height", "start", "place", "part"] ["order", "gaps", "height"] (defScope s_turn_stretches) := ⟨rfl, rfl, rfl, by decide +kernel, rfl, by decide +kernel, by decide +kernel⟩
theorem d_turn_stretches (T : Tx K mg) : Dn PP w K mg base CX0 2 "turn_stretches" ["order", "gaps", "height"] (spTurnS K) := by
  obtain ⟨fd, F⟩ := T.d 8
  refine ⟨_, fd, T.g 8, F.kp, FunD.bindsN F (fun _ _ _ _ _ _ us hl => match us, hl with | [_, _, _], _ => rfl), FunD.ok F sc_turn_stretches (by walk_at "len") (fun cdv A outer s H vs Q E hr h => ?_)⟩
  obtain ⟨o, g, hh, L, gs, rfl, ho, hg, ne, hl, hn, k⟩ := h
  refine ⟨_, PSs.nox ((pss_cons (ps_set (i := 3) sc_turn_stretches.nd rfl (.inl rfl) pe_int)
      (pss_one (ps_for PassesOwn.never rfl (pi_range1 rfl (T.f 76) (pa_cons (pe_op op_addA (pe_callB call_len (by rfl) (T.f 72) boot_len (pa_cons (pv 1) pa_nil)) pe_int) pa_nil)) (pg_name (i := 4) sc_turn_stretches.nd rfl (.inl rfl)) (pss_one (ps_if (PW.pt (pw_or (pt_cmpR op_eq (pv 4) (pe_callB call_len (by rfl) (T.f 72) boot_len (pa_cons (pv 1) pa_nil)) (nomark _)) (pw_or1 (pt_cmpR op_lt (pe_ix ix_seq (pv 1) (pv 4) (fun _ _ => rfl)) (pv 2) (nomark _))))) (pss_cons (ps_set (i := 5) sc_turn_stretches.nd rfl (.inl rfl) (pe_slice sl_list (pv 0) (po_some (pv 3)) (po_some (pe_op op_addA (pv 4) pe_int))))
      (pss_cons (ps_expr (pe_bm0 PySem.F.plainAttrs_list PySem.F.slot_list_reverse PySem.F.type_list_reverse mt_reverse (pv 5)))
      (pss_cons (ps_asg (pv 5) (pg_slc (pv 0) (pv 3) (pe_op op_addA (pv 4) pe_int)))
      (pss_one (ps_set (i := 3) sc_turn_stretches.nd rfl (.inl rfl) (pe_op op_addA (pv 4) pe_int)))))) pss_nil)))))), ?_⟩
  repeat walk_at "s"
  rw [List.length_map]
  refine ⟨by omega, by omega, for_range (n := ((gs.length : Int) + 1).toNat) (fun i σ H' => ∃ (s0 : Nat) (O : List Nat) (z1 z2 : Option V), σ = [some (.ref o), some (.ref g), some (.int hh), some (.int (s0 : Int)), z1, z2] ∧ TurnX.Lp gs hh L O s0 i ∧
    (i = gs.length + 1 → s0 = gs.length + 1) ∧ Bt o H H' ∧ H' o = some (.lst (O.map N))) ?_ ?_ ?_⟩
  · exact ⟨0, L, none, none, rfl, .start, fun h => by omega, Bt.refl, ho⟩
  · rintro i σ H1 hi ⟨s0, O, z1, z2, rfl, lp, _, b1, ho1⟩
    have hg1 := b1 _ _ ne hg
    have hi : i < gs.length + 1 := by omega
    repeat walk_at "s"
    have ol : O.length = gs.length + 1 := lp.len.trans hl
    have ls := lp.si
    have ei : (0 : Int) + (i : Int) + 1 = ((i + 1 : Nat) : Int) := by omega
    have cut_eq : cutV (O.map N) (some (s0 : Int)) (some (0 + (i : Int) + 1)) = ((O.map N).drop s0).take (i + 1 - s0) := by
      rw [ei]
      exact cut_nat (by omega) (by rw [List.length_map]; omega)
    have pm : (TurnX.piece O s0 i).map N = (O.map N).take (s0 : Int).toNat ++ (((O.map N).drop s0).take (i + 1 - s0)).reverse ++ (O.map N).drop (0 + (i : Int) + 1).toNat := by
      rw [ei, Int.toNat_natCast, Int.toNat_natCast]
      unfold TurnX.piece
      rw [List.map_append, List.map_append, List.map_reverse, List.map_take, List.map_take, List.map_drop, List.map_drop]
    refine ite2 (fun e => ?_) (fun e => ?_)
    · have e := V.int.inj (of_decide_eq_true e)
      rw [List.length_map] at e
      have cutb : i = gs.length ∨ TurnX.G gs i < hh := .inl (by omega)
      repeat walk_at "s"
      refine ⟨_, _, rfl, lOf ho1, fun p hp => ?_⟩
      rw [cut_eq]
      have npo : p ≠ o := fun q => by rw [q, ho1] at hp; cases hp
      repeat walk_at "s"
      refine ⟨.inl ⟨rfl, _, lOf upd_same⟩, _, _, rfl, rfl, upd_same, ?_⟩
      rw [upd_upd]
      repeat walk_at "s"
      refine ⟨o, p, _, _, s0, _, rfl, rfl, rfl, rfl, look_ne (Ne.symm npo) ho1, upd_same, Ne.symm npo, by omega, by omega, by rw [List.length_map]; omega, by rw [List.length_reverse, List.length_take, List.length_drop, List.length_map, sizeLine_eq]; omega, ?_⟩
      repeat walk_at "s"
      refine ⟨i + 1, TurnX.piece O s0 i, some (.int (0 + (i : Int))), some (.ref p), (by rw [← ei]; rfl), lp.cut (by omega) hl cutb, fun h => h, b1.trans (((Ex.refl.at hp).bt).trans Bt.at), ?_⟩
      rw [pm]
      exact upd_same
    · have e : ¬ i = gs.length := fun z => e (decide_eq_true (by rw [List.length_map, z, Int.zero_add]))
      have gi : (gs.map V.int)[i]? = some (.int (TurnX.G gs i)) := by
        unfold TurnX.G
        rw [List.getElem?_map, List.getD_eq_getElem?_getD, List.getElem?_eq_getElem (by omega)]
        rfl
      repeat walk_at "s"
      refine .inl ⟨_, _, _, _, rfl, rfl, lOf hg1, atI_z gi, ?_⟩
      repeat walk_at "s"
      refine ite2 (fun e2 => ?_) (fun e2 => ?_)
      · have cutb : i = gs.length ∨ TurnX.G gs i < hh := .inr (of_decide_eq_true e2)
        repeat walk_at "s"
        refine ⟨_, _, rfl, lOf ho1, fun p hp => ?_⟩
        rw [cut_eq]
        have npo : p ≠ o := fun q => by rw [q, ho1] at hp; cases hp
        repeat walk_at "s"
        refine ⟨.inl ⟨rfl, _, lOf upd_same⟩, _, _, rfl, rfl, upd_same, ?_⟩
        rw [upd_upd]
        repeat walk_at "s"
        refine ⟨o, p, _, _, s0, _, rfl, rfl, rfl, rfl, look_ne (Ne.symm npo) ho1, upd_same, Ne.symm npo, by omega, by omega, by rw [List.length_map]; omega, by rw [List.length_reverse, List.length_take, List.length_drop, List.length_map, sizeLine_eq]; omega, ?_⟩
        repeat walk_at "s"
        refine ⟨i + 1, TurnX.piece O s0 i, some (.int (0 + (i : Int))), some (.ref p), (by rw [← ei]; rfl), lp.cut (by omega) hl cutb, fun h => h, b1.trans (((Ex.refl.at hp).bt).trans Bt.at), ?_⟩
        rw [pm]
        exact upd_same
      · have e2 : ¬ TurnX.G gs i < hh := fun z => e2 (decide_eq_true z)
        exact ⟨s0, O, _, _, rfl, lp.on (by omega), fun h => by omega, b1, ho1⟩
  · rintro σ H1 ⟨s0, O, z1, z2, rfl, lp, hs, b1, ho1⟩
    have el : ((gs.length : Int) + 1).toNat = gs.length + 1 := by omega
    rw [el] at lp hs
    rw [hs rfl] at lp
    exact k O H1 (lp.done hl) b1 ho1
end
end Lw
namespace Lw
open PySem PySem.Spec PyProof.Rows L2 L2H
/-! ### the draws -/
local macro_rules | `(tactic| walk_at "len") => `(tactic| (intro vs H Q E h; first | (obtain ⟨_, e, _⟩ := h; subst e; rfl) | (obtain ⟨_, _, e, _⟩ := h; subst e; rfl) | (obtain ⟨_, _, _, e, _⟩ := h; subst e; rfl) | (obtain ⟨_, _, _, _, e, _⟩ := h; subst e; rfl) | (obtain ⟨_, _, _, _, _, e, _⟩ := h; subst e; rfl) | (obtain ⟨_, _, _, _, _, _, e, _⟩ := h; subst e; rfl) | (obtain ⟨_, _, _, _, _, _, _, e, _⟩ := h; subst e; rfl)))
local macro_rules | `(tactic| walk_at "get") => `(tactic| (first | assumption | exact upd_same | (refine look_new (by assumption) ?_; walk_at "get") | (refine look_ne (by assumption) ?_; walk_at "get")))
local macro_rules | `(tactic| walk_at "sqt") => `(tactic| (first | assumption | (apply Ex.t (Ex.refl.at (by assumption)); walk_at "sqt")))
local macro_rules | `(tactic| walk_at "s") => `(tactic| (first
  | refine ⟨_, rfl, ?_⟩
  | refine Or.inl ⟨_, rfl, ?_⟩
  | refine Or.inl ⟨_, _, _, _, rfl, rfl, lOf (by walk_at "get"), rfl, ?_⟩
  | refine Or.inl ⟨_, _, _, _, rfl, rfl, (show SqL _ _ _ _ by assumption), rfl, ?_⟩
  | refine Or.inr (Or.inl ⟨_, _, _, _, rfl, rfl, (show SqT _ _ _ _ by walk_at "sqt"), rfl, ?_⟩)
  | refine ⟨_, _, _, _, rfl, rfl, (by walk_at "get"), rfl, ?_⟩
  | refine ⟨_, _, rfl, rfl, Or.inl (Or.inr ⟨by decide, by decide⟩), ?_⟩
  | refine ⟨_, _, rfl, rfl, (by show (0 : Int) < _; first | assumption | decide), ?_⟩
  | refine ⟨_, _, rfl, rfl, ⟨by decide, by decide⟩, ?_⟩
  | refine ⟨_, _, rfl, rfl, ⟨by decide, by decide +kernel⟩, ?_⟩
  | refine ⟨_, _, rfl, rfl, (by show (0 : Int) < _; decide +kernel), ?_⟩
  | refine ⟨(show CMulA _ _ from Or.inl (Or.inl ⟨by (try dsimp only); omega, by (try dsimp only); omega⟩)), ?_⟩
  | refine ⟨_, _, rfl, rfl, ?_⟩
  | refine ⟨_, _, rfl, .inl ⟨_, (show SqL _ _ _ _ by assumption), rfl⟩, ?_⟩
  | refine ⟨_, _, rfl, .inl ⟨_, lOf (by walk_at "get"), rfl⟩, ?_⟩
  | refine ⟨_, _, rfl, (show Dp _ _ _ _ by assumption), ?_⟩
  | refine ⟨_, _, rfl, (show SqT _ _ _ _ by assumption), ?_⟩
  | refine ⟨_, _, rfl, (show SqL _ _ _ _ by assumption), ?_⟩
  | refine ⟨_, _, rfl, ?_⟩
  | refine ⟨rfl, _, rfl, ?_⟩
  | refine ⟨rfl, ?_⟩
  | refine ⟨_, _, _, _, _, rfl, (by walk_at "get"), (by assumption), (by assumption), rfl, ?_⟩
  | refine ⟨_, _, _, _, _, rfl, .own _, (by assumption), (by assumption), ?_⟩
  | refine ⟨_, _, _, _, _, rfl, .ty _, (by assumption), kit_ty (by rfl), ?_⟩))
local macro_rules | `(tactic| walk_at "c") => `(tactic| (try dsimp only [L2.start, List.set, List.map, List.length, List.replicate, List.cons_append, List.nil_append, List.append, HAppend.hAppend, Append.append, Int.toNat, Nat.reduceSub, Nat.reduceAdd]))
local macro_rules | `(tactic| walk_at "T") => `(tactic| ((repeat walk_at "s"); refine iteT (by first | rfl | assumption | decide) ?_; (repeat walk_at "s")))
local macro_rules | `(tactic| walk_at "F") => `(tactic| ((repeat walk_at "s"); refine iteF (by first | rfl | assumption | decide) ?_; (repeat walk_at "s")))
local macro_rules | `(tactic| walk_at "isi") => `(tactic| ((repeat walk_at "s"); refine ⟨_, _, _, _, _, rfl, .ty _, (by assumption), kit_ty (by rfl), ?_⟩; (repeat walk_at "s")))
local macro_rules | `(tactic| walk_at "mem") => `(tactic| (first | exact List.Mem.head _ | (refine List.Mem.tail _ ?_; walk_at "mem")))
local macro_rules | `(tactic| walk_at "ext") => `(tactic| (first | exact Ex.refl | (refine Ex.new ?_ (by assumption); walk_at "ext")))
local macro_rules | `(tactic| walk_at "al") => `(tactic| ((repeat walk_at "s"); refine ⟨sz rfl, fun _ _ => ?_⟩))
section
variable {w : World} {K : PySem.W.Frag} {mg : Str → Option Value} {base : Heap}
theorem rg_N (n : Nat) : rgV 0 (n : Int) = (List.range n).map N := by
  unfold rgV N
  rw [Int.sub_zero, Int.toNat_natCast]
  refine List.map_congr_left fun i _ => ?_
  rw [Int.zero_add]
def spTurnG (K : PySem.W.Frag) : Sp := fun vs H Q _ => ∃ (g : Addr) (gs : List Int), vs = [.ref g] ∧ H g = some (.lst (gs.map V.int)) ∧ gs.length ≤ 500 ∧
  ∀ L p H', TurnX.Fin gs L → Ex H H' → H p = none → H' p = some (.lst (L.map N)) → Q (.ref p) H'
theorem sc_turn_gaps : FnScope ["gaps", "order", "heights", "at", "below"] ["gaps"] (defScope s_turn_gaps) := ⟨rfl, rfl, rfl, by decide +kernel, rfl, by decide +kernel, by decide +kernel⟩
theorem d_turn_gaps (T : Tx K mg) : Dn PP w K mg base CX0 4 "turn_gaps" ["gaps"] (spTurnG K) := by
  obtain ⟨fd, F⟩ := T.d 9
  refine ⟨_, fd, T.g 9, F.kp, FunD.bindsN F (fun _ _ _ _ _ _ us hl => match us, hl with | [_], _ => rfl), FunD.ok F sc_turn_gaps (by walk_at "len") (fun cdv A outer s H vs Q E hr h => ?_)⟩
  obtain ⟨g, gs, rfl, hg, hn, k⟩ := h
  refine ⟨_, PSs.nox ((pss_cons (ps_set (i := 1) sc_turn_gaps.nd rfl (.inl rfl) (pe_listRg rfl rfl (T.f 73) (prg_1 rfl (T.f 76) (pe_op op_addA (pe_callB call_len (by rfl) (T.f 72) boot_len (pa_cons (pv 0) pa_nil)) pe_int))))
      (pss_cons (ps_set (i := 2) sc_turn_gaps.nd rfl (.inl rfl) (pe_callB (cr_sortedSN rfl) (by rfl) (T.f 78) (by decide +kernel) (pa_cons (pe_callTy (cr_setL rfl) (by rfl) (T.f 77) (by decide +kernel) (pa_cons (pv 0) pa_nil)) pa_nil)))
      (pss_cons (ps_for PassesOwn.never rfl (pi_range3 rfl (T.f 76) (pa_cons (pe_op op_sub (pe_callB call_len (by rfl) (T.f 72) boot_len (pa_cons (pv 2) pa_nil)) pe_int) (pa_cons (pe_un un_neg pe_int) (pa_cons (pe_un un_neg pe_int) pa_nil)))) (pg_name (i := 3) sc_turn_gaps.nd rfl (.inl rfl)) (pss_cons (ps_set (i := 4) sc_turn_gaps.nd rfl (.inl rfl) pe_int)
      (C8.pss_cut (ps_if (pt_cmpR op_gt (pv 3) pe_int (nomark _)) (pss_one (ps_set (i := 4) sc_turn_gaps.nd rfl (.inl rfl) (pe_ix ix_seq (pv 2) (pe_op op_sub (pv 3) pe_int) (fun _ _ => rfl)))) pss_nil)
      (pss_one (ps_if (pt_cmpR op_eq (pe_op op_mod (pe_op op_sub (pe_ix ix_seq (pv 2) (pv 3) (fun _ _ => rfl)) (pv 4)) pe_int) pe_int (nomark _)) (pss_one (ps_expr (pe_d (d_turn_stretches T) (hr.mono (by decide)) rfl pass0 (pa_cons (pv 1) (pa_cons (pv 0) (pa_cons (pe_ix ix_seq (pv 2) (pv 3) (fun _ _ => rfl)) pa_nil)))))) pss_nil)))))
      (pss_one (ps_ret (pv 1))))))), ?_⟩
  repeat walk_at "s"
  refine ⟨⟨by decide, by decide, by rw [List.length_map]; omega, by rw [List.length_map]; omega, by rw [List.length_map]; omega⟩, fun o ho => ?_⟩
  rw [show (((gs.map V.int).length : Int) + 1) = ((gs.length + 1 : Nat) : Int) by rw [List.length_map]; omega, rg_N]
  have e1 : Ex H (upd H o (.lst ((List.range (gs.length + 1)).map N))) := Ex.refl.at ho
  have ho1 : upd H o (.lst ((List.range (gs.length + 1)).map N)) o = some (.lst ((List.range (gs.length + 1)).map N)) := upd_same
  have hg1 := e1 _ _ hg
  generalize upd H o (.lst ((List.range (gs.length + 1)).map N)) = H1 at e1 ho1 hg1
  repeat walk_at "s"
  refine ⟨_, gs, rfl, lOf hg1, by omega, fun sp c hsp hc => ?_⟩
  have e2 := Ex.refl.at (H := H1) (o := SetO w sp (fun j => decide (j ∈ gs)) c) hsp
  have hs2 : upd H1 sp (SetO w sp (fun j => decide (j ∈ gs)) c) sp = some (SetO w sp (fun j => decide (j ∈ gs)) c) := upd_same
  have ho2 := e2 _ _ ho1
  have hg2 := e2 _ _ hg1
  have e12 := e1.trans e2
  repeat walk_at "s"
  refine ⟨sp, _, c, rfl, hs2, by omega, fun zs hsA asc mem hl hhs => ?_⟩
  have hhs : upd H1 sp (SetO w sp (fun j => decide (j ∈ gs)) c) hsA = none := hhs
  have mem : ∀ z, z ∈ zs ↔ z ∈ gs := fun z => (mem z).trans decide_eq_true_iff
  have e3 := Ex.refl.at (o := .lst (zs.map V.int)) hhs
  have hz3 : upd (upd H1 sp (SetO w sp (fun j => decide (j ∈ gs)) c)) hsA (.lst (zs.map V.int)) hsA = some (.lst (zs.map V.int)) := upd_same
  have ho3 := e3 _ _ ho2
  have hg3 := e3 _ _ hg2
  have e13 := e12.trans e3
  have nhs : hsA ≠ o := fun q => by
    have h1 : upd H1 sp (SetO w sp (fun j => decide (j ∈ gs)) c) o = none := by rw [← q]; exact hhs
    rw [ho2] at h1
    cases h1
  have neg : g ≠ o := fun q => by rw [q, ho] at hg; cases hg
  have hzL := lOf (K := K) hz3
  repeat walk_at "s"
  have hlen : (zs.map V.int).length = zs.length := List.length_map _
  have nzs : zs.length ≤ 500 := by omega
  refine ⟨_, _, _, _, rfl, RgC.neg (by omega) (by omega) (by decide) (by decide), for_rangeC (fun t σ H' => ∃ (L : List Nat) (z1 z2 : Option V), σ = [some (.ref g), some (.ref o), some (.ref hsA), z1, z2] ∧ TurnX.Inv gs zs (zs.length - t) L ∧ Ex H H' ∧ H' o = some (.lst (L.map N)) ∧
    H' g = some (.lst (gs.map V.int)) ∧ H' hsA = some (.lst (zs.map V.int))) ⟨_, _, _, rfl, TurnX.Inv.start mem, e13, ho3, hg3, hz3⟩ ?_ ?_⟩
  · rintro t σ H4 ht ⟨L, z1, z2, rfl, inv, e4, ho4, hg4, hz4⟩
    rw [hlen] at ht
    have ea : ((zs.map V.int).length : Int) - 1 + (t : Int) * -1 = ((zs.length - (t + 1) : Nat) : Int) := by omega
    have em : zs.length - t = (zs.length - (t + 1)) + 1 := by omega
    rw [em] at inv
    generalize hm : zs.length - (t + 1) = m at inv ea
    have hml : m < zs.length := by omega
    have hzm : zs[m]? = some zs[m] := List.getElem?_eq_getElem hml
    have hvm : (zs.map V.int)[m]? = some (.int zs[m]) := by rw [List.getElem?_map, hzm]; rfl
    have hzL4 := lOf (K := K) hz4
    rw [ea]
    clear ea
    repeat walk_at "s"
    refine ⟨fun σ H' => σ = [some (.ref g), some (.ref o), some (.ref hsA), some (.int (m : Int)), some (.int (TurnX.below zs m))] ∧ H' = H4, ?_, ?_⟩
    · repeat walk_at "s"
      refine ite2 (fun e => ?_) (fun e => ?_)
      · have e := of_decide_eq_true e
        have hb : (zs.map V.int)[m - 1]? = some (.int (TurnX.below zs m)) := by
          unfold TurnX.below
          rw [List.getElem?_map, if_neg (by omega), List.getD_eq_getElem?_getD, List.getElem?_eq_getElem (by omega)]
          rfl
        repeat walk_at "s"
        refine .inl ⟨_, _, _, _, rfl, rfl, hzL4, (show atI _ ((m : Int) - 1) = _ by rw [show (m : Int) - 1 = ((m - 1 : Nat) : Int) by omega]; exact atI_nat hb), ?_⟩
        exact ⟨rfl, rfl⟩
      · have e : ¬ 0 < (m : Int) := fun z => e (decide_eq_true z)
        obtain rfl : m = 0 := by omega
        exact ⟨rfl, rfl⟩
    · rintro σ _ ⟨rfl, rfl⟩
      repeat walk_at "s"
      refine .inl ⟨_, _, _, _, rfl, rfl, hzL4, atI_nat hvm, ?_⟩
      repeat walk_at "s"
      refine ite2 (fun e => ?_) (fun e => ?_)
      · have e : (zs[m] - TurnX.below zs m) % 2 = 1 := V.int.inj (of_decide_eq_true e)
        repeat walk_at "s"
        refine .inl ⟨_, _, _, _, rfl, rfl, hzL4, atI_nat hvm, ?_⟩
        obtain ⟨h1, S1, _⟩ := id inv
        refine ⟨_, _, _, L, gs, rfl, ho4, hg4, neg, S1.len, by omega, fun O H5 tr b5 ho5 => ?_⟩
        exact ⟨O, _, _, rfl, inv.turn mem asc hzm tr e, (e4.bt.trans b5).ex ho, ho5, b5 _ _ neg hg4, b5 _ _ nhs hz4⟩
      · have e : ¬ (zs[m] - TurnX.below zs m) % 2 = 1 := fun z => e (decide_eq_true (congrArg V.int z))
        exact ⟨L, _, _, rfl, inv.stay mem asc hzm e, e4, ho4, hg4, hz4⟩
  · rintro σ H4 ⟨L, z1, z2, rfl, inv, e4, ho4, hg4, hz4⟩
    rw [show zs.length - (((zs.map V.int).length : Int) - 1 - -1).toNat = 0 by omega] at inv
    repeat walk_at "s"
    exact k L o H4 inv.fin e4 ho ho4
def spTurnL (K : PySem.W.Frag) : Sp := fun vs H Q E => ∃ (g : Addr) (xs : List V), vs = [.ref g] ∧ H g = some (.lst xs) ∧ xs.length < 1000 ∧
  ((59 < xs.length ∧ ∀ H', Ex H H' → TellTM K E 60 H') ∨ (xs.length ≤ 59 ∧ ∃ k, FirstBad K H xs k ∧ ∀ H', Ex H H' → TellBL K E (k : Nat) H') ∨
    ∃ gs : List Int, xs = gs.map V.int ∧ gs.length ≤ 59 ∧ Nums gs ∧ ∀ L p H', TurnX.Fin gs L → Ex H H' → H p = none → H' p = some (.lst (L.map N)) → Q (.ref p) H')
theorem sc_turn_levels : FnScope ["numbers"] ["numbers"] (defScope s_turn_levels) := ⟨rfl, rfl, rfl, by decide +kernel, rfl, by decide +kernel, by decide +kernel⟩
theorem d_turn_levels (T : Tx K mg) : Dn PP w K mg base (L2N.CX PP w) 6 "turn_levels" ["numbers"] (spTurnL K) := by
  obtain ⟨fd, F⟩ := T.d 10
  refine ⟨_, fd, T.g 10, F.kp, FunD.bindsN F (fun _ _ _ _ _ _ us hl => match us, hl with | [_], _ => rfl), FunD.ok F sc_turn_levels (by walk_at "len") (fun cdv A outer s H vs Q E hr h => ?_)⟩
  obtain ⟨g, xs, rfl, hg, hx, hh⟩ := h
  refine ⟨_, (pss_cons (ps_expr (pe_dS (d_check_levels T) tkOf (hr.mono (by decide)) rfl (pa_cons (pv 0) (pa_cons (pe_op op_sub (pe_globI rfl (T.i 83)) pe_int) (pa_cons (pe_globI rfl (T.i 83)) pa_nil)))))
      (pss_one (ps_ret (pe_d (d_turn_gaps T) (hr.mono (by decide)) rfl pass0 (pa_cons (pv 0) pa_nil))))), ?_⟩
  have hgL := lOf (K := K) hg
  repeat walk_at "s"
  refine ⟨g, xs, 60 - 1, 60, rfl, hgL, hx, ?_⟩
  rcases hh with ⟨hm, k⟩ | ⟨hm, kb, bad, k⟩ | ⟨gs, rfl, hn, good, k⟩
  · exact .inl ⟨by omega, k⟩
  · exact .inr (.inl ⟨by omega, kb, bad, k⟩)
  refine .inr (.inr ⟨by rw [List.length_map]; omega, ⟨gs, rfl, good⟩, fun H1 e1 => ?_⟩)
  repeat walk_at "s"
  refine ⟨g, gs, rfl, e1 _ _ hg, by omega, fun L p H2 fin e2 hp hl => ?_⟩
  repeat walk_at "s"
  exact k L p H2 fin (e1.trans e2) (e1.none hp) hl
def say (n : Int) : Str := if n % 2 = 0 then "left" else "right"
def spSay : Sp := fun vs H Q _ => ∃ n : Int, vs = [.int n] ∧ Q (.str (say n)) H
theorem sc_level_saying : FnScope ["number"] ["number"] (defScope s_level_saying) := ⟨rfl, rfl, rfl, by decide +kernel, rfl, by decide +kernel, by decide +kernel⟩
theorem d_level_saying (T : Tx K mg) : Dn PP w K mg base CX0 1 "level_saying" ["number"] (spSay) := by
  obtain ⟨fd, F⟩ := T.d 6
  refine ⟨_, fd, T.g 6, F.kp, FunD.bindsN F (fun _ _ _ _ _ _ us hl => match us, hl with | [_], _ => rfl), FunD.ok F sc_level_saying (by walk_at "len") (fun cdv A outer s H vs Q E hr h => ?_)⟩
  obtain ⟨n, rfl, k⟩ := h
  refine ⟨_, PSs.nox ((pss_cons (ps_if (pt_cmpR op_eq (pe_op op_mod (pv 0) pe_int) pe_int (nomark _)) (pss_one (ps_ret pe_str)) pss_nil)
      (pss_one (ps_ret pe_str)))), ?_⟩
  repeat walk_at "s"
  refine ite2 (fun e => ?_) (fun e => ?_)
  · have e : n % 2 = 0 := V.int.inj (of_decide_eq_true e)
    repeat walk_at "s"
    unfold say at k
    rw [if_pos e] at k
    exact k
  · have e : ¬ n % 2 = 0 := fun z => e (decide_eq_true (congrArg V.int z))
    repeat walk_at "s"
    unfold say at k
    rw [if_neg e] at k
    exact k
def spWord (K : PySem.W.Frag) : Sp := fun vs H Q E => ∃ (g : Addr) (xs : List V), vs = [.ref g] ∧ H g = some (.lst xs) ∧ xs.length < 1000 ∧
  ((59 < xs.length ∧ ∀ H', Ex H H' → TellTM K E 60 H') ∨ (xs.length ≤ 59 ∧ ∃ k, (FirstBad K H xs k ∨ (xs = [] ∧ k = 0)) ∧ ∀ H', Ex H H' → TellBL K E (k : Nat) H') ∨
    ∃ gs : List Int, xs = gs.map V.int ∧ gs.length ≤ 59 ∧ Nums gs ∧ gs ≠ [] ∧ ∀ m H', m ∈ gs → (∀ x ∈ gs, m ≤ x) → Ex H H' → Q (.str (say m)) H')
theorem sc_level_word : FnScope ["numbers"] ["numbers"] (defScope s_level_word) := ⟨rfl, rfl, rfl, by decide +kernel, rfl, by decide +kernel, by decide +kernel⟩
theorem d_level_word (T : Tx K mg) : Dn PP w K mg base (L2N.CX PP w) 6 "level_word" ["numbers"] (spWord K) := by
  obtain ⟨fd, F⟩ := T.d 7
  refine ⟨_, fd, T.g 7, F.kp, FunD.bindsN F (fun _ _ _ _ _ _ us hl => match us, hl with | [_], _ => rfl), FunD.ok F sc_level_word (by walk_at "len") (fun cdv A outer s H vs Q E hr h => ?_)⟩
  obtain ⟨g, xs, rfl, hg, hx, hh⟩ := h
  refine ⟨_, (pss_cons (ps_expr (pe_dS (d_check_levels T) tkOf (hr.mono (by decide)) rfl (pa_cons (pv 0) (pa_cons (pe_op op_sub (pe_globI rfl (T.i 83)) pe_int) (pa_cons (pe_globI rfl (T.i 83)) pa_nil)))))
      (pss_cons (ps_if (pt_cmpR op_eq (pe_callB call_len (by rfl) (T.f 72) boot_len (pa_cons (pv 0) pa_nil)) pe_int (nomark _)) (pss_one (ErY.ps_raiseE1 rfl T.m0 T.e_BadLevel T.b_BadLevel (T.s_BadLevel) hr tkOf (pa_cons pe_int pa_nil))) pss_nil)
      (pss_one (ps_ret (pe_d (d_level_saying T) (hr.mono (by decide)) rfl pass0 (pa_cons (pe_callB (cr_min rfl) (by rfl) (T.f 75) (by decide +kernel) (pa_cons (pv 0) pa_nil)) pa_nil)))))), ?_⟩
  have hgL := lOf (K := K) hg
  repeat walk_at "s"
  refine ⟨g, xs, 60 - 1, 60, rfl, hgL, hx, ?_⟩
  rcases hh with ⟨hm, k⟩ | ⟨hm, kb, bad, k⟩ | ⟨gs, rfl, hn, good, ne, k⟩
  · exact .inl ⟨by omega, k⟩
  · rcases bad with bad | ⟨rfl, rfl⟩
    · exact .inr (.inl ⟨by omega, kb, bad, k⟩)
    · refine .inr (.inr ⟨by show (0 : Int) ≤ _; decide, ⟨[], rfl, fun n h => by cases h⟩, fun H1 e => ?_⟩)
      have hgL := e.l hgL
      repeat walk_at "s"
      exact k _ e
  refine .inr (.inr ⟨by rw [List.length_map]; omega, ⟨gs, rfl, good⟩, fun H1 e1 => ?_⟩)
  have hgL := e1.l hgL
  have l0 : 0 < gs.length := List.length_pos_iff.mpr ne
  repeat walk_at "s"
  refine iteF (decide_eq_false fun z => by have := V.int.inj z; rw [List.length_map] at this; omega) ?_
  repeat walk_at "s"
  refine ⟨l0, fun m hm hle => ?_⟩
  repeat walk_at "s"
  exact k m _ hm hle e1
theorem dpi {H : Hp} : ∀ ns : List Int, DpAll K H (ns.map V.int) (ns.map PyData.int)
  | [] => .nil
  | n :: ns => .cons (.int n) (dpi ns)
theorem szi : ∀ ns : List Int, sizeDs (ns.map PyData.int) = ns.length
  | [] => rfl
  | n :: ns => by
    show sizeD (.int n) + sizeDs (ns.map PyData.int) = ns.length + 1
    rw [szi ns]
    simp [sizeD]
    omega
theorem mapN (L : List Nat) : L.map N = (L.map fun n : Nat => (n : Int)).map V.int := by
  rw [List.map_map]
  rfl
theorem lstI {H : Hp} {p : Addr} {ns : List Int} (h : SqL K H p (ns.map V.int)) : Dp K H (.ref p) (.list (ns.map PyData.int)) := .lst h (dpi ns)
theorem szl {ns : List Int} (h : ns.length < 99000) : sizeD (.list (ns.map PyData.int)) < 100000 := by
  simp only [sizeD]
  rw [szi]
  omega
abbrev nI (L : List Nat) : List Int := L.map fun n : Nat => (n : Int)
theorem lstN {H : Hp} {p : Addr} {L : List Nat} (h : SqL K H p (L.map N)) : Dp K H (.ref p) (.list ((nI L).map PyData.int)) := lstI (by rw [← mapN]; exact h)
theorem eqvI : ∀ as bs : List Int, PyData.eqvAll (as.map PyData.int) (bs.map PyData.int) = decide (as = bs)
  | [], [] => by simp [PyData.eqvAll]
  | [], b :: bs => by simp [PyData.eqvAll]
  | a :: as, [] => by simp [PyData.eqvAll]
  | a :: as, b :: bs => by
    have ih := eqvI as bs
    simp only [List.map_cons, PyData.eqvAll, PyData.eqv, ih]
    by_cases h : a = b <;> by_cases h2 : as = bs <;> simp [h, h2]
theorem nI_inj {L O : List Nat} : nI L = nI O ↔ L = O := by
  constructor
  · intro h
    have : ∀ {L O : List Nat}, nI L = nI O → L = O := by
      intro L
      induction L with
      | nil =>
        intro O h
        cases O with
        | nil => rfl
        | cons o O => cases h
      | cons l L ih =>
        intro O h
        cases O with
        | nil => cases h
        | cons o O =>
          injection h with h1 h2
          rw [Int.ofNat.inj h1, ih h2]
    exact this h
  · intro h
    rw [h]
theorem eqvN (L O : List Nat) : PyData.eqv (.list ((nI L).map PyData.int)) (.list ((nI O).map PyData.int)) = decide (L = O) := by
  have : PyData.eqv (.list ((nI L).map PyData.int)) (.list ((nI O).map PyData.int)) = PyData.eqvAll ((nI L).map PyData.int) ((nI O).map PyData.int) := by simp [PyData.eqv]
  rw [this, eqvI]
  by_cases h : L = O
  · rw [decide_eq_true h, decide_eq_true (nI_inj.mpr h)]
  · rw [decide_eq_false h, decide_eq_false fun z => h (nI_inj.mp z)]
theorem cl0I : ∀ ns : List Int, PyData.canLayAll0 (ns.map PyData.int) = true
  | [] => rfl
  | n :: ns => by
    simp only [List.map_cons, PyData.canLayAll0, PyData.canLay0, cl0I ns]
    rfl
theorem dpthI : ∀ ns : List Int, PyData.depthAll (ns.map PyData.int) = 0
  | [] => rfl
  | n :: ns => by simp only [List.map_cons, PyData.depthAll, PyData.depth, dpthI ns, Nat.max_self]
theorem shpI (ns : List Int) : SeqAt.shaped (.list (ns.map PyData.int)) = true := by
  simp [SeqAt.shaped, PyData.canLay0, PyData.depth, cl0I, dpthI]
theorem OrdCase.mono {H H' : Hp} {xs : List V} {ok ok' : List Nat → Prop} {bad bad' : Str → Prop} (h : OrdCase K H xs ok bad) (e : Ex H H') (h1 : ∀ L, xs = L.map N → ok L → ok' L) (h2 : ∀ f, bad f → bad' f) : OrdCase K H' xs ok' bad' :=
  let ⟨k, L, P, hh⟩ := h
  ⟨k, L, P, hh.imp (fun ⟨a, b⟩ => ⟨a, h1 L (by have := P.1; rw [a, List.take_length] at this; exact this) b⟩) (.imp (fun ⟨v, a, b, c⟩ => ⟨v, a, b.ex e, h2 _ c⟩) fun ⟨u, a, b, c, d⟩ => ⟨u, a, b, c, h2 _ d⟩)⟩
def spShows (K : PySem.W.Frag) : Sp := fun vs H Q E => ∃ (g : Addr) (xs : List V) (b : Addr) (ys : List V), vs = [.ref g, .ref b] ∧ H g = some (.lst xs) ∧ H b = some (.lst ys) ∧ xs.length < 1000 ∧ ys.length < 1000 ∧
  ((59 < xs.length ∧ ∀ H', Ex H H' → TellTM K E 60 H') ∨ (xs.length ≤ 59 ∧ ∃ k, FirstBad K H xs k ∧ ∀ H', Ex H H' → TellBL K E (k : Nat) H') ∨
    ∃ gs : List Int, xs = gs.map V.int ∧ gs.length ≤ 59 ∧ Nums gs ∧ ((ys = [] ∧ ∀ H', Ex H H' → TellBO K E "missing" H') ∨
      (ys ≠ [] ∧ OrdCase K H ys (fun O => ∀ L H', TurnX.Fin gs L → Ex H H' → Q (.bl (decide (L = O))) H') (fun f => ∀ H', Ex H H' → TellBO K E f H'))))
theorem sc_shows_levels : FnScope ["numbers", "order"] ["numbers", "order"] (defScope s_shows_levels) := ⟨rfl, rfl, rfl, by decide +kernel, rfl, by decide +kernel, by decide +kernel⟩
theorem d_shows_levels (T : Tx K mg) : Dn PP w K mg base (L2N.CX PP w) 6 "shows_levels" ["numbers", "order"] (spShows K) := by
  obtain ⟨fd, F⟩ := T.d 11
  refine ⟨_, fd, T.g 11, F.kp, FunD.bindsN F (fun _ _ _ _ _ _ us hl => match us, hl with | [_, _], _ => rfl), FunD.ok F sc_shows_levels (by walk_at "len") (fun cdv A outer s H vs Q E hr h => ?_)⟩
  obtain ⟨g, xs, b, ys, rfl, hg, hb, hx, hy, hh⟩ := h
  refine ⟨_, (pss_cons (ps_expr (pe_dS (d_check_levels T) tkOf (hr.mono (by decide)) rfl (pa_cons (pv 0) (pa_cons (pe_op op_sub (pe_globI rfl (T.i 83)) pe_int) (pa_cons (pe_globI rfl (T.i 83)) pa_nil)))))
      (pss_cons (ps_if (pt_cmpR op_eq (pe_callB call_len (by rfl) (T.f 72) boot_len (pa_cons (pv 1) pa_nil)) pe_int (nomark _)) (pss_one (ErY.ps_raiseE1 rfl T.m0 T.e_BadOrder T.b_BadOrder (T.s_BadOrder) hr tkOf (pa_cons pe_str pa_nil))) pss_nil)
      (pss_cons (ps_expr (pe_dS (d_check_order T) tkOf (hr.mono (by decide)) rfl (pa_cons (pv 1) (pa_cons (pe_callB call_len (by rfl) (T.f 72) boot_len (pa_cons (pv 1) pa_nil)) pa_nil))))
      (pss_cons (ps_if (pt_cmpR op_ne (pe_op op_addA (pe_callB call_len (by rfl) (T.f 72) boot_len (pa_cons (pv 0) pa_nil)) pe_int) (pe_callB call_len (by rfl) (T.f 72) boot_len (pa_cons (pv 1) pa_nil)) (nomark _)) (pss_one (ps_ret pe_bl)) pss_nil)
      (pss_one (ps_ret (pe_cmpR (op_eqD hr.units) (pe_d (d_turn_gaps T) (hr.mono (by decide)) rfl pass0 (pa_cons (pv 0) pa_nil)) (pv 1) (nomark _)))))))), ?_⟩
  have hgL := lOf (K := K) hg
  repeat walk_at "s"
  refine ⟨g, xs, 60 - 1, 60, rfl, hgL, hx, ?_⟩
  rcases hh with ⟨hm, k⟩ | ⟨hm, kb, bad, k⟩ | ⟨gs, rfl, hn, good, hh⟩
  · exact .inl ⟨by omega, k⟩
  · exact .inr (.inl ⟨by omega, kb, bad, k⟩)
  refine .inr (.inr ⟨by rw [List.length_map]; omega, ⟨gs, rfl, good⟩, fun H1 e1 => ?_⟩)
  have hg1 := e1 _ _ hg
  have hb1 := e1 _ _ hb
  have hbL := lOf (K := K) hb1
  have hgL1 := lOf (K := K) hg1
  rcases hh with ⟨rfl, k⟩ | ⟨ne, oc⟩
  · repeat walk_at "s"
    exact k _ e1
  · have l0 : 0 < ys.length := List.length_pos_iff.mpr ne
    repeat walk_at "s"
    refine iteF (decide_eq_false fun z => by have := V.int.inj z; omega) ?_
    repeat walk_at "s"
    refine ⟨l0, hy, oc.mono e1 (fun O hO ok => fun H2 e2 => ?_) (fun f q => fun H2 e2 => q _ (e1.trans e2))⟩
    have hg2 := e2 _ _ hg1
    have hb2 := e2 _ _ hb1
    have hgL2 := lOf (K := K) hg2
    have hbL2 := lOf (K := K) hb2
    have lx : (gs.map V.int).length = gs.length := List.length_map _
    have ly : ys.length = O.length := by rw [hO, List.length_map]
    repeat walk_at "s"
    refine ite2 (fun e => ?_) (fun e => ?_)
    · repeat walk_at "s"
      obtain ⟨L, F⟩ := TurnX.Fin.ex gs
      have e : ¬ ((gs.map V.int).length : Int) + 1 = (ys.length : Int) := fun z => by
        rw [z] at e
        simp at e
      have q := ok L H2 F (e1.trans e2)
      rw [decide_eq_false fun z : L = O => e (by have := F.len; rw [z] at this; omega)] at q
      exact q
    · repeat walk_at "s"
      refine ⟨g, gs, rfl, hg2, by omega, fun L p H3 F e3 hp hl => ?_⟩
      have hb3 := e3 _ _ hb2
      rw [hO] at hb3
      have e03 := e1.trans (e2.trans e3)
      repeat walk_at "s"
      refine ⟨_, _, lstN (lOf hl), lstN (lOf hb3), shpI _, shpI _, ?_⟩
      rw [eqvN]
      exact ok L H3 F e03
end
end Lw
namespace Lw
open PySem PySem.Spec PyProof.Rows L2 L2H
/-! ### the draws -/
local macro_rules | `(tactic| walk_at "len") => `(tactic| (intro vs H Q E h; first | (obtain ⟨_, e, _⟩ := h; subst e; rfl) | (obtain ⟨_, _, e, _⟩ := h; subst e; rfl) | (obtain ⟨_, _, _, e, _⟩ := h; subst e; rfl) | (obtain ⟨_, _, _, _, e, _⟩ := h; subst e; rfl) | (obtain ⟨_, _, _, _, _, e, _⟩ := h; subst e; rfl) | (obtain ⟨_, _, _, _, _, _, e, _⟩ := h; subst e; rfl) | (obtain ⟨_, _, _, _, _, _, _, e, _⟩ := h; subst e; rfl)))
local macro_rules | `(tactic| walk_at "get") => `(tactic| (first | assumption | exact upd_same | (refine look_new (by assumption) ?_; walk_at "get") | (refine look_ne (by assumption) ?_; walk_at "get")))
local macro_rules | `(tactic| walk_at "sqt") => `(tactic| (first | assumption | (apply Ex.t (Ex.refl.at (by assumption)); walk_at "sqt")))
local macro_rules | `(tactic| walk_at "s") => `(tactic| (first
  | refine ⟨_, rfl, ?_⟩
  | refine Or.inl ⟨_, rfl, ?_⟩
  | refine Or.inl ⟨_, _, _, _, rfl, rfl, lOf (by walk_at "get"), rfl, ?_⟩
  | refine Or.inl ⟨_, _, _, _, rfl, rfl, (show SqL _ _ _ _ by assumption), rfl, ?_⟩
  | refine Or.inr (Or.inl ⟨_, _, _, _, rfl, rfl, (show SqT _ _ _ _ by walk_at "sqt"), rfl, ?_⟩)
  | refine ⟨_, _, _, _, rfl, rfl, (by walk_at "get"), rfl, ?_⟩
  | refine ⟨_, _, rfl, rfl, Or.inl (Or.inr ⟨by decide, by decide⟩), ?_⟩
  | refine ⟨_, _, rfl, rfl, (by show (0 : Int) < _; first | assumption | decide), ?_⟩
  | refine ⟨_, _, rfl, rfl, ⟨by decide, by decide⟩, ?_⟩
  | refine ⟨_, _, rfl, rfl, ⟨by decide, by decide +kernel⟩, ?_⟩
  | refine ⟨_, _, rfl, rfl, (by show (0 : Int) < _; decide +kernel), ?_⟩
  | refine ⟨(show CMulA _ _ from Or.inl (Or.inl ⟨by (try dsimp only); omega, by (try dsimp only); omega⟩)), ?_⟩
  | refine ⟨_, _, rfl, rfl, ?_⟩
  | refine ⟨_, _, rfl, .inl ⟨_, (show SqL _ _ _ _ by assumption), rfl⟩, ?_⟩
  | refine ⟨_, _, rfl, .inl ⟨_, lOf (by walk_at "get"), rfl⟩, ?_⟩
  | refine ⟨_, _, rfl, (show Dp _ _ _ _ by assumption), ?_⟩
  | refine ⟨_, _, rfl, (show SqT _ _ _ _ by assumption), ?_⟩
  | refine ⟨_, _, rfl, (show SqL _ _ _ _ by assumption), ?_⟩
  | refine ⟨_, _, rfl, ?_⟩
  | refine ⟨rfl, _, rfl, ?_⟩
  | refine ⟨rfl, ?_⟩
  | refine ⟨_, _, _, _, _, rfl, (by walk_at "get"), (by assumption), (by assumption), rfl, ?_⟩
  | refine ⟨_, _, _, _, _, rfl, .own _, (by assumption), (by assumption), ?_⟩
  | refine ⟨_, _, _, _, _, rfl, .ty _, (by assumption), kit_ty (by rfl), ?_⟩))
local macro_rules | `(tactic| walk_at "c") => `(tactic| (try dsimp only [L2.start, List.set, List.map, List.length, List.replicate, List.cons_append, List.nil_append, List.append, HAppend.hAppend, Append.append, Int.toNat, Nat.reduceSub, Nat.reduceAdd]))
local macro_rules | `(tactic| walk_at "T") => `(tactic| ((repeat walk_at "s"); refine iteT (by first | rfl | assumption | decide) ?_; (repeat walk_at "s")))
local macro_rules | `(tactic| walk_at "F") => `(tactic| ((repeat walk_at "s"); refine iteF (by first | rfl | assumption | decide) ?_; (repeat walk_at "s")))
local macro_rules | `(tactic| walk_at "isi") => `(tactic| ((repeat walk_at "s"); refine ⟨_, _, _, _, _, rfl, .ty _, (by assumption), kit_ty (by rfl), ?_⟩; (repeat walk_at "s")))
local macro_rules | `(tactic| walk_at "mem") => `(tactic| (first | exact List.Mem.head _ | (refine List.Mem.tail _ ?_; walk_at "mem")))
local macro_rules | `(tactic| walk_at "ext") => `(tactic| (first | exact Ex.refl | (refine Ex.new ?_ (by assumption); walk_at "ext")))
local macro_rules | `(tactic| walk_at "al") => `(tactic| ((repeat walk_at "s"); refine ⟨sz rfl, fun _ _ => ?_⟩))
section
variable {w : World} {K : PySem.W.Frag} {mg : Str → Option Value} {base : Heap}
theorem ixn {n k : Nat} (h : k < n) : ixN n (k : Int) = some k := by
  unfold ixN
  rw [if_pos (by omega), if_pos (by omega), Int.toNat_natCast]
theorem mulOk {n m : Nat} {i j : Int} (h : Nw n i) (g : Nw m j) (h0 : 0 < n) (h1 : 0 < m) (hs : n + m ≤ 1000000) : CMulA i j := .inr (wide_mul h g h0 h1 hs)
/-- below many, 0 where many is 0 -/
def spEdge : Sp := fun vs H Q _ => ∃ (s : Addr) (many : Int), vs = [.ref s, .int many] ∧ StO H s ∧ many.natAbs.log2 < 9000 ∧
  ∀ v H', Kp s H H' → StO H' s → 0 ≤ v → (many < 1 → v = 0) → (1 ≤ many → v < many) → Q (.int v) H'
theorem sc_l_edge : FnScope ["store", "many", "where"] ["store", "many"] (defScope s_l_edge) := ⟨rfl, rfl, rfl, by decide +kernel, rfl, by decide +kernel, by decide +kernel⟩
theorem d_l_edge (T : Tx K mg) : Dn PP w K mg base CX0 3 "_law_edge" ["store", "many"] (spEdge) := by
  obtain ⟨fd, F⟩ := T.d 15
  refine ⟨_, fd, T.g 15, F.kp, FunD.bindsN F (fun _ _ _ _ _ _ us hl => match us, hl with | [_, _], _ => rfl), FunD.ok F sc_l_edge (by walk_at "len") (fun cdv A outer s H vs Q E hr h => ?_)⟩
  obtain ⟨s, many, rfl, S, hw, k⟩ := h
  refine ⟨_, PSs.nox ((pss_cons (ps_set (i := 2) sc_l_edge.nd rfl (.inl rfl) (pe_d (d_l_take T) (hr.mono (by decide)) rfl pass0 (pa_cons (pv 0) (pa_cons pe_int pa_nil))))
      (pss_cons (ps_if (pt_cmpR op_eq (pv 2) pe_int (nomark _)) (pss_one (ps_ret pe_int)) pss_nil)
      (pss_cons (ps_if (pt_cmpR op_eq (pv 2) pe_int (nomark _)) (pss_one (ps_ret (pe_callB (call_max2 rfl) (by rfl) (T.f 74) (by decide +kernel) (pa_cons pe_int (pa_cons (pe_op op_sub (pv 1) pe_int) pa_nil))))) pss_nil)
      (pss_cons (ps_if (pt_cmpR op_eq (pv 2) pe_int (nomark _)) (pss_one (ps_ret (pe_callB (call_min2 rfl) (by rfl) (T.f 75) (by decide +kernel) (pa_cons (pe_callB (call_max2 rfl) (by rfl) (T.f 74) (by decide +kernel) (pa_cons pe_int (pa_cons (pe_op op_sub (pv 1) pe_int) pa_nil))) (pa_cons pe_int pa_nil))))) pss_nil)
      (pss_one (ps_ret (pe_d (d_l_take T) (hr.mono (by decide)) rfl pass0 (pa_cons (pv 0) (pa_cons (pv 1) pa_nil)))))))))), ?_⟩
  repeat walk_at "s"
  refine ⟨S, by decide, fun wh H1 k1 S1 w0 _ w9 => ?_⟩
  repeat walk_at "s"
  refine ite2 (fun e => ?_) (fun e => ?_)
  · repeat walk_at "s"
    exact k 0 H1 k1 S1 (Int.le_refl _) (fun _ => rfl) (fun h => by omega)
  repeat walk_at "s"
  refine ite2 (fun e2 => ?_) (fun e2 => ?_)
  · repeat walk_at "s"
    exact k _ H1 k1 S1 (by split <;> omega) (fun h => by split <;> omega) (fun h => by split <;> omega)
  repeat walk_at "s"
  refine ite2 (fun e3 => ?_) (fun e3 => ?_)
  · repeat walk_at "s"
    exact k _ H1 k1 S1 (by repeat' split <;> omega) (fun h => by repeat' split <;> omega) (fun h => by repeat' split <;> omega)
  repeat walk_at "s"
  refine ⟨S1, hw, fun v H2 k2 S2 v0 vl vh => ?_⟩
  exact k v H2 (k1.trans k2) S2 v0 (fun h => vl (by omega)) (fun h => by
    by_cases c : many < 2
    · have := vl c
      omega
    · exact vh (by omega))
def spSize : Sp := fun vs H Q _ => ∃ (s : Addr) (small large : Int), vs = [.ref s, .int small, .int large] ∧ StO H s ∧ 0 ≤ small ∧ small ≤ large ∧ large < 1000 ∧
  ∀ v H', Kp s H H' → StO H' s → 0 ≤ v → v ≤ large → Q (.int v) H'
theorem sc_l_size : FnScope ["store", "small", "large"] ["store", "small", "large"] (defScope s_l_size) := ⟨rfl, rfl, rfl, by decide +kernel, rfl, by decide +kernel, by decide +kernel⟩
theorem d_l_size (T : Tx K mg) : Dn PP w K mg base CX0 4 "_law_size" ["store", "small", "large"] (spSize) := by
  obtain ⟨fd, F⟩ := T.d 16
  refine ⟨_, fd, T.g 16, F.kp, FunD.bindsN F (fun _ _ _ _ _ _ us hl => match us, hl with | [_, _, _], _ => rfl), FunD.ok F sc_l_size (by walk_at "len") (fun cdv A outer s H vs Q E hr h => ?_)⟩
  obtain ⟨s, small, large, rfl, S, h0, h1, h2, k⟩ := h
  have lgl : ∀ x : Int, 0 ≤ x → x < 1000 → (x + 1).natAbs.log2 < 9000 := fun x a b => lg (n := 10) (by omega) (by decide) (by decide)
  refine ⟨_, PSs.nox ((pss_cons (ps_if (pt_cmpR op_eq (pe_d (d_l_take T) (hr.mono (by decide)) rfl pass0 (pa_cons (pv 0) (pa_cons pe_int pa_nil))) pe_int (nomark _)) (pss_one (ps_ret (pe_d (d_l_edge T) (hr.mono (by decide)) rfl pass0 (pa_cons (pv 0) (pa_cons (pe_op op_addA (pv 2) pe_int) pa_nil))))) pss_nil)
      (pss_one (ps_ret (pe_d (d_l_edge T) (hr.mono (by decide)) rfl pass0 (pa_cons (pv 0) (pa_cons (pe_op op_addA (pv 1) pe_int) pa_nil))))))), ?_⟩
  repeat walk_at "s"
  refine ⟨S, by decide, fun wh H1 k1 S1 w0 _ w9 => ?_⟩
  repeat walk_at "s"
  refine ite2 (fun e => ?_) (fun e => ?_)
  · repeat walk_at "s"
    exact ⟨S1, lgl _ (by omega) h2, fun v H2 k2 S2 v0 _ vh => k v H2 (k1.trans k2) S2 v0 (by have := vh (by omega); omega)⟩
  · repeat walk_at "s"
    exact ⟨S1, lgl _ h0 (by omega), fun v H2 k2 S2 v0 _ vh => k v H2 (k1.trans k2) S2 v0 (by have := vh (by omega); omega)⟩
/-- what is no number below many, in a list -/
def NotIn (many : Int) (v : V) (H : Hp) : Prop := (∃ i, v = .int i ∧ (i < 0 ∨ many ≤ i)) ∨ Odd6 v H
def spNotin : Sp := fun vs H Q _ => ∃ (s : Addr) (many : Int), vs = [.ref s, .int many] ∧ StO H s ∧ 0 ≤ many ∧ many < 10000 ∧
  ∀ p v H', Kp s H H' → StO H' s → H p = none → H' p = some (.lst [v]) → NotIn many v H' → Q (.ref p) H'
theorem sc_l_notin : FnScope ["store", "many", "where"] ["store", "many"] (defScope s_l_notin) := ⟨rfl, rfl, rfl, by decide +kernel, rfl, by decide +kernel, by decide +kernel⟩
theorem d_l_notin (T : Tx K mg) : Dn PP w K mg base CX0 5 "_law_notin" ["store", "many"] (spNotin) := by
  obtain ⟨fd, F⟩ := T.d 20
  refine ⟨_, fd, T.g 20, F.kp, FunD.bindsN F (fun _ _ _ _ _ _ us hl => match us, hl with | [_, _], _ => rfl), FunD.ok F sc_l_notin (by walk_at "len") (fun cdv A outer s H vs Q E hr h => ?_)⟩
  obtain ⟨s, many, rfl, S, h0, h1, k⟩ := h
  refine ⟨_, PSs.nox ((pss_cons (ps_set (i := 2) sc_l_notin.nd rfl (.inl rfl) (pe_d (d_l_take T) (hr.mono (by decide)) rfl pass0 (pa_cons (pv 0) (pa_cons pe_int pa_nil))))
      (pss_cons (ps_if (pt_cmpR op_lt (pv 2) pe_int (nomark _)) (pss_one (ps_ret (pe_lst (pa_cons (pe_op op_sub (pe_op op_sub pe_int pe_int) (pe_op op_mulA (pv 2) (pv 1))) pa_nil)))) pss_nil)
      (pss_cons (ps_if (pt_cmpR op_lt (pv 2) pe_int (nomark _)) (pss_one (ps_ret (pe_lst (pa_cons (pe_op op_addA (pv 1) (pe_op op_mulA (pe_op op_sub (pv 2) pe_int) (pe_op op_powA pe_int pe_int))) pa_nil)))) pss_nil)
      (pss_cons (ps_if (pt_cmpR op_eq (pv 2) pe_int (nomark _)) (pss_one (ps_ret (pe_lst (pa_cons (pe_op op_addA (pv 1) (pe_d (d_l_take T) (hr.mono (by decide)) rfl pass0 (pa_cons (pv 0) (pa_cons pe_int pa_nil)))) pa_nil)))) pss_nil)
      (pss_one (ps_ret (pe_d (d_l_odd T) (hr.mono (by decide)) rfl pass0 (pa_cons (pv 0) pa_nil))))))))), ?_⟩
  repeat walk_at "s"
  refine ⟨S, by decide, fun wh H1 k1 S1 w0 _ w6 => ?_⟩
  have fin : ∀ (i : Int), (i < 0 ∨ many ≤ i) → ∀ p, H1 p = none → Q (.ref p) (upd H1 p (.lst [.int i])) := fun i hi p hp => k p _ _ (k1.new hp) (S1.ex (Ex.refl.at hp)) (k1.none (S1.ne hp) hp) upd_same (.inl ⟨i, rfl, hi⟩)
  repeat walk_at "s"
  refine ite2 (fun e => ?_) (fun e => ?_)
  · have e := of_decide_eq_true e
    repeat walk_at "s"
    have := Int.mul_nonneg w0 h0
    exact ⟨sz rfl, fin _ (.inl (by omega))⟩
  repeat walk_at "s"
  refine ite2 (fun e2 => ?_) (fun e2 => ?_)
  · repeat walk_at "s"
    have e : 2 ≤ wh := by
      have : ¬ wh < 2 := fun z => e (decide_eq_true z)
      omega
    have := Int.mul_nonneg (show 0 ≤ wh - 2 by omega) (show (0 : Int) ≤ 10 ^ Int.toNat 41 by decide)
    exact ⟨sz rfl, fin _ (.inr (by omega))⟩
  repeat walk_at "s"
  refine ite2 (fun e3 => ?_) (fun e3 => ?_)
  · repeat walk_at "s"
    refine ⟨S1, by decide, fun v H2 k2 S2 v0 _ vh => ?_⟩
    repeat walk_at "s"
    refine ⟨sz rfl, fun p hp => ?_⟩
    exact k p _ _ ((k1.trans k2).new hp) (S2.ex (Ex.refl.at hp)) ((k1.trans k2).none (S2.ne hp) hp) upd_same (.inl ⟨_, rfl, .inr (by omega)⟩)
  repeat walk_at "s"
  refine ⟨S1, fun p v H2 k2 S2 hp hv od => ?_⟩
  exact k p v H2 (k1.trans k2) S2 (k1.none (S1.ne hp) hp) hv (.inr od)
/-- level numbers, drawn -/
def spNumbers (K : PySem.W.Frag) : Sp := fun vs H Q _ => ∃ (s : Addr) (many : Int), vs = [.ref s, .int many] ∧ StO H s ∧ 0 ≤ many ∧ many ≤ 200 ∧
  ∀ p (ns : List Int) H', Kp s H H' → StO H' s → H p = none → H' p = some (.lst (ns.map V.int)) → (ns.length : Int) = many → Nums ns → Q (.ref p) H'
theorem sc_l_numbers : FnScope ["store", "many", "top", "row", "k"] ["store", "many"] (defScope s_l_numbers) := ⟨rfl, rfl, rfl, by decide +kernel, rfl, by decide +kernel, by decide +kernel⟩
theorem d_l_numbers (T : Tx K mg) : Dn PP w K mg base CX0 5 "_law_numbers" ["store", "many"] (spNumbers K) := by
  obtain ⟨fd, F⟩ := T.d 24
  refine ⟨_, fd, T.g 24, F.kp, FunD.bindsN F (fun _ _ _ _ _ _ us hl => match us, hl with | [_, _], _ => rfl), FunD.ok F sc_l_numbers (by walk_at "len") (fun cdv A outer s H vs Q E hr h => ?_)⟩
  obtain ⟨s, many, rfl, S, h0, h1, k⟩ := h
  refine ⟨_, PSs.nox ((pss_cons (ps_set (i := 2) sc_l_numbers.nd rfl (.inr rfl) (pe_d (d_l_pick T) (hr.mono (by decide)) rfl pass0 (pa_cons (pv 0) (pa_cons (pe_lst (pa_cons pe_int (pa_cons pe_int (pa_cons pe_int (pa_cons pe_int (pa_cons pe_int pa_nil)))))) pa_nil))))
      (pss_cons (ps_setLc (i := 3) (own := [("k", 4)]) rfl sc_l_numbers.nd rfl rfl (sw_true rfl rfl rfl (by decide +kernel)) (pi_range1 rfl (T.f 76) (pa_cons (pv 1) pa_nil)) (blkOk_by (own := [("k", 4)]) (N := ["store", "many", "top", "row", "k"]) (sc := defScope s_l_numbers) (by decide +kernel)) (fun _ _ _ _ _ => (pg_name (i := 4) sc_l_numbers.nd rfl (.inl rfl))) (fun _ _ _ _ _ => pts_nil) (fun _ _ _ _ _ => (pe_d (d_l_edge T) (hr.mono (by decide)) rfl pass0 (pa_cons (pv 0) (pa_cons (pv 2) pa_nil)))))
      (pss_cons (ps_if (PW.pt (pw_and (pt_cmpR op_gt (pv 1) pe_int (nomark _)) (pw_and1 (pt_truth (pe_d (d_l_maybe T) (hr.mono (by decide)) rfl pass0 (pa_cons (pv 0) (pa_cons pe_int pa_nil))) (by intro _; rfl))))) (pss_one (ps_asg (pe_d (d_l_pick T) (hr.mono (by decide)) rfl pass0 (pa_cons (pv 0) (pa_cons (pe_lst (pa_cons pe_int (pa_cons pe_int (pa_cons pe_int pa_nil)))) pa_nil))) (pg_sub (pv 3) (pe_d (d_l_edge T) (hr.mono (by decide)) rfl pass0 (pa_cons (pv 0) (pa_cons (pv 1) pa_nil))) set_list))) pss_nil)
      (pss_one (ps_ret (pv 3))))))), ?_⟩
  repeat walk_at "s"
  refine ⟨sz rfl, fun r hr => ?_⟩
  repeat walk_at "s"
  refine ⟨_, _, _, rfl, S.ex (Ex.refl.at hr), upd_same, S.ne hr, (fun h => nomatch h), ln rfl, fun top H1 k1 S1 htop => ?_⟩
  have ht : ∃ t : Int, top = .int t ∧ 2 ≤ t ∧ t ≤ 1001 := by
    simp only [List.mem_cons, List.not_mem_nil, or_false] at htop
    rcases htop with rfl | rfl | rfl | rfl | rfl
    · exact ⟨_, rfl, by decide, by decide⟩
    · exact ⟨_, rfl, by decide, by decide⟩
    · exact ⟨_, rfl, by decide, by decide⟩
    · exact ⟨_, rfl, by decide, by decide⟩
    · exact ⟨_, rfl, by decide, by decide⟩
  obtain ⟨t, rfl, t2, t1⟩ := ht
  have kk := (Ex.refl.at hr).kp.trans k1
  repeat walk_at "s"
  refine ⟨by omega, by omega, fun D hD => lc_range (n := many.toNat) (fun i H' => ∃ ns : List Int, H' D = some (.lst (ns.map V.int)) ∧ ns.length = i ∧ Nums ns ∧ Kp s H1 H' ∧ StO H' s) ?_ ?_ ?_⟩
  · exact ⟨[], upd_same, rfl, (fun n h => by cases h), (Ex.refl.at hD).kp, S1.ex (Ex.refl.at hD)⟩
  · rintro i H2 hi ⟨ns, hd, hl, good, k2, S2⟩
    have hDs : D ≠ s := S1.ne hD
    refine ⟨rfl, ?_⟩
    repeat walk_at "s"
    refine ⟨S2, lg (n := 10) (by omega) (by decide) (by decide), fun v H3 k3 S3 v0 _ vh => ?_⟩
    have hd3 := k3.1 _ _ hDs hd
    refine ⟨_, hd3, by rw [List.length_map, sizeLine_eq]; omega, ns ++ [v], ?_, by rw [List.length_append, hl]; rfl, ?_, (k2.trans k3).at hD hDs, S1.set2 S3 (k2.trans k3) hD⟩
    · rw [List.map_append]
      exact upd_same
    · intro n hn
      rcases List.mem_append.mp hn with hn | hn
      · exact good n hn
      · obtain rfl := List.mem_singleton.mp hn
        have := vh (by omega)
        simp only [lv, Bool.and_eq_true, decide_eq_true_eq]
        omega
  · rintro H2 ⟨ns, hd, hl, good, k2, S2⟩
    have hDs : D ≠ s := S1.ne hD
    have hD0 := kk.none hDs hD
    have k02 := kk.trans k2
    have nl : (ns.length : Int) = many := by omega
    repeat walk_at "s"
    refine ite2 (fun e => ?_) (fun e => ?_)
    · have e : 0 < many := of_decide_eq_true e
      repeat walk_at "s"
      refine ⟨S2, by decide, fun b H3 k3 S3 => ?_⟩
      have hd3 := k3.1 _ _ hDs hd
      repeat walk_at "s"
      refine ite2 (fun _ => ?_) (fun _ => ?_)
      · repeat walk_at "s"
        refine ⟨sz rfl, fun r2 hr2 => ?_⟩
        repeat walk_at "s"
        refine ⟨_, _, _, rfl, S3.ex (Ex.refl.at hr2), upd_same, S3.ne hr2, (fun h => nomatch h), ln rfl, fun v H4 k4 S4 hv => ?_⟩
        have hv2 : ∃ i, v = .int i ∧ lv i = true := by
          simp only [List.mem_cons, List.not_mem_nil, or_false] at hv
          rcases hv with rfl | rfl | rfl
          · exact ⟨_, rfl, by decide⟩
          · exact ⟨_, rfl, by decide⟩
          · exact ⟨_, rfl, by decide⟩
        obtain ⟨i, rfl, hi⟩ := hv2
        have k34 := (Ex.refl.at hr2).kp.trans k4
        have hd4 := k34.1 _ _ hDs hd3
        repeat walk_at "s"
        refine ⟨S4, lg (n := 10) (by omega) (by decide) (by decide), fun u H5 k5 S5 u0 _ uh => ?_⟩
        have hd5 := k5.1 _ _ hDs hd4
        have kk5 := k02.trans (k3.trans (k34.trans k5))
        have uh := uh (by omega)
        obtain ⟨n, rfl⟩ := Int.eq_ofNat_of_zero_le u0
        have hn : n < ns.length := by omega
        refine ⟨D, _, _, n, rfl, rfl, hd5, ixn (by rw [List.length_map]; exact hn), ?_⟩
        repeat walk_at "s"
        refine k D (ns.set n i) _ (kk5.at hD0 hDs) (S.set2 S5 kk5 hD0) hD0 ?_ (by rw [List.length_set]; exact nl) fun x hx => ?_
        · rw [List.map_set]
          exact upd_same
        · rcases List.mem_or_eq_of_mem_set hx with h | h
          · exact good x h
          · rw [h]
            exact hi
      · repeat walk_at "s"
        exact k D ns H3 (k02.trans k3) S3 hD0 hd3 nl good
    · repeat walk_at "s"
      exact k D ns H2 k02 S2 hD0 hd nl good
end
end Lw
namespace Lw
open PySem PySem.Spec PyProof.Rows L2 L2H
/-! ### the draws -/
local macro_rules | `(tactic| walk_at "len") => `(tactic| (intro vs H Q E h; first | (obtain ⟨_, e, _⟩ := h; subst e; rfl) | (obtain ⟨_, _, e, _⟩ := h; subst e; rfl) | (obtain ⟨_, _, _, e, _⟩ := h; subst e; rfl) | (obtain ⟨_, _, _, _, e, _⟩ := h; subst e; rfl) | (obtain ⟨_, _, _, _, _, e, _⟩ := h; subst e; rfl) | (obtain ⟨_, _, _, _, _, _, e, _⟩ := h; subst e; rfl) | (obtain ⟨_, _, _, _, _, _, _, e, _⟩ := h; subst e; rfl)))
local macro_rules | `(tactic| walk_at "get") => `(tactic| (first | assumption | exact upd_same | (refine look_new (by assumption) ?_; walk_at "get") | (refine look_ne (by assumption) ?_; walk_at "get")))
local macro_rules | `(tactic| walk_at "sqt") => `(tactic| (first | assumption | (apply Ex.t (Ex.refl.at (by assumption)); walk_at "sqt")))
local macro_rules | `(tactic| walk_at "s") => `(tactic| (first
  | refine ⟨_, rfl, ?_⟩
  | refine Or.inl ⟨_, rfl, ?_⟩
  | refine Or.inl ⟨_, _, _, _, rfl, rfl, lOf (by walk_at "get"), rfl, ?_⟩
  | refine Or.inl ⟨_, _, _, _, rfl, rfl, (show SqL _ _ _ _ by assumption), rfl, ?_⟩
  | refine Or.inr (Or.inl ⟨_, _, _, _, rfl, rfl, (show SqT _ _ _ _ by walk_at "sqt"), rfl, ?_⟩)
  | refine ⟨_, _, _, _, rfl, rfl, (by walk_at "get"), rfl, ?_⟩
  | refine ⟨_, _, rfl, rfl, Or.inl (Or.inr ⟨by decide, by decide⟩), ?_⟩
  | refine ⟨_, _, rfl, rfl, (by show (0 : Int) < _; first | assumption | decide), ?_⟩
  | refine ⟨_, _, rfl, rfl, ⟨by decide, by decide⟩, ?_⟩
  | refine ⟨_, _, rfl, rfl, ⟨by decide, by decide +kernel⟩, ?_⟩
  | refine ⟨_, _, rfl, rfl, (by show (0 : Int) < _; decide +kernel), ?_⟩
  | refine ⟨(show CMulA _ _ from Or.inl (Or.inl ⟨by (try dsimp only); omega, by (try dsimp only); omega⟩)), ?_⟩
  | refine ⟨_, _, rfl, rfl, ?_⟩
  | refine ⟨_, _, rfl, .inl ⟨_, (show SqL _ _ _ _ by assumption), rfl⟩, ?_⟩
  | refine ⟨_, _, rfl, .inl ⟨_, lOf (by walk_at "get"), rfl⟩, ?_⟩
  | refine ⟨_, _, rfl, (show Dp _ _ _ _ by assumption), ?_⟩
  | refine ⟨_, _, rfl, (show SqT _ _ _ _ by assumption), ?_⟩
  | refine ⟨_, _, rfl, (show SqL _ _ _ _ by assumption), ?_⟩
  | refine ⟨_, _, rfl, ?_⟩
  | refine ⟨rfl, _, rfl, ?_⟩
  | refine ⟨rfl, ?_⟩
  | refine ⟨_, _, _, _, _, rfl, (by walk_at "get"), (by assumption), (by assumption), rfl, ?_⟩
  | refine ⟨_, _, _, _, _, rfl, .own _, (by assumption), (by assumption), ?_⟩
  | refine ⟨_, _, _, _, _, rfl, .ty _, (by assumption), kit_ty (by rfl), ?_⟩))
local macro_rules | `(tactic| walk_at "c") => `(tactic| (try dsimp only [L2.start, List.set, List.map, List.length, List.replicate, List.cons_append, List.nil_append, List.append, HAppend.hAppend, Append.append, Int.toNat, Nat.reduceSub, Nat.reduceAdd]))
local macro_rules | `(tactic| walk_at "T") => `(tactic| ((repeat walk_at "s"); refine iteT (by first | rfl | assumption | decide) ?_; (repeat walk_at "s")))
local macro_rules | `(tactic| walk_at "F") => `(tactic| ((repeat walk_at "s"); refine iteF (by first | rfl | assumption | decide) ?_; (repeat walk_at "s")))
local macro_rules | `(tactic| walk_at "isi") => `(tactic| ((repeat walk_at "s"); refine ⟨_, _, _, _, _, rfl, .ty _, (by assumption), kit_ty (by rfl), ?_⟩; (repeat walk_at "s")))
local macro_rules | `(tactic| walk_at "mem") => `(tactic| (first | exact List.Mem.head _ | (refine List.Mem.tail _ ?_; walk_at "mem")))
local macro_rules | `(tactic| walk_at "ext") => `(tactic| (first | exact Ex.refl | (refine Ex.new ?_ (by assumption); walk_at "ext")))
local macro_rules | `(tactic| walk_at "al") => `(tactic| ((repeat walk_at "s"); refine ⟨sz rfl, fun _ _ => ?_⟩))
section
variable {w : World} {K : PySem.W.Frag} {mg : Str → Option Value} {base : Heap}
theorem StO.nt {H : Hp} {s a : Addr} {xs : List V} (S : StO H s) (h : Rd H a (.tup xs)) : a ≠ s := fun e => by
  obtain ⟨c, cells, i, big, mixed, t, h1, _⟩ := S
  subst e
  rcases h with h | ⟨o, h⟩ <;> (rw [h1] at h; cases h)
theorem Kp.t {H H' : Hp} {s a : Addr} {xs : List V} (e : Kp s H H') (S : StO H s) (h : SqT K H a xs) : SqT K H' a xs := h.elim (fun h => .inl (by
  have n := S.nt h
  exact h.elim (fun h => .inl (e.1 _ _ n h)) fun ⟨o, h⟩ => .inr ⟨o, e.1 _ _ n h⟩)) .inr
theorem Odd6.ex {v : V} {H H' : Hp} (h : Odd6 v H) (e : Ex H H') : Odd6 v H' := h.imp id (.imp id (.imp id (.imp id (.imp (fun ⟨p, a, b⟩ => ⟨p, a, e _ _ b⟩) id))))
theorem Odd6.kp {v : V} {s : Addr} {H H' : Hp} (h : Odd6 v H) (S : StO H s) (e : Kp s H H') : Odd6 v H' := h.imp id (.imp id (.imp id (.imp id (.imp (fun ⟨p, a, b⟩ => ⟨p, a, e.1 _ _ (S.nt (.inl b)) b⟩) id))))
theorem Odd6.bad {v : V} {H : Hp} (h : Odd6 v H) : ∃ t, TyX K H v (.type t) ∧ (t = "bool" ∨ t = "NoneType" ∨ t = "str" ∨ t = "tuple") := by
  rcases h with rfl | rfl | rfl | rfl | ⟨p, rfl, h⟩ | rfl
  · exact ⟨_, .base (.bl _), .inl rfl⟩
  · exact ⟨_, .base (.bl _), .inl rfl⟩
  · exact ⟨_, .base .non, .inr (.inl rfl)⟩
  · exact ⟨_, .base (.str _), .inr (.inr (.inl rfl))⟩
  · exact ⟨_, .base (.tup h), .inr (.inr (.inr rfl))⟩
  · exact ⟨_, .base (.str _), .inr (.inr (.inl rfl))⟩
theorem Odd6.dp {v : V} {H : Hp} (h : Odd6 v H) : ∃ d, Dp K H v d ∧ sizeD d < 1000 := by
  rcases h with rfl | rfl | rfl | rfl | ⟨p, rfl, h⟩ | rfl
  · exact ⟨_, .bl _, by simp [sizeD]⟩
  · exact ⟨_, .bl _, by simp [sizeD]⟩
  · exact ⟨_, .non, by simp [sizeD]⟩
  · exact ⟨_, .str _, by simp [sizeD]⟩
  · exact ⟨_, .tup (tOf h) (.cons (.int _) .nil), by simp [sizeD, sizeDs]⟩
  · exact ⟨_, .str _, by simp [sizeD]⟩
theorem atNew {H : Hp} {p : Addr} {o : HO} (_ : H p = none) : upd H p o p = some o := upd_same
/-- values that the law hands on -/
def Sm (v : V) (H : Hp) : Prop := (∃ i, v = .int i) ∨ Odd6 v H
def BadV (v : V) (H : Hp) : Prop := (∃ i, v = .int i ∧ lv i = false) ∨ Odd6 v H
theorem BadV.sm {v : V} {H : Hp} (h : BadV v H) : Sm v H := h.imp (fun ⟨i, e, _⟩ => ⟨i, e⟩) id
theorem Sm.ex {v : V} {H H' : Hp} (h : Sm v H) (e : Ex H H') : Sm v H' := h.imp id fun h => h.ex e
theorem BadV.ex {v : V} {H H' : Hp} (h : BadV v H) (e : Ex H H') : BadV v H' := h.imp id fun h => h.ex e
theorem Sm.kp {v : V} {s : Addr} {H H' : Hp} (h : Sm v H) (S : StO H s) (e : Kp s H H') : Sm v H' := h.imp id fun h => h.kp S e
theorem BadV.kp {v : V} {s : Addr} {H H' : Hp} (h : BadV v H) (S : StO H s) (e : Kp s H H') : BadV v H' := h.imp id fun h => h.kp S e
theorem Odd6.upd {v : V} {H : Hp} {p : Addr} {xs : List V} {o : HO} (h : Odd6 v H) (hp : H p = some (.lst xs)) : Odd6 v (upd H p o) := h.imp id (.imp id (.imp id (.imp id (.imp (fun ⟨t, a, b⟩ => ⟨t, a, look_ne (fun q => by rw [q, hp] at b; cases b) b⟩) id))))
theorem Sm.upd {v : V} {H : Hp} {p : Addr} {xs : List V} {o : HO} (h : Sm v H) (hp : H p = some (.lst xs)) : Sm v (upd H p o) := h.imp id fun h => h.upd hp
theorem BadV.upd {v : V} {H : Hp} {p : Addr} {xs : List V} {o : HO} (h : BadV v H) (hp : H p = some (.lst xs)) : BadV v (upd H p o) := h.imp id fun h => h.upd hp
theorem BadV.no {v : V} {H : Hp} (h : BadV v H) : NoLv K H v := h.imp id fun h => h.bad
theorem Sm.dp {v : V} {H : Hp} (h : Sm v H) : ∃ d, Dp K H v d ∧ sizeD d ≤ 5 := by
  rcases h with ⟨i, rfl⟩ | rfl | rfl | rfl | rfl | ⟨p, rfl, h⟩ | rfl
  · exact ⟨_, .int _, by simp [sizeD]⟩
  · exact ⟨_, .bl _, by simp [sizeD]⟩
  · exact ⟨_, .bl _, by simp [sizeD]⟩
  · exact ⟨_, .non, by simp [sizeD]⟩
  · exact ⟨_, .str _, by simp [sizeD]⟩
  · exact ⟨_, .tup (tOf h) (.cons (.int _) .nil), by simp [sizeD, sizeDs]⟩
  · exact ⟨_, .str _, by simp [sizeD]⟩
/-- the entry at k is the first bad one -/
def Fb (H : Hp) (xs : List V) (k : Nat) : Prop := ∃ v, xs[k]? = some v ∧ BadV v H ∧ ∀ j, j < k → ∃ i, xs[j]? = some (.int i) ∧ lv i = true
theorem Fb.fb {H : Hp} {xs : List V} {k : Nat} (h : Fb H xs k) : FirstBad K H xs k := let ⟨v, a, b, c⟩ := h; ⟨v, a, b.no, c⟩
/-- a list whose first bad entry is at k -/
def spBadnum (K : PySem.W.Frag) : Sp := fun vs H Q _ => ∃ (s a : Addr) (ns : List Int), vs = [.ref s, .ref a] ∧ StO H s ∧ SqL K H a (ns.map V.int) ∧ ns.length ≤ 200 ∧ Nums ns ∧
  ∀ r p xs (k : Nat) H', Kp s H H' → StO H' s → H r = none → SqT K H' r [.ref p, .int (k : Nat)] → H p = none → H' p = some (.lst xs) → xs.length ≤ ns.length + 1 → Fb H' xs k → (∀ x ∈ xs, Sm x H') → Q (.ref r) H'
theorem sc_l_badnumbers : FnScope ["store", "numbers", "row", "at", "later"] ["store", "numbers"] (defScope s_l_badnumbers) := ⟨rfl, rfl, rfl, by decide +kernel, rfl, by decide +kernel, by decide +kernel⟩
theorem d_l_badnumbers (T : Tx K mg) : Dn PP w K mg base CX0 6 "_law_badnumbers" ["store", "numbers"] (spBadnum K) := by
  obtain ⟨fd, F⟩ := T.d 25
  refine ⟨_, fd, T.g 25, F.kp, FunD.bindsN F (fun _ _ _ _ _ _ us hl => match us, hl with | [_, _], _ => rfl), FunD.ok F sc_l_badnumbers (by walk_at "len") (fun cdv A outer s H vs Q E hr h => ?_)⟩
  obtain ⟨s, a, ns, rfl, S, ha, hn, good, k⟩ := h
  refine ⟨_, PSs.nox ((pss_cons (ps_set (i := 2) sc_l_badnumbers.nd rfl (.inl rfl) (pe_op op_addA (pe_callTy call_list_of (by rfl) (T.f 73) (by decide +kernel) (pa_cons (pv 1) pa_nil)) (pe_lst (pa_cons pe_int pa_nil))))
      (pss_cons (ps_set (i := 3) sc_l_badnumbers.nd rfl (.inl rfl) (pe_d (d_l_edge T) (hr.mono (by decide)) rfl pass0 (pa_cons (pv 0) (pa_cons (pe_callB call_len (by rfl) (T.f 72) boot_len (pa_cons (pv 2) pa_nil)) pa_nil))))
      (C8.pss_cut (ps_if (pt_truth (pe_d (d_l_maybe T) (hr.mono (by decide)) rfl pass0 (pa_cons (pv 0) (pa_cons pe_int pa_nil))) (by intro _; rfl)) (pss_cons (ps_set (i := 4) sc_l_badnumbers.nd rfl (.inl rfl) (pe_op op_addA (pv 3) (pe_d (d_l_take T) (hr.mono (by decide)) rfl pass0 (pa_cons (pv 0) (pa_cons (pe_op op_sub (pe_callB call_len (by rfl) (T.f 72) boot_len (pa_cons (pv 2) pa_nil)) (pv 3)) pa_nil)))))
      (pss_one (ps_asg (pe_op op_sub pe_int pe_int) (pg_sub (pv 2) (pv 4) set_list)))) pss_nil)
      (pss_cons (ps_asg (pe_ix ix_seq (pe_d (d_l_pick T) (hr.mono (by decide)) rfl pass0 (pa_cons (pv 0) (pa_cons (pe_lst (pa_cons (pe_d (d_l_notin T) (hr.mono (by decide)) rfl pass0 (pa_cons (pv 0) (pa_cons pe_int pa_nil))) (pa_cons (pe_lst (pa_cons (pe_op op_sub pe_int pe_int) pa_nil)) (pa_cons (pe_lst (pa_cons pe_int pa_nil)) pa_nil)))) pa_nil))) pe_int (fun _ _ => rfl)) (pg_sub (pv 2) (pv 3) set_list))
      (pss_cons (ps_if (PW.pt (pw_and (pt_truth (pe_d (d_l_maybe T) (hr.mono (by decide)) rfl pass0 (pa_cons (pv 0) (pa_cons pe_int pa_nil))) (by intro _; rfl)) (pw_and1 (pt_cmpR op_lt (pv 3) (pe_op op_sub (pe_callB call_len (by rfl) (T.f 72) boot_len (pa_cons (pv 2) pa_nil)) pe_int) (nomark _))))) (pss_one (ps_expr (pe_bm0 PySem.F.plainAttrs_list PySem.F.slot_list_pop PySem.F.type_list_pop mt_pop (pv 2)))) pss_nil)
      (pss_one (ps_ret (pe_tup (pa_cons (pv 2) (pa_cons (pv 3) pa_nil))))))))))), ?_⟩
  repeat walk_at "s"
  refine ⟨a, _, rfl, .inl ha, fun p1 hp1 => ?_⟩
  repeat walk_at "s"
  refine ⟨sz rfl, fun p2 hp2 => ?_⟩
  have q2 : upd (upd H p1 (.lst (ns.map V.int))) p2 (.lst [.int 3]) p1 = some (.lst (ns.map V.int)) := look_new hp2 upd_same
  have q3 : upd (upd H p1 (.lst (ns.map V.int))) p2 (.lst [.int 3]) p2 = some (.lst [.int 3]) := upd_same
  have e2 : Ex H (upd (upd H p1 (.lst (ns.map V.int))) p2 (.lst [.int 3])) := (Ex.refl.at hp1).trans (Ex.refl.at hp2)
  generalize upd (upd H p1 (.lst (ns.map V.int))) p2 (.lst [.int 3]) = H1 at q2 q3 e2
  repeat walk_at "s"
  refine .inl ⟨p1, p2, _, _, rfl, rfl, q2, q3, (by rw [List.length_map, sizeLine_eq]; show ns.length + 1 ≤ _; omega), fun p3 hp3 => ?_⟩
  have h3 : upd H1 p3 (.lst (ns.map V.int ++ [.int 3])) p3 = some (.lst (ns.map V.int ++ [.int 3])) := upd_same
  have e3 : Ex H (upd H1 p3 (.lst (ns.map V.int ++ [.int 3]))) := e2.at (e2.none hp3)
  have p30 := e2.none hp3
  have p3s : p3 ≠ s := S.ne p30
  have hl : (ns.map V.int ++ [V.int 3]).length = ns.length + 1 := by rw [List.length_append, List.length_map]; rfl
  generalize upd H1 p3 (.lst (ns.map V.int ++ [.int 3])) = H2 at h3 e3
  repeat walk_at "s"
  rw [hl]
  refine ⟨S.ex e3, lg (n := 20) (by omega) (by decide) (by decide), fun at0 H3 k3 S3 a0 _ ah => ?_⟩
  have ah := ah (by omega)
  have h33 := k3.1 _ _ p3s h3
  have kk3 := e3.kp.trans k3
  repeat walk_at "s"
  refine ⟨fun σ H' => ∃ xs z, σ = [some (.ref s), some (.ref a), some (.ref p3), some (.int at0), z] ∧ H' p3 = some (.lst xs) ∧ xs.length = ns.length + 1 ∧ (∀ j : Nat, (j : Int) < at0 → ∃ i, xs[j]? = some (.int i) ∧ lv i = true) ∧ (∀ x ∈ xs, ∃ i, x = .int i) ∧ Kp s H H' ∧ StO H' s, ?_, ?_⟩
  · have old : ∀ {H' : Hp}, Kp s H3 H' → H' p3 = some (.lst (ns.map V.int ++ [.int 3])) := fun q => q.1 _ _ p3s h33
    have bef0 : ∀ j : Nat, (j : Int) < at0 → ∃ i, (ns.map V.int ++ [V.int 3])[j]? = some (.int i) ∧ lv i = true := fun j hj => by
      by_cases c : j < ns.length
      · refine ⟨ns[j], ?_, good _ (List.getElem_mem c)⟩
        rw [List.getElem?_append_left (by rw [List.length_map]; exact c), List.getElem?_map, List.getElem?_eq_getElem c]
        rfl
      · refine ⟨3, ?_, by decide⟩
        obtain rfl : j = ns.length := by omega
        rw [List.getElem?_append_right (by rw [List.length_map]; exact Nat.le_refl _), List.length_map, Nat.sub_self]
        rfl
    have all0 : ∀ x ∈ ns.map V.int ++ [V.int 3], ∃ i, x = .int i := fun x hx => by
      rcases List.mem_append.mp hx with h | h
      · obtain ⟨i, _, rfl⟩ := List.mem_map.mp h
        exact ⟨i, rfl⟩
      · exact ⟨3, List.mem_singleton.mp h⟩
    repeat walk_at "s"
    refine ⟨S3, by decide, fun b H4 k4 S4 => ?_⟩
    have h34 := old k4
    repeat walk_at "s"
    refine ite2 (fun _ => ?_) (fun _ => ?_)
    · repeat walk_at "s"
      rw [hl]
      refine ⟨S4, lg (n := 20) (by omega) (by decide) (by decide), fun v H5 k5 S5 v0 vl vh => ?_⟩
      have h35 := old (k4.trans k5)
      have vb : at0 + v < (ns.length + 1 : Nat) := by
        by_cases c : ((ns.length + 1 : Nat) : Int) - at0 < 2
        · have := vl c
          omega
        · have := vh (by omega)
          omega
      repeat walk_at "s"
      obtain ⟨n, hn2⟩ := Int.eq_ofNat_of_zero_le (show 0 ≤ at0 + v by omega)
      rw [hn2]
      refine ⟨p3, _, _, n, rfl, rfl, h35, ixn (by rw [hl]; omega), ?_⟩
      refine ⟨_, _, rfl, upd_same, by rw [List.length_set, hl], fun j hj => ?_, fun x hx => ?_, (kk3.trans (k4.trans k5)).at p30 p3s, S.set2 S5 (kk3.trans (k4.trans k5)) p30⟩
      · rw [List.getElem?_set_ne (by omega)]
        exact bef0 j hj
      · rcases List.mem_or_eq_of_mem_set hx with h | h
        · exact all0 x h
        · exact ⟨_, h⟩
    · exact ⟨_, _, rfl, h34, hl, bef0, all0, kk3.trans k4, S4⟩
  · rintro σ H4 ⟨xs, z, rfl, h4, xl, before, all, k4, S4⟩
    repeat walk_at "s"
    refine ⟨S4, by decide, by decide, fun pn v H5 k5 S5 hpn hv nv => ?_⟩
    have nv : BadV v H5 := nv.imp (fun ⟨i, e, h⟩ => ⟨i, e, by
      unfold lv
      rcases h with h | h
      · rw [decide_eq_false (by omega)]; rfl
      · rw [decide_eq_false (show ¬ i ≤ 1000 by omega), Bool.and_false]⟩) id
    repeat walk_at "s"
    refine ⟨sz rfl, fun m1 hm1 => ?_⟩
    repeat walk_at "s"
    refine ⟨sz rfl, fun m2 hm2 => ?_⟩
    repeat walk_at "s"
    refine ⟨sz rfl, fun m3 hm3 => ?_⟩
    have g3 : upd (upd (upd H5 m1 (.lst [.int (0 - 1)])) m2 (.lst [.int 1001])) m3 (.lst [.ref pn, .ref m1, .ref m2]) m3 = some (.lst [.ref pn, .ref m1, .ref m2]) := upd_same
    have g2 : upd (upd (upd H5 m1 (.lst [.int (0 - 1)])) m2 (.lst [.int 1001])) m3 (.lst [.ref pn, .ref m1, .ref m2]) m2 = some (.lst [.int 1001]) := look_new hm3 upd_same
    have g1 : upd (upd (upd H5 m1 (.lst [.int (0 - 1)])) m2 (.lst [.int 1001])) m3 (.lst [.ref pn, .ref m1, .ref m2]) m1 = some (.lst [.int (0 - 1)]) := look_new hm3 (look_new hm2 upd_same)
    have e5 : Ex H5 (upd (upd (upd H5 m1 (.lst [.int (0 - 1)])) m2 (.lst [.int 1001])) m3 (.lst [.ref pn, .ref m1, .ref m2])) := ((Ex.refl.new hm1).new hm2).new hm3
    have m1s : m1 ≠ s := S5.ne hm1
    have m2s : m2 ≠ s := S5.ne ((Ex.refl.at hm1).none hm2)
    have m3s : m3 ≠ s := S5.ne (((Ex.refl.new hm1).new hm2).none hm3)
    have pns : pn ≠ s := S4.ne hpn
    have g0 := e5 _ _ hv
    have nv6 := nv.ex e5
    have h46 := e5 _ _ (k5.1 _ _ p3s h4)
    have k46 := k5.trans e5.kp
    have S6 := S5.ex e5
    generalize upd (upd (upd H5 m1 (.lst [.int (0 - 1)])) m2 (.lst [.int 1001])) m3 (.lst [.ref pn, .ref m1, .ref m2]) = H6 at g0 g1 g2 g3 nv6 h46 k46 S6
    clear e5 hm1 hm2 hm3 nv hv hpn
    repeat walk_at "s"
    refine ⟨_, _, _, rfl, S6, g3, m3s, (fun h => nomatch h), ln rfl, fun u H7 k7 S7 hu => ?_⟩
    have h47 := k7.1 _ _ p3s h46
    have hu2 : ∃ (q : Addr) (y : V), u = .ref q ∧ H7 q = some (.lst [y]) ∧ BadV y H7 := by
      simp only [List.mem_cons, List.not_mem_nil, or_false] at hu
      rcases hu with rfl | rfl | rfl
      · exact ⟨pn, v, rfl, k7.1 _ _ pns g0, nv6.kp S6 k7⟩
      · exact ⟨m1, _, rfl, k7.1 _ _ m1s g1, .inl ⟨_, rfl, by decide⟩⟩
      · exact ⟨m2, _, rfl, k7.1 _ _ m2s g2, .inl ⟨_, rfl, by decide⟩⟩
    obtain ⟨q, y, rfl, hq, yb⟩ := hu2
    obtain ⟨n, rfl⟩ := Int.eq_ofNat_of_zero_le a0
    repeat walk_at "s"
    refine ⟨p3, _, _, n, rfl, rfl, h47, ixn (by omega), ?_⟩
    have kk8 := (k4.trans (k46.trans k7)).at (o := .lst (xs.set n y)) p30 p3s
    have S8 : StO (upd H7 p3 (.lst (xs.set n y))) s := S.set2 S7 (k4.trans (k46.trans k7)) p30
    have h8 : upd H7 p3 (.lst (xs.set n y)) p3 = some (.lst (xs.set n y)) := upd_same
    have yb8 : BadV y (upd H7 p3 (.lst (xs.set n y))) := yb.upd h47
    generalize upd H7 p3 (.lst (xs.set n y)) = H8 at kk8 S8 h8 yb8
    have fin : ∀ (H9 : Hp) (ys : List V), Kp s H H9 → StO H9 s → H9 p3 = some (.lst ys) → BadV y H9 → (ys = xs.set n y ∨ ((n : Int) < xs.length - 1 ∧ ys = (xs.set n y).dropLast)) → ∀ r, H9 r = none → Q (.ref r) (upd H9 r (.tup [.ref p3, .int (n : Nat)])) := fun H9 ys k9 S9 h9 y9 hys r hr => by
      have e := Ex.refl.at (o := .tup [.ref p3, .int (n : Nat)]) hr
      have nl : n < xs.length := by omega
      have get : ∀ j, j ≤ n → ys[j]? = (xs.set n y)[j]? := fun j hj => by
        rcases hys with rfl | ⟨h, rfl⟩
        · rfl
        · rw [List.getElem?_dropLast, if_pos (by rw [List.length_set]; omega)]
      refine k r p3 ys n _ (k9.trans e.kp) (S9.ex e) (k9.none (S9.ne hr) hr) (tOf upd_same) p30 (e _ _ h9) ?_ ⟨y, ?_, y9.ex e, fun j hj => ?_⟩ fun x hx => ?_
      · rcases hys with rfl | ⟨h, rfl⟩
        · rw [List.length_set]
          omega
        · rw [List.length_dropLast, List.length_set]
          omega
      · rw [get n (Nat.le_refl _), List.getElem?_set_self nl]
      · rw [get j (by omega), List.getElem?_set_ne (by omega)]
        exact before j (by omega)
      · have hx2 : x ∈ xs.set n y := by
          rcases hys with rfl | ⟨h, rfl⟩
          · exact hx
          · exact (List.dropLast_sublist _).subset hx
        rcases List.mem_or_eq_of_mem_set hx2 with h | h
        · exact .inl (all x h)
        · rw [h]
          exact (y9.ex e).sm
    repeat walk_at "s"
    refine ⟨S8, by decide, fun b H9 k9 S9 => ?_⟩
    have h9 := k9.1 _ _ p3s h8
    have y9 := yb8.kp S8 k9
    have kk9 := kk8.trans k9
    repeat walk_at "s"
    refine ite2 (fun _ => ?_) (fun _ => ?_)
    · repeat walk_at "s"
      refine ite2 (fun e => ?_) (fun _ => ?_)
      · have e := of_decide_eq_true e
        rw [List.length_set] at e
        repeat walk_at "s"
        refine ⟨.inl ⟨rfl, _, lOf h9⟩, p3, _, _, rfl, rfl, h9, List.getElem?_eq_getElem (by rw [List.length_set]; omega), ?_⟩
        repeat walk_at "s"
        exact ⟨sz rfl, fin _ _ (kk9.at p30 p3s) (S.set2 S9 kk9 p30) upd_same (y9.upd h9) (.inr ⟨e, rfl⟩)⟩
      · repeat walk_at "s"
        exact ⟨sz rfl, fin H9 _ kk9 S9 h9 y9 (.inl rfl)⟩
    · repeat walk_at "s"
      exact ⟨sz rfl, fin H9 _ kk9 S9 h9 y9 (.inl rfl)⟩
def spPlaces (K : PySem.W.Frag) : Sp := fun vs H Q _ => ∃ (s : Addr) (many : Nat), vs = [.ref s, .int (many : Int), .int 0] ∧ StO H s ∧ 1 ≤ many ∧ many ≤ 1000 ∧
  ∀ r (x y : Nat) H', Kp s H H' → StO H' s → H r = none → SqT K H' r [.int (x : Int), .int (y : Int)] → x ≤ y → y < many → Q (.ref r) H'
theorem sc_l_places : FnScope ["store", "many", "gap", "at"] ["store", "many", "gap"] (defScope s_l_places) := ⟨rfl, rfl, rfl, by decide +kernel, rfl, by decide +kernel, by decide +kernel⟩
theorem d_l_places (T : Tx K mg) : Dn PP w K mg base CX0 4 "_law_places" ["store", "many", "gap"] (spPlaces K) := by
  obtain ⟨fd, F⟩ := T.d 23
  refine ⟨_, fd, T.g 23, F.kp, FunD.bindsN F (fun _ _ _ _ _ _ us hl => match us, hl with | [_, _, _], _ => rfl), FunD.ok F sc_l_places (by walk_at "len") (fun cdv A outer s H vs Q E hr h => ?_)⟩
  obtain ⟨s, many, rfl, S, m1, m2, k⟩ := h
  refine ⟨_, PSs.nox ((pss_cons (ps_set (i := 3) sc_l_places.nd rfl (.inl rfl) (pe_d (d_l_edge T) (hr.mono (by decide)) rfl pass0 (pa_cons (pv 0) (pa_cons (pe_op op_sub (pv 1) (pv 2)) pa_nil))))
      (pss_one (ps_ret (pe_tup (pa_cons (pv 3) (pa_cons (pe_op op_addA (pe_op op_addA (pv 3) (pv 2)) (pe_d (d_l_edge T) (hr.mono (by decide)) rfl pass0 (pa_cons (pv 0) (pa_cons (pe_op op_sub (pe_op op_sub (pv 1) (pv 2)) (pv 3)) pa_nil)))) pa_nil))))))), ?_⟩
  repeat walk_at "s"
  refine ⟨S, lg (n := 20) (by omega) (by decide) (by decide), fun x H1 k1 S1 x0 _ x1 => ?_⟩
  obtain ⟨x, rfl⟩ := Int.eq_ofNat_of_zero_le x0
  have x1 := x1 (by omega)
  repeat walk_at "s"
  refine ⟨S1, lg (n := 20) (by omega) (by decide) (by decide), fun y H2 k2 S2 y0 _ y1 => ?_⟩
  obtain ⟨y, rfl⟩ := Int.eq_ofNat_of_zero_le y0
  have y1 := y1 (by omega)
  repeat walk_at "s"
  refine ⟨sz rfl, fun r hr => ?_⟩
  have e : (x : Int) + 0 + (y : Int) = ((x + y : Nat) : Int) := by omega
  rw [e]
  exact k r x (x + y) _ ((k1.trans k2).new hr) (S2.ex (Ex.refl.at hr)) ((k1.trans k2).none (S2.ne hr) hr) (tOf upd_same) (by omega) (by omega)
/-- the order that the law counts -/
def spOrderby (K : PySem.W.Frag) : Sp := fun vs H Q _ => ∃ (a : Addr) (gs : List Int) (L : List Nat), vs = [.ref a] ∧ SqL K H a (gs.map V.int) ∧ gs.length ≤ 200 ∧ TurnX.Fin gs L ∧
  ∀ p H', Ex H H' → H p = none → H' p = some (.lst (L.map N)) → Q (.ref p) H'
theorem mn_step (gs : List Int) (i t : Nat) : min (TurnX.mn gs i (t - 1)) (TurnX.G gs (i + t)) = TurnX.mn gs i t := by
  cases t with
  | zero =>
    show min (TurnX.G gs i) (TurnX.G gs i) = TurnX.G gs i
    omega
  | succ u => rfl
theorem bef_mn {gs : List Int} {i t : Nat} : TurnX.bef gs i (i + 1 + t) = decide (TurnX.mn gs i t % 2 = 0) := by
  unfold TurnX.bef
  rw [if_pos (by omega)]
  have : TurnX.M gs i (i + 1 + t) = TurnX.mn gs i t := by
    unfold TurnX.M
    rw [show min i (i + 1 + t) = i by omega, show max i (i + 1 + t) - i - 1 = t by omega]
  rw [this]
theorem sc_l_orderby : FnScope ["numbers", "ahead", "i", "least", "j", "order", "place", "k"] ["numbers"] (defScope s_l_orderby) := ⟨rfl, rfl, rfl, by decide +kernel, rfl, by decide +kernel, by decide +kernel⟩
theorem d_l_orderby (T : Tx K mg) : Dn PP w K mg base CX0 3 "_law_orderby" ["numbers"] (spOrderby K) := by
  obtain ⟨fd, F⟩ := T.d 27
  refine ⟨_, fd, T.g 27, F.kp, FunD.bindsN F (fun _ _ _ _ _ _ us hl => match us, hl with | [_], _ => rfl), FunD.ok F sc_l_orderby (by walk_at "len") (fun cdv A outer s H vs Q E hr h => ?_)⟩
  obtain ⟨a, gs, L, rfl, ha, hn, F, k⟩ := h
  refine ⟨_, PSs.nox ((pss_cons (ps_setLc (i := 1) (own := [("k", 7)]) rfl sc_l_orderby.nd rfl rfl (sw_true rfl rfl rfl (by decide +kernel)) (pi_range1 rfl (T.f 76) (pa_cons (pe_op op_addA (pe_callB call_len (by rfl) (T.f 72) boot_len (pa_cons (pv 0) pa_nil)) pe_int) pa_nil)) (blkOk_by (own := [("k", 7)]) (N := ["numbers", "ahead", "i", "least", "j", "order", "place", "k"]) (sc := defScope s_l_orderby) (by decide +kernel)) (fun _ _ _ _ _ => (pg_name (i := 7) sc_l_orderby.nd rfl (.inl rfl))) (fun _ _ _ _ _ => pts_nil) (fun _ _ _ _ _ => pe_int))
      (pss_cons (ps_for PassesOwn.never rfl (pi_range1 rfl (T.f 76) (pa_cons (pe_callB call_len (by rfl) (T.f 72) boot_len (pa_cons (pv 0) pa_nil)) pa_nil)) (pg_name (i := 2) sc_l_orderby.nd rfl (.inl rfl)) (pss_cons (ps_set (i := 3) sc_l_orderby.nd rfl (.inl rfl) (pe_ix ix_seq (pv 0) (pv 2) (fun _ _ => rfl)))
      (pss_one (ps_for PassesOwn.never rfl (pi_range2 rfl (T.f 76) (pa_cons (pv 2) (pa_cons (pe_callB call_len (by rfl) (T.f 72) boot_len (pa_cons (pv 0) pa_nil)) pa_nil))) (pg_name (i := 4) sc_l_orderby.nd rfl (.inl rfl)) (pss_cons (ps_set (i := 3) sc_l_orderby.nd rfl (.inl rfl) (pe_callB (call_min2 rfl) (by rfl) (T.f 75) (by decide +kernel) (pa_cons (pv 3) (pa_cons (pe_ix ix_seq (pv 0) (pv 4) (fun _ _ => rfl)) pa_nil))))
      (pss_one (ps_if (pt_cmpR op_eq (pe_op op_mod (pe_callTy call_int1 (by rfl) (T.f 70) (by decide +kernel) (pa_cons (pv 3) pa_nil)) pe_int) pe_int (nomark _)) (pss_one (ps_asg (pe_op op_addA (pe_ix ix_seq (pv 1) (pe_op op_addA (pv 4) pe_int) (fun _ _ => rfl)) pe_int) (pg_sub (pv 1) (pe_op op_addA (pv 4) pe_int) set_list))) (pss_one (ps_asg (pe_op op_addA (pe_ix ix_seq (pv 1) (pv 2) (fun _ _ => rfl)) pe_int) (pg_sub (pv 1) (pv 2) set_list))))))))))
      (pss_cons (ps_setLc (i := 5) (own := [("k", 7)]) rfl sc_l_orderby.nd rfl rfl (sw_true rfl rfl rfl (by decide +kernel)) (pi_range1 rfl (T.f 76) (pa_cons (pe_callB call_len (by rfl) (T.f 72) boot_len (pa_cons (pv 1) pa_nil)) pa_nil)) (blkOk_by (own := [("k", 7)]) (N := ["numbers", "ahead", "i", "least", "j", "order", "place", "k"]) (sc := defScope s_l_orderby) (by decide +kernel)) (fun _ _ _ _ _ => (pg_name (i := 7) sc_l_orderby.nd rfl (.inl rfl))) (fun _ _ _ _ _ => pts_nil) (fun _ _ _ _ _ => pe_int))
      (pss_cons (ps_for PassesOwn.never rfl (pi_range1 rfl (T.f 76) (pa_cons (pe_callB call_len (by rfl) (T.f 72) boot_len (pa_cons (pv 1) pa_nil)) pa_nil)) (pg_name (i := 6) sc_l_orderby.nd rfl (.inl rfl)) (pss_one (ps_asg (pv 6) (pg_sub (pv 5) (pe_ix ix_seq (pv 1) (pv 6) (fun _ _ => rfl)) set_list))))
      (pss_one (ps_ret (pv 5)))))))), ?_⟩
  repeat walk_at "s"
  rw [List.length_map]
  refine ⟨by omega, by omega, fun A1 hA1 => lc_range (n := ((gs.length : Int) + 1).toNat) (fun i H' => H' A1 = some (.lst ((List.replicate i 0).map N)) ∧ Ex H H') ⟨upd_same, Ex.refl.at hA1⟩ ?_ ?_⟩
  · rintro i H1 hi ⟨hd, e1⟩
    refine ⟨rfl, ?_⟩
    repeat walk_at "s"
    refine ⟨_, hd, ?_, ?_, e1.at hA1⟩
    · rw [List.length_map, List.length_replicate, sizeLine_eq]
      omega
    · rw [List.replicate_succ', List.map_append]
      exact upd_same
  · rintro H1 ⟨hd, e1⟩
    rw [show ((gs.length : Int) + 1).toNat = gs.length + 1 by omega, ← TurnX.cl_zero] at hd
    have a1 := e1.l ha
    have at0 : ∀ {k : Nat}, k < gs.length → (gs.map V.int)[k]? = some (.int (TurnX.G gs k)) := fun hk => by
      unfold TurnX.G
      rw [List.getElem?_map, List.getD_eq_getElem?_getD, List.getElem?_eq_getElem hk]
      rfl
    repeat walk_at "s"
    rw [List.length_map]
    refine ⟨by omega, by omega, for_range (n := (gs.length : Int).toNat) (fun i σ H' => (∃ z2 z3 z4, σ = [some (.ref a), some (.ref A1), z2, z3, z4, none, none, none]) ∧ H' A1 = some (.lst ((TurnX.cl gs i (i + 1)).map N)) ∧ Ex H H') ⟨⟨_, _, _, rfl⟩, hd, e1⟩ ?_ ?_⟩
    · rintro i σ H2 hi ⟨⟨z2, z3, z4, rfl⟩, hd2, e2⟩
      have hi : i < gs.length := by omega
      have a2 := e2.l ha
      repeat walk_at "s"
      refine .inl ⟨_, _, _, _, rfl, rfl, a2, atI_z (at0 hi), ?_⟩
      repeat walk_at "s"
      rw [List.length_map]
      refine ⟨⟨by omega, by omega, by omega, by omega⟩, for_range (n := ((gs.length : Int) - (0 + (i : Int))).toNat) (fun t σ H' => (∃ z4, σ = [some (.ref a), some (.ref A1), some (.int (0 + (i : Int))), some (.int (TurnX.mn gs i (t - 1))), z4, none, none, none]) ∧ H' A1 = some (.lst ((TurnX.cl gs i (i + 1 + t)).map N)) ∧ Ex H H') ⟨⟨_, rfl⟩, hd2, e2⟩ ?_ ?_⟩
      · rintro t σ H3 ht ⟨⟨z4, rfl⟩, hd3, e3⟩
        have hjn : i + t < gs.length := by omega
        have ej : (0 : Int) + (i : Int) + (t : Int) = ((i + t : Nat) : Int) := by omega
        have ej1 : ((i + t : Nat) : Int) + 1 = ((i + 1 + t : Nat) : Int) := by omega
        have ei : (0 : Int) + (i : Int) = (i : Int) := by omega
        have a3 := e3.l ha
        have hd3L := lOf (K := K) hd3
        have cat : ∀ {x : Nat}, x < gs.length + 1 → ((TurnX.cl gs i (i + 1 + t)).map N)[x]? = some (.int (TurnX.cnt gs i (i + 1 + t) x : Nat)) := fun hx => by
          rw [List.getElem?_map, TurnX.cl_at (by omega)]
          rfl
        have bl := bef_mn (gs := gs) (i := i) (t := t)
        have lt1 : (if TurnX.G gs (i + t) < TurnX.mn gs i (t - 1) then TurnX.G gs (i + t) else TurnX.mn gs i (t - 1)) = TurnX.mn gs i t := by
          rw [← mn_step gs i t]
          split <;> omega
        have ejn : i + 1 + (t + 1) = i + 1 + t + 1 := by omega
        rw [ej, ei]
        repeat walk_at "s"
        refine .inl ⟨_, _, _, _, rfl, rfl, a3, atI_nat (at0 hjn), ?_⟩
        repeat walk_at "s"
        rw [lt1]
        repeat walk_at "s"
        refine ite2 (fun e => ?_) (fun e => ?_)
        · have e : TurnX.mn gs i t % 2 = 0 := V.int.inj (of_decide_eq_true e)
          have b1 : TurnX.bef gs i (i + 1 + t) = true := bl.trans (decide_eq_true e)
          repeat walk_at "s"
          refine .inl ⟨_, _, _, _, rfl, rfl, hd3L, (by rw [ej1]; exact atI_nat (cat (show i + 1 + t < gs.length + 1 by omega))), ?_⟩
          repeat walk_at "s"
          refine ⟨A1, _, _, i + 1 + t, rfl, rfl, hd3, (by rw [ej1]; exact ixn (by rw [List.length_map, TurnX.cl_len]; omega)), ?_⟩
          refine ⟨⟨_, rfl⟩, ?_, e3.at hA1⟩
          rw [ejn, ← TurnX.cl_set (show i < i + 1 + t by omega) (by omega) (k := i + 1 + t) (by rw [b1]; rfl), List.map_set]
          exact upd_same
        · have e : ¬ TurnX.mn gs i t % 2 = 0 := fun z => e (decide_eq_true (congrArg V.int z))
          have b1 : TurnX.bef gs i (i + 1 + t) = false := bl.trans (decide_eq_false e)
          repeat walk_at "s"
          refine .inl ⟨_, _, _, _, rfl, rfl, hd3L, atI_nat (cat (by omega)), ?_⟩
          repeat walk_at "s"
          refine ⟨A1, _, _, i, rfl, rfl, hd3, ixn (by rw [List.length_map, TurnX.cl_len]; omega), ?_⟩
          refine ⟨⟨_, rfl⟩, ?_, e3.at hA1⟩
          rw [ejn, ← TurnX.cl_set (show i < i + 1 + t by omega) (by omega) (k := i) (by rw [b1]; rfl), List.map_set]
          exact upd_same
      · rintro σ H3 ⟨⟨z4, rfl⟩, hd3, e3⟩
        rw [show i + 1 + ((gs.length : Int) - (0 + (i : Int))).toNat = gs.length + 1 by omega, ← TurnX.cl_next] at hd3
        exact ⟨⟨_, _, _, rfl⟩, hd3, e3⟩
    · rintro σ H2 ⟨⟨z2, z3, z4, rfl⟩, hd2, e2⟩
      rw [Int.toNat_natCast, ← TurnX.cl_next] at hd2
      have clen : ((TurnX.cl gs (gs.length + 1) (gs.length + 2)).map N).length = gs.length + 1 := by rw [List.length_map, TurnX.cl_len]
      have hd2L := lOf (K := K) hd2
      repeat walk_at "s"
      rw [clen]
      refine ⟨by omega, by omega, fun O1 hO1 => lc_range (n := ((gs.length + 1 : Nat) : Int).toNat) (fun i H' => H' O1 = some (.lst ((List.replicate i 0).map N)) ∧ Ex H2 H') ⟨upd_same, Ex.refl.at hO1⟩ ?_ ?_⟩
      · rintro i H3 hi ⟨hd, e3⟩
        refine ⟨rfl, ?_⟩
        repeat walk_at "s"
        refine ⟨_, hd, ?_, ?_, e3.at hO1⟩
        · rw [List.length_map, List.length_replicate, sizeLine_eq]
          omega
        · rw [List.replicate_succ', List.map_append]
          exact upd_same
      · rintro H3 ⟨hdO, e3⟩
        rw [Int.toNat_natCast, ← F.len, ← TurnX.laid_zero] at hdO
        have hdA := e3 _ _ hd2
        have hdAL := lOf (K := K) hdA
        have e03 := e2.trans e3
        have hOA : O1 ≠ A1 := fun q => by rw [q, hd2] at hO1; cases hO1
        have hO0 := e2.none hO1
        repeat walk_at "s"
        rw [clen]
        refine ⟨by omega, by omega, for_range (n := ((gs.length + 1 : Nat) : Int).toNat) (fun m σ H' => (∃ z6, σ = [some (.ref a), some (.ref A1), z2, z3, z4, some (.ref O1), z6, none]) ∧ H' O1 = some (.lst ((TurnX.laid L m).map N)) ∧ H' A1 = some (.lst ((TurnX.cl gs (gs.length + 1) (gs.length + 2)).map N)) ∧ Ex H H') ⟨⟨_, rfl⟩, hdO, hdA, e03⟩ ?_ ?_⟩
        · rintro m σ H4 hm ⟨⟨z6, rfl⟩, hdO4, hdA4, e4⟩
          have hm : m < gs.length + 1 := by omega
          obtain ⟨l1, l2⟩ := TurnX.laid_next F (m := m) (j := gs.length + 2) (by omega)
          have hA4L := lOf (K := K) hdA4
          have cm : ((TurnX.cl gs (gs.length + 1) (gs.length + 2)).map N)[m]? = some (.int (TurnX.cnt gs (gs.length + 1) (gs.length + 2) m : Nat)) := by
            rw [List.getElem?_map, TurnX.cl_at (by omega)]
            rfl
          repeat walk_at "s"
          refine .inl ⟨_, _, _, _, rfl, rfl, hA4L, atI_z cm, ?_⟩
          refine ⟨O1, _, _, _, rfl, rfl, hdO4, ixn (by rw [List.length_map]; unfold TurnX.laid; rw [List.length_map]; exact l1), ?_⟩
          refine ⟨⟨_, rfl⟩, ?_, look_ne (Ne.symm hOA) hdA4, e4.at hO0⟩
          rw [← l2, List.map_set]
          show upd _ _ _ _ = some (HO.lst (List.set _ _ (V.int (m : Int))))
          rw [Int.zero_add]
          exact upd_same
        · rintro σ H4 ⟨⟨z6, rfl⟩, hdO4, hdA4, e4⟩
          rw [Int.toNat_natCast, TurnX.laid_all F] at hdO4
          repeat walk_at "s"
          exact k O1 H4 e4 hO0 hdO4
end
end Lw
namespace Lw
open PySem PySem.Spec PyProof.Rows L2 L2H
/-! ### the draws -/
local macro_rules | `(tactic| walk_at "len") => `(tactic| (intro vs H Q E h; first | (obtain ⟨_, e, _⟩ := h; subst e; rfl) | (obtain ⟨_, _, e, _⟩ := h; subst e; rfl) | (obtain ⟨_, _, _, e, _⟩ := h; subst e; rfl) | (obtain ⟨_, _, _, _, e, _⟩ := h; subst e; rfl) | (obtain ⟨_, _, _, _, _, e, _⟩ := h; subst e; rfl) | (obtain ⟨_, _, _, _, _, _, e, _⟩ := h; subst e; rfl) | (obtain ⟨_, _, _, _, _, _, _, e, _⟩ := h; subst e; rfl)))
local macro_rules | `(tactic| walk_at "get") => `(tactic| (first | assumption | exact upd_same | (refine look_new (by assumption) ?_; walk_at "get") | (refine look_ne (by assumption) ?_; walk_at "get")))
local macro_rules | `(tactic| walk_at "sqt") => `(tactic| (first | assumption | (apply Ex.t (Ex.refl.at (by assumption)); walk_at "sqt")))
local macro_rules | `(tactic| walk_at "s") => `(tactic| (first
  | refine ⟨_, rfl, ?_⟩
  | refine Or.inl ⟨_, rfl, ?_⟩
  | refine Or.inl ⟨_, _, _, _, rfl, rfl, lOf (by walk_at "get"), rfl, ?_⟩
  | refine Or.inl ⟨_, _, _, _, rfl, rfl, (show SqL _ _ _ _ by assumption), rfl, ?_⟩
  | refine Or.inr (Or.inl ⟨_, _, _, _, rfl, rfl, (show SqT _ _ _ _ by walk_at "sqt"), rfl, ?_⟩)
  | refine ⟨_, _, _, _, rfl, rfl, (by walk_at "get"), rfl, ?_⟩
  | refine ⟨_, _, rfl, rfl, Or.inl (Or.inr ⟨by decide, by decide⟩), ?_⟩
  | refine ⟨_, _, rfl, rfl, (by show (0 : Int) < _; first | assumption | decide), ?_⟩
  | refine ⟨_, _, rfl, rfl, ⟨by decide, by decide⟩, ?_⟩
  | refine ⟨_, _, rfl, rfl, ⟨by decide, by decide +kernel⟩, ?_⟩
  | refine ⟨_, _, rfl, rfl, (by show (0 : Int) < _; decide +kernel), ?_⟩
  | refine ⟨(show CMulA _ _ from Or.inl (Or.inl ⟨by (try dsimp only); omega, by (try dsimp only); omega⟩)), ?_⟩
  | refine ⟨_, _, rfl, rfl, ?_⟩
  | refine ⟨_, _, rfl, .inl ⟨_, (show SqL _ _ _ _ by assumption), rfl⟩, ?_⟩
  | refine ⟨_, _, rfl, .inl ⟨_, lOf (by walk_at "get"), rfl⟩, ?_⟩
  | refine ⟨_, _, rfl, (show Dp _ _ _ _ by assumption), ?_⟩
  | refine ⟨_, _, rfl, (show SqT _ _ _ _ by assumption), ?_⟩
  | refine ⟨_, _, rfl, (show SqL _ _ _ _ by assumption), ?_⟩
  | refine ⟨_, _, rfl, ?_⟩
  | refine ⟨rfl, _, rfl, ?_⟩
  | refine ⟨rfl, ?_⟩
  | refine ⟨_, _, _, _, _, rfl, (by walk_at "get"), (by assumption), (by assumption), rfl, ?_⟩
  | refine ⟨_, _, _, _, _, rfl, .own _, (by assumption), (by assumption), ?_⟩
  | refine ⟨_, _, _, _, _, rfl, .ty _, (by assumption), kit_ty (by rfl), ?_⟩))
local macro_rules | `(tactic| walk_at "c") => `(tactic| (try dsimp only [L2.start, List.set, List.map, List.length, List.replicate, List.cons_append, List.nil_append, List.append, HAppend.hAppend, Append.append, Int.toNat, Nat.reduceSub, Nat.reduceAdd]))
local macro_rules | `(tactic| walk_at "T") => `(tactic| ((repeat walk_at "s"); refine iteT (by first | rfl | assumption | decide) ?_; (repeat walk_at "s")))
local macro_rules | `(tactic| walk_at "F") => `(tactic| ((repeat walk_at "s"); refine iteF (by first | rfl | assumption | decide) ?_; (repeat walk_at "s")))
local macro_rules | `(tactic| walk_at "isi") => `(tactic| ((repeat walk_at "s"); refine ⟨_, _, _, _, _, rfl, .ty _, (by assumption), kit_ty (by rfl), ?_⟩; (repeat walk_at "s")))
local macro_rules | `(tactic| walk_at "mem") => `(tactic| (first | exact List.Mem.head _ | (refine List.Mem.tail _ ?_; walk_at "mem")))
local macro_rules | `(tactic| walk_at "ext") => `(tactic| (first | exact Ex.refl | (refine Ex.new ?_ (by assumption); walk_at "ext")))
local macro_rules | `(tactic| walk_at "al") => `(tactic| ((repeat walk_at "s"); refine ⟨sz rfl, fun _ _ => ?_⟩))
local macro_rules | `(tactic| walk_at "told") => `(tactic| ((repeat walk_at "s"); refine ⟨_, _, _, _, rfl, .own _, (show ErY.Held _ _ _ by assumption), HeZ.isB_ok (by assumption) (by first | (unfold is_TooMany; walk_at "mem"; done) | (unfold is_BadOrder; walk_at "mem"; done) | (unfold is_BadLevel; walk_at "mem"; done)), ?_⟩; (repeat walk_at "s")))
section
variable {w : World} {K : PySem.W.Frag} {mg : Str → Option Value} {base : Heap}
abbrev fTM : List (Str × V) := [("limit_name", .str "places"), ("limit", .int 60)]
abbrev fBO (f : Str) : List (Str × V) := [("order_fault", .str f)]
abbrev fBL (k : Nat) : List (Str × V) := [("level_at", .int (k : Nat))]
def spTold (K : PySem.W.Frag) (p : Addr × Obj) : Sp := fun vs H Q _ => ∃ (dd : Addr), vs = [.ref p.1] ∧ (∃ vs, p.2.data = .fields vs) ∧
  ((Zc (.ref (TM K)) (some dd) p.2 ∧ H dd = some (.xd fTM) ∧ ∀ r H', Ex H H' → H r = none → SqT K H' r [.str "TooMany", .str "places", .int 60] → Q (.ref r) H') ∨
   (∃ f : Str, Zc (.ref (BO K)) (some dd) p.2 ∧ H dd = some (.xd (fBO f)) ∧ ∀ r H', Ex H H' → H r = none → SqT K H' r [.str "BadOrder", .str f] → Q (.ref r) H') ∨
   ∃ k : Nat, Zc (.ref (BL K)) (some dd) p.2 ∧ H dd = some (.xd (fBL k)) ∧ ∀ r H', Ex H H' → H r = none → SqT K H' r [.str "BadLevel", .int (k : Nat)] → Q (.ref r) H')
theorem sc_l_told : FnScope ["e", "sorts", "one"] ["e"] (defScope s_l_told) := ⟨rfl, rfl, rfl, by decide +kernel, rfl, by decide +kernel, by decide +kernel⟩
theorem d_l_told (T : Tx K mg) : ∃ fd, ErY.FnT PP w K mg base 2 (He.ga K "_law_told") fd (spTold K) := by
  obtain ⟨fd, F⟩ := T.d 26
  refine ⟨fd, ErY.fn_ofT F (FunD.bindsN F (fun _ _ _ _ _ _ us hl => match us, hl with | [_], _ => rfl)) sc_l_told (fun p => by walk_at "len") (fun cdv A outer s H vs Q p hot hr h => ?_)⟩
  obtain ⟨dd, rfl, dat, hh⟩ := h
  rcases hh with ⟨zc, hd, k⟩ | ⟨ff, zc, hd, k⟩ | ⟨kk, zc, hd, k⟩
  · obtain ⟨⟨eC, isb, ive⟩, _, _⟩ := T.ex
    have pin : ErY.Pin (cxH CX0 PP w K mg base ["e", "sorts", "one"] fd26.qual fd26.scope (He.ga K "_law_told") cdv A outer s H (fun _ _ _ => False) p) p (TM K) (some dd) := ⟨List.Mem.head _, zc, dat⟩
    have hc : HotC (cxH CX0 PP w K mg base ["e", "sorts", "one"] fd26.qual fd26.scope (He.ga K "_law_told") cdv A outer s H (fun _ _ _ => False) p) := ⟨p, hot, List.Mem.head _⟩
    have held : ErY.Held H (some dd) fTM := .inr ⟨dd, rfl, hd⟩
    refine ⟨_, (pss_cons (ps_set (i := 1) sc_l_told.nd rfl (.inl rfl) (pe_lst (pa_cons (pe_callB (ErY.call_isP eC pin) (by rfl) (T.f 71) (by decide +kernel) (pa_cons (pv 0) (pa_cons (pe_glob (v := .ref (He.ga K "BadWeb")) rfl (T.g 35) rfl) pa_nil))) (pa_cons (pe_callB (ErY.call_isP eC pin) (by rfl) (T.f 71) (by decide +kernel) (pa_cons (pv 0) (pa_cons (pe_glob (v := .ref (He.ga K "BadName")) rfl (T.g 36) rfl) pa_nil))) (pa_cons (pe_callB (ErY.call_isP eC pin) (by rfl) (T.f 71) (by decide +kernel) (pa_cons (pv 0) (pa_cons (pe_glob (v := .ref (He.ga K "BadRow")) rfl (T.g 37) rfl) pa_nil))) (pa_cons (pe_callB (ErY.call_isP eC pin) (by rfl) (T.f 71) (by decide +kernel) (pa_cons (pv 0) (pa_cons (pe_glob (v := .ref (He.ga K "BadWord")) rfl (T.g 38) rfl) pa_nil))) (pa_cons (pe_callB (ErY.call_isP eC pin) (by rfl) (T.f 71) (by decide +kernel) (pa_cons (pv 0) (pa_cons (pe_glob (v := .ref (He.ga K "BadFit")) rfl (T.g 39) rfl) pa_nil))) (pa_cons (pe_callB (ErY.call_isP eC pin) (by rfl) (T.f 71) (by decide +kernel) (pa_cons (pv 0) (pa_cons (pe_glob (v := .ref (He.ga K "BadPlace")) rfl (T.g 40) rfl) pa_nil))) (pa_cons (pe_callB (ErY.call_isP eC pin) (by rfl) (T.f 71) (by decide +kernel) (pa_cons (pv 0) (pa_cons (pe_glob (v := .ref (He.ga K "BadGap")) rfl (T.g 41) rfl) pa_nil))) (pa_cons (pe_callB (ErY.call_isP eC pin) (by rfl) (T.f 71) (by decide +kernel) (pa_cons (pv 0) (pa_cons (pe_glob (v := .ref (He.ga K "BadRank")) rfl (T.g 42) rfl) pa_nil))) (pa_cons (pe_callB (ErY.call_isP eC pin) (by rfl) (T.f 71) (by decide +kernel) (pa_cons (pv 0) (pa_cons (pe_glob (v := .ref (He.ga K "BadNumber")) rfl (T.g 43) rfl) pa_nil))) (pa_cons (pe_callB (ErY.call_isP eC pin) (by rfl) (T.f 71) (by decide +kernel) (pa_cons (pv 0) (pa_cons (pe_glob (v := .ref (He.ga K "BadText")) rfl (T.g 44) rfl) pa_nil))) (pa_cons (pe_callB (ErY.call_isP eC pin) (by rfl) (T.f 71) (by decide +kernel) (pa_cons (pv 0) (pa_cons (pe_glob (v := .ref (He.ga K "BadRule")) rfl (T.g 45) rfl) pa_nil))) (pa_cons (pe_callB (ErY.call_isP eC pin) (by rfl) (T.f 71) (by decide +kernel) (pa_cons (pv 0) (pa_cons (pe_glob (v := .ref (He.ga K "TooMany")) rfl (T.g 46) rfl) pa_nil))) (pa_cons (pe_callB (ErY.call_isP eC pin) (by rfl) (T.f 71) (by decide +kernel) (pa_cons (pv 0) (pa_cons (pe_glob (v := .ref (He.ga K "BadMachine")) rfl (T.g 47) rfl) pa_nil))) (pa_cons (pe_callB (ErY.call_isP eC pin) (by rfl) (T.f 71) (by decide +kernel) (pa_cons (pv 0) (pa_cons (pe_glob (v := .ref (He.ga K "UnlikeEnds")) rfl (T.g 48) rfl) pa_nil))) (pa_cons (pe_callB (ErY.call_isP eC pin) (by rfl) (T.f 71) (by decide +kernel) (pa_cons (pv 0) (pa_cons (pe_glob (v := .ref (He.ga K "NotClosed")) rfl (T.g 49) rfl) pa_nil))) (pa_cons (pe_callB (ErY.call_isP eC pin) (by rfl) (T.f 71) (by decide +kernel) (pa_cons (pv 0) (pa_cons (pe_glob (v := .ref (He.ga K "NotGood")) rfl (T.g 50) rfl) pa_nil))) (pa_cons (pe_callB (ErY.call_isP eC pin) (by rfl) (T.f 71) (by decide +kernel) (pa_cons (pv 0) (pa_cons (pe_glob (v := .ref (He.ga K "Round")) rfl (T.g 51) rfl) pa_nil))) (pa_cons (pe_callB (ErY.call_isP eC pin) (by rfl) (T.f 71) (by decide +kernel) (pa_cons (pv 0) (pa_cons (pe_glob (v := .ref (He.ga K "MissingWord")) rfl (T.g 52) rfl) pa_nil))) (pa_cons (pe_callB (ErY.call_isP eC pin) (by rfl) (T.f 71) (by decide +kernel) (pa_cons (pv 0) (pa_cons (pe_glob (v := .ref (He.ga K "Unstable")) rfl (T.g 53) rfl) pa_nil))) (pa_cons (pe_callB (ErY.call_isP eC pin) (by rfl) (T.f 71) (by decide +kernel) (pa_cons (pv 0) (pa_cons (pe_glob (v := .ref (He.ga K "BadOrder")) rfl (T.g 54) rfl) pa_nil))) (pa_cons (pe_callB (ErY.call_isP eC pin) (by rfl) (T.f 71) (by decide +kernel) (pa_cons (pv 0) (pa_cons (pe_glob (v := .ref (He.ga K "BadPattern")) rfl (T.g 55) rfl) pa_nil))) (pa_cons (pe_callB (ErY.call_isP eC pin) (by rfl) (T.f 71) (by decide +kernel) (pa_cons (pv 0) (pa_cons (pe_glob (v := .ref (He.ga K "NotNested")) rfl (T.g 56) rfl) pa_nil))) (pa_cons (pe_callB (ErY.call_isP eC pin) (by rfl) (T.f 71) (by decide +kernel) (pa_cons (pv 0) (pa_cons (pe_glob (v := .ref (He.ga K "BadPieces")) rfl (T.g 57) rfl) pa_nil))) (pa_cons (pe_callB (ErY.call_isP eC pin) (by rfl) (T.f 71) (by decide +kernel) (pa_cons (pv 0) (pa_cons (pe_glob (v := .ref (He.ga K "BadEdit")) rfl (T.g 58) rfl) pa_nil))) (pa_cons (pe_callB (ErY.call_isP eC pin) (by rfl) (T.f 71) (by decide +kernel) (pa_cons (pv 0) (pa_cons (pe_glob (v := .ref (He.ga K "NotPlain")) rfl (T.g 59) rfl) pa_nil))) (pa_cons (pe_callB (ErY.call_isP eC pin) (by rfl) (T.f 71) (by decide +kernel) (pa_cons (pv 0) (pa_cons (pe_glob (v := .ref (He.ga K "NotStrict")) rfl (T.g 60) rfl) pa_nil))) (pa_cons (pe_callB (ErY.call_isP eC pin) (by rfl) (T.f 71) (by decide +kernel) (pa_cons (pv 0) (pa_cons (pe_glob (v := .ref (He.ga K "BadLevel")) rfl (T.g 61) rfl) pa_nil))) (pa_cons (pe_callB (ErY.call_isP eC pin) (by rfl) (T.f 71) (by decide +kernel) (pa_cons (pv 0) (pa_cons (pe_glob (v := .ref (He.ga K "NeedsBlanks")) rfl (T.g 62) rfl) pa_nil))) (pa_cons (pe_callB (ErY.call_isP eC pin) (by rfl) (T.f 71) (by decide +kernel) (pa_cons (pv 0) (pa_cons (pe_glob (v := .ref (He.ga K "BadWish")) rfl (T.g 63) rfl) pa_nil))) (pa_cons (pe_callB (ErY.call_isP eC pin) (by rfl) (T.f 71) (by decide +kernel) (pa_cons (pv 0) (pa_cons (pe_glob (v := .ref (He.ga K "BadBreak")) rfl (T.g 64) rfl) pa_nil))) (pa_cons (pe_callB (ErY.call_isP eC pin) (by rfl) (T.f 71) (by decide +kernel) (pa_cons (pv 0) (pa_cons (pe_glob (v := .ref (He.ga K "BadDesk")) rfl (T.g 65) rfl) pa_nil))) pa_nil)))))))))))))))))))))))))))))))))
      (pss_cons (ps_if (PW.pt (pw_or (pt_cmpR op_ne (pe_callB call_len (by rfl) (T.f 72) boot_len (pa_cons (ErY.pe_sieve (i := 1) hc rfl rfl) pa_nil)) pe_int (nomark _)) (pw_or1 (pt_not (pt_truth (pe_callB (ErY.call_isP eC pin) (by rfl) (T.f 71) (by decide +kernel) (pa_cons (pv 0) (pa_cons (pe_bltn (v := .ty "ValueError") (by rfl) (T.f 66) (by decide +kernel) rfl) pa_nil))) (by intro _; rfl)))))) (pss_one (ps_ret (pe_tup (pa_cons pe_str pa_nil)))) pss_nil)
      (pss_cons (ps_if (pt_truth (pe_callB (ErY.call_isP eC pin) (by rfl) (T.f 71) (by decide +kernel) (pa_cons (pv 0) (pa_cons (pe_glob (v := .ref (He.ga K "TooMany")) rfl (T.g 46) rfl) pa_nil))) (by intro _; rfl)) (pss_one (ps_ret (pe_tup (pa_cons pe_str (pa_cons (ErY.pe_pf eC pin (pv 0)) (pa_cons (ErY.pe_pf eC pin (pv 0)) pa_nil)))))) pss_nil)
      (pss_cons (ps_if (pt_truth (pe_callB (ErY.call_isP eC pin) (by rfl) (T.f 71) (by decide +kernel) (pa_cons (pv 0) (pa_cons (pe_glob (v := .ref (He.ga K "BadLevel")) rfl (T.g 61) rfl) pa_nil))) (by intro _; rfl)) (pss_one (ps_ret (pe_tup (pa_cons pe_str (pa_cons (ErY.pe_pf eC pin (pv 0)) pa_nil))))) pss_nil)
      (pss_cons (ps_if (pt_truth (pe_callB (ErY.call_isP eC pin) (by rfl) (T.f 71) (by decide +kernel) (pa_cons (pv 0) (pa_cons (pe_glob (v := .ref (He.ga K "BadOrder")) rfl (T.g 54) rfl) pa_nil))) (by intro _; rfl)) (pss_one (ps_ret (pe_tup (pa_cons pe_str (pa_cons (ErY.pe_pf eC pin (pv 0)) pa_nil))))) pss_nil)
      (pss_one (ps_ret (pe_tup (pa_cons pe_str pa_nil))))))))), ?_⟩
    repeat walk_at "told"
    refine ⟨sz rfl, fun q hq => ?_⟩
    have e1 : Ex H (upd H q (.lst [V.bl false, V.bl false, V.bl false, V.bl false, V.bl false, V.bl false, V.bl false, V.bl false, V.bl false, V.bl false, V.bl false, V.bl true, V.bl false, V.bl false, V.bl false, V.bl false, V.bl false, V.bl false, V.bl false, V.bl false, V.bl false, V.bl false, V.bl false, V.bl false, V.bl false, V.bl false, V.bl false, V.bl false, V.bl false, V.bl false, V.bl false])) := Ex.refl.at hq
    refine ⟨q, is_TooMany.dropLast.map (·.2), rfl, lOf upd_same, fun D hD => ?_⟩
    have e2 := e1.trans (Ex.refl.at (o := .lst (((is_TooMany.dropLast.map (·.2)).filter id).map V.bl)) hD)
    have hd2 := e2 _ _ hd
    have q2 : upd (upd H q (.lst [V.bl false, V.bl false, V.bl false, V.bl false, V.bl false, V.bl false, V.bl false, V.bl false, V.bl false, V.bl false, V.bl false, V.bl true, V.bl false, V.bl false, V.bl false, V.bl false, V.bl false, V.bl false, V.bl false, V.bl false, V.bl false, V.bl false, V.bl false, V.bl false, V.bl false, V.bl false, V.bl false, V.bl false, V.bl false, V.bl false, V.bl false])) D (.lst (((is_TooMany.dropLast.map (·.2)).filter id).map V.bl)) D = some (.lst [V.bl true]) := upd_same
    generalize upd (upd H q (.lst [V.bl false, V.bl false, V.bl false, V.bl false, V.bl false, V.bl false, V.bl false, V.bl false, V.bl false, V.bl false, V.bl false, V.bl true, V.bl false, V.bl false, V.bl false, V.bl false, V.bl false, V.bl false, V.bl false, V.bl false, V.bl false, V.bl false, V.bl false, V.bl false, V.bl false, V.bl false, V.bl false, V.bl false, V.bl false, V.bl false, V.bl false])) D (.lst (((is_TooMany.dropLast.map (·.2)).filter id).map V.bl)) = H2 at e2 hd2 q2
    have held2 : ErY.Held H2 (some dd) fTM := .inr ⟨dd, rfl, hd2⟩
    repeat walk_at "s"
    refine ⟨_, _, true, _, rfl, .ty _, held2, ive, ?_⟩
    repeat walk_at "s"
    repeat walk_at "told"
    refine ⟨T.e_TooMany.nx _ (by walk_at "mem"), dd, _, _, rfl, hd2, rfl, ?_⟩
    repeat walk_at "s"
    refine ⟨T.e_TooMany.nx _ (by walk_at "mem"), dd, _, _, rfl, hd2, rfl, ?_⟩
    refine ⟨sz rfl, fun r hr => ?_⟩
    exact k r _ (e2.trans (Ex.refl.at hr)) (e2.none hr) (tOf upd_same)
  · obtain ⟨_, ⟨eC, isb, ive⟩, _⟩ := T.ex
    have pin : ErY.Pin (cxH CX0 PP w K mg base ["e", "sorts", "one"] fd26.qual fd26.scope (He.ga K "_law_told") cdv A outer s H (fun _ _ _ => False) p) p (BO K) (some dd) := ⟨List.Mem.head _, zc, dat⟩
    have hc : HotC (cxH CX0 PP w K mg base ["e", "sorts", "one"] fd26.qual fd26.scope (He.ga K "_law_told") cdv A outer s H (fun _ _ _ => False) p) := ⟨p, hot, List.Mem.head _⟩
    have held : ErY.Held H (some dd) (fBO ff) := .inr ⟨dd, rfl, hd⟩
    refine ⟨_, (pss_cons (ps_set (i := 1) sc_l_told.nd rfl (.inl rfl) (pe_lst (pa_cons (pe_callB (ErY.call_isP eC pin) (by rfl) (T.f 71) (by decide +kernel) (pa_cons (pv 0) (pa_cons (pe_glob (v := .ref (He.ga K "BadWeb")) rfl (T.g 35) rfl) pa_nil))) (pa_cons (pe_callB (ErY.call_isP eC pin) (by rfl) (T.f 71) (by decide +kernel) (pa_cons (pv 0) (pa_cons (pe_glob (v := .ref (He.ga K "BadName")) rfl (T.g 36) rfl) pa_nil))) (pa_cons (pe_callB (ErY.call_isP eC pin) (by rfl) (T.f 71) (by decide +kernel) (pa_cons (pv 0) (pa_cons (pe_glob (v := .ref (He.ga K "BadRow")) rfl (T.g 37) rfl) pa_nil))) (pa_cons (pe_callB (ErY.call_isP eC pin) (by rfl) (T.f 71) (by decide +kernel) (pa_cons (pv 0) (pa_cons (pe_glob (v := .ref (He.ga K "BadWord")) rfl (T.g 38) rfl) pa_nil))) (pa_cons (pe_callB (ErY.call_isP eC pin) (by rfl) (T.f 71) (by decide +kernel) (pa_cons (pv 0) (pa_cons (pe_glob (v := .ref (He.ga K "BadFit")) rfl (T.g 39) rfl) pa_nil))) (pa_cons (pe_callB (ErY.call_isP eC pin) (by rfl) (T.f 71) (by decide +kernel) (pa_cons (pv 0) (pa_cons (pe_glob (v := .ref (He.ga K "BadPlace")) rfl (T.g 40) rfl) pa_nil))) (pa_cons (pe_callB (ErY.call_isP eC pin) (by rfl) (T.f 71) (by decide +kernel) (pa_cons (pv 0) (pa_cons (pe_glob (v := .ref (He.ga K "BadGap")) rfl (T.g 41) rfl) pa_nil))) (pa_cons (pe_callB (ErY.call_isP eC pin) (by rfl) (T.f 71) (by decide +kernel) (pa_cons (pv 0) (pa_cons (pe_glob (v := .ref (He.ga K "BadRank")) rfl (T.g 42) rfl) pa_nil))) (pa_cons (pe_callB (ErY.call_isP eC pin) (by rfl) (T.f 71) (by decide +kernel) (pa_cons (pv 0) (pa_cons (pe_glob (v := .ref (He.ga K "BadNumber")) rfl (T.g 43) rfl) pa_nil))) (pa_cons (pe_callB (ErY.call_isP eC pin) (by rfl) (T.f 71) (by decide +kernel) (pa_cons (pv 0) (pa_cons (pe_glob (v := .ref (He.ga K "BadText")) rfl (T.g 44) rfl) pa_nil))) (pa_cons (pe_callB (ErY.call_isP eC pin) (by rfl) (T.f 71) (by decide +kernel) (pa_cons (pv 0) (pa_cons (pe_glob (v := .ref (He.ga K "BadRule")) rfl (T.g 45) rfl) pa_nil))) (pa_cons (pe_callB (ErY.call_isP eC pin) (by rfl) (T.f 71) (by decide +kernel) (pa_cons (pv 0) (pa_cons (pe_glob (v := .ref (He.ga K "TooMany")) rfl (T.g 46) rfl) pa_nil))) (pa_cons (pe_callB (ErY.call_isP eC pin) (by rfl) (T.f 71) (by decide +kernel) (pa_cons (pv 0) (pa_cons (pe_glob (v := .ref (He.ga K "BadMachine")) rfl (T.g 47) rfl) pa_nil))) (pa_cons (pe_callB (ErY.call_isP eC pin) (by rfl) (T.f 71) (by decide +kernel) (pa_cons (pv 0) (pa_cons (pe_glob (v := .ref (He.ga K "UnlikeEnds")) rfl (T.g 48) rfl) pa_nil))) (pa_cons (pe_callB (ErY.call_isP eC pin) (by rfl) (T.f 71) (by decide +kernel) (pa_cons (pv 0) (pa_cons (pe_glob (v := .ref (He.ga K "NotClosed")) rfl (T.g 49) rfl) pa_nil))) (pa_cons (pe_callB (ErY.call_isP eC pin) (by rfl) (T.f 71) (by decide +kernel) (pa_cons (pv 0) (pa_cons (pe_glob (v := .ref (He.ga K "NotGood")) rfl (T.g 50) rfl) pa_nil))) (pa_cons (pe_callB (ErY.call_isP eC pin) (by rfl) (T.f 71) (by decide +kernel) (pa_cons (pv 0) (pa_cons (pe_glob (v := .ref (He.ga K "Round")) rfl (T.g 51) rfl) pa_nil))) (pa_cons (pe_callB (ErY.call_isP eC pin) (by rfl) (T.f 71) (by decide +kernel) (pa_cons (pv 0) (pa_cons (pe_glob (v := .ref (He.ga K "MissingWord")) rfl (T.g 52) rfl) pa_nil))) (pa_cons (pe_callB (ErY.call_isP eC pin) (by rfl) (T.f 71) (by decide +kernel) (pa_cons (pv 0) (pa_cons (pe_glob (v := .ref (He.ga K "Unstable")) rfl (T.g 53) rfl) pa_nil))) (pa_cons (pe_callB (ErY.call_isP eC pin) (by rfl) (T.f 71) (by decide +kernel) (pa_cons (pv 0) (pa_cons (pe_glob (v := .ref (He.ga K "BadOrder")) rfl (T.g 54) rfl) pa_nil))) (pa_cons (pe_callB (ErY.call_isP eC pin) (by rfl) (T.f 71) (by decide +kernel) (pa_cons (pv 0) (pa_cons (pe_glob (v := .ref (He.ga K "BadPattern")) rfl (T.g 55) rfl) pa_nil))) (pa_cons (pe_callB (ErY.call_isP eC pin) (by rfl) (T.f 71) (by decide +kernel) (pa_cons (pv 0) (pa_cons (pe_glob (v := .ref (He.ga K "NotNested")) rfl (T.g 56) rfl) pa_nil))) (pa_cons (pe_callB (ErY.call_isP eC pin) (by rfl) (T.f 71) (by decide +kernel) (pa_cons (pv 0) (pa_cons (pe_glob (v := .ref (He.ga K "BadPieces")) rfl (T.g 57) rfl) pa_nil))) (pa_cons (pe_callB (ErY.call_isP eC pin) (by rfl) (T.f 71) (by decide +kernel) (pa_cons (pv 0) (pa_cons (pe_glob (v := .ref (He.ga K "BadEdit")) rfl (T.g 58) rfl) pa_nil))) (pa_cons (pe_callB (ErY.call_isP eC pin) (by rfl) (T.f 71) (by decide +kernel) (pa_cons (pv 0) (pa_cons (pe_glob (v := .ref (He.ga K "NotPlain")) rfl (T.g 59) rfl) pa_nil))) (pa_cons (pe_callB (ErY.call_isP eC pin) (by rfl) (T.f 71) (by decide +kernel) (pa_cons (pv 0) (pa_cons (pe_glob (v := .ref (He.ga K "NotStrict")) rfl (T.g 60) rfl) pa_nil))) (pa_cons (pe_callB (ErY.call_isP eC pin) (by rfl) (T.f 71) (by decide +kernel) (pa_cons (pv 0) (pa_cons (pe_glob (v := .ref (He.ga K "BadLevel")) rfl (T.g 61) rfl) pa_nil))) (pa_cons (pe_callB (ErY.call_isP eC pin) (by rfl) (T.f 71) (by decide +kernel) (pa_cons (pv 0) (pa_cons (pe_glob (v := .ref (He.ga K "NeedsBlanks")) rfl (T.g 62) rfl) pa_nil))) (pa_cons (pe_callB (ErY.call_isP eC pin) (by rfl) (T.f 71) (by decide +kernel) (pa_cons (pv 0) (pa_cons (pe_glob (v := .ref (He.ga K "BadWish")) rfl (T.g 63) rfl) pa_nil))) (pa_cons (pe_callB (ErY.call_isP eC pin) (by rfl) (T.f 71) (by decide +kernel) (pa_cons (pv 0) (pa_cons (pe_glob (v := .ref (He.ga K "BadBreak")) rfl (T.g 64) rfl) pa_nil))) (pa_cons (pe_callB (ErY.call_isP eC pin) (by rfl) (T.f 71) (by decide +kernel) (pa_cons (pv 0) (pa_cons (pe_glob (v := .ref (He.ga K "BadDesk")) rfl (T.g 65) rfl) pa_nil))) pa_nil)))))))))))))))))))))))))))))))))
      (pss_cons (ps_if (PW.pt (pw_or (pt_cmpR op_ne (pe_callB call_len (by rfl) (T.f 72) boot_len (pa_cons (ErY.pe_sieve (i := 1) hc rfl rfl) pa_nil)) pe_int (nomark _)) (pw_or1 (pt_not (pt_truth (pe_callB (ErY.call_isP eC pin) (by rfl) (T.f 71) (by decide +kernel) (pa_cons (pv 0) (pa_cons (pe_bltn (v := .ty "ValueError") (by rfl) (T.f 66) (by decide +kernel) rfl) pa_nil))) (by intro _; rfl)))))) (pss_one (ps_ret (pe_tup (pa_cons pe_str pa_nil)))) pss_nil)
      (pss_cons (ps_if (pt_truth (pe_callB (ErY.call_isP eC pin) (by rfl) (T.f 71) (by decide +kernel) (pa_cons (pv 0) (pa_cons (pe_glob (v := .ref (He.ga K "TooMany")) rfl (T.g 46) rfl) pa_nil))) (by intro _; rfl)) (pss_one (ps_ret (pe_tup (pa_cons pe_str (pa_cons (ErY.pe_pf eC pin (pv 0)) (pa_cons (ErY.pe_pf eC pin (pv 0)) pa_nil)))))) pss_nil)
      (pss_cons (ps_if (pt_truth (pe_callB (ErY.call_isP eC pin) (by rfl) (T.f 71) (by decide +kernel) (pa_cons (pv 0) (pa_cons (pe_glob (v := .ref (He.ga K "BadLevel")) rfl (T.g 61) rfl) pa_nil))) (by intro _; rfl)) (pss_one (ps_ret (pe_tup (pa_cons pe_str (pa_cons (ErY.pe_pf eC pin (pv 0)) pa_nil))))) pss_nil)
      (pss_cons (ps_if (pt_truth (pe_callB (ErY.call_isP eC pin) (by rfl) (T.f 71) (by decide +kernel) (pa_cons (pv 0) (pa_cons (pe_glob (v := .ref (He.ga K "BadOrder")) rfl (T.g 54) rfl) pa_nil))) (by intro _; rfl)) (pss_one (ps_ret (pe_tup (pa_cons pe_str (pa_cons (ErY.pe_pf eC pin (pv 0)) pa_nil))))) pss_nil)
      (pss_one (ps_ret (pe_tup (pa_cons pe_str pa_nil))))))))), ?_⟩
    repeat walk_at "told"
    refine ⟨sz rfl, fun q hq => ?_⟩
    have e1 : Ex H (upd H q (.lst [V.bl false, V.bl false, V.bl false, V.bl false, V.bl false, V.bl false, V.bl false, V.bl false, V.bl false, V.bl false, V.bl false, V.bl false, V.bl false, V.bl false, V.bl false, V.bl false, V.bl false, V.bl false, V.bl false, V.bl true, V.bl false, V.bl false, V.bl false, V.bl false, V.bl false, V.bl false, V.bl false, V.bl false, V.bl false, V.bl false, V.bl false])) := Ex.refl.at hq
    refine ⟨q, is_BadOrder.dropLast.map (·.2), rfl, lOf upd_same, fun D hD => ?_⟩
    have e2 := e1.trans (Ex.refl.at (o := .lst (((is_BadOrder.dropLast.map (·.2)).filter id).map V.bl)) hD)
    have hd2 := e2 _ _ hd
    have q2 : upd (upd H q (.lst [V.bl false, V.bl false, V.bl false, V.bl false, V.bl false, V.bl false, V.bl false, V.bl false, V.bl false, V.bl false, V.bl false, V.bl false, V.bl false, V.bl false, V.bl false, V.bl false, V.bl false, V.bl false, V.bl false, V.bl true, V.bl false, V.bl false, V.bl false, V.bl false, V.bl false, V.bl false, V.bl false, V.bl false, V.bl false, V.bl false, V.bl false])) D (.lst (((is_BadOrder.dropLast.map (·.2)).filter id).map V.bl)) D = some (.lst [V.bl true]) := upd_same
    generalize upd (upd H q (.lst [V.bl false, V.bl false, V.bl false, V.bl false, V.bl false, V.bl false, V.bl false, V.bl false, V.bl false, V.bl false, V.bl false, V.bl false, V.bl false, V.bl false, V.bl false, V.bl false, V.bl false, V.bl false, V.bl false, V.bl true, V.bl false, V.bl false, V.bl false, V.bl false, V.bl false, V.bl false, V.bl false, V.bl false, V.bl false, V.bl false, V.bl false])) D (.lst (((is_BadOrder.dropLast.map (·.2)).filter id).map V.bl)) = H2 at e2 hd2 q2
    have held2 : ErY.Held H2 (some dd) (fBO ff) := .inr ⟨dd, rfl, hd2⟩
    repeat walk_at "s"
    refine ⟨_, _, true, _, rfl, .ty _, held2, ive, ?_⟩
    repeat walk_at "s"
    repeat walk_at "told"
    refine ⟨T.e_BadOrder.nx _ (by walk_at "mem"), dd, _, _, rfl, hd2, rfl, ?_⟩
    refine ⟨sz rfl, fun r hr => ?_⟩
    exact k r _ (e2.trans (Ex.refl.at hr)) (e2.none hr) (tOf upd_same)
  · obtain ⟨_, _, eC, isb, ive⟩ := T.ex
    have pin : ErY.Pin (cxH CX0 PP w K mg base ["e", "sorts", "one"] fd26.qual fd26.scope (He.ga K "_law_told") cdv A outer s H (fun _ _ _ => False) p) p (BL K) (some dd) := ⟨List.Mem.head _, zc, dat⟩
    have hc : HotC (cxH CX0 PP w K mg base ["e", "sorts", "one"] fd26.qual fd26.scope (He.ga K "_law_told") cdv A outer s H (fun _ _ _ => False) p) := ⟨p, hot, List.Mem.head _⟩
    have held : ErY.Held H (some dd) (fBL kk) := .inr ⟨dd, rfl, hd⟩
    refine ⟨_, (pss_cons (ps_set (i := 1) sc_l_told.nd rfl (.inl rfl) (pe_lst (pa_cons (pe_callB (ErY.call_isP eC pin) (by rfl) (T.f 71) (by decide +kernel) (pa_cons (pv 0) (pa_cons (pe_glob (v := .ref (He.ga K "BadWeb")) rfl (T.g 35) rfl) pa_nil))) (pa_cons (pe_callB (ErY.call_isP eC pin) (by rfl) (T.f 71) (by decide +kernel) (pa_cons (pv 0) (pa_cons (pe_glob (v := .ref (He.ga K "BadName")) rfl (T.g 36) rfl) pa_nil))) (pa_cons (pe_callB (ErY.call_isP eC pin) (by rfl) (T.f 71) (by decide +kernel) (pa_cons (pv 0) (pa_cons (pe_glob (v := .ref (He.ga K "BadRow")) rfl (T.g 37) rfl) pa_nil))) (pa_cons (pe_callB (ErY.call_isP eC pin) (by rfl) (T.f 71) (by decide +kernel) (pa_cons (pv 0) (pa_cons (pe_glob (v := .ref (He.ga K "BadWord")) rfl (T.g 38) rfl) pa_nil))) (pa_cons (pe_callB (ErY.call_isP eC pin) (by rfl) (T.f 71) (by decide +kernel) (pa_cons (pv 0) (pa_cons (pe_glob (v := .ref (He.ga K "BadFit")) rfl (T.g 39) rfl) pa_nil))) (pa_cons (pe_callB (ErY.call_isP eC pin) (by rfl) (T.f 71) (by decide +kernel) (pa_cons (pv 0) (pa_cons (pe_glob (v := .ref (He.ga K "BadPlace")) rfl (T.g 40) rfl) pa_nil))) (pa_cons (pe_callB (ErY.call_isP eC pin) (by rfl) (T.f 71) (by decide +kernel) (pa_cons (pv 0) (pa_cons (pe_glob (v := .ref (He.ga K "BadGap")) rfl (T.g 41) rfl) pa_nil))) (pa_cons (pe_callB (ErY.call_isP eC pin) (by rfl) (T.f 71) (by decide +kernel) (pa_cons (pv 0) (pa_cons (pe_glob (v := .ref (He.ga K "BadRank")) rfl (T.g 42) rfl) pa_nil))) (pa_cons (pe_callB (ErY.call_isP eC pin) (by rfl) (T.f 71) (by decide +kernel) (pa_cons (pv 0) (pa_cons (pe_glob (v := .ref (He.ga K "BadNumber")) rfl (T.g 43) rfl) pa_nil))) (pa_cons (pe_callB (ErY.call_isP eC pin) (by rfl) (T.f 71) (by decide +kernel) (pa_cons (pv 0) (pa_cons (pe_glob (v := .ref (He.ga K "BadText")) rfl (T.g 44) rfl) pa_nil))) (pa_cons (pe_callB (ErY.call_isP eC pin) (by rfl) (T.f 71) (by decide +kernel) (pa_cons (pv 0) (pa_cons (pe_glob (v := .ref (He.ga K "BadRule")) rfl (T.g 45) rfl) pa_nil))) (pa_cons (pe_callB (ErY.call_isP eC pin) (by rfl) (T.f 71) (by decide +kernel) (pa_cons (pv 0) (pa_cons (pe_glob (v := .ref (He.ga K "TooMany")) rfl (T.g 46) rfl) pa_nil))) (pa_cons (pe_callB (ErY.call_isP eC pin) (by rfl) (T.f 71) (by decide +kernel) (pa_cons (pv 0) (pa_cons (pe_glob (v := .ref (He.ga K "BadMachine")) rfl (T.g 47) rfl) pa_nil))) (pa_cons (pe_callB (ErY.call_isP eC pin) (by rfl) (T.f 71) (by decide +kernel) (pa_cons (pv 0) (pa_cons (pe_glob (v := .ref (He.ga K "UnlikeEnds")) rfl (T.g 48) rfl) pa_nil))) (pa_cons (pe_callB (ErY.call_isP eC pin) (by rfl) (T.f 71) (by decide +kernel) (pa_cons (pv 0) (pa_cons (pe_glob (v := .ref (He.ga K "NotClosed")) rfl (T.g 49) rfl) pa_nil))) (pa_cons (pe_callB (ErY.call_isP eC pin) (by rfl) (T.f 71) (by decide +kernel) (pa_cons (pv 0) (pa_cons (pe_glob (v := .ref (He.ga K "NotGood")) rfl (T.g 50) rfl) pa_nil))) (pa_cons (pe_callB (ErY.call_isP eC pin) (by rfl) (T.f 71) (by decide +kernel) (pa_cons (pv 0) (pa_cons (pe_glob (v := .ref (He.ga K "Round")) rfl (T.g 51) rfl) pa_nil))) (pa_cons (pe_callB (ErY.call_isP eC pin) (by rfl) (T.f 71) (by decide +kernel) (pa_cons (pv 0) (pa_cons (pe_glob (v := .ref (He.ga K "MissingWord")) rfl (T.g 52) rfl) pa_nil))) (pa_cons (pe_callB (ErY.call_isP eC pin) (by rfl) (T.f 71) (by decide +kernel) (pa_cons (pv 0) (pa_cons (pe_glob (v := .ref (He.ga K "Unstable")) rfl (T.g 53) rfl) pa_nil))) (pa_cons (pe_callB (ErY.call_isP eC pin) (by rfl) (T.f 71) (by decide +kernel) (pa_cons (pv 0) (pa_cons (pe_glob (v := .ref (He.ga K "BadOrder")) rfl (T.g 54) rfl) pa_nil))) (pa_cons (pe_callB (ErY.call_isP eC pin) (by rfl) (T.f 71) (by decide +kernel) (pa_cons (pv 0) (pa_cons (pe_glob (v := .ref (He.ga K "BadPattern")) rfl (T.g 55) rfl) pa_nil))) (pa_cons (pe_callB (ErY.call_isP eC pin) (by rfl) (T.f 71) (by decide +kernel) (pa_cons (pv 0) (pa_cons (pe_glob (v := .ref (He.ga K "NotNested")) rfl (T.g 56) rfl) pa_nil))) (pa_cons (pe_callB (ErY.call_isP eC pin) (by rfl) (T.f 71) (by decide +kernel) (pa_cons (pv 0) (pa_cons (pe_glob (v := .ref (He.ga K "BadPieces")) rfl (T.g 57) rfl) pa_nil))) (pa_cons (pe_callB (ErY.call_isP eC pin) (by rfl) (T.f 71) (by decide +kernel) (pa_cons (pv 0) (pa_cons (pe_glob (v := .ref (He.ga K "BadEdit")) rfl (T.g 58) rfl) pa_nil))) (pa_cons (pe_callB (ErY.call_isP eC pin) (by rfl) (T.f 71) (by decide +kernel) (pa_cons (pv 0) (pa_cons (pe_glob (v := .ref (He.ga K "NotPlain")) rfl (T.g 59) rfl) pa_nil))) (pa_cons (pe_callB (ErY.call_isP eC pin) (by rfl) (T.f 71) (by decide +kernel) (pa_cons (pv 0) (pa_cons (pe_glob (v := .ref (He.ga K "NotStrict")) rfl (T.g 60) rfl) pa_nil))) (pa_cons (pe_callB (ErY.call_isP eC pin) (by rfl) (T.f 71) (by decide +kernel) (pa_cons (pv 0) (pa_cons (pe_glob (v := .ref (He.ga K "BadLevel")) rfl (T.g 61) rfl) pa_nil))) (pa_cons (pe_callB (ErY.call_isP eC pin) (by rfl) (T.f 71) (by decide +kernel) (pa_cons (pv 0) (pa_cons (pe_glob (v := .ref (He.ga K "NeedsBlanks")) rfl (T.g 62) rfl) pa_nil))) (pa_cons (pe_callB (ErY.call_isP eC pin) (by rfl) (T.f 71) (by decide +kernel) (pa_cons (pv 0) (pa_cons (pe_glob (v := .ref (He.ga K "BadWish")) rfl (T.g 63) rfl) pa_nil))) (pa_cons (pe_callB (ErY.call_isP eC pin) (by rfl) (T.f 71) (by decide +kernel) (pa_cons (pv 0) (pa_cons (pe_glob (v := .ref (He.ga K "BadBreak")) rfl (T.g 64) rfl) pa_nil))) (pa_cons (pe_callB (ErY.call_isP eC pin) (by rfl) (T.f 71) (by decide +kernel) (pa_cons (pv 0) (pa_cons (pe_glob (v := .ref (He.ga K "BadDesk")) rfl (T.g 65) rfl) pa_nil))) pa_nil)))))))))))))))))))))))))))))))))
      (pss_cons (ps_if (PW.pt (pw_or (pt_cmpR op_ne (pe_callB call_len (by rfl) (T.f 72) boot_len (pa_cons (ErY.pe_sieve (i := 1) hc rfl rfl) pa_nil)) pe_int (nomark _)) (pw_or1 (pt_not (pt_truth (pe_callB (ErY.call_isP eC pin) (by rfl) (T.f 71) (by decide +kernel) (pa_cons (pv 0) (pa_cons (pe_bltn (v := .ty "ValueError") (by rfl) (T.f 66) (by decide +kernel) rfl) pa_nil))) (by intro _; rfl)))))) (pss_one (ps_ret (pe_tup (pa_cons pe_str pa_nil)))) pss_nil)
      (pss_cons (ps_if (pt_truth (pe_callB (ErY.call_isP eC pin) (by rfl) (T.f 71) (by decide +kernel) (pa_cons (pv 0) (pa_cons (pe_glob (v := .ref (He.ga K "TooMany")) rfl (T.g 46) rfl) pa_nil))) (by intro _; rfl)) (pss_one (ps_ret (pe_tup (pa_cons pe_str (pa_cons (ErY.pe_pf eC pin (pv 0)) (pa_cons (ErY.pe_pf eC pin (pv 0)) pa_nil)))))) pss_nil)
      (pss_cons (ps_if (pt_truth (pe_callB (ErY.call_isP eC pin) (by rfl) (T.f 71) (by decide +kernel) (pa_cons (pv 0) (pa_cons (pe_glob (v := .ref (He.ga K "BadLevel")) rfl (T.g 61) rfl) pa_nil))) (by intro _; rfl)) (pss_one (ps_ret (pe_tup (pa_cons pe_str (pa_cons (ErY.pe_pf eC pin (pv 0)) pa_nil))))) pss_nil)
      (pss_cons (ps_if (pt_truth (pe_callB (ErY.call_isP eC pin) (by rfl) (T.f 71) (by decide +kernel) (pa_cons (pv 0) (pa_cons (pe_glob (v := .ref (He.ga K "BadOrder")) rfl (T.g 54) rfl) pa_nil))) (by intro _; rfl)) (pss_one (ps_ret (pe_tup (pa_cons pe_str (pa_cons (ErY.pe_pf eC pin (pv 0)) pa_nil))))) pss_nil)
      (pss_one (ps_ret (pe_tup (pa_cons pe_str pa_nil))))))))), ?_⟩
    repeat walk_at "told"
    refine ⟨sz rfl, fun q hq => ?_⟩
    have e1 : Ex H (upd H q (.lst [V.bl false, V.bl false, V.bl false, V.bl false, V.bl false, V.bl false, V.bl false, V.bl false, V.bl false, V.bl false, V.bl false, V.bl false, V.bl false, V.bl false, V.bl false, V.bl false, V.bl false, V.bl false, V.bl false, V.bl false, V.bl false, V.bl false, V.bl false, V.bl false, V.bl false, V.bl false, V.bl true, V.bl false, V.bl false, V.bl false, V.bl false])) := Ex.refl.at hq
    refine ⟨q, is_BadLevel.dropLast.map (·.2), rfl, lOf upd_same, fun D hD => ?_⟩
    have e2 := e1.trans (Ex.refl.at (o := .lst (((is_BadLevel.dropLast.map (·.2)).filter id).map V.bl)) hD)
    have hd2 := e2 _ _ hd
    have q2 : upd (upd H q (.lst [V.bl false, V.bl false, V.bl false, V.bl false, V.bl false, V.bl false, V.bl false, V.bl false, V.bl false, V.bl false, V.bl false, V.bl false, V.bl false, V.bl false, V.bl false, V.bl false, V.bl false, V.bl false, V.bl false, V.bl false, V.bl false, V.bl false, V.bl false, V.bl false, V.bl false, V.bl false, V.bl true, V.bl false, V.bl false, V.bl false, V.bl false])) D (.lst (((is_BadLevel.dropLast.map (·.2)).filter id).map V.bl)) D = some (.lst [V.bl true]) := upd_same
    generalize upd (upd H q (.lst [V.bl false, V.bl false, V.bl false, V.bl false, V.bl false, V.bl false, V.bl false, V.bl false, V.bl false, V.bl false, V.bl false, V.bl false, V.bl false, V.bl false, V.bl false, V.bl false, V.bl false, V.bl false, V.bl false, V.bl false, V.bl false, V.bl false, V.bl false, V.bl false, V.bl false, V.bl false, V.bl true, V.bl false, V.bl false, V.bl false, V.bl false])) D (.lst (((is_BadLevel.dropLast.map (·.2)).filter id).map V.bl)) = H2 at e2 hd2 q2
    have held2 : ErY.Held H2 (some dd) (fBL kk) := .inr ⟨dd, rfl, hd2⟩
    repeat walk_at "s"
    refine ⟨_, _, true, _, rfl, .ty _, held2, ive, ?_⟩
    repeat walk_at "s"
    repeat walk_at "told"
    refine ⟨T.e_BadLevel.nx _ (by walk_at "mem"), dd, _, _, rfl, hd2, rfl, ?_⟩
    refine ⟨sz rfl, fun r hr => ?_⟩
    exact k r _ (e2.trans (Ex.refl.at hr)) (e2.none hr) (tOf upd_same)
end
end Lw
namespace Lw
open PySem PySem.Spec PyProof.Rows L2 L2H
/-! ### the draws -/
local macro_rules | `(tactic| walk_at "len") => `(tactic| (intro vs H Q E h; first | (obtain ⟨_, e, _⟩ := h; subst e; rfl) | (obtain ⟨_, _, e, _⟩ := h; subst e; rfl) | (obtain ⟨_, _, _, e, _⟩ := h; subst e; rfl) | (obtain ⟨_, _, _, _, e, _⟩ := h; subst e; rfl) | (obtain ⟨_, _, _, _, _, e, _⟩ := h; subst e; rfl) | (obtain ⟨_, _, _, _, _, _, e, _⟩ := h; subst e; rfl) | (obtain ⟨_, _, _, _, _, _, _, e, _⟩ := h; subst e; rfl)))
local macro_rules | `(tactic| walk_at "get") => `(tactic| (first | assumption | exact upd_same | (refine look_new (by assumption) ?_; walk_at "get") | (refine look_ne (by assumption) ?_; walk_at "get")))
local macro_rules | `(tactic| walk_at "sqt") => `(tactic| (first | assumption | (apply Ex.t (Ex.refl.at (by assumption)); walk_at "sqt")))
local macro_rules | `(tactic| walk_at "s") => `(tactic| (first
  | refine ⟨_, rfl, ?_⟩
  | refine Or.inl ⟨_, rfl, ?_⟩
  | refine Or.inl ⟨_, _, _, _, rfl, rfl, lOf (by walk_at "get"), rfl, ?_⟩
  | refine Or.inl ⟨_, _, _, _, rfl, rfl, (show SqL _ _ _ _ by assumption), rfl, ?_⟩
  | refine Or.inr (Or.inl ⟨_, _, _, _, rfl, rfl, (show SqT _ _ _ _ by walk_at "sqt"), rfl, ?_⟩)
  | refine ⟨_, _, _, _, rfl, rfl, (by walk_at "get"), rfl, ?_⟩
  | refine ⟨_, _, rfl, rfl, Or.inl (Or.inr ⟨by decide, by decide⟩), ?_⟩
  | refine ⟨_, _, rfl, rfl, (by show (0 : Int) < _; first | assumption | decide), ?_⟩
  | refine ⟨_, _, rfl, rfl, ⟨by decide, by decide⟩, ?_⟩
  | refine ⟨_, _, rfl, rfl, ⟨by decide, by decide +kernel⟩, ?_⟩
  | refine ⟨_, _, rfl, rfl, (by show (0 : Int) < _; decide +kernel), ?_⟩
  | refine ⟨(show CMulA _ _ from Or.inl (Or.inl ⟨by (try dsimp only); omega, by (try dsimp only); omega⟩)), ?_⟩
  | refine ⟨_, _, rfl, rfl, ?_⟩
  | refine ⟨_, _, rfl, .inl ⟨_, (show SqL _ _ _ _ by assumption), rfl⟩, ?_⟩
  | refine ⟨_, _, rfl, .inl ⟨_, lOf (by walk_at "get"), rfl⟩, ?_⟩
  | refine ⟨_, _, rfl, (show Dp _ _ _ _ by assumption), ?_⟩
  | refine ⟨_, _, rfl, (show SqT _ _ _ _ by assumption), ?_⟩
  | refine ⟨_, _, rfl, (show SqL _ _ _ _ by assumption), ?_⟩
  | refine ⟨_, _, rfl, ?_⟩
  | refine ⟨rfl, _, rfl, ?_⟩
  | refine ⟨rfl, ?_⟩
  | refine ⟨_, _, _, _, _, rfl, (by walk_at "get"), (by assumption), (by assumption), rfl, ?_⟩
  | refine ⟨_, _, _, _, _, rfl, .own _, (by assumption), (by assumption), ?_⟩
  | refine ⟨_, _, _, _, _, rfl, .ty _, (by assumption), kit_ty (by rfl), ?_⟩))
local macro_rules | `(tactic| walk_at "c") => `(tactic| (try dsimp only [L2.start, List.set, List.map, List.length, List.replicate, List.cons_append, List.nil_append, List.append, HAppend.hAppend, Append.append, Int.toNat, Nat.reduceSub, Nat.reduceAdd]))
local macro_rules | `(tactic| walk_at "T") => `(tactic| ((repeat walk_at "s"); refine iteT (by first | rfl | assumption | decide) ?_; (repeat walk_at "s")))
local macro_rules | `(tactic| walk_at "F") => `(tactic| ((repeat walk_at "s"); refine iteF (by first | rfl | assumption | decide) ?_; (repeat walk_at "s")))
local macro_rules | `(tactic| walk_at "isi") => `(tactic| ((repeat walk_at "s"); refine ⟨_, _, _, _, _, rfl, .ty _, (by assumption), kit_ty (by rfl), ?_⟩; (repeat walk_at "s")))
local macro_rules | `(tactic| walk_at "mem") => `(tactic| (first | exact List.Mem.head _ | (refine List.Mem.tail _ ?_; walk_at "mem")))
local macro_rules | `(tactic| walk_at "ext") => `(tactic| (first | exact Ex.refl | (refine Ex.new ?_ (by assumption); walk_at "ext")))
local macro_rules | `(tactic| walk_at "al") => `(tactic| ((repeat walk_at "s"); refine ⟨sz rfl, fun _ _ => ?_⟩))
section
variable {w : World} {K : PySem.W.Frag} {mg : Str → Option Value} {base : Heap}
theorem at_hd {v : V} {xs : List V} : atI (v :: xs) 0 = some v := atI_nat (j := 0) rfl
theorem at_sd {v u : V} {xs : List V} : atI (v :: u :: xs) 1 = some u := atI_nat (j := 1) rfl
/-- no place below n, told by what stays -/
def NoP (H : Hp) (n : Nat) (v : V) : Prop := (∃ i, v = .int i ∧ (i < 0 ∨ (n : Int) ≤ i)) ∨ Odd6 v H
theorem NoP.no {H : Hp} {n : Nat} {v : V} (h : NoP H n v) : NoPl K H n v := h.imp id fun h => h.bad
def OrdS (H : Hp) (ys : List V) (ok : Prop) (bad : Str → Prop) : Prop := ∃ (k : Nat) (L : List Nat), Pls ys k ys.length L ∧
  ((k = ys.length ∧ ok) ∨ (∃ v, ys[k]? = some v ∧ NoP H ys.length v ∧ bad "place") ∨ ∃ u, ys[k]? = some (N u) ∧ u < ys.length ∧ u ∈ L ∧ bad "twice")
theorem OrdS.cs {H : Hp} {ys : List V} {ok : Prop} {bad : Str → Prop} {ok' : List Nat → Prop} {bad' : Str → Prop} (h : OrdS H ys ok bad) (h1 : ∀ L, ok → ok' L) (h2 : ∀ f, bad f → bad' f) : OrdCase K H ys ok' bad' :=
  let ⟨k, L, P, hh⟩ := h
  ⟨k, L, P, hh.imp (fun ⟨a, b⟩ => ⟨a, h1 L b⟩) (.imp (fun ⟨v, a, b, c⟩ => ⟨v, a, b.no, h2 _ c⟩) fun ⟨u, a, b, c, d⟩ => ⟨u, a, b, c, h2 _ d⟩)⟩
theorem OrdS.mono {H H' : Hp} {ys : List V} {ok ok' : Prop} {bad bad' : Str → Prop} (h : OrdS H ys ok bad) (o : ∀ v, Odd6 v H → Odd6 v H') (h1 : ok → ok') (h2 : ∀ f, bad f → bad' f) : OrdS H' ys ok' bad' :=
  let ⟨k, L, P, hh⟩ := h
  ⟨k, L, P, hh.imp (fun ⟨a, b⟩ => ⟨a, h1 b⟩) (.imp (fun ⟨v, a, b, c⟩ => ⟨v, a, b.imp id (o v), h2 _ c⟩) fun ⟨u, a, b, c, d⟩ => ⟨u, a, b, c, h2 _ d⟩)⟩
/-- what a call does: it goes well, or is refused -/
def Res (H : Hp) (form : Int) (xs : List V) (yo : Option (List V)) (ok tm : Prop) (bl : Nat → Prop) (bo : Str → Prop) : Prop :=
  (59 < xs.length ∧ tm) ∨ (xs.length ≤ 59 ∧ ∃ k, Fb H xs k ∧ bl k) ∨ ∃ gs : List Int, xs = gs.map V.int ∧ gs.length ≤ 59 ∧ Nums gs ∧
    ((form = 0 ∧ ok) ∨ (form = 1 ∧ ((gs = [] ∧ bl 0) ∨ (gs ≠ [] ∧ ok))) ∨ (form = 2 ∧ ∃ ys, yo = some ys ∧ ((ys = [] ∧ bo "missing") ∨ (ys ≠ [] ∧ OrdS H ys ok bo))))
theorem Res.mono {H H' : Hp} {form : Int} {xs : List V} {yo : Option (List V)} {ok tm ok' tm' : Prop} {bl bl' : Nat → Prop} {bo bo' : Str → Prop} (h : Res H form xs yo ok tm bl bo) (o : ∀ v, Odd6 v H → Odd6 v H')
    (h1 : ok → ok') (h2 : tm → tm') (h3 : ∀ k, bl k → bl' k) (h4 : ∀ f, bo f → bo' f) : Res H' form xs yo ok' tm' bl' bo' :=
  h.imp (fun ⟨a, b⟩ => ⟨a, h2 b⟩) (.imp (fun ⟨a, k, ⟨v, f1, f2, f3⟩, c⟩ => ⟨a, k, ⟨v, f1, f2.imp id (o v), f3⟩, h3 k c⟩) fun ⟨gs, a, b, c, d⟩ => ⟨gs, a, b, c,
    d.imp (fun ⟨e, f⟩ => ⟨e, h1 f⟩) (.imp (fun ⟨e, f⟩ => ⟨e, f.imp (fun ⟨g, i⟩ => ⟨g, h3 0 i⟩) fun ⟨g, i⟩ => ⟨g, h1 i⟩⟩) fun ⟨e, ys, f, g⟩ => ⟨e, ys, f, g.imp (fun ⟨i, j⟩ => ⟨i, h4 _ j⟩) fun ⟨i, j⟩ => ⟨i, j.mono o h1 h4⟩⟩)⟩)
/-- the things that a call is handed -/
def Ths (K : PySem.W.Frag) (H : Hp) (form : Int) (l : Addr) (xs : List V) (yo : Option (List V)) : Prop := ∃ (p : Addr) (rest : List V), SqL K H l (.ref p :: rest) ∧ H p = some (.lst xs) ∧ xs.length < 1000 ∧
  ((rest = [] ∧ yo = none ∧ (form = 0 ∨ form = 1)) ∨ ∃ q ys, rest = [.ref q] ∧ yo = some ys ∧ H q = some (.lst ys) ∧ ys.length < 1000 ∧ (form = 0 ∨ form = 1 ∨ form = 2))
def spLc (K : PySem.W.Frag) : Sp := fun vs H Q E => ∃ (form : Int) (l : Addr) (xs : List V) (yo : Option (List V)), vs = [.int form, .ref l] ∧ Ths K H form l xs yo ∧
  Res H form xs yo (∀ v H', Ex H H' → Q v H') (∀ H', Ex H H' → TellTM K E 60 H') (fun k => ∀ H', Ex H H' → TellBL K E (k : Nat) H') (fun f => ∀ H', Ex H H' → TellBO K E f H')
theorem sc_l_call : FnScope ["form", "things"] ["form", "things"] (defScope s_l_call) := ⟨rfl, rfl, rfl, by decide +kernel, rfl, by decide +kernel, by decide +kernel⟩
theorem d_l_call (T : Tx K mg) : Dn PP w K mg base (L2N.CX PP w) 7 "_law_call" ["form", "things"] (spLc K) := by
  obtain ⟨fd, F⟩ := T.d 28
  refine ⟨_, fd, T.g 28, F.kp, FunD.bindsN F (fun _ _ _ _ _ _ us hl => match us, hl with | [_, _], _ => rfl), FunD.ok F sc_l_call (by walk_at "len") (fun cdv A outer s H vs Q E hr h => ?_)⟩
  obtain ⟨form, l, xs, yo, rfl, ⟨p, rest, hl, hp, hx, hr2⟩, hh⟩ := h
  refine ⟨_, (pss_cons (ps_if (pt_cmpR op_eq (pv 0) pe_int (nomark _)) (pss_one (ps_ret (pe_dS (d_turn_levels T) tkOf (hr.mono (by decide)) rfl (pa_cons (pe_ix ix_seq (pv 1) pe_int (fun _ _ => rfl)) pa_nil)))) pss_nil)
      (pss_cons (ps_if (pt_cmpR op_eq (pv 0) pe_int (nomark _)) (pss_one (ps_ret (pe_dS (d_level_word T) tkOf (hr.mono (by decide)) rfl (pa_cons (pe_ix ix_seq (pv 1) pe_int (fun _ _ => rfl)) pa_nil)))) pss_nil)
      (pss_one (ps_ret (pe_dS (d_shows_levels T) tkOf (hr.mono (by decide)) rfl (pa_cons (pe_ix ix_seq (pv 1) pe_int (fun _ _ => rfl)) (pa_cons (pe_ix ix_seq (pv 1) pe_int (fun _ _ => rfl)) pa_nil))))))), ?_⟩
  repeat walk_at "s"
  have f3 : form = 0 ∨ form = 1 ∨ form = 2 := by
    rcases hr2 with ⟨_, _, h⟩ | ⟨_, _, _, _, _, _, h⟩
    · exact h.imp id .inl
    · exact h
  rcases f3 with rfl | rfl | rfl
  · repeat walk_at "s"
    refine .inl ⟨_, _, _, _, rfl, rfl, hl, at_hd, ?_⟩
    repeat walk_at "s"
    refine ⟨p, xs, rfl, hp, hx, ?_⟩
    rcases hh with ⟨hm, k⟩ | ⟨hm, kb, bad, k⟩ | ⟨gs, rfl, hn, good, hh⟩
    · exact .inl ⟨hm, k⟩
    · exact .inr (.inl ⟨hm, kb, bad.fb, k⟩)
    · rcases hh with ⟨_, k⟩ | ⟨e, _⟩ | ⟨e, _⟩
      · exact .inr (.inr ⟨gs, rfl, hn, good, fun L q H1 _ e _ _ => k _ _ e⟩)
      · cases e
      · cases e
  · repeat walk_at "s"
    refine .inl ⟨_, _, _, _, rfl, rfl, hl, at_hd, ?_⟩
    repeat walk_at "s"
    refine ⟨p, xs, rfl, hp, hx, ?_⟩
    rcases hh with ⟨hm, k⟩ | ⟨hm, kb, bad, k⟩ | ⟨gs, rfl, hn, good, hh⟩
    · exact .inl ⟨hm, k⟩
    · exact .inr (.inl ⟨hm, kb, .inl bad.fb, k⟩)
    · rcases hh with ⟨e, _⟩ | ⟨_, ⟨rfl, k⟩ | ⟨ne, k⟩⟩ | ⟨e, _⟩
      · cases e
      · exact .inr (.inl ⟨by decide, 0, .inr ⟨rfl, rfl⟩, k⟩)
      · exact .inr (.inr ⟨gs, rfl, hn, good, ne, fun m H1 _ _ e => k _ _ e⟩)
      · cases e
  · rcases hr2 with ⟨_, _, e | e⟩ | ⟨q, ys, rfl, rfl, hq, hy, _⟩
    · cases e
    · cases e
    repeat walk_at "s"
    refine ⟨p, xs, q, ys, rfl, hp, hq, hx, hy, ?_⟩
    rcases hh with ⟨hm, k⟩ | ⟨hm, kb, bad, k⟩ | ⟨gs, rfl, hn, good, hh⟩
    · exact .inl ⟨hm, k⟩
    · exact .inr (.inl ⟨hm, kb, bad.fb, k⟩)
    · rcases hh with ⟨e, _⟩ | ⟨e, _⟩ | ⟨_, ys2, e, hh⟩
      · cases e
      · cases e
      · cases e
        refine .inr (.inr ⟨gs, rfl, hn, good, hh.imp (fun ⟨a, b⟩ => ⟨a, b⟩) fun ⟨a, b⟩ => ⟨a, b.cs (fun O k => fun L H1 _ e => k _ _ e) fun f k => k⟩⟩)
def spFault (K : PySem.W.Frag) : Sp := fun vs H Q _ => ∃ (form : Int) (l : Addr) (xs : List V) (yo : Option (List V)), vs = [.int form, .ref l] ∧ Ths K H form l xs yo ∧
  Res H form xs yo (∀ r H', Ex H H' → H r = none → SqT K H' r [] → Q (.ref r) H') (∀ r H', Ex H H' → H r = none → SqT K H' r [.str "TooMany", .str "places", .int 60] → Q (.ref r) H')
    (fun k => ∀ r H', Ex H H' → H r = none → SqT K H' r [.str "BadLevel", .int (k : Nat)] → Q (.ref r) H') (fun f => ∀ r H', Ex H H' → H r = none → SqT K H' r [.str "BadOrder", .str f] → Q (.ref r) H')
theorem takes0 {X : Cx} : L2N.Takes X (fun _ _ _ _ => False) := fun u s' ⟨_, _, _, _, _, _, _, _, _, _, _, _, _, _, _, _, w⟩ => w.elim
theorem psOf {X : Cx} {sts : List Stmt} {t t' : TS} (imp : ∀ D σ H, t' D σ H → t D σ H) (h : PSs X sts t) : PSs X sts t' := ⟨fun pins s σ H D I q => h.run pins s σ H D I (imp _ _ _ q)⟩
theorem roomS {k : Nat} {A A' : Around} (r : Room k A) (h1 : A'.depth = A.depth) (h2 : A'.units = A.units) : RoomH k A' := ⟨by rw [h1]; exact r.dp, by rw [h2]; exact r.un⟩
theorem hotOf {A : Around} {a : Addr} {cls : Value} {d : Option Addr} {oe : Obj} (h : A.handled = some (.ref a)) (hz : L2N.Zn cls d oe) (hd : ∃ vs, oe.data = .fields vs) : Hot1 A (a, oe) :=
  let ⟨vs, hv⟩ := hd
  ⟨h, vs, hv, hz.2.2 vs hv⟩
/-- return _law_told(e), the error in slot i -/
def tTells (K : PySem.W.Frag) (i : Nat) (a : Addr) (cls : Value) (d : Option Addr) : TS := fun D σ H => ∀ oe, L2N.Zn cls d oe → (∃ vs, oe.data = .fields vs) → (tRet (ErY.tCallT (spTold K) (a, oe) (tCons (tVar i) tNil))) D σ H
theorem sc_l_fault : FnScope ["form", "things", "e"] ["form", "things"] (defScope s_l_fault) := ⟨rfl, rfl, rfl, by decide +kernel, rfl, by decide +kernel, by decide +kernel⟩
theorem d_l_fault (T : Tx K mg) : Dn PP w K mg base CX0 9 "_law_fault" ["form", "things"] (spFault K) := by
  obtain ⟨fd, F⟩ := T.d 29
  refine ⟨_, fd, T.g 29, F.kp, FunD.bindsN F (fun _ _ _ _ _ _ us hl => match us, hl with | [_, _], _ => rfl), FunD.ok F sc_l_fault (by walk_at "len") (fun cdv A outer s H vs Q E hr h => ?_)⟩
  obtain ⟨form, l, xs, yo, rfl, ths, hh⟩ := h
  obtain ⟨fdT, FT⟩ := d_l_told (w := w) (base := base) T
  obtain ⟨fdC, FC⟩ := T.d 26
  have hr2 : Room 2 _ := hr.mono (by decide)
  refine ⟨_, PSs.nox (pss_cons (L2N.ps_try_as (i := 2) (Wout := fun _ _ _ _ => False) (c := .ref (He.ga K "Bad")) rfl rfl sc_l_fault.nd rfl rfl ⟨rfl, by decide, .inl (T.g 34)⟩ takes0
    (fun W pn xe tk po => pss_one (ps_expr (pe_dS (d_l_call T) tk (hr.mono (by decide)) rfl (pa_cons (pv 0) (pa_cons (pv 1) pa_nil)))))
    (ts := tTells K 2) (fun a oe cls d pn hz hd => psOf (fun D σ H h => h oe hz hd) (pss_one (ps_ret (ErY.pe_callT FT (roomS hr2 rfl rfl) (hotOf rfl hz hd) (List.Mem.head _) rfl (T.g 26) FC.kp (pa_cons (pv 2) pa_nil))))))
    (pss_one (ps_ret (pe_tup pa_nil)))), ?_⟩
  repeat walk_at "s"
  have exT : PySem.W.exmOne K (.ref (TM K)) (.ref (He.ga K "Bad")) = some true := He.exm_ok (T.says.d.fact 84 (f := .exm "TooMany" "Bad" true))
  have exO : PySem.W.exmOne K (.ref (BO K)) (.ref (He.ga K "Bad")) = some true := He.exm_ok (T.says.d.fact 85 (f := .exm "BadOrder" "Bad" true))
  have exL : PySem.W.exmOne K (.ref (BL K)) (.ref (He.ga K "Bad")) = some true := He.exm_ok (T.says.d.fact 86 (f := .exm "BadLevel" "Bad" true))
  refine ⟨form, l, xs, yo, rfl, ths, hh.mono (fun _ h => h) (fun k => ?_) (fun k => ?_) (fun kb k => ?_) fun f k => ?_⟩
  · intro v H1 e
    refine ⟨sz rfl, fun r hr => ?_⟩
    exact k r _ (e.trans (Ex.refl.at hr)) (e.none hr) (tOf upd_same)
  · intro H1 e d hd
    refine ⟨true, exT, fun _ a ha oe hz hdat => ?_, fun h => nomatch h⟩
    have e2 := e.trans (Ex.refl.at (o := .xd fTM) hd)
    refine ⟨_, rfl, d, rfl, hdat, .inl ⟨hz.zc, upd_same, fun r H' e' hr q => ?_⟩⟩
    exact k r H' (e2.trans e') (e2.none hr) q
  · intro H1 e d hd
    refine ⟨true, exL, fun _ a ha oe hz hdat => ?_, fun h => nomatch h⟩
    have e2 := e.trans (Ex.refl.at (o := .xd (fBL kb)) hd)
    refine ⟨_, rfl, d, rfl, hdat, .inr (.inr ⟨kb, hz.zc, upd_same, fun r H' e' hr q => ?_⟩)⟩
    exact k r H' (e2.trans e') (e2.none hr) q
  · intro H1 e d hd
    refine ⟨true, exO, fun _ a ha oe hz hdat => ?_, fun h => nomatch h⟩
    have e2 := e.trans (Ex.refl.at (o := .xd (fBO f)) hd)
    refine ⟨_, rfl, d, rfl, hdat, .inr (.inl ⟨f, hz.zc, upd_same, fun r H' e' hr q => ?_⟩)⟩
    exact k r H' (e2.trans e') (e2.none hr) q
end
end Lw
namespace Lw
open PySem PySem.Spec PyProof.Rows L2 L2H
/-! ### the draws -/
local macro_rules | `(tactic| walk_at "len") => `(tactic| (intro vs H Q E h; first | (obtain ⟨_, e, _⟩ := h; subst e; rfl) | (obtain ⟨_, _, e, _⟩ := h; subst e; rfl) | (obtain ⟨_, _, _, e, _⟩ := h; subst e; rfl) | (obtain ⟨_, _, _, _, e, _⟩ := h; subst e; rfl) | (obtain ⟨_, _, _, _, _, e, _⟩ := h; subst e; rfl) | (obtain ⟨_, _, _, _, _, _, e, _⟩ := h; subst e; rfl) | (obtain ⟨_, _, _, _, _, _, _, e, _⟩ := h; subst e; rfl)))
local macro_rules | `(tactic| walk_at "get") => `(tactic| (first | assumption | exact upd_same | (refine look_new (by assumption) ?_; walk_at "get") | (refine look_ne (by assumption) ?_; walk_at "get")))
local macro_rules | `(tactic| walk_at "sqt") => `(tactic| (first | assumption | (apply Ex.t (Ex.refl.at (by assumption)); walk_at "sqt")))
local macro_rules | `(tactic| walk_at "s") => `(tactic| (first
  | refine ⟨_, rfl, ?_⟩
  | refine Or.inl ⟨_, rfl, ?_⟩
  | refine Or.inl ⟨_, _, _, _, rfl, rfl, lOf (by walk_at "get"), rfl, ?_⟩
  | refine Or.inl ⟨_, _, _, _, rfl, rfl, (show SqL _ _ _ _ by assumption), rfl, ?_⟩
  | refine Or.inr (Or.inl ⟨_, _, _, _, rfl, rfl, (show SqT _ _ _ _ by walk_at "sqt"), rfl, ?_⟩)
  | refine ⟨_, _, _, _, rfl, rfl, (by walk_at "get"), rfl, ?_⟩
  | refine ⟨_, _, rfl, rfl, Or.inl (Or.inr ⟨by decide, by decide⟩), ?_⟩
  | refine ⟨_, _, rfl, rfl, (by show (0 : Int) < _; first | assumption | decide), ?_⟩
  | refine ⟨_, _, rfl, rfl, ⟨by decide, by decide⟩, ?_⟩
  | refine ⟨_, _, rfl, rfl, ⟨by decide, by decide +kernel⟩, ?_⟩
  | refine ⟨_, _, rfl, rfl, (by show (0 : Int) < _; decide +kernel), ?_⟩
  | refine ⟨(show CMulA _ _ from Or.inl (Or.inl ⟨by (try dsimp only); omega, by (try dsimp only); omega⟩)), ?_⟩
  | refine ⟨_, _, rfl, rfl, ?_⟩
  | refine ⟨_, _, rfl, .inl ⟨_, (show SqL _ _ _ _ by assumption), rfl⟩, ?_⟩
  | refine ⟨_, _, rfl, .inl ⟨_, lOf (by walk_at "get"), rfl⟩, ?_⟩
  | refine ⟨_, _, rfl, (show Dp _ _ _ _ by assumption), ?_⟩
  | refine ⟨_, _, rfl, (show SqT _ _ _ _ by assumption), ?_⟩
  | refine ⟨_, _, rfl, (show SqL _ _ _ _ by assumption), ?_⟩
  | refine ⟨_, _, rfl, ?_⟩
  | refine ⟨rfl, _, rfl, ?_⟩
  | refine ⟨rfl, ?_⟩
  | refine ⟨_, _, _, _, _, rfl, (by walk_at "get"), (by assumption), (by assumption), rfl, ?_⟩
  | refine ⟨_, _, _, _, _, rfl, .own _, (by assumption), (by assumption), ?_⟩
  | refine ⟨_, _, _, _, _, rfl, .ty _, (by assumption), kit_ty (by rfl), ?_⟩))
local macro_rules | `(tactic| walk_at "c") => `(tactic| (try dsimp only [L2.start, List.set, List.map, List.length, List.replicate, List.cons_append, List.nil_append, List.append, HAppend.hAppend, Append.append, Int.toNat, Nat.reduceSub, Nat.reduceAdd]))
local macro_rules | `(tactic| walk_at "T") => `(tactic| ((repeat walk_at "s"); refine iteT (by first | rfl | assumption | decide) ?_; (repeat walk_at "s")))
local macro_rules | `(tactic| walk_at "F") => `(tactic| ((repeat walk_at "s"); refine iteF (by first | rfl | assumption | decide) ?_; (repeat walk_at "s")))
local macro_rules | `(tactic| walk_at "isi") => `(tactic| ((repeat walk_at "s"); refine ⟨_, _, _, _, _, rfl, .ty _, (by assumption), kit_ty (by rfl), ?_⟩; (repeat walk_at "s")))
local macro_rules | `(tactic| walk_at "mem") => `(tactic| (first | exact List.Mem.head _ | (refine List.Mem.tail _ ?_; walk_at "mem")))
local macro_rules | `(tactic| walk_at "ext") => `(tactic| (first | exact Ex.refl | (refine Ex.new ?_ (by assumption); walk_at "ext")))
local macro_rules | `(tactic| walk_at "al") => `(tactic| ((repeat walk_at "s"); refine ⟨sz rfl, fun _ _ => ?_⟩))
section
variable {w : World} {K : PySem.W.Frag} {mg : Str → Option Value} {base : Heap}
/-- an order of its places -/
def Pm (L : List Nat) : Prop := L.Perm (List.range L.length)
theorem Pm.of {L : List Nat} {n : Nat} (h : L.Perm (List.range n)) : Pm L := by
  unfold Pm
  rw [h.length_eq, List.length_range]
  exact h
theorem Pm.rev {L : List Nat} (h : Pm L) : Pm L.reverse := Pm.of (L.reverse_perm.trans h)
theorem Pm.more {L : List Nat} (h : Pm L) : Pm (L ++ [L.length]) := Pm.of (n := L.length + 1) (by
  rw [List.range_succ]
  exact h.append_right _)
theorem Pm.swap {L : List Nat} (h : Pm L) {i j : Nat} (hi : i < L.length) (hj : j < L.length) : Pm ((L.set i L[j]).set j L[i]) := Pm.of ((List.set_set_perm hi hj).trans h)
theorem Pm.less {L : List Nat} {n : Nat} (h : Pm L) (hn : L.length = n + 1) : Pm (L.filter fun v => decide (v ≠ n)) := by
  refine Pm.of (n := n) ?_
  have q := List.Perm.filter (fun v => decide (v ≠ n)) h
  rw [hn, List.range_succ, List.filter_append] at q
  have e1 : (List.range n).filter (fun v => decide (v ≠ n)) = List.range n := List.filter_eq_self.mpr fun v hv => by
    have := List.mem_range.mp hv
    exact decide_eq_true (by omega)
  have e2 : [n].filter (fun v => decide (v ≠ n)) = [] := by simp
  rw [e1, e2, List.append_nil] at q
  exact q
theorem Pm.pls {L : List Nat} (h : Pm L) : Pls (L.map N) (L.map N).length (L.map N).length L := by
  rw [List.length_map]
  refine ⟨by rw [List.take_of_length_le (by rw [List.length_map]; exact Nat.le_refl _)], rfl, h.nodup_iff.mpr List.nodup_range, fun v hv => List.mem_range.mp (h.mem_iff.mp hv)⟩
theorem Pm.ords {L : List Nat} {H : Hp} {ok : Prop} {bad : Str → Prop} (h : Pm L) (k : ok) : OrdS H (L.map N) ok bad := ⟨_, L, h.pls, .inl ⟨rfl, k⟩⟩
theorem Pm.fin {gs : List Int} {L : List Nat} (F : TurnX.Fin gs L) : Pm L := Pm.of F.perm
theorem Pm.range (n : Nat) : Pm (List.range n) := by
  unfold Pm
  rw [List.length_range]
/-- a list of places that is an order -/
def OrdAt (s : Addr) (H : Hp) (p : Addr) : Prop := ∃ O, H p = some (.lst (O.map N)) ∧ p ≠ s ∧ Pm O ∧ O.length ≤ 300
theorem OrdAt.kp {s p : Addr} {H H' : Hp} (h : OrdAt s H p) (e : Kp s H H') : OrdAt s H' p := let ⟨O, a, b, c, d⟩ := h; ⟨O, e.1 _ _ b a, b, c, d⟩
theorem OrdAt.ex {s p : Addr} {H H' : Hp} (h : OrdAt s H p) (e : Ex H H') : OrdAt s H' p := let ⟨O, a, b, c, d⟩ := h; ⟨O, e _ _ a, b, c, d⟩
theorem rg_N' (n : Nat) : rgV 0 (n : Int) = (List.range n).map N := rg_N n
def spOrders (K : PySem.W.Frag) : Sp := fun vs H Q _ => ∃ (s a : Addr) (L : List Nat), vs = [.ref s, .ref a] ∧ StO H s ∧ H a = some (.lst (L.map N)) ∧ a ≠ s ∧ 1 ≤ L.length ∧ L.length ≤ 200 ∧ Pm L ∧
  ∀ r p1 p2 p3 p4 p5 p6 H', Kp s H H' → StO H' s → H r = none → H' r = some (.lst [.ref p1, .ref p2, .ref p3, .ref p4, .ref p5, .ref p6]) → (∀ p ∈ [p1, p2, p3, p4, p5, p6], OrdAt s H' p) → Q (.ref r) H'
theorem sc_l_orders : FnScope ["store", "order", "many", "at", "swap", "two", "place"] ["store", "order"] (defScope s_l_orders) := ⟨rfl, rfl, rfl, by decide +kernel, rfl, by decide +kernel, by decide +kernel⟩
theorem d_l_orders (T : Tx K mg) : Dn PP w K mg base CX0 4 "_law_orders" ["store", "order"] (spOrders K) := by
  obtain ⟨fd, F⟩ := T.d 30
  refine ⟨_, fd, T.g 30, F.kp, FunD.bindsN F (fun _ _ _ _ _ _ us hl => match us, hl with | [_, _], _ => rfl), FunD.ok F sc_l_orders (by walk_at "len") (fun cdv A outer s H vs Q E hr h => ?_)⟩
  obtain ⟨s, a, L, rfl, S, ha, has, n1, n2, pm, k⟩ := h
  have lm : (L.map N).length = L.length := List.length_map _
  have la := lOf (K := K) ha
  refine ⟨_, PSs.nox ((pss_cons (ps_set (i := 2) sc_l_orders.nd rfl (.inr rfl) (pe_callB call_len (by rfl) (T.f 72) boot_len (pa_cons (pv 1) pa_nil)))
      (pss_cons (ps_set (i := 3) sc_l_orders.nd rfl (.inl rfl) (pe_d (d_l_edge T) (hr.mono (by decide)) rfl pass0 (pa_cons (pv 0) (pa_cons (pv 2) pa_nil))))
      (pss_cons (ps_set (i := 4) sc_l_orders.nd rfl (.inl rfl) (pe_callTy call_list_of (by rfl) (T.f 73) (by decide +kernel) (pa_cons (pv 1) pa_nil)))
      (pss_cons (ps_set (i := 5) sc_l_orders.nd rfl (.inl rfl) (pe_d (d_l_edge T) (hr.mono (by decide)) rfl pass0 (pa_cons (pv 0) (pa_cons (pv 2) pa_nil))))
      (pss_cons (ps_asg (pe_ix ix_seq (pv 1) (pv 5) (fun _ _ => rfl)) (pg_sub (pv 4) (pv 3) set_list))
      (pss_cons (ps_asg (pe_ix ix_seq (pv 1) (pv 3) (fun _ _ => rfl)) (pg_sub (pv 4) (pv 5) set_list))
      (pss_one (ps_ret (pe_lst (pa_cons (pv 1) (pa_cons (pv 4) (pa_cons (pe_revL (pv 1)) (pa_cons (pe_d (d_l_pick T) (hr.mono (by decide)) rfl pass0 (pa_cons (pv 0) (pa_cons (pe_lst (pa_cons (pe_op op_addA (pv 1) (pe_lst (pa_cons (pv 2) pa_nil))) (pa_cons (pe_op op_addA (pe_revL (pv 1)) (pe_lst (pa_cons (pv 2) pa_nil))) pa_nil))) pa_nil))) (pa_cons (pe_lc (own := [("place", 6)]) rfl sc_l_orders.nd (pi_list (pv 1)) (blkOk_by (own := [("place", 6)]) (N := ["store", "order", "many", "at", "swap", "two", "place"]) (sc := defScope s_l_orders) (by decide +kernel)) (fun _ _ _ _ _ => (pg_name (i := 6) sc_l_orders.nd rfl (.inl rfl))) (fun _ _ _ _ _ => pts_one (pt_cmpR op_ne (pv 6) (pe_op op_sub (pv 2) pe_int) (nomark _))) (fun _ _ _ _ _ => (pv 6))) (pa_cons (pe_d (d_l_pick T) (hr.mono (by decide)) rfl pass0 (pa_cons (pv 0) (pa_cons (pe_lst (pa_cons (pe_listRg rfl rfl (T.f 73) (prg_1 rfl (T.f 76) pe_int)) (pa_cons (pe_listRg rfl rfl (T.f 73) (prg_1 rfl (T.f 76) pe_int)) pa_nil))) pa_nil))) pa_nil)))))))))))))))), ?_⟩
  repeat walk_at "s"
  rw [lm]
  refine ⟨S, lg (n := 20) (by omega) (by decide) (by decide), fun x H1 k1 S1 x0 _ x1 => ?_⟩
  obtain ⟨x, rfl⟩ := Int.eq_ofNat_of_zero_le x0
  have x1 := x1 (by omega)
  have ha1 := k1.1 _ _ has ha
  have la1 := lOf (K := K) ha1
  repeat walk_at "s"
  refine ⟨a, _, rfl, .inl la1, fun p2 hp2 => ?_⟩
  have hp2s := S1.ne hp2
  have e2 := Ex.refl.at (H := H1) (o := .lst (L.map N)) hp2
  have h22 : upd H1 p2 (.lst (L.map N)) p2 = some (.lst (L.map N)) := upd_same
  have ha2 := e2 _ _ ha1
  have S2 := S1.ex e2
  have np : a ≠ p2 := ne_of_none ha1 hp2
  have kk2 := k1.trans e2.kp
  have hp20 := k1.none hp2s hp2
  generalize upd H1 p2 (.lst (L.map N)) = H2 at e2 h22 ha2 S2 kk2
  clear k1 ha1 la1 e2
  repeat walk_at "s"
  refine ⟨S2, lg (n := 20) (by omega) (by decide) (by decide), fun y H3 k3 S3 y0 _ y1 => ?_⟩
  obtain ⟨y, rfl⟩ := Int.eq_ofNat_of_zero_le y0
  have y1 := y1 (by omega)
  have xl : x < L.length := by omega
  have yl : y < L.length := by omega
  have ha3 := k3.1 _ _ has ha2
  have h23 := k3.1 _ _ hp2s h22
  have la3 := lOf (K := K) ha3
  have gx : (L.map N)[x]? = some (N L[x]) := by rw [List.getElem?_map, List.getElem?_eq_getElem xl]; rfl
  have gy : (L.map N)[y]? = some (N L[y]) := by rw [List.getElem?_map, List.getElem?_eq_getElem yl]; rfl
  have kk3 := kk2.trans k3
  repeat walk_at "s"
  refine .inl ⟨_, _, _, _, rfl, rfl, la3, atI_nat gy, ?_⟩
  repeat walk_at "s"
  refine ⟨p2, _, _, x, rfl, rfl, h23, ixn (by rw [lm]; exact xl), ?_⟩
  have la4 := lOf (K := K) (look_ne (o := .lst ((L.map N).set x (N L[y]))) np ha3)
  repeat walk_at "s"
  refine .inl ⟨_, _, _, _, rfl, rfl, la4, atI_nat gx, ?_⟩
  repeat walk_at "s"
  refine ⟨p2, _, _, y, rfl, rfl, upd_same, ixn (by rw [List.length_set, lm]; exact yl), ?_⟩
  rw [upd_upd]
  have sw : ((L.map N).set x (N L[y])).set y (N L[x]) = (((L.set x L[y]).set y L[x]).map N) := by rw [List.map_set, List.map_set]
  rw [sw]
  have pm2 := pm.swap xl yl
  generalize hO2 : (L.set x L[y]).set y L[x] = O2 at pm2
  have lO2 : O2.length = L.length := by rw [← hO2, List.length_set, List.length_set]
  have ha5 := look_ne (o := .lst (O2.map N)) np ha3
  have h25 : upd H3 p2 (.lst (O2.map N)) p2 = some (.lst (O2.map N)) := upd_same
  have kk5 : Kp s H (upd H3 p2 (.lst (O2.map N))) := kk3.at hp20 hp2s
  have S5 : StO (upd H3 p2 (.lst (O2.map N))) s := S.set2 S3 kk3 hp20
  generalize upd H3 p2 (.lst (O2.map N)) = H5 at ha5 h25 kk5 S5
  have la5 := lOf (K := K) ha5
  have hs5 : ∀ {p : Addr}, H5 p = none → p ≠ s := fun h => S5.ne h
  repeat walk_at "s"
  intro p3 hp3
  repeat walk_at "s"
  refine ⟨sz rfl, fun b1 hb1 => ?_⟩
  repeat walk_at "s"
  refine .inl ⟨a, b1, _, _, rfl, rfl, (by walk_at "get"), (by walk_at "get"), (by rw [lm, sizeLine_eq]; show L.length + 1 ≤ _; omega), fun c1 hc1 => ?_⟩
  have la6 := lOf (K := K) (look_new (o := .lst (L.map N ++ [V.int (L.length : Int)])) hc1 (look_new (o := .lst [V.int (L.length : Int)]) hb1 (look_new (o := .lst (L.map N).reverse) hp3 ha5)))
  repeat walk_at "s"
  intro b2 hb2
  repeat walk_at "s"
  refine ⟨sz rfl, fun b3 hb3 => ?_⟩
  repeat walk_at "s"
  refine .inl ⟨b2, b3, _, _, rfl, rfl, (by walk_at "get"), (by walk_at "get"), (by rw [List.length_reverse, lm, sizeLine_eq]; show L.length + 1 ≤ _; omega), fun c2 hc2 => ?_⟩
  repeat walk_at "s"
  refine ⟨sz rfl, fun t1 ht1 => ?_⟩
  have n5 : ∀ {p : Addr} {H' : Hp}, Ex H5 H' → H' p = none → p ≠ s := fun e h => S5.ne (e.none h)
  repeat walk_at "s"
  refine ⟨_, _, _, rfl, S5.ex (by walk_at "ext"), upd_same, n5 (by walk_at "ext") ht1, (fun h => nomatch h), ln rfl, fun u H8 k8 S8 hu => ?_⟩
  have o3 : OrdAt s H8 p3 := OrdAt.kp ⟨L.reverse, by rw [List.map_reverse]; walk_at "get", n5 (by walk_at "ext") hp3, pm.rev, by rw [List.length_reverse]; omega⟩ k8
  have o4 : ∃ p4, u = .ref p4 ∧ OrdAt s H8 p4 := by
    simp only [List.mem_cons, List.not_mem_nil, or_false] at hu
    rcases hu with rfl | rfl
    · exact ⟨c1, rfl, OrdAt.kp ⟨L ++ [L.length], by rw [List.map_append, List.map_cons, List.map_nil]; walk_at "get", n5 (by walk_at "ext") hc1, pm.more, by rw [List.length_append]; show L.length + 1 ≤ 300; omega⟩ k8⟩
    · have q := pm.rev.more
      rw [List.length_reverse] at q
      exact ⟨c2, rfl, OrdAt.kp ⟨L.reverse ++ [L.length], by rw [List.map_append, List.map_reverse, List.map_cons, List.map_nil]; walk_at "get", n5 (by walk_at "ext") hc2, q, by rw [List.length_append, List.length_reverse]; show L.length + 1 ≤ 300; omega⟩ k8⟩
  obtain ⟨p4, rfl, o4⟩ := o4
  have k58 : Kp s H5 H8 := (Ex.kp (by walk_at "ext")).trans k8
  have o2 : OrdAt s H8 p2 := OrdAt.kp ⟨O2, h25, hp2s, pm2, by omega⟩ k58
  have ha8 := k58.1 _ _ has ha5
  have kk8 := kk5.trans k58
  have la8 := lOf (K := K) ha8
  clear la6 la5 hu
  clear k8
  repeat walk_at "s"
  refine ⟨⟨_, la8⟩, fun D hD => lc_list (fun i H' => H' D = some (.lst (((L.take i).filter fun v => decide (v ≠ L.length - 1)).map N)) ∧ Ex H8 H') ⟨upd_same, Ex.refl.at hD⟩ (fun i H' _ h => h.2.l la8) ?_ ?_⟩
  · rintro i z H9 hz ⟨hd, e9⟩
    have hi := (List.getElem?_eq_some_iff.mp hz).1
    rw [lm] at hi
    have gi : L[i]? = some L[i] := List.getElem?_eq_getElem hi
    have hz2 : z = N L[i] := by
      rw [List.getElem?_map, gi] at hz
      exact (Option.some.inj hz).symm
    subst hz2
    refine ⟨rfl, ?_⟩
    repeat walk_at "s"
    have fs : (L.take (i + 1)).filter (fun v => decide (v ≠ L.length - 1)) = (L.take i).filter (fun v => decide (v ≠ L.length - 1)) ++ if L[i] ≠ L.length - 1 then [L[i]] else [] := by
      rw [List.take_succ, gi, List.filter_append]
      congr 1
      by_cases c : L[i] = L.length - 1 <;> simp [c]
    refine ite2 (fun e => ?_) (fun e => ?_)
    · have c : L[i] ≠ L.length - 1 := fun z => by
        have q : (!decide (V.int (L[i] : Int) = V.int ((L.length : Int) - 1))) = true := e
        rw [decide_eq_true (show V.int (L[i] : Int) = V.int ((L.length : Int) - 1) by rw [z]; congr 1; omega)] at q
        cases q
      rw [if_pos c] at fs
      repeat walk_at "s"
      refine ⟨_, hd, ?_, ?_, e9.at hD⟩
      · have := List.length_filter_le (fun v => decide (v ≠ L.length - 1)) (L.take i)
        rw [List.length_take] at this
        rw [List.length_map, sizeLine_eq]
        omega
      · rw [fs, List.map_append]
        exact upd_same
    · have c : ¬ L[i] ≠ L.length - 1 := fun z => e (by
        show (!decide (V.int (L[i] : Int) = V.int ((L.length : Int) - 1))) = true
        rw [decide_eq_false fun q => z (by have := V.int.inj q; omega)]
        rfl)
      rw [if_neg c, List.append_nil] at fs
      rw [fs]
      exact ⟨hd, e9⟩
  · rintro H9 ⟨hd, e9⟩
    rw [lm, List.take_length] at hd
    have o5 : OrdAt s H9 D := ⟨_, hd, S8.ne hD, pm.less (n := L.length - 1) (by omega), by
      have := List.length_filter_le (fun v => decide (v ≠ L.length - 1)) L
      omega⟩
    have o2 := o2.ex e9
    have o3 := o3.ex e9
    have o4 := o4.ex e9
    have ha9 := e9 _ _ ha8
    have S9 := S8.ex e9
    have kk9 := kk8.trans e9.kp
    repeat walk_at "s"
    refine ⟨⟨by decide, by decide, by decide, by decide, by decide⟩, fun r1 hr1 => ?_⟩
    repeat walk_at "s"
    refine ⟨⟨by decide, by decide, by decide, by decide, by decide⟩, fun r2 hr2 => ?_⟩
    repeat walk_at "s"
    refine ⟨sz rfl, fun t2 ht2 => ?_⟩
    have n9 : ∀ {p : Addr} {H' : Hp}, Ex H9 H' → H' p = none → p ≠ s := fun e h => S9.ne (e.none h)
    repeat walk_at "s"
    refine ⟨_, _, _, rfl, S9.ex (by walk_at "ext"), upd_same, n9 (by walk_at "ext") ht2, (fun h => nomatch h), ln rfl, fun u H10 k10 S10 hu => ?_⟩
    have k910 : Kp s H9 H10 := (Ex.kp (by walk_at "ext")).trans k10
    have o6 : ∃ p6, u = .ref p6 ∧ OrdAt s H10 p6 := by
      simp only [List.mem_cons, List.not_mem_nil, or_false] at hu
      rcases hu with rfl | rfl
      · exact ⟨r1, rfl, OrdAt.kp ⟨List.range 61, by rw [← rg_N']; walk_at "get", n9 (by walk_at "ext") hr1, Pm.range _, by rw [List.length_range]; decide⟩ k10⟩
      · exact ⟨r2, rfl, OrdAt.kp ⟨List.range 70, by rw [← rg_N']; walk_at "get", n9 (by walk_at "ext") hr2, Pm.range _, by rw [List.length_range]; decide⟩ k10⟩
    obtain ⟨p6, rfl, o6⟩ := o6
    have o2 := o2.kp k910
    have o3 := o3.kp k910
    have o4 := o4.kp k910
    have o5 := o5.kp k910
    have o1 : OrdAt s H10 a := ⟨L, k910.1 _ _ has ha9, has, pm, by omega⟩
    have kk10 := kk9.trans k910
    clear k10
    repeat walk_at "s"
    refine ⟨sz rfl, fun r hr => ?_⟩
    have er := Ex.refl.at (H := H10) (o := .lst [.ref a, .ref p2, .ref p3, .ref p4, .ref D, .ref p6]) hr
    refine k r a p2 p3 p4 D p6 _ (kk10.trans er.kp) (S10.ex er) (kk10.none (S10.ne hr) hr) upd_same fun p hp => ?_
    simp only [List.mem_cons, List.not_mem_nil, or_false] at hp
    rcases hp with rfl | rfl | rfl | rfl | rfl | rfl
    · exact o1.ex er
    · exact o2.ex er
    · exact o3.ex er
    · exact o4.ex er
    · exact o5.ex er
    · exact o6.ex er
end
end Lw
namespace Lw
open PySem PySem.Spec PyProof.Rows L2 L2H
/-! ### the draws -/
local macro_rules | `(tactic| walk_at "len") => `(tactic| (intro vs H Q E h; first | (obtain ⟨_, e, _⟩ := h; subst e; rfl) | (obtain ⟨_, _, e, _⟩ := h; subst e; rfl) | (obtain ⟨_, _, _, e, _⟩ := h; subst e; rfl) | (obtain ⟨_, _, _, _, e, _⟩ := h; subst e; rfl) | (obtain ⟨_, _, _, _, _, e, _⟩ := h; subst e; rfl) | (obtain ⟨_, _, _, _, _, _, e, _⟩ := h; subst e; rfl) | (obtain ⟨_, _, _, _, _, _, _, e, _⟩ := h; subst e; rfl)))
local macro_rules | `(tactic| walk_at "get") => `(tactic| (first | assumption | exact upd_same | (refine look_new (by assumption) ?_; walk_at "get") | (refine look_ne (by assumption) ?_; walk_at "get")))
local macro_rules | `(tactic| walk_at "sqt") => `(tactic| (first | assumption | (apply Ex.t (Ex.refl.at (by assumption)); walk_at "sqt")))
local macro_rules | `(tactic| walk_at "s") => `(tactic| (first
  | refine ⟨_, rfl, ?_⟩
  | refine Or.inl ⟨_, rfl, ?_⟩
  | refine Or.inl ⟨_, _, _, _, rfl, rfl, lOf (by walk_at "get"), rfl, ?_⟩
  | refine Or.inl ⟨_, _, _, _, rfl, rfl, (show SqL _ _ _ _ by assumption), rfl, ?_⟩
  | refine Or.inr (Or.inl ⟨_, _, _, _, rfl, rfl, (show SqT _ _ _ _ by walk_at "sqt"), rfl, ?_⟩)
  | refine ⟨_, _, _, _, rfl, rfl, (by walk_at "get"), rfl, ?_⟩
  | refine ⟨_, _, rfl, rfl, Or.inl (Or.inr ⟨by decide, by decide⟩), ?_⟩
  | refine ⟨_, _, rfl, rfl, (by show (0 : Int) < _; first | assumption | decide), ?_⟩
  | refine ⟨_, _, rfl, rfl, ⟨by decide, by decide⟩, ?_⟩
  | refine ⟨_, _, rfl, rfl, ⟨by decide, by decide +kernel⟩, ?_⟩
  | refine ⟨_, _, rfl, rfl, (by show (0 : Int) < _; decide +kernel), ?_⟩
  | refine ⟨(show CMulA _ _ from Or.inl (Or.inl ⟨by (try dsimp only); omega, by (try dsimp only); omega⟩)), ?_⟩
  | refine ⟨_, _, rfl, rfl, ?_⟩
  | refine ⟨_, _, rfl, .inl ⟨_, (show SqL _ _ _ _ by assumption), rfl⟩, ?_⟩
  | refine ⟨_, _, rfl, .inl ⟨_, lOf (by walk_at "get"), rfl⟩, ?_⟩
  | refine ⟨_, _, rfl, (show Dp _ _ _ _ by assumption), ?_⟩
  | refine ⟨_, _, rfl, (show SqT _ _ _ _ by assumption), ?_⟩
  | refine ⟨_, _, rfl, (show SqL _ _ _ _ by assumption), ?_⟩
  | refine ⟨_, _, rfl, ?_⟩
  | refine ⟨rfl, _, rfl, ?_⟩
  | refine ⟨rfl, ?_⟩
  | refine ⟨_, _, _, _, _, rfl, (by walk_at "get"), (by assumption), (by assumption), rfl, ?_⟩
  | refine ⟨_, _, _, _, _, rfl, .own _, (by assumption), (by assumption), ?_⟩
  | refine ⟨_, _, _, _, _, rfl, .ty _, (by assumption), kit_ty (by rfl), ?_⟩))
local macro_rules | `(tactic| walk_at "c") => `(tactic| (try dsimp only [L2.start, List.set, List.map, List.length, List.replicate, List.cons_append, List.nil_append, List.append, HAppend.hAppend, Append.append, Int.toNat, Nat.reduceSub, Nat.reduceAdd]))
local macro_rules | `(tactic| walk_at "T") => `(tactic| ((repeat walk_at "s"); refine iteT (by first | rfl | assumption | decide) ?_; (repeat walk_at "s")))
local macro_rules | `(tactic| walk_at "F") => `(tactic| ((repeat walk_at "s"); refine iteF (by first | rfl | assumption | decide) ?_; (repeat walk_at "s")))
local macro_rules | `(tactic| walk_at "isi") => `(tactic| ((repeat walk_at "s"); refine ⟨_, _, _, _, _, rfl, .ty _, (by assumption), kit_ty (by rfl), ?_⟩; (repeat walk_at "s")))
local macro_rules | `(tactic| walk_at "mem") => `(tactic| (first | exact List.Mem.head _ | (refine List.Mem.tail _ ?_; walk_at "mem")))
local macro_rules | `(tactic| walk_at "ext") => `(tactic| (first | exact Ex.refl | (refine Ex.new ?_ (by assumption); walk_at "ext")))
local macro_rules | `(tactic| walk_at "al") => `(tactic| ((repeat walk_at "s"); refine ⟨sz rfl, fun _ _ => ?_⟩))
section
variable {w : World} {K : PySem.W.Frag} {mg : Str → Option Value} {base : Heap}
/-- the told orders are those that the law counts -/
def spRight (K : PySem.W.Frag) : Sp := fun vs H Q _ => ∃ (s a : Addr) (ns : List Int), vs = [.ref s, .ref a] ∧ StO H s ∧ H a = some (.lst (ns.map V.int)) ∧ a ≠ s ∧ ns.length ≤ 59 ∧ Nums ns ∧ ∀ H', Kp s H H' → StO H' s → Q (.bl true) H'
theorem sc_l_right : FnScope ["store", "numbers", "due", "handed", "told", "order", "given", "turn", "pair", "word"] ["store", "numbers"] (defScope s_l_right) := ⟨rfl, rfl, rfl, by decide +kernel, rfl, by decide +kernel, by decide +kernel⟩
theorem d_l_right (T : Tx K mg) : Dn PP w K mg base CX0 8 "_law_right" ["store", "numbers"] (spRight K) := by
  obtain ⟨fd, F⟩ := T.d 32
  refine ⟨_, fd, T.g 32, F.kp, FunD.bindsN F (fun _ _ _ _ _ _ us hl => match us, hl with | [_, _], _ => rfl), FunD.ok F sc_l_right (by walk_at "len") (fun cdv A outer s H vs Q E hr h => ?_)⟩
  obtain ⟨s, a, ns, rfl, S, ha, has, hn, good, k⟩ := h
  obtain ⟨L, F⟩ := TurnX.Fin.ex ns
  have Ln : L.length = ns.length + 1 := F.len
  have al : (ns.map V.int).length = ns.length := List.length_map _
  have haL := lOf (K := K) ha
  refine ⟨_, PSs.nox ((pss_cons (ps_set (i := 2) sc_l_right.nd rfl (.inl rfl) (pe_d (d_l_orderby T) (hr.mono (by decide)) rfl pass0 (pa_cons (pv 1) pa_nil)))
      (pss_cons (ps_set (i := 3) sc_l_right.nd rfl (.inl rfl) (pe_callTy call_list_of (by rfl) (T.f 73) (by decide +kernel) (pa_cons (pv 1) pa_nil)))
      (pss_cons (ps_set (i := 4) sc_l_right.nd rfl (.inl rfl) (pe_d (d_turn_levels T) (hr.mono (by decide)) rfl passN (pa_cons (pv 3) pa_nil)))
      (pss_cons (ps_if (pt_not (pt_truth (pe_d (d_l_same T) (hr.mono (by decide)) rfl pass0 (pa_cons (pv 4) (pa_cons (pv 2) pa_nil))) (by intro _; rfl))) (pss_one (ps_ret pe_bl)) pss_nil)
      (pss_cons (ps_expr (pe_bm PySem.F.plainAttrs_list PySem.F.slot_list_append PySem.F.type_list_append mt_append (pv 4) (pa_cons pe_int pa_nil)))
      (pss_cons (ps_if (PW.pt (pw_or (pt_not (pt_truth (pe_d (d_l_same T) (hr.mono (by decide)) rfl pass0 (pa_cons (pe_d (d_turn_levels T) (hr.mono (by decide)) rfl passN (pa_cons (pv 3) pa_nil)) (pa_cons (pv 2) pa_nil))) (by intro _; rfl))) (pw_or1 (pt_not (pt_truth (pe_d (d_l_same T) (hr.mono (by decide)) rfl pass0 (pa_cons (pv 3) (pa_cons (pv 1) pa_nil))) (by intro _; rfl)))))) (pss_one (ps_ret pe_bl)) pss_nil)
      (pss_cons (ps_for PassesOwn.never rfl (pi_list (pe_d (d_l_orders T) (hr.mono (by decide)) rfl pass0 (pa_cons (pv 0) (pa_cons (pv 2) pa_nil)))) (pg_name (i := 5) sc_l_right.nd rfl (.inl rfl)) (pss_cons (ps_set (i := 6) sc_l_right.nd rfl (.inl rfl) (pe_callTy call_list_of (by rfl) (T.f 73) (by decide +kernel) (pa_cons (pv 5) pa_nil)))
      (C8.pss_cut (ps_if (PW.pt (pw_and (pt_truth (pv 5) (by intro _; rfl)) (pw_and1 (pt_not (pt_truth (pe_d (d_l_same T) (hr.mono (by decide)) rfl pass0 (pa_cons (pe_d (d_shows_levels T) (hr.mono (by decide)) rfl passN (pa_cons (pv 3) (pa_cons (pv 6) pa_nil))) (pa_cons (pe_cmpR (op_eqD hr.units) (pv 5) (pv 2) (nomark _)) pa_nil))) (by intro _; rfl)))))) (pss_one (ps_ret pe_bl)) pss_nil)
      (pss_one (ps_if (PW.pt (pw_or (pt_not (pt_truth (pe_d (d_l_same T) (hr.mono (by decide)) rfl pass0 (pa_cons (pv 6) (pa_cons (pv 5) pa_nil))) (by intro _; rfl))) (pw_or1 (pt_not (pt_truth (pe_d (d_l_same T) (hr.mono (by decide)) rfl pass0 (pa_cons (pv 3) (pa_cons (pv 1) pa_nil))) (by intro _; rfl)))))) (pss_one (ps_ret pe_bl)) pss_nil)))))
      (pss_cons (ps_for PassesOwn.never rfl (pi_range1 rfl (T.f 76) (pa_cons pe_int pa_nil)) (pg_name (i := 7) sc_l_right.nd rfl (.inl rfl)) (pss_cons (ps_set (i := 8) sc_l_right.nd rfl (.inl rfl) (pe_d (d_l_places T) (hr.mono (by decide)) rfl pass0 (pa_cons (pv 0) (pa_cons (pe_op op_addA (pe_callB call_len (by rfl) (T.f 72) boot_len (pa_cons (pv 1) pa_nil)) pe_int) (pa_cons pe_int pa_nil)))))
      (pss_cons (ps_set (i := 9) sc_l_right.nd rfl (.inl rfl) (pe_slice sl_list (pv 1) (po_some (pe_ix ix_seq (pv 8) pe_int (fun _ _ => rfl))) (po_some (pe_ix ix_seq (pv 8) pe_int (fun _ _ => rfl)))))
      (pss_one (ps_if (PW.pt (pw_and (pt_truth (pv 9) (by intro _; rfl)) (pw_and1 (pt_not (pt_truth (pe_d (d_l_same T) (hr.mono (by decide)) rfl pass0 (pa_cons (pe_d (d_level_word T) (hr.mono (by decide)) rfl passN (pa_cons (pe_callTy call_list_of (by rfl) (T.f 73) (by decide +kernel) (pa_cons (pv 9) pa_nil)) pa_nil)) (pa_cons (pe_ix ix_seq (pe_lst (pa_cons pe_str (pa_cons pe_str pa_nil))) (pe_op op_mod (pe_callTy call_int1 (by rfl) (T.f 70) (by decide +kernel) (pa_cons (pe_callB (cr_min rfl) (by rfl) (T.f 75) (by decide +kernel) (pa_cons (pv 9) pa_nil)) pa_nil)) pe_int) (fun _ _ => rfl)) pa_nil))) (by intro _; rfl)))))) (pss_one (ps_ret pe_bl)) pss_nil)))))
      (pss_one (ps_ret pe_bl))))))))))), ?_⟩
  repeat walk_at "s"
  refine ⟨a, ns, L, rfl, haL, by omega, F, fun pd H1 e1 hpd hd1 => ?_⟩
  have a1 := e1 _ _ ha
  repeat walk_at "s"
  refine ⟨a, _, rfl, .inl (lOf a1), fun ph hph => ?_⟩
  have e2 := Ex.refl.at (H := H1) (o := .lst (ns.map V.int)) hph
  have h2 : upd H1 ph (.lst (ns.map V.int)) ph = some (.lst (ns.map V.int)) := upd_same
  have a2 := e2 _ _ a1
  have hd2 := e2 _ _ hd1
  have e02 := e1.trans e2
  have pds := S.ne hpd
  have phs := S.ne (e1.none hph)
  generalize upd H1 ph (.lst (ns.map V.int)) = H2 at e2 h2 a2 hd2 e02
  clear e1 e2 a1 hd1 hpd hph
  repeat walk_at "s"
  refine ⟨ph, _, rfl, h2, by omega, .inr (.inr ⟨ns, rfl, hn, good, fun L2 pt H3 F2 e3 hpt ht => ?_⟩)⟩
  obtain rfl := F.unique F2
  have hd3 := e3 _ _ hd2
  repeat walk_at "s"
  refine ⟨_, _, _, rfl, lstN (lOf ht), lstN (lOf hd3), szl (by rw [List.length_map]; omega), fun H4 e4 => ?_⟩
  have ht4 := e4 _ _ ht
  have e24 := e3.trans e4
  repeat walk_at "s"
  refine ⟨.inl ⟨rfl, _, lOf ht4⟩, ?_⟩
  repeat walk_at "s"
  refine ⟨_, _, _, rfl, rfl, ht4, by rw [List.length_map, sizeLine_eq]; omega, ?_⟩
  have e25 : Ex H2 (upd H4 pt (.lst (L.map N ++ [V.int 0]))) := e24.at hpt
  have h5 := e25 _ _ h2
  generalize upd H4 pt (.lst (L.map N ++ [V.int 0])) = H5 at e25 h5
  clear ht ht4 e3 e4 e24 hd3 hpt
  repeat walk_at "s"
  refine ⟨ph, _, rfl, h5, by omega, .inr (.inr ⟨ns, rfl, hn, good, fun L2 pt H6 F2 e6 hpt ht => ?_⟩)⟩
  obtain rfl := F.unique F2
  have e26 := e25.trans e6
  repeat walk_at "s"
  refine ⟨_, _, _, rfl, lstN (lOf ht), lstN (lOf (e26 _ _ hd2)), szl (by rw [List.length_map]; omega), fun H7 e7 => ?_⟩
  have e27 := e26.trans e7
  repeat walk_at "s"
  refine ⟨_, _, _, rfl, lstI (lOf (e27 _ _ h2)), lstI (lOf (e27 _ _ a2)), szl (by omega), fun H8 e8 => ?_⟩
  have e28 := e27.trans e8
  have hd8 := e28 _ _ hd2
  have h8 := e28 _ _ h2
  have a8 := e28 _ _ a2
  have e08 := e02.trans e28
  have S8 := S.ex e08
  clear e25 e26 e27 e28 e6 e7 e8 h5 ht hpt h2 a2 hd2
  repeat walk_at "s"
  refine ⟨_, _, _, rfl, S8, hd8, pds, by omega, by omega, Pm.fin F, fun r p1 p2 p3 p4 p5 p6 H9 k9 S9 hr hrl ords => ?_⟩
  have hd9 := k9.1 _ _ pds hd8
  have h9 := k9.1 _ _ phs h8
  have a9 := k9.1 _ _ has a8
  have kk9 := e08.kp.trans k9
  clear k9 hd8 h8 a8
  have hrL := lOf (K := K) hrl
  repeat walk_at "s"
  refine ⟨⟨_, hrL⟩, for_list (xs := [V.ref p1, V.ref p2, V.ref p3, V.ref p4, V.ref p5, V.ref p6]) (fun i σ H' => (∃ z5 z6 z7 z8 z9, σ = [some (.ref s), some (.ref a), some (.ref pd), some (.ref ph), z5, z6, z7, z8, z9, none]) ∧ Ex H9 H') ⟨⟨_, _, _, _, _, rfl⟩, Ex.refl⟩ (fun i σ H' _ h => h.2.l hrL) ?_ ?_⟩
  · rintro i x σ H10 hx ⟨⟨z5, z6, z7, z8, z9, rfl⟩, e10⟩
    have hx2 : ∃ p, x = .ref p ∧ OrdAt s H9 p := by
      have hm := List.mem_of_getElem? hx
      simp only [List.mem_cons, List.not_mem_nil, or_false] at hm
      rcases hm with rfl | rfl | rfl | rfl | rfl | rfl
      all_goals exact ⟨_, rfl, ords _ (by simp)⟩
    obtain ⟨p, rfl, od⟩ := hx2
    obtain ⟨O, hO, _, pm, on⟩ := od.ex e10
    have hOL := lOf (K := K) hO
    repeat walk_at "s"
    refine ⟨p, _, rfl, .inl hOL, fun pg hpg => ?_⟩
    have e11 := Ex.refl.at (H := H10) (o := .lst (O.map N)) hpg
    have hg11 : upd H10 pg (.lst (O.map N)) pg = some (.lst (O.map N)) := upd_same
    have hO11 := e11 _ _ hO
    have e911 := e10.trans e11
    have h11 := e911 _ _ h9
    have hd11 := e911 _ _ hd9
    generalize upd H10 pg (.lst (O.map N)) = H11 at e11 hg11 hO11 e911 h11 hd11
    clear hOL e10 e11 hO
    have hOL := lOf (K := K) hO11
    repeat walk_at "s"
    refine ⟨fun σ H' => σ = [some (.ref s), some (.ref a), some (.ref pd), some (.ref ph), z5, some (.ref p), some (.ref pg), z8, z9, none] ∧ Ex H11 H', ?_, ?_⟩
    · by_cases c : O = []
      · repeat walk_at "s"
        refine ⟨false, .inl ⟨_, hOL, by rw [c]; rfl⟩, ?_⟩
        repeat walk_at "s"
        exact Ex.refl
      · have cm : O.map N ≠ [] := fun z => c (List.map_eq_nil_iff.mp z)
        have em : (!(O.map N).isEmpty) = true := by
          cases hO : O.map N with
          | nil => exact absurd hO cm
          | cons _ _ => rfl
        repeat walk_at "s"
        refine ⟨true, .inl ⟨_, hOL, em.symm⟩, ?_⟩
        repeat walk_at "s"
        refine ⟨ph, _, pg, _, rfl, h11, hg11, by omega, by rw [List.length_map]; omega, .inr (.inr ⟨ns, rfl, hn, good, .inr ⟨cm, _, O, pm.pls, .inl ⟨rfl, fun L2 H12 F2 e12 => ?_⟩⟩⟩)⟩
        obtain rfl := F.unique F2
        have hO12 := e12 _ _ hO11
        have hd12 := e12 _ _ hd11
        repeat walk_at "s"
        refine ⟨_, _, lstN (lOf hO12), lstN (lOf hd12), shpI _, shpI _, ?_⟩
        rw [eqvN, show decide (O = L) = decide (L = O) from decide_eq_decide.mpr eq_comm]
        repeat walk_at "s"
        refine ⟨_, _, .bool (decide (L = O)), rfl, .bl _, .bl _, (by simp [sizeD]), fun H13 e13 => ?_⟩
        repeat walk_at "s"
        exact e12.trans e13
    · rintro σ H12 ⟨rfl, e12⟩
      repeat walk_at "s"
      refine ⟨_, _, _, rfl, lstN (lOf (e12 _ _ hg11)), lstN (e12.l hOL), szl (by rw [List.length_map]; omega), fun H13 e13 => ?_⟩
      have e1113 := e12.trans e13
      repeat walk_at "s"
      refine ⟨_, _, _, rfl, lstI (lOf (e1113 _ _ h11)), lstI (lOf ((e911.trans e1113) _ _ a9)), szl (by omega), fun H14 e14 => ?_⟩
      repeat walk_at "s"
      exact ⟨⟨_, _, _, _, _, rfl⟩, e911.trans (e1113.trans e14)⟩
  · rintro σ H10 ⟨⟨z5, z6, z7, z8, z9, rfl⟩, e10⟩
    have a10 := e10 _ _ a9
    have S10 := S9.ex e10
    have kk10 := kk9.trans e10.kp
    repeat walk_at "s"
    refine ⟨by decide, by decide, for_range (n := 3) (fun i σ H' => (∃ y8 y9 y10, σ = [some (.ref s), some (.ref a), some (.ref pd), some (.ref ph), z5, z6, z7, y8, y9, y10]) ∧ H' a = some (.lst (ns.map V.int)) ∧ Kp s H H' ∧ StO H' s) ⟨⟨_, _, _, rfl⟩, a10, kk10, S10⟩ ?_ ?_⟩
    · rintro i σ H11 hi ⟨⟨y8, y9, y10, rfl⟩, a11, k11, S11⟩
      have haL := lOf (K := K) a11
      repeat walk_at "s"
      refine ⟨S11, Nat.succ_le_succ (Nat.zero_le _), (show (ns.map V.int).length + 1 ≤ 1000 by omega), fun r x y H12 k12 S12 hr hq xy yn => ?_⟩
      have yn : y < (ns.map V.int).length + 1 := yn
      have a12 := k12.1 _ _ has a11
      have kk12 := k11.trans k12
      clear k11 k12 haL a11
      have haL := lOf (K := K) a12
      repeat walk_at "s"
      intro pw hpw
      rw [cut_nat xy (by rw [al]; omega), ← List.map_drop, ← List.map_take]
      have gw : Nums ((ns.drop x).take (y - x)) := fun n h => good n (List.mem_of_mem_drop (List.mem_of_mem_take h))
      have lw : ((ns.drop x).take (y - x)).length ≤ 59 := by
        rw [List.length_take, List.length_drop]
        omega
      generalize (ns.drop x).take (y - x) = wd at gw lw
      have e13 := Ex.refl.at (H := H12) (o := .lst (wd.map V.int)) hpw
      have hw13 : upd H12 pw (.lst (wd.map V.int)) pw = some (.lst (wd.map V.int)) := upd_same
      have a13 := e13 _ _ a12
      have S13 := S12.ex e13
      have kk13 := kk12.trans e13.kp
      generalize upd H12 pw (.lst (wd.map V.int)) = H13 at e13 hw13 a13 S13 kk13
      clear e13 haL a12 S12 kk12
      have hwL := lOf (K := K) hw13
      by_cases c : wd = []
      · repeat walk_at "s"
        refine ⟨false, .inl ⟨_, hwL, by rw [c]; rfl⟩, ?_⟩
        refine iteF rfl ?_
        exact ⟨⟨_, _, _, rfl⟩, a13, kk13, S13⟩
      · have em : (!(wd.map V.int).isEmpty) = true := by
          cases wd with
          | nil => exact absurd rfl c
          | cons _ _ => rfl
        have l0 : 0 < wd.length := List.length_pos_iff.mpr c
        have wl : (wd.map V.int).length = wd.length := List.length_map _
        repeat walk_at "s"
        refine ⟨true, .inl ⟨_, hwL, em.symm⟩, ?_⟩
        repeat walk_at "s"
        refine ⟨pw, _, rfl, .inl hwL, fun pc hpc => ?_⟩
        have e14 := Ex.refl.at (H := H13) (o := .lst (wd.map V.int)) hpc
        repeat walk_at "s"
        refine ⟨pc, _, rfl, upd_same, by omega, .inr (.inr ⟨wd, rfl, lw, gw, c, fun m H15 hm hle e15 => ?_⟩)⟩
        have e16 := e14.trans e15
        repeat walk_at "s"
        refine ⟨sz rfl, fun q hq => ?_⟩
        have e17 := e16.trans (Ex.refl.at (H := H15) (o := .lst [.str "left", .str "right"]) hq)
        have hw17 := lOf (K := K) (e17 _ _ hw13)
        repeat walk_at "s"
        refine ⟨l0, fun m2 hm2 hle2 => ?_⟩
        have em2 : m2 = m := by
          have := hle m2 hm2
          have := hle2 m hm
          omega
        subst em2
        repeat walk_at "s"
        have m01 : m2 % 2 = 0 ∨ m2 % 2 = 1 := by omega
        rcases m01 with e | e
        · refine .inl ⟨q, _, m2 % 2, .str "left", rfl, rfl, lOf upd_same, (by rw [e]; rfl), ?_⟩
          have es : say m2 = "left" := if_pos e
          rw [es]
          refine ⟨_, _, .str "left", rfl, .str _, .str _, (by simp [sizeD]), fun H18 e18 => ?_⟩
          have e1318 := e17.trans e18
          repeat walk_at "s"
          exact ⟨⟨_, _, _, rfl⟩, e1318 _ _ a13, kk13.trans e1318.kp, S13.ex e1318⟩
        · refine .inl ⟨q, _, m2 % 2, .str "right", rfl, rfl, lOf upd_same, (by rw [e]; rfl), ?_⟩
          have es : say m2 = "right" := if_neg (by omega)
          rw [es]
          refine ⟨_, _, .str "right", rfl, .str _, .str _, (by simp [sizeD]), fun H18 e18 => ?_⟩
          have e1318 := e17.trans e18
          repeat walk_at "s"
          exact ⟨⟨_, _, _, rfl⟩, e1318 _ _ a13, kk13.trans e1318.kp, S13.ex e1318⟩
    · rintro σ H11 ⟨⟨y8, y9, y10, rfl⟩, a11, k11, S11⟩
      repeat walk_at "s"
      exact k _ k11 S11
end
end Lw
namespace Lw
open PySem PySem.Spec PyProof.Rows L2 L2H
/-! ### the draws -/
local macro_rules | `(tactic| walk_at "len") => `(tactic| (intro vs H Q E h; first | (obtain ⟨_, e, _⟩ := h; subst e; rfl) | (obtain ⟨_, _, e, _⟩ := h; subst e; rfl) | (obtain ⟨_, _, _, e, _⟩ := h; subst e; rfl) | (obtain ⟨_, _, _, _, e, _⟩ := h; subst e; rfl) | (obtain ⟨_, _, _, _, _, e, _⟩ := h; subst e; rfl) | (obtain ⟨_, _, _, _, _, _, e, _⟩ := h; subst e; rfl) | (obtain ⟨_, _, _, _, _, _, _, e, _⟩ := h; subst e; rfl)))
local macro_rules | `(tactic| walk_at "get") => `(tactic| (first | assumption | exact upd_same | (refine look_new (by assumption) ?_; walk_at "get") | (refine look_ne (by assumption) ?_; walk_at "get")))
local macro_rules | `(tactic| walk_at "sqt") => `(tactic| (first | assumption | (apply Ex.t (Ex.refl.at (by assumption)); walk_at "sqt")))
local macro_rules | `(tactic| walk_at "s") => `(tactic| (first
  | refine ⟨_, rfl, ?_⟩
  | refine Or.inl ⟨_, rfl, ?_⟩
  | refine Or.inl ⟨_, _, _, _, rfl, rfl, lOf (by walk_at "get"), rfl, ?_⟩
  | refine Or.inl ⟨_, _, _, _, rfl, rfl, (show SqL _ _ _ _ by assumption), rfl, ?_⟩
  | refine Or.inr (Or.inl ⟨_, _, _, _, rfl, rfl, (show SqT _ _ _ _ by walk_at "sqt"), rfl, ?_⟩)
  | refine ⟨_, _, _, _, rfl, rfl, (by walk_at "get"), rfl, ?_⟩
  | refine ⟨_, _, rfl, rfl, Or.inl (Or.inr ⟨by decide, by decide⟩), ?_⟩
  | refine ⟨_, _, rfl, rfl, (by show (0 : Int) < _; first | assumption | decide), ?_⟩
  | refine ⟨_, _, rfl, rfl, ⟨by decide, by decide⟩, ?_⟩
  | refine ⟨_, _, rfl, rfl, ⟨by decide, by decide +kernel⟩, ?_⟩
  | refine ⟨_, _, rfl, rfl, (by show (0 : Int) < _; decide +kernel), ?_⟩
  | refine ⟨(show CMulA _ _ from Or.inl (Or.inl ⟨by (try dsimp only); omega, by (try dsimp only); omega⟩)), ?_⟩
  | refine ⟨_, _, rfl, rfl, ?_⟩
  | refine ⟨_, _, rfl, .inl ⟨_, (show SqL _ _ _ _ by assumption), rfl⟩, ?_⟩
  | refine ⟨_, _, rfl, .inl ⟨_, lOf (by walk_at "get"), rfl⟩, ?_⟩
  | refine ⟨_, _, rfl, (show Dp _ _ _ _ by assumption), ?_⟩
  | refine ⟨_, _, rfl, (show SqT _ _ _ _ by assumption), ?_⟩
  | refine ⟨_, _, rfl, (show SqL _ _ _ _ by assumption), ?_⟩
  | refine ⟨_, _, rfl, ?_⟩
  | refine ⟨rfl, _, rfl, ?_⟩
  | refine ⟨rfl, ?_⟩
  | refine ⟨_, _, _, _, _, rfl, (by walk_at "get"), (by assumption), (by assumption), rfl, ?_⟩
  | refine ⟨_, _, _, _, _, rfl, .own _, (by assumption), (by assumption), ?_⟩
  | refine ⟨_, _, _, _, _, rfl, .ty _, (by assumption), kit_ty (by rfl), ?_⟩))
local macro_rules | `(tactic| walk_at "c") => `(tactic| (try dsimp only [L2.start, List.set, List.map, List.length, List.replicate, List.cons_append, List.nil_append, List.append, HAppend.hAppend, Append.append, Int.toNat, Nat.reduceSub, Nat.reduceAdd]))
local macro_rules | `(tactic| walk_at "T") => `(tactic| ((repeat walk_at "s"); refine iteT (by first | rfl | assumption | decide) ?_; (repeat walk_at "s")))
local macro_rules | `(tactic| walk_at "F") => `(tactic| ((repeat walk_at "s"); refine iteF (by first | rfl | assumption | decide) ?_; (repeat walk_at "s")))
local macro_rules | `(tactic| walk_at "isi") => `(tactic| ((repeat walk_at "s"); refine ⟨_, _, _, _, _, rfl, .ty _, (by assumption), kit_ty (by rfl), ?_⟩; (repeat walk_at "s")))
local macro_rules | `(tactic| walk_at "mem") => `(tactic| (first | exact List.Mem.head _ | (refine List.Mem.tail _ ?_; walk_at "mem")))
local macro_rules | `(tactic| walk_at "ext") => `(tactic| (first | exact Ex.refl | (refine Ex.new ?_ (by assumption); walk_at "ext")))
local macro_rules | `(tactic| walk_at "al") => `(tactic| ((repeat walk_at "s"); refine ⟨sz rfl, fun _ _ => ?_⟩))
section
variable {w : World} {K : PySem.W.Frag} {mg : Str → Option Value} {base : Heap}
theorem Fb.ex {H H' : Hp} {xs : List V} {k : Nat} (h : Fb H xs k) (e : Ex H H') : Fb H' xs k := let ⟨v, a, b, c⟩ := h; ⟨v, a, b.ex e, c⟩
theorem Fb.kp {H H' : Hp} {s : Addr} {xs : List V} {k : Nat} (h : Fb H xs k) (S : StO H s) (e : Kp s H H') : Fb H' xs k := let ⟨v, a, b, c⟩ := h; ⟨v, a, b.kp S e, c⟩
def rListOf (K : PySem.W.Frag) : List V → Hp → VK → Prop := fun xs H Q => ∃ p ys, xs = [V.ref p] ∧ (SqL K H p ys ∨ SqT K H p ys) ∧ ∀ l, H l = none → Q (.ref l) (upd H l (.lst ys))
theorem updL_t {H : Hp} {D a : Addr} {xs ys : List V} {o : HO} (h : H D = some (.lst xs)) (q : SqT K H a ys) : SqT K (upd H D o) a ys := q.elim (fun q => .inl (by
  have n : a ≠ D := fun e => by
    subst e
    rcases q with q | ⟨o, q⟩ <;> (rw [h] at q; cases q)
  exact q.elim (fun q => .inl (look_ne n q)) fun ⟨u, q⟩ => .inr ⟨u, look_ne n q⟩)) .inr
theorem sm_all {H : Hp} : ∀ {xs : List V}, (∀ x ∈ xs, Sm x H) → ∃ ds, DpAll K H xs ds ∧ sizeDs ds ≤ 5 * xs.length
  | [], _ => ⟨[], .nil, Nat.le_refl _⟩
  | x :: xs, h => by
    obtain ⟨d, h1, h2⟩ := (h x List.mem_cons_self).dp (K := K)
    obtain ⟨ds, h3, h4⟩ := sm_all (xs := xs) fun y hy => h y (List.mem_cons_of_mem _ hy)
    refine ⟨d :: ds, .cons h1 h3, ?_⟩
    show sizeD d + sizeDs ds ≤ 5 * (xs.length + 1)
    omega
theorem sm_int {H : Hp} (ns : List Int) : ∀ x ∈ ns.map V.int, Sm x H := fun x hx => by
  obtain ⟨i, _, rfl⟩ := List.mem_map.mp hx
  exact .inl ⟨i, rfl⟩
theorem sm_N {H : Hp} (L : List Nat) : ∀ x ∈ L.map N, Sm x H := fun x hx => by
  obtain ⟨i, _, rfl⟩ := List.mem_map.mp hx
  exact .inl ⟨i, rfl⟩
theorem cut_to (xs : List V) (k : Nat) : cutV xs none (some (k : Int)) = xs.take k := by
  have h0 : HT.sIx xs.length 0 none = 0 := rfl
  unfold cutV
  rw [HT.sIx_nat, h0, List.drop_zero, Nat.sub_zero]
  by_cases h : k ≤ xs.length
  · rw [Nat.min_eq_left h]
  · rw [Nat.min_eq_right (by omega), List.take_length, List.take_of_length_le (by omega)]
theorem cut_from (xs : List V) (k : Nat) : cutV xs (some (k : Int)) none = xs.drop k := by
  have h0 : HT.sIx xs.length xs.length none = xs.length := rfl
  unfold cutV
  rw [HT.sIx_nat, h0]
  by_cases h : k ≤ xs.length
  · rw [Nat.min_eq_left h, List.take_of_length_le (by rw [List.length_drop]; omega)]
  · rw [Nat.min_eq_right (by omega), List.drop_eq_nil_of_le (show xs.length ≤ xs.length from Nat.le_refl _), List.drop_eq_nil_of_le (by omega), List.take_nil]
theorem Nums.drop {ns : List Int} (h : Nums ns) (k : Nat) : Nums (ns.drop k) := fun n hn => h n (List.mem_of_mem_drop hn)
/-- a list that may be handed: none of those that change -/
def Lst (B : Addr → Prop) (H : Hp) (p : Addr) (xs : List V) : Prop := H p = some (.lst xs) ∧ ¬ B p ∧ xs.length < 200 ∧ ∀ x ∈ xs, Sm x H
/-- an ask, what is due stands in its third entry -/
def AskOk (K : PySem.W.Frag) (B : Addr → Prop) (H : Hp) (x : V) : Prop := ∃ (a l u p : Addr) (form : Int) (xs rest : List V) (yo : Option (List V)), x = .ref a ∧ SqT K H a [.int form, .ref l, .ref u] ∧ H l = some (.lst (.ref p :: rest)) ∧ ¬ B l ∧ Lst B H p xs ∧
  ((rest = [] ∧ yo = none ∧ (form = 0 ∨ form = 1)) ∨ ∃ q ys, rest = [.ref q] ∧ yo = some ys ∧ Lst B H q ys ∧ (form = 0 ∨ form = 1 ∨ form = 2)) ∧
  Res H form xs yo (SqT K H u []) (SqT K H u [.str "TooMany", .str "places", .int 60]) (fun k => SqT K H u [.str "BadLevel", .int (k : Nat)]) (fun f => SqT K H u [.str "BadOrder", .str f])
theorem AskOk.mono {B B' : Addr → Prop} {H H' : Hp} {x : V} (h : AskOk K B H x) (b : ∀ p, ¬ B p → ¬ B' p) (t : ∀ a ys, SqT K H a ys → SqT K H' a ys) (l : ∀ p xs, ¬ B p → H p = some (.lst xs) → H' p = some (.lst xs)) (o : ∀ v, Odd6 v H → Odd6 v H') : AskOk K B' H' x :=
  let ⟨a, ll, u, p, form, xs, rest, yo, h1, h2, h3, h4, ⟨g1, g2, g3, g4⟩, h6, h7⟩ := h
  ⟨a, ll, u, p, form, xs, rest, yo, h1, t _ _ h2, l _ _ h4 h3, b _ h4, ⟨l _ _ g2 g1, b _ g2, g3, fun x hx => (g4 x hx).imp id (o x)⟩,
    h6.imp id (fun ⟨q, ys, a1, a2, ⟨f1, f2, f3, f4⟩, a4⟩ => ⟨q, ys, a1, a2, ⟨l _ _ f2 f1, b _ f2, f3, fun x hx => (f4 x hx).imp id (o x)⟩, a4⟩), h7.mono o (t _ _) (t _ _) (fun _ => t _ _) fun _ => t _ _⟩
theorem AskOk.ex {B : Addr → Prop} {H H' : Hp} {x : V} (h : AskOk K B H x) (e : Ex H H') : AskOk K B H' x := h.mono (fun _ h => h) (fun _ _ h => e.t h) (fun _ _ _ h => e _ _ h) fun _ h => h.ex e
theorem AskOk.kp {B : Addr → Prop} {s : Addr} {H H' : Hp} {x : V} (h : AskOk K B H x) (hs : B s) (S : StO H s) (e : Kp s H H') : AskOk K B H' x :=
  h.mono (fun _ h => h) (fun _ _ h => e.t S h) (fun p _ n h => e.1 _ _ (fun q => n (q ▸ hs)) h) fun _ h => h.kp S e
theorem AskOk.upd {B : Addr → Prop} {D : Addr} {H : Hp} {x : V} {ys : List V} {o : HO} (h : AskOk K B H x) (hd : B D) (q : H D = some (.lst ys)) : AskOk K B (upd H D o) x :=
  h.mono (fun _ h => h) (fun _ _ h => updL_t q h) (fun p _ n h => look_ne (fun z => n (z ▸ hd)) h) fun _ h => h.upd q
theorem due_use {H : Hp} {form : Int} {xs : List V} {yo : Option (List V)} {u : Addr}
    (h : Res H form xs yo (SqT K H u []) (SqT K H u [.str "TooMany", .str "places", .int 60]) (fun k => SqT K H u [.str "BadLevel", .int (k : Nat)]) (fun f => SqT K H u [.str "BadOrder", .str f])) :
    ∃ (ys : List V) (ds : List PyData), SqT K H u ys ∧ (∀ H', DpAll K H' ys ds) ∧ sizeDs ds ≤ 10 ∧ ∀ Q : VK, (∀ r H', Ex H H' → H r = none → SqT K H' r ys → Q (.ref r) H') →
      Res H form xs yo (∀ r H', Ex H H' → H r = none → SqT K H' r [] → Q (.ref r) H') (∀ r H', Ex H H' → H r = none → SqT K H' r [.str "TooMany", .str "places", .int 60] → Q (.ref r) H')
        (fun k => ∀ r H', Ex H H' → H r = none → SqT K H' r [.str "BadLevel", .int (k : Nat)] → Q (.ref r) H') (fun f => ∀ r H', Ex H H' → H r = none → SqT K H' r [.str "BadOrder", .str f] → Q (.ref r) H') := by
  have d0 : ∀ H', DpAll K H' [] [] := fun _ => .nil
  have d1 : ∀ (k : Nat) H', DpAll K H' [.str "BadLevel", .int (k : Nat)] [.str "BadLevel", .int (k : Nat)] := fun _ _ => .cons (.str _) (.cons (.int _) .nil)
  have d2 : ∀ (f : Str) H', DpAll K H' [.str "BadOrder", .str f] [.str "BadOrder", .str f] := fun _ _ => .cons (.str _) (.cons (.str _) .nil)
  have d3 : ∀ H', DpAll K H' [.str "TooMany", .str "places", .int 60] [.str "TooMany", .str "places", .int 60] := fun _ => .cons (.str _) (.cons (.str _) (.cons (.int _) .nil))
  have s1 : ∀ k : Nat, sizeDs [.str "BadLevel", .int (k : Nat)] ≤ 10 := fun k => by simp [sizeDs, sizeD]
  have s2 : ∀ f : Str, sizeDs [.str "BadOrder", .str f] ≤ 10 := fun k => by simp [sizeDs, sizeD]
  rcases h with ⟨l, t⟩ | ⟨l, k, f, t⟩ | ⟨gs, e, l, g, ⟨e0, t⟩ | ⟨e0, ⟨e1, t⟩ | ⟨e1, t⟩⟩ | ⟨e0, ys, e1, ⟨e2, t⟩ | ⟨e2, kk, L, P, ⟨a, t⟩ | ⟨v, a, b, t⟩ | ⟨v, a, b, c, t⟩⟩⟩⟩
  · exact ⟨_, _, t, d3, by simp [sizeDs, sizeD], fun Q q => .inl ⟨l, q⟩⟩
  · exact ⟨_, _, t, d1 k, s1 k, fun Q q => .inr (.inl ⟨l, k, f, q⟩)⟩
  · exact ⟨_, _, t, d0, by simp [sizeDs], fun Q q => .inr (.inr ⟨gs, e, l, g, .inl ⟨e0, q⟩⟩)⟩
  · exact ⟨_, _, t, d1 0, s1 0, fun Q q => .inr (.inr ⟨gs, e, l, g, .inr (.inl ⟨e0, .inl ⟨e1, q⟩⟩)⟩)⟩
  · exact ⟨_, _, t, d0, by simp [sizeDs], fun Q q => .inr (.inr ⟨gs, e, l, g, .inr (.inl ⟨e0, .inr ⟨e1, q⟩⟩)⟩)⟩
  · exact ⟨_, _, t, d2 _, s2 _, fun Q q => .inr (.inr ⟨gs, e, l, g, .inr (.inr ⟨e0, ys, e1, .inl ⟨e2, q⟩⟩)⟩)⟩
  · exact ⟨_, _, t, d0, by simp [sizeDs], fun Q q => .inr (.inr ⟨gs, e, l, g, .inr (.inr ⟨e0, ys, e1, .inr ⟨e2, kk, L, P, .inl ⟨a, q⟩⟩⟩)⟩)⟩
  · exact ⟨_, _, t, d2 _, s2 _, fun Q q => .inr (.inr ⟨gs, e, l, g, .inr (.inr ⟨e0, ys, e1, .inr ⟨e2, kk, L, P, .inr (.inl ⟨v, a, b, q⟩)⟩⟩)⟩)⟩
  · exact ⟨_, _, t, d2 _, s2 _, fun Q q => .inr (.inr ⟨gs, e, l, g, .inr (.inr ⟨e0, ys, e1, .inr ⟨e2, kk, L, P, .inr (.inr ⟨v, a, b, c, q⟩)⟩⟩)⟩)⟩
theorem fault_ok {form : Int} {l : Addr} {xs ys : List V} {yo : Option (List V)} {H : Hp} {Q : VK} {E : XK} (h1 : Ths K H form l xs yo)
    (use : ∀ Q : VK, (∀ r H', Ex H H' → H r = none → SqT K H' r ys → Q (.ref r) H') →
      Res H form xs yo (∀ r H', Ex H H' → H r = none → SqT K H' r [] → Q (.ref r) H') (∀ r H', Ex H H' → H r = none → SqT K H' r [.str "TooMany", .str "places", .int 60] → Q (.ref r) H')
        (fun k => ∀ r H', Ex H H' → H r = none → SqT K H' r [.str "BadLevel", .int (k : Nat)] → Q (.ref r) H') (fun f => ∀ r H', Ex H H' → H r = none → SqT K H' r [.str "BadOrder", .str f] → Q (.ref r) H'))
    (q : ∀ r H', Ex H H' → H r = none → SqT K H' r ys → Q (.ref r) H') : spFault K [.int form, .ref l] H Q E := ⟨form, l, xs, yo, rfl, h1, use Q q⟩
/-- lists that hold these -/
def Cont (H : Hp) (rs : List V) (cs : List (List V)) : Prop := rs.length = cs.length ∧ ∀ (j : Nat) (r : V) (ys : List V), rs[j]? = some r → cs[j]? = some ys → ∃ p, r = .ref p ∧ H p = some (.lst ys)
theorem Cont.ex {H H' : Hp} {rs : List V} {cs : List (List V)} (h : Cont H rs cs) (e : Ex H H') : Cont H' rs cs := ⟨h.1, fun j r ys a b => let ⟨p, c, d⟩ := h.2 j r ys a b; ⟨p, c, e _ _ d⟩⟩
theorem Cont.upd {H : Hp} {D : Addr} {rs : List V} {cs : List (List V)} {o : HO} (h : Cont H rs cs) (n : ∀ r ∈ rs, r ≠ V.ref D) : Cont (upd H D o) rs cs := ⟨h.1, fun j r ys a b =>
  let ⟨p, c, d⟩ := h.2 j r ys a b
  ⟨p, c, look_ne (fun e => n r (List.mem_of_getElem? a) (by rw [c, e])) d⟩⟩
theorem Cont.snoc {H : Hp} {rs : List V} {cs : List (List V)} {p : Addr} {ys : List V} (h : Cont H rs cs) (hp : H p = some (.lst ys)) : Cont H (rs ++ [.ref p]) (cs ++ [ys]) := by
  refine ⟨by rw [List.length_append, List.length_append, h.1]; rfl, fun j r zs a b => ?_⟩
  by_cases c : j < rs.length
  · rw [List.getElem?_append_left c] at a
    rw [List.getElem?_append_left (by rw [← h.1]; exact c)] at b
    exact h.2 j r zs a b
  · have hj : j = rs.length := by
      have := (List.getElem?_eq_some_iff.mp a).1
      rw [List.length_append] at this
      simp at this
      omega
    subst hj
    rw [List.getElem?_append_right (Nat.le_refl _), Nat.sub_self] at a
    rw [h.1, List.getElem?_append_right (Nat.le_refl _), Nat.sub_self] at b
    cases a
    cases b
    exact ⟨p, rfl, hp⟩
theorem Cont.dp {H : Hp} : ∀ {rs : List V} {cs : List (List V)} {dss : List (List PyData)}, Cont H rs cs → (dss.length = cs.length) → (∀ (j : Nat) (ys : List V) (ds : List PyData), cs[j]? = some ys → dss[j]? = some ds → DpAll K H ys ds) → DpAll K H rs (dss.map PyData.list)
  | [], [], [], _, _, _ => .nil
  | r :: rs, y :: cs, d :: dss, h, hl, hd => by
    obtain ⟨p, rfl, hp⟩ := h.2 0 r y rfl rfl
    exact .cons (.lst (lOf hp) (hd 0 y d rfl rfl)) (Cont.dp (cs := cs) ⟨by have := h.1; simpa using this, fun j r ys a b => h.2 (j + 1) r ys a b⟩ (by simpa using hl) fun j ys ds a b => hd (j + 1) ys ds a b)
  | [], _ :: _, _, h, _, _ => by cases h.1
  | _ :: _, [], _, h, _, _ => by cases h.1
  | _ :: _, _ :: _, [], _, hl, _ => by cases hl
  | [], [], _ :: _, _, hl, _ => by cases hl
theorem conts_dp {H : Hp} : ∀ {cs : List (List V)}, (∀ ys ∈ cs, ys.length < 200 ∧ ∀ x ∈ ys, Sm x H) → ∃ dss : List (List PyData), dss.length = cs.length ∧ (∀ (j : Nat) (ys : List V) (ds : List PyData), cs[j]? = some ys → dss[j]? = some ds → DpAll K H ys ds) ∧ sizeDs (dss.map PyData.list) ≤ 1001 * cs.length
  | [], _ => ⟨[], rfl, (fun j ys ds a => by cases a), by simp [sizeDs]⟩
  | c :: cs, h => by
    obtain ⟨h1, h2⟩ := h c List.mem_cons_self
    obtain ⟨d, d1, d2⟩ := sm_all (K := K) h2
    obtain ⟨dss, e1, e2, e3⟩ := conts_dp (cs := cs) fun ys hy => h ys (List.mem_cons_of_mem _ hy)
    refine ⟨d :: dss, by rw [List.length_cons, e1]; rfl, fun j ys ds a b => ?_, ?_⟩
    · match j, a, b with
      | 0, a, b =>
        cases a
        cases b
        exact d1
      | j + 1, a, b => exact e2 j ys ds a b
    · show sizeD (.list d) + sizeDs (dss.map PyData.list) ≤ 1001 * (cs.length + 1)
      simp only [sizeD]
      omega
def spRefused (K : PySem.W.Frag) : Sp := fun vs H Q _ => ∃ (s a o : Addr) (ns : List Int) (L : List Nat), vs = [.ref s, .ref a, .ref o] ∧ StO H s ∧ H a = some (.lst (ns.map V.int)) ∧ a ≠ s ∧ ns.length ≤ 59 ∧ Nums ns ∧ H o = some (.lst (L.map N)) ∧ o ≠ s ∧ Pm L ∧ L.length = ns.length + 1 ∧
  ∀ H', Kp s H H' → StO H' s → Q (.bl true) H'
theorem sc_l_refused : FnScope ["store", "numbers", "order", "top", "most", "asks", "turn", "bad", "at", "hole", "ask", "handed", "k", "form", "thing"] ["store", "numbers", "order"] (defScope s_l_refused) := ⟨rfl, rfl, rfl, by decide +kernel, rfl, by decide +kernel, by decide +kernel⟩
theorem d_l_refused (T : Tx K mg) : Dn PP w K mg base CX0 10 "_law_refused" ["store", "numbers", "order"] (spRefused K) := by
  obtain ⟨fd, F⟩ := T.d 31
  refine ⟨_, fd, T.g 31, F.kp, FunD.bindsN F (fun _ _ _ _ _ _ us hl => match us, hl with | [_, _, _], _ => rfl), FunD.ok F sc_l_refused (by walk_at "len") (fun cdv A outer s H vs Q E hr h => ?_)⟩
  obtain ⟨s, a, o, ns, L, rfl, S, ha, has, hn, good, ho, hos, pm, Ln, k⟩ := h
  refine ⟨_, PSs.nox ((pss_cons (ps_set (i := 3) sc_l_refused.nd rfl (.inr rfl) (pe_d (d_l_pick T) (hr.mono (by decide)) rfl pass0 (pa_cons (pv 0) (pa_cons (pe_lst (pa_cons pe_int (pa_cons pe_int (pa_cons pe_int (pa_cons pe_int (pa_cons pe_int (pa_cons pe_int (pa_cons pe_int (pa_cons pe_int pa_nil))))))))) pa_nil))))
      (pss_cons (ps_set (i := 4) sc_l_refused.nd rfl (.inr rfl) (pe_lc (own := [("k", 12)]) rfl sc_l_refused.nd (pi_range1 rfl (T.f 76) (pa_cons pe_int pa_nil)) (blkOk_by (own := [("k", 12)]) (N := ["store", "numbers", "order", "top", "most", "asks", "turn", "bad", "at", "hole", "ask", "handed", "k", "form", "thing"]) (sc := defScope s_l_refused) (by decide +kernel)) (fun _ _ _ _ _ => (pg_name (i := 12) sc_l_refused.nd rfl (.inl rfl))) (fun _ _ _ _ _ => pts_nil) (fun _ _ _ _ _ => (pe_d (d_l_take T) (hr.mono (by decide)) rfl pass0 (pa_cons (pv 0) (pa_cons (pv 3) pa_nil))))))
      (pss_cons (ps_setLc (i := 5) (own := [("form", 13)]) rfl sc_l_refused.nd rfl rfl (sw_true rfl rfl rfl (by decide +kernel)) (pi_range1 rfl (T.f 76) (pa_cons pe_int pa_nil)) (blkOk_by (own := [("form", 13)]) (N := ["store", "numbers", "order", "top", "most", "asks", "turn", "bad", "at", "hole", "ask", "handed", "k", "form", "thing"]) (sc := defScope s_l_refused) (by decide +kernel)) (fun _ _ _ _ _ => (pg_name (i := 13) sc_l_refused.nd rfl (.inl rfl))) (fun _ _ _ _ _ => pts_nil) (fun _ _ _ _ _ => (pe_tup (pa_cons (pv 13) (pa_cons (pe_lst (pa_cons (pv 4) (pa_cons (pv 2) pa_nil))) (pa_cons (pe_tup (pa_cons pe_str (pa_cons pe_str (pa_cons pe_int pa_nil)))) pa_nil))))))
      (pss_cons (ps_set (i := 5) sc_l_refused.nd rfl (.inl rfl) (pe_op op_addA (pv 5) (pe_lc (own := [("form", 13)]) rfl sc_l_refused.nd (pi_range1 rfl (T.f 76) (pa_cons pe_int pa_nil)) (blkOk_by (own := [("form", 13)]) (N := ["store", "numbers", "order", "top", "most", "asks", "turn", "bad", "at", "hole", "ask", "handed", "k", "form", "thing"]) (sc := defScope s_l_refused) (by decide +kernel)) (fun _ _ _ _ _ => (pg_name (i := 13) sc_l_refused.nd rfl (.inl rfl))) (fun _ _ _ _ _ => pts_nil) (fun _ _ _ _ _ => (pe_tup (pa_cons (pv 13) (pa_cons (pe_lst (pa_cons (pe_op (show OpR _ (binaryOp .Add) (rAdd K) from op_addA) (pe_lst (pa_cons (pe_op op_sub pe_int pe_int) pa_nil)) (pv 4)) (pa_cons (pe_lst pa_nil) pa_nil))) (pa_cons (pe_tup (pa_cons pe_str (pa_cons pe_str (pa_cons pe_int pa_nil)))) pa_nil))))))))
      (pss_cons (ps_for PassesOwn.never rfl (pi_range1 rfl (T.f 76) (pa_cons pe_int pa_nil)) (pg_name (i := 6) sc_l_refused.nd rfl (.inl rfl)) (pss_cons (ps_set (i := 7) sc_l_refused.nd rfl (.inr rfl) (pe_d (d_l_badnumbers T) (hr.mono (by decide)) rfl pass0 (pa_cons (pv 0) (pa_cons (pv 1) pa_nil))))
      (pss_one (ps_if (pt_cmpR op_lt (pe_callB call_len (by rfl) (T.f 72) boot_len (pa_cons (pe_ix ix_seq (pv 7) pe_int (fun _ _ => rfl)) pa_nil)) pe_int (nomark _)) (pss_one (ps_set (i := 5) sc_l_refused.nd rfl (.inl rfl) (pe_op op_addA (pv 5) (pe_lc (own := [("form", 13)]) rfl sc_l_refused.nd (pi_range1 rfl (T.f 76) (pa_cons pe_int pa_nil)) (blkOk_by (own := [("form", 13)]) (N := ["store", "numbers", "order", "top", "most", "asks", "turn", "bad", "at", "hole", "ask", "handed", "k", "form", "thing"]) (sc := defScope s_l_refused) (by decide +kernel)) (fun _ _ _ _ _ => (pg_name (i := 13) sc_l_refused.nd rfl (.inl rfl))) (fun _ _ _ _ _ => pts_nil) (fun _ _ _ _ _ => (pe_tup (pa_cons (pv 13) (pa_cons (pe_lst (pa_cons (pe_ix (show IxR _ (rIx K) from ix_seq) (pv 7) pe_int (fun _ _ => rfl)) (pa_cons (pe_d (d_l_pick T) (hr.mono (by decide)) rfl pass0 (pa_cons (pv 0) (pa_cons (pe_lst (pa_cons (pv 2) (pa_cons (pe_lst pa_nil) pa_nil))) pa_nil))) pa_nil))) (pa_cons (pe_tup (pa_cons pe_str (pa_cons (pe_ix (show IxR _ (rIx K) from ix_seq) (pv 7) pe_int (fun _ _ => rfl)) pa_nil))) pa_nil))))))))) pss_nil))))
      (pss_cons (ps_set (i := 8) sc_l_refused.nd rfl (.inl rfl) (pe_d (d_l_edge T) (hr.mono (by decide)) rfl pass0 (pa_cons (pv 0) (pa_cons (pe_callB call_len (by rfl) (T.f 72) boot_len (pa_cons (pv 2) pa_nil)) pa_nil))))
      (pss_cons (ps_set (i := 9) sc_l_refused.nd rfl (.inl rfl) (pe_op op_addA (pe_op op_addA (pe_slice sl_list (pv 2) po_none (po_some (pv 8))) (pe_d (d_l_notin T) (hr.mono (by decide)) rfl pass0 (pa_cons (pv 0) (pa_cons (pe_callB call_len (by rfl) (T.f 72) boot_len (pa_cons (pv 2) pa_nil)) pa_nil)))) (pe_slice sl_list (pv 2) (po_some (pe_op op_addA (pv 8) pe_int)) po_none)))
      (pss_cons (ps_set (i := 5) sc_l_refused.nd rfl (.inl rfl) (pe_op op_addA (pv 5) (pe_lst (pa_cons (pe_tup (pa_cons pe_int (pa_cons (pe_lst (pa_cons (pv 1) (pa_cons (pv 9) pa_nil))) (pa_cons (pe_tup (pa_cons pe_str (pa_cons pe_str pa_nil))) pa_nil)))) (pa_cons (pe_tup (pa_cons pe_int (pa_cons (pe_lst (pa_cons (pv 1) (pa_cons (pe_lst pa_nil) pa_nil))) (pa_cons (pe_tup (pa_cons pe_str (pa_cons pe_str pa_nil))) pa_nil)))) (pa_cons (pe_tup (pa_cons pe_int (pa_cons (pe_lst (pa_cons (pv 1) (pa_cons (pe_op op_addA (pv 2) (pe_lst (pa_cons (pe_ix ix_seq (pv 2) (pv 8) (fun _ _ => rfl)) pa_nil))) pa_nil))) (pa_cons (pe_tup (pa_cons pe_str (pa_cons pe_str pa_nil))) pa_nil)))) (pa_cons (pe_tup (pa_cons pe_int (pa_cons (pe_lst (pa_cons (pe_lst pa_nil) pa_nil)) (pa_cons (pe_tup (pa_cons pe_str (pa_cons pe_int pa_nil))) pa_nil)))) (pa_cons (pe_tup (pa_cons pe_int (pa_cons (pe_lst (pa_cons (pe_lst pa_nil) pa_nil)) (pa_cons (pe_tup pa_nil) pa_nil)))) (pa_cons (pe_tup (pa_cons pe_int (pa_cons (pe_lst (pa_cons (pe_slice sl_list (pv 4) (po_some pe_int) po_none) pa_nil)) (pa_cons (pe_tup pa_nil) pa_nil)))) (pa_cons (pe_tup (pa_cons pe_int (pa_cons (pe_lst (pa_cons (pe_slice sl_list (pv 4) (po_some pe_int) po_none) pa_nil)) (pa_cons (pe_tup pa_nil) pa_nil)))) (pa_cons (pe_tup (pa_cons pe_int (pa_cons (pe_lst (pa_cons (pe_slice sl_list (pv 4) (po_some pe_int) po_none) (pa_cons (pv 2) pa_nil))) (pa_cons (pe_tup pa_nil) pa_nil)))) (pa_cons (pe_tup (pa_cons pe_int (pa_cons (pe_lst (pa_cons (pe_lst pa_nil) (pa_cons (pv 2) pa_nil))) (pa_cons (pe_tup pa_nil) pa_nil)))) (pa_cons (pe_tup (pa_cons pe_int (pa_cons (pe_lst (pa_cons (pe_lst pa_nil) (pa_cons (pe_op op_addA (pe_listRg rfl rfl (T.f 73) (prg_1 rfl (T.f 76) pe_int)) (pe_lst (pa_cons pe_int pa_nil))) pa_nil))) (pa_cons (pe_tup pa_nil) pa_nil)))) (pa_cons (pe_tup (pa_cons pe_int (pa_cons (pe_lst (pa_cons (pv 1) pa_nil)) (pa_cons (pe_tup pa_nil) pa_nil)))) pa_nil))))))))))))))
      (pss_cons (ps_for PassesOwn.never rfl (pi_list (pv 5)) (pg_name (i := 10) sc_l_refused.nd rfl (.inl rfl)) (pss_cons (ps_setLc (i := 11) (own := [("thing", 14)]) rfl sc_l_refused.nd rfl rfl (sw_true rfl rfl rfl (by decide +kernel)) (pi_list (pe_ix ix_seq (pv 10) pe_int (fun _ _ => rfl))) (blkOk_by (own := [("thing", 14)]) (N := ["store", "numbers", "order", "top", "most", "asks", "turn", "bad", "at", "hole", "ask", "handed", "k", "form", "thing"]) (sc := defScope s_l_refused) (by decide +kernel)) (fun _ _ _ _ _ => (pg_name (i := 14) sc_l_refused.nd rfl (.inl rfl))) (fun _ _ _ _ _ => pts_nil) (fun _ _ _ _ _ => (pe_callTy (show CallR _ (.type "list") (rListOf K) from call_list_of) (by rfl) (T.f 73) (by decide +kernel) (pa_cons (pv 14) pa_nil))))
      (pss_one (ps_if (PW.pt (pw_or (pt_not (pt_truth (pe_d (d_l_same T) (hr.mono (by decide)) rfl pass0 (pa_cons (pe_d (d_l_fault T) (hr.mono (by decide)) rfl pass0 (pa_cons (pe_ix ix_seq (pv 10) pe_int (fun _ _ => rfl)) (pa_cons (pv 11) pa_nil))) (pa_cons (pe_ix ix_seq (pv 10) pe_int (fun _ _ => rfl)) pa_nil))) (by intro _; rfl))) (pw_or1 (pt_not (pt_truth (pe_d (d_l_same T) (hr.mono (by decide)) rfl pass0 (pa_cons (pv 11) (pa_cons (pe_ix ix_seq (pv 10) pe_int (fun _ _ => rfl)) pa_nil))) (by intro _; rfl)))))) (pss_one (ps_ret pe_bl)) pss_nil))))
      (pss_one (ps_ret pe_bl)))))))))))), ?_⟩
  repeat walk_at "s"
  refine ⟨sz rfl, fun r hr => ?_⟩
  repeat walk_at "s"
  refine ⟨_, _, _, rfl, S.ex (Ex.refl.at hr), upd_same, S.ne hr, (fun h => nomatch h), ln rfl, fun top H1 k1 S1 htop => ?_⟩
  have ht : ∃ t : Int, top = .int t ∧ 2 ≤ t ∧ t ≤ 1001 := by
    simp only [List.mem_cons, List.not_mem_nil, or_false] at htop
    rcases htop with rfl | rfl | rfl | rfl | rfl | rfl | rfl | rfl
    all_goals exact ⟨_, rfl, by decide, by decide⟩
  obtain ⟨t, rfl, t2, t1⟩ := ht
  have kk1 := (Ex.refl.at hr).kp.trans k1
  have ha1 := kk1.1 _ _ has ha
  have ho1 := kk1.1 _ _ hos ho
  clear htop
  repeat walk_at "s"
  refine ⟨by omega, by omega, fun D hD => lc_range (n := 60) (fun i H' => ∃ ms : List Int, H' D = some (.lst (ms.map V.int)) ∧ ms.length = i ∧ Nums ms ∧ Kp s H1 H' ∧ StO H' s) ?_ ?_ ?_⟩
  · exact ⟨[], upd_same, rfl, (fun n h => by cases h), (Ex.refl.at hD).kp, S1.ex (Ex.refl.at hD)⟩
  · rintro i H2 hi ⟨ms, hd, hl, gm, k2, S2⟩
    have hDs : D ≠ s := S1.ne hD
    refine ⟨rfl, ?_⟩
    repeat walk_at "s"
    refine ⟨S2, lg (n := 10) (by omega) (by decide) (by decide), fun v H3 k3 S3 v0 _ vh => ?_⟩
    have hd3 := k3.1 _ _ hDs hd
    refine ⟨_, hd3, by rw [List.length_map, sizeLine_eq]; omega, ms ++ [v], ?_, by rw [List.length_append, hl]; rfl, ?_, (k2.trans k3).at hD hDs, S1.set2 S3 (k2.trans k3) hD⟩
    · rw [List.map_append]
      exact upd_same
    · intro n hn
      rcases List.mem_append.mp hn with hn | hn
      · exact gm n hn
      · obtain rfl := List.mem_singleton.mp hn
        have := vh (by omega)
        simp only [lv, Bool.and_eq_true, decide_eq_true_eq]
        omega
  · rintro H2 ⟨ms, hm2, hl, gm, k2, S2⟩
    have hDs : D ≠ s := S1.ne hD
    have ha2 := k2.1 _ _ has ha1
    have ho2 := k2.1 _ _ hos ho1
    have kk2 := kk1.trans k2
    clear k1 k2 ha1 ho1 kk1 hD hr
    have ml : (ms.map V.int).length = 60 := by rw [List.length_map, hl]
    have ll : (L.map N).length = L.length := List.length_map _
    have al : (ns.map V.int).length = ns.length := List.length_map _
    have smi : ∀ {H' : Hp} (zs : List Int), ∀ x ∈ zs.map V.int, Sm x H' := fun zs => sm_int zs
    have smn : ∀ {H' : Hp} (zs : List Nat), ∀ x ∈ zs.map N, Sm x H' := fun zs => sm_N zs
    have Bw : ∀ {D1 : Addr} {H' : Hp} {x : V}, AskOk K (fun p => p = s ∨ p = D1) H' x → AskOk K (fun p => p = s) H' x := fun h => h.mono (fun _ h z => h (.inl z)) (fun _ _ h => h) (fun _ _ _ h => h) fun _ h => h
    repeat walk_at "s"
    refine ⟨by decide, by decide, fun D1 hD1 => lc_range (n := 3) (fun i H' => ∃ as, H' D1 = some (.lst as) ∧ as.length = i ∧ (∀ x ∈ as, AskOk K (fun p => p = s ∨ p = D1) H' x) ∧ Ex H2 H') ⟨[], upd_same, rfl, (fun x h => by cases h), Ex.refl.at hD1⟩ ?_ ?_⟩
    · rintro i H3 hi ⟨as, hd, al3, ok3, e3⟩
      have hm3 := e3 _ _ hm2
      have ho3 := e3 _ _ ho2
      have nD : ¬ (D = s ∨ D = D1) := fun z => z.elim hDs fun z => by rw [z, hD1] at hm2; cases hm2
      have nO : ¬ (o = s ∨ o = D1) := fun z => z.elim hos fun z => by rw [z, hD1] at ho2; cases ho2
      refine ⟨rfl, ?_⟩
      repeat walk_at "s"
      refine ⟨sz rfl, fun l hl' => ?_⟩
      repeat walk_at "s"
      refine ⟨sz rfl, fun u hu => ?_⟩
      repeat walk_at "s"
      refine ⟨sz rfl, fun x hx => ?_⟩
      have e6 : Ex H3 _ := ((Ex.refl.new (o := .lst [.ref D, .ref o]) hl').new (o := .tup [.str "TooMany", .str "places", .int 60]) hu).new (o := .tup [.int (0 + (i : Int)), .ref l, .ref u]) hx
      have nl : ¬ (l = s ∨ l = D1) := fun z => z.elim (S2.ex e3 |>.ne hl') fun z => by rw [z, hd] at hl'; cases hl'
      have okx : AskOk K (fun p => p = s ∨ p = D1) _ (.ref x) := ⟨x, l, u, D, 0 + (i : Int), _, [.ref o], some _, rfl, tOf upd_same, look_new hx (look_new hu upd_same), nl, ⟨e6 _ _ hm3, nD, by omega, smi ms⟩,
        .inr ⟨o, _, rfl, rfl, ⟨e6 _ _ ho3, nO, by omega, smn L⟩, by omega⟩, .inl ⟨by omega, tOf (look_new hx upd_same)⟩⟩
      refine ⟨as, e6 _ _ hd, by rw [sizeLine_eq]; omega, as ++ [.ref x], upd_same, by rw [List.length_append, al3]; rfl, fun y hy => ?_, (e3.trans e6).at hD1⟩
      rcases List.mem_append.mp hy with hy | hy
      · exact ((ok3 y hy).ex e6).upd (.inr rfl) (e6 _ _ hd)
      · rw [List.mem_singleton.mp hy]
        exact okx.upd (.inr rfl) (e6 _ _ hd)
    · rintro H3 ⟨as, hd, al3, ok3, e3⟩
      have ok3 : ∀ x ∈ as, AskOk K (fun p => p = s) H3 x := fun x hx => Bw (ok3 x hx)
      have hm3 := e3 _ _ hm2
      have ho3 := e3 _ _ ho2
      have ha3 := e3 _ _ ha2
      have S3 := S2.ex e3
      have kk3 := kk2.trans e3.kp
      have D1s : D1 ≠ s := S2.ne hD1
      clear e3 hm2 ho2 ha2 S2 kk2 hD1
      repeat walk_at "s"
      refine ⟨by decide, by decide, fun D2 hD2 => lc_range (n := 3) (fun i H' => ∃ as, H' D2 = some (.lst as) ∧ as.length = i ∧ (∀ x ∈ as, AskOk K (fun p => p = s ∨ p = D2) H' x) ∧ Ex H3 H') ⟨[], upd_same, rfl, (fun x h => by cases h), Ex.refl.at hD2⟩ ?_ ?_⟩
      · rintro i H4 hi ⟨as4, hd4, al4, ok4, e4⟩
        have hm4 := e4 _ _ hm3
        have S4 := S3.ex e4
        have nb : ∀ {H' : Hp} {q : Addr}, Ex H4 H' → H' q = none → ¬ (q = s ∨ q = D2) := fun e h z => z.elim (S4.ne (e.none h)) fun z => by
          have := e.none h
          rw [z, hd4] at this
          cases this
        refine ⟨rfl, ?_⟩
        repeat walk_at "s"
        refine ⟨sz rfl, fun b1 hb1 => ?_⟩
        repeat walk_at "s"
        refine .inl ⟨b1, D, _, _, rfl, rfl, (by walk_at "get"), (by walk_at "get"), (by rw [ml, sizeLine_eq]; show 1 + 60 ≤ _; omega), fun c1 hc1 => ?_⟩
        repeat walk_at "s"
        refine ⟨sz rfl, fun c2 hc2 => ?_⟩
        repeat walk_at "s"
        refine ⟨sz rfl, fun l hl' => ?_⟩
        repeat walk_at "s"
        refine ⟨sz rfl, fun u hu => ?_⟩
        repeat walk_at "s"
        refine ⟨sz rfl, fun x hx => ?_⟩
        have okx : AskOk K (fun p => p = s ∨ p = D2) _ (.ref x) := ⟨x, l, u, c1, 0 + (i : Int), ((0 - 1) :: ms).map V.int, [.ref c2], some [], rfl, tOf upd_same, by walk_at "get", nb (by walk_at "ext") hl', ⟨by walk_at "get", nb (by walk_at "ext") hc1, by rw [List.length_map, List.length_cons]; omega, smi _⟩,
          .inr ⟨c2, _, rfl, rfl, ⟨by walk_at "get", nb (by walk_at "ext") hc2, by decide, fun x h => by cases h⟩, by omega⟩, .inl ⟨by rw [List.length_map, List.length_cons]; omega, tOf (look_new hx upd_same)⟩⟩
        have e6 : Ex H4 _ := (((((Ex.refl.new (o := .lst [V.int (0 - 1)]) hb1).new (o := .lst ([V.int (0 - 1)] ++ ms.map V.int)) hc1).new (o := .lst []) hc2).new (o := .lst [.ref c1, .ref c2]) hl').new (o := .tup [.str "TooMany", .str "places", .int 60]) hu).new (o := .tup [.int (0 + (i : Int)), .ref l, .ref u]) hx
        refine ⟨as4, e6 _ _ hd4, by rw [sizeLine_eq]; omega, as4 ++ [.ref x], upd_same, by rw [List.length_append, al4]; rfl, fun y hy => ?_, (e4.trans e6).at hD2⟩
        rcases List.mem_append.mp hy with hy | hy
        · exact ((ok4 y hy).ex e6).upd (.inr rfl) (e6 _ _ hd4)
        · rw [List.mem_singleton.mp hy]
          exact okx.upd (.inr rfl) (e6 _ _ hd4)
      · rintro H4 ⟨as4, hd4, al4, ok4, e4⟩
        have ok4 : ∀ x ∈ as4, AskOk K (fun p => p = s) H4 x := fun x hx => Bw (ok4 x hx)
        have hd14 := e4 _ _ hd
        repeat walk_at "s"
        refine .inl ⟨D1, D2, _, _, rfl, rfl, hd14, hd4, (by rw [al3, al4, sizeLine_eq]; omega), fun A hA => ?_⟩
        have e5 := Ex.refl.at (H := H4) (o := .lst (as ++ as4)) hA
        have hA5 : upd H4 A (.lst (as ++ as4)) A = some (.lst (as ++ as4)) := upd_same
        have ok5 : ∀ x ∈ as ++ as4, AskOk K (fun p => p = s) (upd H4 A (.lst (as ++ as4))) x := fun x hx => (List.mem_append.mp hx).elim (fun h => (ok3 x h).ex (e4.trans e5)) fun h => (ok4 x h).ex e5
        have e35 := e4.trans e5
        have hm5 := e35 _ _ hm3
        have ho5 := e35 _ _ ho3
        have ha5 := e35 _ _ ha3
        have S5 := S3.ex e35
        have kk5 := kk3.trans e35.kp
        have As := S3.ne (e4.none hA)
        have al5 : (as ++ as4).length = 6 := by rw [List.length_append, al3, al4]
        generalize upd H4 A (.lst (as ++ as4)) = H5 at e5 hA5 ok5 e35 hm5 ho5 ha5 S5 kk5
        generalize as ++ as4 = as5 at hA5 ok5 al5
        clear e4 e5 e35 hd14 hd4 hd ok3 ok4 hm3 ho3 ha3 S3 kk3 hA hD2
        repeat walk_at "s"
        refine ⟨by decide, by decide, for_range (n := 2) (fun i σ H' => ∃ A as z6 z7, σ = [some (.ref s), some (.ref a), some (.ref o), some (.int t), some (.ref D), some (.ref A), z6, z7, none, none, none, none, none, none, none] ∧ A ≠ s ∧ H' A = some (.lst as) ∧ as.length ≤ 6 + 3 * i ∧ (∀ x ∈ as, AskOk K (fun p => p = s) H' x) ∧
          H' D = some (.lst (ms.map V.int)) ∧ H' o = some (.lst (L.map N)) ∧ H' a = some (.lst (ns.map V.int)) ∧ Kp s H H' ∧ StO H' s) ⟨A, as5, _, _, rfl, As, hA5, by omega, ok5, hm5, ho5, ha5, kk5, S5⟩ ?_ ?_⟩
        · rintro i σ H6 hi ⟨A, as, z6, z7, rfl, As, hA, al3, ok, hm, ho, ha, kk, S6⟩
          have haL := lOf (K := K) ha
          repeat walk_at "s"
          refine ⟨s, a, ns, rfl, S6, haL, by omega, good, fun r p xs kb H7 k7 S7 hr hrt hp hpl xl fb sm => ?_⟩
          have hA7 := k7.1 _ _ As hA
          have hm7 := k7.1 _ _ hDs hm
          have ho7 := k7.1 _ _ hos ho
          have ha7 := k7.1 _ _ has ha
          have ok7 : ∀ x ∈ as, AskOk K (fun p => p = s) H7 x := fun x hx => (ok x hx).kp rfl S6 k7
          have kk7 := kk.trans k7
          have ps := S6.ne hp
          have hpL := lOf (K := K) hpl
          clear hA hm ho ha ok kk k7 haL
          repeat walk_at "s"
          refine ite2 (fun e => ?_) (fun _ => ?_)
          · have e := of_decide_eq_true e
            repeat walk_at "s"
            refine ⟨by decide, by decide, fun D3 hD3 => lc_range (n := 3) (fun i H' => ∃ as, H' D3 = some (.lst as) ∧ as.length = i ∧ (∀ x ∈ as, AskOk K (fun p => p = s ∨ p = D3) H' x) ∧ Kp s H7 H' ∧ StO H' s) ⟨[], upd_same, rfl, (fun x h => by cases h), (Ex.refl.at hD3).kp, S7.ex (Ex.refl.at hD3)⟩ ?_ ?_⟩
            · rintro j H8 hj ⟨as8, hd8, al8, ok8, k8, S8⟩
              have D3s := S7.ne hD3
              have nO : ¬ (o = s ∨ o = D3) := fun z => z.elim hos fun z => by rw [z, hD3] at ho7; cases ho7
              have nP : ¬ (p = s ∨ p = D3) := fun z => z.elim ps fun z => by rw [z, hD3] at hpl; cases hpl
              have hp8 := k8.1 _ _ ps hpl
              have ho8 := k8.1 _ _ hos ho7
              have hrt8 := k8.t S7 hrt
              have fb8 := fb.kp S7 k8
              have sm8 : ∀ x ∈ xs, Sm x H8 := fun x hx => (sm x hx).kp S7 k8
              have nb : ∀ {H' : Hp} {q : Addr}, Kp s H8 H' → q ≠ s → H' q = none → ¬ (q = s ∨ q = D3) := fun e n h z => z.elim n fun z => by
                have := e.none n h
                rw [z, hd8] at this
                cases this
              refine ⟨rfl, ?_⟩
              repeat walk_at "s"
              refine ⟨sz rfl, fun c hc => ?_⟩
              repeat walk_at "s"
              refine ⟨sz rfl, fun q hq => ?_⟩
              have e10 : Ex H8 _ := (Ex.refl.new (o := .lst []) hc).new (o := .lst [.ref o, .ref c]) hq
              have cs := S8.ne hc
              have cn := nb Kp.refl cs hc
              have hc10 : upd (upd H8 c (.lst [])) q (.lst [.ref o, .ref c]) c = some (.lst []) := look_new hq upd_same
              refine ⟨_, _, _, rfl, S8.ex e10, upd_same, S8.ne ((Ex.refl.at hc).none hq), (fun h => nomatch h), ln rfl, fun v H9 k9 S9 hv => ?_⟩
              have k89 := e10.kp.trans k9
              have hp9 := k89.1 _ _ ps hp8
              have ho9 := k89.1 _ _ hos ho8
              have hd9 := k89.1 _ _ D3s hd8
              have hrt9 := k89.t S8 hrt8
              have fb9 := fb8.kp S8 k89
              have sm9 : ∀ x ∈ xs, Sm x H9 := fun x hx => (sm8 x hx).kp S8 k89
              have hv9 : ∃ q2 ys, v = .ref q2 ∧ Lst (fun p => p = s ∨ p = D3) H9 q2 ys := by
                simp only [List.mem_cons, List.not_mem_nil, or_false] at hv
                rcases hv with rfl | rfl
                · exact ⟨o, _, rfl, ho9, nO, by omega, smn L⟩
                · exact ⟨c, [], rfl, k9.1 _ _ cs hc10, cn, by decide, fun x h => by cases h⟩
              obtain ⟨q2, ys, rfl, ⟨v1, v2, v3, v4⟩⟩ := hv9
              repeat walk_at "s"
              refine ⟨sz rfl, fun l hl' => ?_⟩
              repeat walk_at "s"
              refine ⟨sz rfl, fun u hu => ?_⟩
              repeat walk_at "s"
              refine ⟨sz rfl, fun x hx => ?_⟩
              have e12 : Ex H9 _ := ((Ex.refl.new (o := .lst [.ref p, .ref q2]) hl').new (o := .tup [.str "BadLevel", .int (kb : Int)]) hu).new (o := .tup [.int (0 + (j : Int)), .ref l, .ref u]) hx
              have okx : AskOk K (fun p => p = s ∨ p = D3) _ (.ref x) := ⟨x, l, u, p, 0 + (j : Int), xs, [.ref q2], some ys, rfl, tOf upd_same, look_new hx (look_new hu upd_same), nb k89 (S9.ne hl') hl', ⟨e12 _ _ hp9, nP, by omega, fun y hy => (sm9 y hy).ex e12⟩,
                .inr ⟨q2, ys, rfl, rfl, ⟨e12 _ _ v1, v2, v3, fun y hy => (v4 y hy).ex e12⟩, by omega⟩, .inr (.inl ⟨by omega, kb, fb9.ex e12, tOf (look_new hx upd_same)⟩)⟩
              have kk12 := k8.trans (k89.trans e12.kp)
              refine ⟨as8, e12 _ _ hd9, by rw [sizeLine_eq]; omega, as8 ++ [.ref x], upd_same, by rw [List.length_append, al8]; rfl, fun y hy => ?_, kk12.at hD3 D3s, S7.set2 (S9.ex e12) kk12 hD3⟩
              rcases List.mem_append.mp hy with hy | hy
              · exact (((ok8 y hy).kp (.inl rfl) S8 k89).ex e12).upd (.inr rfl) (e12 _ _ hd9)
              · rw [List.mem_singleton.mp hy]
                exact okx.upd (.inr rfl) (e12 _ _ hd9)
            · rintro H8 ⟨as8, hd8, al8, ok8, k8, S8⟩
              have ok8 : ∀ x ∈ as8, AskOk K (fun p => p = s) H8 x := fun x hx => Bw (ok8 x hx)
              have hA8 := k8.1 _ _ As hA7
              repeat walk_at "s"
              refine .inl ⟨A, D3, _, _, rfl, rfl, hA8, hd8, (by rw [al8, sizeLine_eq]; omega), fun A2 hA2 => ?_⟩
              have e9 := Ex.refl.at (H := H8) (o := .lst (as ++ as8)) hA2
              have k79 := k8.trans e9.kp
              exact ⟨A2, as ++ as8, _, _, rfl, S8.ne hA2, upd_same, by rw [List.length_append, al8]; omega, fun x hx => (List.mem_append.mp hx).elim (fun h => ((ok7 x h).kp rfl S7 k8).ex e9) fun h => (ok8 x h).ex e9,
                k79.1 _ _ hDs hm7, k79.1 _ _ hos ho7, k79.1 _ _ has ha7, kk7.trans k79, S8.ex e9⟩
          · exact ⟨A, as, _, _, rfl, As, hA7, by omega, ok7, hm7, ho7, ha7, kk7, S7⟩
        · rintro σ H6 ⟨A, as, z6, z7, rfl, As, hA, al3, ok, hm, ho, ha, kk, S6⟩
          repeat walk_at "s"
          refine ⟨S6, lg (n := 20) (by omega) (by decide) (by decide), fun at0 H7 k7 S7 a0 _ at1 => ?_⟩
          have at1 := at1 (by omega)
          obtain ⟨c, rfl⟩ := Int.eq_ofNat_of_zero_le a0
          have cL : c < L.length := by omega
          have hA7 := k7.1 _ _ As hA
          have hm7 := k7.1 _ _ hDs hm
          have ho7 := k7.1 _ _ hos ho
          have ha7 := k7.1 _ _ has ha
          have ok7 : ∀ x ∈ as, AskOk K (fun p => p = s) H7 x := fun x hx => (ok x hx).kp rfl S6 k7
          have kk7 := kk.trans k7
          have hoL := lOf (K := K) ho7
          clear hA hm ho ha ok kk k7
          repeat walk_at "s"
          intro h1 hh1
          rw [cut_to]
          have e8 := Ex.refl.at (H := H7) (o := .lst ((L.map N).take c)) hh1
          have hh18 : upd H7 h1 (.lst ((L.map N).take c)) h1 = some (.lst ((L.map N).take c)) := upd_same
          have h1s := S7.ne hh1
          have ho8 := e8 _ _ ho7
          have S8 := S7.ex e8
          generalize upd H7 h1 (.lst ((L.map N).take c)) = H8 at e8 hh18 ho8 S8
          clear hoL
          have hoL := lOf (K := K) ho8
          repeat walk_at "s"
          refine ⟨S8, by omega, by omega, fun pn v H9 k9 S9 hpn hv nv => ?_⟩
          have k79 := e8.kp.trans k9
          have pns := S8.ne hpn
          have h19 := k9.1 _ _ h1s hh18
          have ho9 := k9.1 _ _ hos ho8
          clear hoL
          repeat walk_at "s"
          refine .inl ⟨h1, pn, _, _, rfl, rfl, h19, hv, (by rw [List.length_take, ll, sizeLine_eq]; show _ + 1 ≤ _; omega), fun h2 hh2 => ?_⟩
          have ho10 := lOf (K := K) (look_new (o := .lst ((L.map N).take c ++ [v])) hh2 ho9)
          repeat walk_at "s"
          intro h3 hh3
          rw [show cutV (L.map N) (some ((c : Int) + 1)) none = (L.map N).drop (c + 1) from cut_from _ (c + 1)]
          repeat walk_at "s"
          refine .inl ⟨h2, h3, _, _, rfl, rfl, (by walk_at "get"), (by walk_at "get"), (by simp only [List.length_append, List.length_take, List.length_drop, List.length_cons, List.length_nil, ll, sizeLine_eq]; omega), fun hole hhole => ?_⟩
          have e9 : Ex H9 _ := ((Ex.refl.new (o := .lst ((L.map N).take c ++ [v])) hh2).new (o := .lst ((L.map N).drop (c + 1))) hh3).new (o := .lst ((L.map N).take c ++ [v] ++ (L.map N).drop (c + 1))) hhole
          have hholes : hole ≠ s := S9.ne (Ex.none (by walk_at "ext") hhole)
          have e7 := k79.trans e9.kp
          have fm := e7.1 _ _ hDs hm7
          have fo := e7.1 _ _ hos ho7
          have fa := e7.1 _ _ has ha7
          have fA := e7.1 _ _ As hA7
          have okA : ∀ x ∈ as, AskOk K (fun p => p = s) _ x := fun x hx => ((ok7 x hx).kp rfl S7 k79).ex e9
          have S := S9.ex e9
          have kk0 := kk7.trans e7
          have fh : upd (upd (upd H9 h2 (.lst ((L.map N).take c ++ [v]))) h3 (.lst ((L.map N).drop (c + 1)))) hole (.lst ((L.map N).take c ++ [v] ++ (L.map N).drop (c + 1))) hole = some (.lst ((L.map N).take c ++ [v] ++ (L.map N).drop (c + 1))) := upd_same
          have nv := nv.imp id fun h => h.ex e9
          generalize upd (upd (upd H9 h2 (.lst ((L.map N).take c ++ [v]))) h3 (.lst ((L.map N).drop (c + 1)))) hole (.lst ((L.map N).take c ++ [v] ++ (L.map N).drop (c + 1))) = G0 at e9 e7 fm fo fa fA okA S kk0 fh nv
          clear e9 e7 hhole hh2 hh3 h19 hv ho9 ho10 k79 k9 hh18 hh1 ho8 S9 S8 hm7 ho7 ha7 hA7 ok7 kk7 S7
          generalize hhs : (L.map N).take c ++ [v] ++ (L.map N).drop (c + 1) = hs at fh
          have hsl : hs.length = L.length := by
            rw [← hhs]
            simp only [List.length_append, List.length_take, List.length_drop, List.length_cons, List.length_nil, ll]
            omega
          have fv : NoP G0 hs.length v := by
            rw [ll] at nv
            rw [hsl]
            exact nv
          have htk : hs.take c = (L.take c).map N := by
            rw [← hhs, List.append_assoc, List.take_append_of_le_length (by rw [List.length_take, ll]; omega), List.take_take, Nat.min_self, List.map_take]
          have hvk : hs[c]? = some v := by
            rw [← hhs, List.append_assoc, List.getElem?_append_right (by rw [List.length_take, ll]; omega), List.length_take, ll, Nat.min_eq_left (by omega), Nat.sub_self]
            rfl
          have nd : L.Nodup := pm.nodup_iff.mpr List.nodup_range
          have lt : ∀ u ∈ L, u < L.length := fun u hu => List.mem_range.mp (pm.mem_iff.mp hu)
          have plsH : Pls hs c hs.length (L.take c) := ⟨htk, by rw [List.length_take]; omega, nd.sublist (List.take_sublist c L), fun u hu => by rw [hsl]; exact lt u (List.mem_of_mem_take hu)⟩
          have hne : hs ≠ [] := fun z => by
            rw [z] at hsl
            simp at hsl
            omega
          have smh : ∀ x ∈ hs, Sm x G0 := fun x hx => by
            rw [← hhs] at hx
            rcases List.mem_append.mp hx with hx | hx
            · rcases List.mem_append.mp hx with hx | hx
              · exact smn L x (List.mem_of_mem_take hx)
              · rw [List.mem_singleton.mp hx]
                exact nv.imp (fun ⟨i, a, _⟩ => ⟨i, a⟩) id
            · exact smn L x (List.mem_of_mem_drop hx)
          have gc : (L.map N)[c]? = some (N L[c]) := by rw [List.getElem?_map, List.getElem?_eq_getElem cL]; rfl
          have tl : (L.map N ++ [N L[c]]).length = L.length + 1 := by rw [List.length_append, ll]; rfl
          have tne : L.map N ++ [N L[c]] ≠ [] := fun z => by
            rw [z] at tl
            cases tl
          have plsT : Pls (L.map N ++ [N L[c]]) L.length (L.map N ++ [N L[c]]).length L := ⟨by rw [List.take_append_of_le_length (by rw [ll]; exact Nat.le_refl _), List.take_of_length_le (by rw [ll]; exact Nat.le_refl _)], rfl, nd, fun u hu => by rw [tl]; have := lt u hu; omega⟩
          have tk : (L.map N ++ [N L[c]])[L.length]? = some (N L[c]) := by rw [List.getElem?_append_right (by rw [ll]; exact Nat.le_refl _), ll, Nat.sub_self]; rfl
          have tlt : L[c] < (L.map N ++ [N L[c]]).length := by rw [tl]; have := lt _ (List.getElem_mem cL); omega
          have smT : ∀ {H' : Hp}, ∀ x ∈ L.map N ++ [N L[c]], Sm x H' := fun x hx => by
            rcases List.mem_append.mp hx with hx | hx
            · exact smn L x hx
            · rw [List.mem_singleton.mp hx]
              exact .inl ⟨_, rfl⟩
          have cm2 : cutV (ms.map V.int) (some 1) none = (ms.map V.int).drop 1 := cut_from _ 1
          have cm : (ms.map V.int).drop 1 = (ms.drop 1).map V.int := List.map_drop.symm
          have mne : ms.drop 1 ≠ [] := fun z => by
            have := congrArg List.length z
            rw [List.length_drop, hl] at this
            cases this
          have one : L.map N ≠ [] := fun z => by
            rw [z] at ll
            simp at ll
            omega
          have r64 : rgV 0 64 = (List.range 64).map N := rg_N' 64
          have r65 : rgV 0 64 ++ [V.int 64] = (List.range 65).map N := by
            rw [show rgV 0 64 = (List.range 64).map N from rg_N' 64, show (65 : Nat) = 64 + 1 from rfl, List.range_succ, List.map_append]
            rfl
          have e0 : Ex G0 G0 := Ex.refl
          have foL := lOf (K := K) fo
          have fmL := lOf (K := K) fm
          have n0 : ∀ {q : Addr} {H' : Hp}, Ex G0 H' → H' q = none → q ≠ s := fun e h => S.ne (e.none h)
          repeat walk_at "s"
          refine ⟨sz rfl, fun pl1 qpl1 => ?_⟩
          repeat walk_at "s"
          refine ⟨sz rfl, fun pu1 qpu1 => ?_⟩
          repeat walk_at "s"
          refine ⟨sz rfl, fun px1 qpx1 => ?_⟩
          repeat walk_at "s"
          have e : Ex G0 (upd (upd (upd G0 pl1 (.lst [.ref a, .ref hole])) pu1 (.tup [.str "BadOrder", .str "place"])) px1 (.tup [.int 2, .ref pl1, .ref pu1])) := ((((((Ex.refl (H := G0)).new (o := .lst [.ref a, .ref hole]) qpl1)).new (o := .tup [.str "BadOrder", .str "place"]) qpu1)).new (o := .tup [.int 2, .ref pl1, .ref pu1]) qpx1)
          have ok1 : AskOk K (fun p => p = s) (upd (upd (upd G0 pl1 (.lst [.ref a, .ref hole])) pu1 (.tup [.str "BadOrder", .str "place"])) px1 (.tup [.int 2, .ref pl1, .ref pu1])) (.ref px1) := ⟨px1, pl1, pu1, a, 2, _, [.ref hole], some _, rfl, tOf upd_same, look_new qpx1 (look_new qpu1 upd_same), n0 (by walk_at "ext") qpl1, ⟨e _ _ fa, has, by omega, smi ns⟩, .inr ⟨hole, _, rfl, rfl, ⟨e _ _ fh, hholes, by omega, fun x hx => (smh x hx).ex e⟩, by decide⟩, .inr (.inr ⟨ns, rfl, hn, good, .inr (.inr ⟨rfl, _, rfl, .inr ⟨hne, c, L.take c, plsH, .inr (.inl ⟨v, hvk, fv.imp id (fun h => h.ex e), tOf (look_new qpx1 upd_same)⟩)⟩⟩)⟩)⟩
          have fm := e _ _ fm
          have fo := e _ _ fo
          have fa := e _ _ fa
          have fh := e _ _ fh
          have fA := e _ _ fA
          have e0 := e0.trans e
          have S := S.ex e
          generalize upd (upd (upd G0 pl1 (.lst [.ref a, .ref hole])) pu1 (.tup [.str "BadOrder", .str "place"])) px1 (.tup [.int 2, .ref pl1, .ref pu1]) = G1 at e fm fo fa fh fA ok1 e0 S
          clear e n0 foL fmL
          have foL := lOf (K := K) fo
          have fmL := lOf (K := K) fm
          have n0 : ∀ {q : Addr} {H' : Hp}, Ex G1 H' → H' q = none → q ≠ s := fun e h => S.ne (e.none h)
          repeat walk_at "s"
          refine ⟨sz rfl, fun pc2 qpc2 => ?_⟩
          repeat walk_at "s"
          refine ⟨sz rfl, fun pl2 qpl2 => ?_⟩
          repeat walk_at "s"
          refine ⟨sz rfl, fun pu2 qpu2 => ?_⟩
          repeat walk_at "s"
          refine ⟨sz rfl, fun px2 qpx2 => ?_⟩
          repeat walk_at "s"
          have e : Ex G1 (upd (upd (upd (upd G1 pc2 (.lst [])) pl2 (.lst [.ref a, .ref pc2])) pu2 (.tup [.str "BadOrder", .str "missing"])) px2 (.tup [.int 2, .ref pl2, .ref pu2])) := ((((((((Ex.refl (H := G1)).new (o := .lst []) qpc2)).new (o := .lst [.ref a, .ref pc2]) qpl2)).new (o := .tup [.str "BadOrder", .str "missing"]) qpu2)).new (o := .tup [.int 2, .ref pl2, .ref pu2]) qpx2)
          have ok2 : AskOk K (fun p => p = s) (upd (upd (upd (upd G1 pc2 (.lst [])) pl2 (.lst [.ref a, .ref pc2])) pu2 (.tup [.str "BadOrder", .str "missing"])) px2 (.tup [.int 2, .ref pl2, .ref pu2])) (.ref px2) := ⟨px2, pl2, pu2, a, 2, _, [.ref pc2], some _, rfl, tOf upd_same, look_new qpx2 (look_new qpu2 upd_same), n0 (by walk_at "ext") qpl2, ⟨e _ _ fa, has, by omega, smi ns⟩, .inr ⟨pc2, _, rfl, rfl, ⟨by walk_at "get", n0 (by walk_at "ext") qpc2, by decide, fun x h => by cases h⟩, by decide⟩, .inr (.inr ⟨ns, rfl, hn, good, .inr (.inr ⟨rfl, _, rfl, .inl ⟨rfl, tOf (look_new qpx2 upd_same)⟩⟩)⟩)⟩
          have fm := e _ _ fm
          have fo := e _ _ fo
          have fa := e _ _ fa
          have fh := e _ _ fh
          have fA := e _ _ fA
          have ok1 := ok1.ex e
          have e0 := e0.trans e
          have S := S.ex e
          generalize upd (upd (upd (upd G1 pc2 (.lst [])) pl2 (.lst [.ref a, .ref pc2])) pu2 (.tup [.str "BadOrder", .str "missing"])) px2 (.tup [.int 2, .ref pl2, .ref pu2]) = G2 at e fm fo fa fh fA ok1 ok2 e0 S
          clear e n0 foL fmL
          have foL := lOf (K := K) fo
          have fmL := lOf (K := K) fm
          have n0 : ∀ {q : Addr} {H' : Hp}, Ex G2 H' → H' q = none → q ≠ s := fun e h => S.ne (e.none h)
          repeat walk_at "s"
          refine .inl ⟨_, _, _, _, rfl, rfl, foL, atI_nat gc, ?_⟩
          repeat walk_at "s"
          refine ⟨sz rfl, fun pb3 qpb3 => ?_⟩
          repeat walk_at "s"
          refine .inl ⟨o, pb3, _, _, rfl, rfl, (by walk_at "get"), (by walk_at "get"), (by rw [ll, sizeLine_eq]; show _ + 1 ≤ _; omega), fun pc3 qpc3 => ?_⟩
          repeat walk_at "s"
          refine ⟨sz rfl, fun pl3 qpl3 => ?_⟩
          repeat walk_at "s"
          refine ⟨sz rfl, fun pu3 qpu3 => ?_⟩
          repeat walk_at "s"
          refine ⟨sz rfl, fun px3 qpx3 => ?_⟩
          repeat walk_at "s"
          have e : Ex G2 (upd (upd (upd (upd (upd G2 pb3 (.lst [N L[c]])) pc3 (.lst (L.map N ++ [N L[c]]))) pl3 (.lst [.ref a, .ref pc3])) pu3 (.tup [.str "BadOrder", .str "twice"])) px3 (.tup [.int 2, .ref pl3, .ref pu3])) := ((((((((((Ex.refl (H := G2)).new (o := .lst [N L[c]]) qpb3)).new (o := .lst (L.map N ++ [N L[c]])) qpc3)).new (o := .lst [.ref a, .ref pc3]) qpl3)).new (o := .tup [.str "BadOrder", .str "twice"]) qpu3)).new (o := .tup [.int 2, .ref pl3, .ref pu3]) qpx3)
          have ok3 : AskOk K (fun p => p = s) (upd (upd (upd (upd (upd G2 pb3 (.lst [N L[c]])) pc3 (.lst (L.map N ++ [N L[c]]))) pl3 (.lst [.ref a, .ref pc3])) pu3 (.tup [.str "BadOrder", .str "twice"])) px3 (.tup [.int 2, .ref pl3, .ref pu3])) (.ref px3) := ⟨px3, pl3, pu3, a, 2, _, [.ref pc3], some _, rfl, tOf upd_same, look_new qpx3 (look_new qpu3 upd_same), n0 (by walk_at "ext") qpl3, ⟨e _ _ fa, has, by omega, smi ns⟩, .inr ⟨pc3, _, rfl, rfl, ⟨by walk_at "get", n0 (by walk_at "ext") qpc3, by rw [List.length_append, ll]; show _ + 1 < _; omega, smT⟩, by decide⟩, .inr (.inr ⟨ns, rfl, hn, good, .inr (.inr ⟨rfl, _, rfl, .inr ⟨tne, L.length, L, plsT, .inr (.inr ⟨L[c], tk, tlt, List.getElem_mem cL, tOf (look_new qpx3 upd_same)⟩)⟩⟩)⟩)⟩
          have fm := e _ _ fm
          have fo := e _ _ fo
          have fa := e _ _ fa
          have fh := e _ _ fh
          have fA := e _ _ fA
          have ok1 := ok1.ex e
          have ok2 := ok2.ex e
          have e0 := e0.trans e
          have S := S.ex e
          generalize upd (upd (upd (upd (upd G2 pb3 (.lst [N L[c]])) pc3 (.lst (L.map N ++ [N L[c]]))) pl3 (.lst [.ref a, .ref pc3])) pu3 (.tup [.str "BadOrder", .str "twice"])) px3 (.tup [.int 2, .ref pl3, .ref pu3]) = G3 at e fm fo fa fh fA ok1 ok2 ok3 e0 S
          clear e n0 foL fmL
          have foL := lOf (K := K) fo
          have fmL := lOf (K := K) fm
          have n0 : ∀ {q : Addr} {H' : Hp}, Ex G3 H' → H' q = none → q ≠ s := fun e h => S.ne (e.none h)
          repeat walk_at "s"
          refine ⟨sz rfl, fun pc4 qpc4 => ?_⟩
          repeat walk_at "s"
          refine ⟨sz rfl, fun pl4 qpl4 => ?_⟩
          repeat walk_at "s"
          refine ⟨sz rfl, fun pu4 qpu4 => ?_⟩
          repeat walk_at "s"
          refine ⟨sz rfl, fun px4 qpx4 => ?_⟩
          repeat walk_at "s"
          have e : Ex G3 (upd (upd (upd (upd G3 pc4 (.lst [])) pl4 (.lst [.ref pc4])) pu4 (.tup [.str "BadLevel", .int 0])) px4 (.tup [.int 1, .ref pl4, .ref pu4])) := ((((((((Ex.refl (H := G3)).new (o := .lst []) qpc4)).new (o := .lst [.ref pc4]) qpl4)).new (o := .tup [.str "BadLevel", .int 0]) qpu4)).new (o := .tup [.int 1, .ref pl4, .ref pu4]) qpx4)
          have ok4 : AskOk K (fun p => p = s) (upd (upd (upd (upd G3 pc4 (.lst [])) pl4 (.lst [.ref pc4])) pu4 (.tup [.str "BadLevel", .int 0])) px4 (.tup [.int 1, .ref pl4, .ref pu4])) (.ref px4) := ⟨px4, pl4, pu4, pc4, 1, _, [], none, rfl, tOf upd_same, look_new qpx4 (look_new qpu4 upd_same), n0 (by walk_at "ext") qpl4, ⟨by walk_at "get", n0 (by walk_at "ext") qpc4, by decide, fun x h => by cases h⟩, .inl ⟨rfl, rfl, by decide⟩, .inr (.inr ⟨[], rfl, by decide, (fun n h => by cases h), .inr (.inl ⟨rfl, .inl ⟨rfl, tOf (look_new qpx4 upd_same)⟩⟩)⟩)⟩
          have fm := e _ _ fm
          have fo := e _ _ fo
          have fa := e _ _ fa
          have fh := e _ _ fh
          have fA := e _ _ fA
          have ok1 := ok1.ex e
          have ok2 := ok2.ex e
          have ok3 := ok3.ex e
          have e0 := e0.trans e
          have S := S.ex e
          generalize upd (upd (upd (upd G3 pc4 (.lst [])) pl4 (.lst [.ref pc4])) pu4 (.tup [.str "BadLevel", .int 0])) px4 (.tup [.int 1, .ref pl4, .ref pu4]) = G4 at e fm fo fa fh fA ok1 ok2 ok3 ok4 e0 S
          clear e n0 foL fmL
          have foL := lOf (K := K) fo
          have fmL := lOf (K := K) fm
          have n0 : ∀ {q : Addr} {H' : Hp}, Ex G4 H' → H' q = none → q ≠ s := fun e h => S.ne (e.none h)
          repeat walk_at "s"
          refine ⟨sz rfl, fun pc5 qpc5 => ?_⟩
          repeat walk_at "s"
          refine ⟨sz rfl, fun pl5 qpl5 => ?_⟩
          repeat walk_at "s"
          refine ⟨sz rfl, fun pu5 qpu5 => ?_⟩
          repeat walk_at "s"
          refine ⟨sz rfl, fun px5 qpx5 => ?_⟩
          repeat walk_at "s"
          have e : Ex G4 (upd (upd (upd (upd G4 pc5 (.lst [])) pl5 (.lst [.ref pc5])) pu5 (.tup [])) px5 (.tup [.int 0, .ref pl5, .ref pu5])) := ((((((((Ex.refl (H := G4)).new (o := .lst []) qpc5)).new (o := .lst [.ref pc5]) qpl5)).new (o := .tup []) qpu5)).new (o := .tup [.int 0, .ref pl5, .ref pu5]) qpx5)
          have ok5 : AskOk K (fun p => p = s) (upd (upd (upd (upd G4 pc5 (.lst [])) pl5 (.lst [.ref pc5])) pu5 (.tup [])) px5 (.tup [.int 0, .ref pl5, .ref pu5])) (.ref px5) := ⟨px5, pl5, pu5, pc5, 0, _, [], none, rfl, tOf upd_same, look_new qpx5 (look_new qpu5 upd_same), n0 (by walk_at "ext") qpl5, ⟨by walk_at "get", n0 (by walk_at "ext") qpc5, by decide, fun x h => by cases h⟩, .inl ⟨rfl, rfl, by decide⟩, .inr (.inr ⟨[], rfl, by decide, (fun n h => by cases h), .inl ⟨rfl, tOf (look_new qpx5 upd_same)⟩⟩)⟩
          have fm := e _ _ fm
          have fo := e _ _ fo
          have fa := e _ _ fa
          have fh := e _ _ fh
          have fA := e _ _ fA
          have ok1 := ok1.ex e
          have ok2 := ok2.ex e
          have ok3 := ok3.ex e
          have ok4 := ok4.ex e
          have e0 := e0.trans e
          have S := S.ex e
          generalize upd (upd (upd (upd G4 pc5 (.lst [])) pl5 (.lst [.ref pc5])) pu5 (.tup [])) px5 (.tup [.int 0, .ref pl5, .ref pu5]) = G5 at e fm fo fa fh fA ok1 ok2 ok3 ok4 ok5 e0 S
          clear e n0 foL fmL
          have foL := lOf (K := K) fo
          have fmL := lOf (K := K) fm
          have n0 : ∀ {q : Addr} {H' : Hp}, Ex G5 H' → H' q = none → q ≠ s := fun e h => S.ne (e.none h)
          repeat walk_at "s"
          intro pc6 qpc6
          repeat walk_at "s"
          refine ⟨sz rfl, fun pl6 qpl6 => ?_⟩
          repeat walk_at "s"
          refine ⟨sz rfl, fun pu6 qpu6 => ?_⟩
          repeat walk_at "s"
          refine ⟨sz rfl, fun px6 qpx6 => ?_⟩
          repeat walk_at "s"
          have e : Ex G5 (upd (upd (upd (upd G5 pc6 (.lst (cutV (ms.map V.int) (some 1) none))) pl6 (.lst [.ref pc6])) pu6 (.tup [])) px6 (.tup [.int 0, .ref pl6, .ref pu6])) := ((((((((Ex.refl (H := G5)).new (o := .lst (cutV (ms.map V.int) (some 1) none)) qpc6)).new (o := .lst [.ref pc6]) qpl6)).new (o := .tup []) qpu6)).new (o := .tup [.int 0, .ref pl6, .ref pu6]) qpx6)
          have ok6 : AskOk K (fun p => p = s) (upd (upd (upd (upd G5 pc6 (.lst (cutV (ms.map V.int) (some 1) none))) pl6 (.lst [.ref pc6])) pu6 (.tup [])) px6 (.tup [.int 0, .ref pl6, .ref pu6])) (.ref px6) := ⟨px6, pl6, pu6, pc6, 0, _, [], none, rfl, tOf upd_same, look_new qpx6 (look_new qpu6 upd_same), n0 (by walk_at "ext") qpl6, ⟨by rw [← cm2]; walk_at "get", n0 (by walk_at "ext") qpc6, by rw [List.length_drop, ml]; decide, fun x hx => smi ms x (List.mem_of_mem_drop hx)⟩, .inl ⟨rfl, rfl, by decide⟩, .inr (.inr ⟨ms.drop 1, cm, by rw [List.length_drop]; omega, gm.drop 1, .inl ⟨rfl, tOf (look_new qpx6 upd_same)⟩⟩)⟩
          have fm := e _ _ fm
          have fo := e _ _ fo
          have fa := e _ _ fa
          have fh := e _ _ fh
          have fA := e _ _ fA
          have ok1 := ok1.ex e
          have ok2 := ok2.ex e
          have ok3 := ok3.ex e
          have ok4 := ok4.ex e
          have ok5 := ok5.ex e
          have e0 := e0.trans e
          have S := S.ex e
          generalize upd (upd (upd (upd G5 pc6 (.lst (cutV (ms.map V.int) (some 1) none))) pl6 (.lst [.ref pc6])) pu6 (.tup [])) px6 (.tup [.int 0, .ref pl6, .ref pu6]) = G6 at e fm fo fa fh fA ok1 ok2 ok3 ok4 ok5 ok6 e0 S
          clear e n0 foL fmL
          have foL := lOf (K := K) fo
          have fmL := lOf (K := K) fm
          have n0 : ∀ {q : Addr} {H' : Hp}, Ex G6 H' → H' q = none → q ≠ s := fun e h => S.ne (e.none h)
          repeat walk_at "s"
          intro pc7 qpc7
          repeat walk_at "s"
          refine ⟨sz rfl, fun pl7 qpl7 => ?_⟩
          repeat walk_at "s"
          refine ⟨sz rfl, fun pu7 qpu7 => ?_⟩
          repeat walk_at "s"
          refine ⟨sz rfl, fun px7 qpx7 => ?_⟩
          repeat walk_at "s"
          have e : Ex G6 (upd (upd (upd (upd G6 pc7 (.lst (cutV (ms.map V.int) (some 1) none))) pl7 (.lst [.ref pc7])) pu7 (.tup [])) px7 (.tup [.int 1, .ref pl7, .ref pu7])) := ((((((((Ex.refl (H := G6)).new (o := .lst (cutV (ms.map V.int) (some 1) none)) qpc7)).new (o := .lst [.ref pc7]) qpl7)).new (o := .tup []) qpu7)).new (o := .tup [.int 1, .ref pl7, .ref pu7]) qpx7)
          have ok7 : AskOk K (fun p => p = s) (upd (upd (upd (upd G6 pc7 (.lst (cutV (ms.map V.int) (some 1) none))) pl7 (.lst [.ref pc7])) pu7 (.tup [])) px7 (.tup [.int 1, .ref pl7, .ref pu7])) (.ref px7) := ⟨px7, pl7, pu7, pc7, 1, _, [], none, rfl, tOf upd_same, look_new qpx7 (look_new qpu7 upd_same), n0 (by walk_at "ext") qpl7, ⟨by rw [← cm2]; walk_at "get", n0 (by walk_at "ext") qpc7, by rw [List.length_drop, ml]; decide, fun x hx => smi ms x (List.mem_of_mem_drop hx)⟩, .inl ⟨rfl, rfl, by decide⟩, .inr (.inr ⟨ms.drop 1, cm, by rw [List.length_drop]; omega, gm.drop 1, .inr (.inl ⟨rfl, .inr ⟨mne, tOf (look_new qpx7 upd_same)⟩⟩)⟩)⟩
          have fm := e _ _ fm
          have fo := e _ _ fo
          have fa := e _ _ fa
          have fh := e _ _ fh
          have fA := e _ _ fA
          have ok1 := ok1.ex e
          have ok2 := ok2.ex e
          have ok3 := ok3.ex e
          have ok4 := ok4.ex e
          have ok5 := ok5.ex e
          have ok6 := ok6.ex e
          have e0 := e0.trans e
          have S := S.ex e
          generalize upd (upd (upd (upd G6 pc7 (.lst (cutV (ms.map V.int) (some 1) none))) pl7 (.lst [.ref pc7])) pu7 (.tup [])) px7 (.tup [.int 1, .ref pl7, .ref pu7]) = G7 at e fm fo fa fh fA ok1 ok2 ok3 ok4 ok5 ok6 ok7 e0 S
          clear e n0 foL fmL
          have foL := lOf (K := K) fo
          have fmL := lOf (K := K) fm
          have n0 : ∀ {q : Addr} {H' : Hp}, Ex G7 H' → H' q = none → q ≠ s := fun e h => S.ne (e.none h)
          repeat walk_at "s"
          intro pc8 qpc8
          repeat walk_at "s"
          refine ⟨sz rfl, fun pl8 qpl8 => ?_⟩
          repeat walk_at "s"
          refine ⟨sz rfl, fun pu8 qpu8 => ?_⟩
          repeat walk_at "s"
          refine ⟨sz rfl, fun px8 qpx8 => ?_⟩
          repeat walk_at "s"
          have e : Ex G7 (upd (upd (upd (upd G7 pc8 (.lst (cutV (ms.map V.int) (some 1) none))) pl8 (.lst [.ref pc8, .ref o])) pu8 (.tup [])) px8 (.tup [.int 2, .ref pl8, .ref pu8])) := ((((((((Ex.refl (H := G7)).new (o := .lst (cutV (ms.map V.int) (some 1) none)) qpc8)).new (o := .lst [.ref pc8, .ref o]) qpl8)).new (o := .tup []) qpu8)).new (o := .tup [.int 2, .ref pl8, .ref pu8]) qpx8)
          have ok8 : AskOk K (fun p => p = s) (upd (upd (upd (upd G7 pc8 (.lst (cutV (ms.map V.int) (some 1) none))) pl8 (.lst [.ref pc8, .ref o])) pu8 (.tup [])) px8 (.tup [.int 2, .ref pl8, .ref pu8])) (.ref px8) := ⟨px8, pl8, pu8, pc8, 2, _, [.ref o], some _, rfl, tOf upd_same, look_new qpx8 (look_new qpu8 upd_same), n0 (by walk_at "ext") qpl8, ⟨by rw [← cm2]; walk_at "get", n0 (by walk_at "ext") qpc8, by rw [List.length_drop, ml]; decide, fun x hx => smi ms x (List.mem_of_mem_drop hx)⟩, .inr ⟨o, _, rfl, rfl, ⟨e _ _ fo, hos, by omega, smn L⟩, by decide⟩, .inr (.inr ⟨ms.drop 1, cm, by rw [List.length_drop]; omega, gm.drop 1, .inr (.inr ⟨rfl, _, rfl, .inr ⟨one, pm.ords (tOf (look_new qpx8 upd_same))⟩⟩)⟩)⟩
          have fm := e _ _ fm
          have fo := e _ _ fo
          have fa := e _ _ fa
          have fh := e _ _ fh
          have fA := e _ _ fA
          have ok1 := ok1.ex e
          have ok2 := ok2.ex e
          have ok3 := ok3.ex e
          have ok4 := ok4.ex e
          have ok5 := ok5.ex e
          have ok6 := ok6.ex e
          have ok7 := ok7.ex e
          have e0 := e0.trans e
          have S := S.ex e
          generalize upd (upd (upd (upd G7 pc8 (.lst (cutV (ms.map V.int) (some 1) none))) pl8 (.lst [.ref pc8, .ref o])) pu8 (.tup [])) px8 (.tup [.int 2, .ref pl8, .ref pu8]) = G8 at e fm fo fa fh fA ok1 ok2 ok3 ok4 ok5 ok6 ok7 ok8 e0 S
          clear e n0 foL fmL
          have foL := lOf (K := K) fo
          have fmL := lOf (K := K) fm
          have n0 : ∀ {q : Addr} {H' : Hp}, Ex G8 H' → H' q = none → q ≠ s := fun e h => S.ne (e.none h)
          repeat walk_at "s"
          refine ⟨sz rfl, fun pc9 qpc9 => ?_⟩
          repeat walk_at "s"
          refine ⟨sz rfl, fun pl9 qpl9 => ?_⟩
          repeat walk_at "s"
          refine ⟨sz rfl, fun pu9 qpu9 => ?_⟩
          repeat walk_at "s"
          refine ⟨sz rfl, fun px9 qpx9 => ?_⟩
          repeat walk_at "s"
          have e : Ex G8 (upd (upd (upd (upd G8 pc9 (.lst [])) pl9 (.lst [.ref pc9, .ref o])) pu9 (.tup [])) px9 (.tup [.int 2, .ref pl9, .ref pu9])) := ((((((((Ex.refl (H := G8)).new (o := .lst []) qpc9)).new (o := .lst [.ref pc9, .ref o]) qpl9)).new (o := .tup []) qpu9)).new (o := .tup [.int 2, .ref pl9, .ref pu9]) qpx9)
          have ok9 : AskOk K (fun p => p = s) (upd (upd (upd (upd G8 pc9 (.lst [])) pl9 (.lst [.ref pc9, .ref o])) pu9 (.tup [])) px9 (.tup [.int 2, .ref pl9, .ref pu9])) (.ref px9) := ⟨px9, pl9, pu9, pc9, 2, _, [.ref o], some _, rfl, tOf upd_same, look_new qpx9 (look_new qpu9 upd_same), n0 (by walk_at "ext") qpl9, ⟨by walk_at "get", n0 (by walk_at "ext") qpc9, by decide, fun x h => by cases h⟩, .inr ⟨o, _, rfl, rfl, ⟨e _ _ fo, hos, by omega, smn L⟩, by decide⟩, .inr (.inr ⟨[], rfl, by decide, (fun n h => by cases h), .inr (.inr ⟨rfl, _, rfl, .inr ⟨one, pm.ords (tOf (look_new qpx9 upd_same))⟩⟩)⟩)⟩
          have fm := e _ _ fm
          have fo := e _ _ fo
          have fa := e _ _ fa
          have fh := e _ _ fh
          have fA := e _ _ fA
          have ok1 := ok1.ex e
          have ok2 := ok2.ex e
          have ok3 := ok3.ex e
          have ok4 := ok4.ex e
          have ok5 := ok5.ex e
          have ok6 := ok6.ex e
          have ok7 := ok7.ex e
          have ok8 := ok8.ex e
          have e0 := e0.trans e
          have S := S.ex e
          generalize upd (upd (upd (upd G8 pc9 (.lst [])) pl9 (.lst [.ref pc9, .ref o])) pu9 (.tup [])) px9 (.tup [.int 2, .ref pl9, .ref pu9]) = G9 at e fm fo fa fh fA ok1 ok2 ok3 ok4 ok5 ok6 ok7 ok8 ok9 e0 S
          clear e n0 foL fmL
          have foL := lOf (K := K) fo
          have fmL := lOf (K := K) fm
          have n0 : ∀ {q : Addr} {H' : Hp}, Ex G9 H' → H' q = none → q ≠ s := fun e h => S.ne (e.none h)
          repeat walk_at "s"
          refine ⟨sz rfl, fun pc10 qpc10 => ?_⟩
          repeat walk_at "s"
          refine ⟨⟨by decide, by decide, by decide, by decide, by decide⟩, fun pr10 qpr10 => ?_⟩
          repeat walk_at "s"
          refine ⟨sz rfl, fun pb10 qpb10 => ?_⟩
          repeat walk_at "s"
          refine .inl ⟨pr10, pb10, _, _, rfl, rfl, (by walk_at "get"), (by walk_at "get"), (by rw [r64, List.length_map, List.length_range, sizeLine_eq]; decide), fun pd10 qpd10 => ?_⟩
          repeat walk_at "s"
          refine ⟨sz rfl, fun pl10 qpl10 => ?_⟩
          repeat walk_at "s"
          refine ⟨sz rfl, fun pu10 qpu10 => ?_⟩
          repeat walk_at "s"
          refine ⟨sz rfl, fun px10 qpx10 => ?_⟩
          repeat walk_at "s"
          have e : Ex G9 (upd (upd (upd (upd (upd (upd (upd G9 pc10 (.lst [])) pr10 (.lst (rgV 0 64))) pb10 (.lst [.int 64])) pd10 (.lst (rgV 0 64 ++ [.int 64]))) pl10 (.lst [.ref pc10, .ref pd10])) pu10 (.tup [])) px10 (.tup [.int 2, .ref pl10, .ref pu10])) := ((((((((((((((Ex.refl (H := G9)).new (o := .lst []) qpc10)).new (o := .lst (rgV 0 64)) qpr10)).new (o := .lst [.int 64]) qpb10)).new (o := .lst (rgV 0 64 ++ [.int 64])) qpd10)).new (o := .lst [.ref pc10, .ref pd10]) qpl10)).new (o := .tup []) qpu10)).new (o := .tup [.int 2, .ref pl10, .ref pu10]) qpx10)
          have ok10 : AskOk K (fun p => p = s) (upd (upd (upd (upd (upd (upd (upd G9 pc10 (.lst [])) pr10 (.lst (rgV 0 64))) pb10 (.lst [.int 64])) pd10 (.lst (rgV 0 64 ++ [.int 64]))) pl10 (.lst [.ref pc10, .ref pd10])) pu10 (.tup [])) px10 (.tup [.int 2, .ref pl10, .ref pu10])) (.ref px10) := ⟨px10, pl10, pu10, pc10, 2, _, [.ref pd10], some _, rfl, tOf upd_same, look_new qpx10 (look_new qpu10 upd_same), n0 (by walk_at "ext") qpl10, ⟨by walk_at "get", n0 (by walk_at "ext") qpc10, by decide, fun x h => by cases h⟩, .inr ⟨pd10, _, rfl, rfl, ⟨by rw [← r65]; walk_at "get", n0 (by walk_at "ext") qpd10, by rw [List.length_map, List.length_range]; decide, smn _⟩, by decide⟩, .inr (.inr ⟨[], rfl, by decide, (fun n h => by cases h), .inr (.inr ⟨rfl, (List.range 65).map N, rfl, .inr ⟨(fun z => by cases z), (Pm.range 65).ords (tOf (look_new qpx10 upd_same))⟩⟩)⟩)⟩
          have fm := e _ _ fm
          have fo := e _ _ fo
          have fa := e _ _ fa
          have fh := e _ _ fh
          have fA := e _ _ fA
          have ok1 := ok1.ex e
          have ok2 := ok2.ex e
          have ok3 := ok3.ex e
          have ok4 := ok4.ex e
          have ok5 := ok5.ex e
          have ok6 := ok6.ex e
          have ok7 := ok7.ex e
          have ok8 := ok8.ex e
          have ok9 := ok9.ex e
          have e0 := e0.trans e
          have S := S.ex e
          generalize upd (upd (upd (upd (upd (upd (upd G9 pc10 (.lst [])) pr10 (.lst (rgV 0 64))) pb10 (.lst [.int 64])) pd10 (.lst (rgV 0 64 ++ [.int 64]))) pl10 (.lst [.ref pc10, .ref pd10])) pu10 (.tup [])) px10 (.tup [.int 2, .ref pl10, .ref pu10]) = G10 at e fm fo fa fh fA ok1 ok2 ok3 ok4 ok5 ok6 ok7 ok8 ok9 ok10 e0 S
          clear e n0 foL fmL
          have foL := lOf (K := K) fo
          have fmL := lOf (K := K) fm
          have n0 : ∀ {q : Addr} {H' : Hp}, Ex G10 H' → H' q = none → q ≠ s := fun e h => S.ne (e.none h)
          repeat walk_at "s"
          refine ⟨sz rfl, fun pl11 qpl11 => ?_⟩
          repeat walk_at "s"
          refine ⟨sz rfl, fun pu11 qpu11 => ?_⟩
          repeat walk_at "s"
          refine ⟨sz rfl, fun px11 qpx11 => ?_⟩
          repeat walk_at "s"
          have e : Ex G10 (upd (upd (upd G10 pl11 (.lst [.ref a])) pu11 (.tup [])) px11 (.tup [.int 0, .ref pl11, .ref pu11])) := ((((((Ex.refl (H := G10)).new (o := .lst [.ref a]) qpl11)).new (o := .tup []) qpu11)).new (o := .tup [.int 0, .ref pl11, .ref pu11]) qpx11)
          have ok11 : AskOk K (fun p => p = s) (upd (upd (upd G10 pl11 (.lst [.ref a])) pu11 (.tup [])) px11 (.tup [.int 0, .ref pl11, .ref pu11])) (.ref px11) := ⟨px11, pl11, pu11, a, 0, _, [], none, rfl, tOf upd_same, look_new qpx11 (look_new qpu11 upd_same), n0 (by walk_at "ext") qpl11, ⟨e _ _ fa, has, by omega, smi ns⟩, .inl ⟨rfl, rfl, by decide⟩, .inr (.inr ⟨ns, rfl, hn, good, .inl ⟨rfl, tOf (look_new qpx11 upd_same)⟩⟩)⟩
          have fm := e _ _ fm
          have fo := e _ _ fo
          have fa := e _ _ fa
          have fh := e _ _ fh
          have fA := e _ _ fA
          have ok1 := ok1.ex e
          have ok2 := ok2.ex e
          have ok3 := ok3.ex e
          have ok4 := ok4.ex e
          have ok5 := ok5.ex e
          have ok6 := ok6.ex e
          have ok7 := ok7.ex e
          have ok8 := ok8.ex e
          have ok9 := ok9.ex e
          have ok10 := ok10.ex e
          have e0 := e0.trans e
          have S := S.ex e
          generalize upd (upd (upd G10 pl11 (.lst [.ref a])) pu11 (.tup [])) px11 (.tup [.int 0, .ref pl11, .ref pu11]) = G11 at e fm fo fa fh fA ok1 ok2 ok3 ok4 ok5 ok6 ok7 ok8 ok9 ok10 ok11 e0 S
          clear e n0 foL fmL
          have foL := lOf (K := K) fo
          have fmL := lOf (K := K) fm
          have n0 : ∀ {q : Addr} {H' : Hp}, Ex G11 H' → H' q = none → q ≠ s := fun e h => S.ne (e.none h)
          repeat walk_at "s"
          refine ⟨sz rfl, fun T1 qT1 => ?_⟩
          have e := Ex.refl.at (H := G11) (o := .lst [.ref px1, .ref px2, .ref px3, .ref px4, .ref px5, .ref px6, .ref px7, .ref px8, .ref px9, .ref px10, .ref px11]) qT1
          have hT : upd G11 T1 (.lst [.ref px1, .ref px2, .ref px3, .ref px4, .ref px5, .ref px6, .ref px7, .ref px8, .ref px9, .ref px10, .ref px11]) T1 = some (.lst [.ref px1, .ref px2, .ref px3, .ref px4, .ref px5, .ref px6, .ref px7, .ref px8, .ref px9, .ref px10, .ref px11]) := upd_same
          have okT : ∀ x ∈ [V.ref px1, V.ref px2, V.ref px3, V.ref px4, V.ref px5, V.ref px6, V.ref px7, V.ref px8, V.ref px9, V.ref px10, V.ref px11], AskOk K (fun p => p = s) G11 x := fun x hx => by
            simp only [List.mem_cons, List.not_mem_nil, or_false] at hx
            rcases hx with rfl | rfl | rfl | rfl | rfl | rfl | rfl | rfl | rfl | rfl | rfl
            all_goals assumption
          have okT := fun x hx => (okT x hx).ex e
          have okA := fun x hx => ((okA x hx).ex e0).ex e
          have fA := e _ _ fA
          have S := S.ex e
          have kk := kk0.trans (e0.trans e).kp
          generalize upd G11 T1 (.lst [.ref px1, .ref px2, .ref px3, .ref px4, .ref px5, .ref px6, .ref px7, .ref px8, .ref px9, .ref px10, .ref px11]) = G12 at e hT okT okA fA S kk
          repeat walk_at "s"
          refine .inl ⟨A, T1, _, _, rfl, rfl, fA, hT, (by rw [sizeLine_eq]; show _ + 11 ≤ _; omega), fun A2 qA2 => ?_⟩
          have e := Ex.refl.at (H := G12) (o := .lst (as ++ [V.ref px1, V.ref px2, V.ref px3, V.ref px4, V.ref px5, V.ref px6, V.ref px7, V.ref px8, V.ref px9, V.ref px10, V.ref px11])) qA2
          have ok := fun x hx => (List.mem_append.mp hx).elim (fun h => (okA x h).ex e) fun h => (okT x h).ex e
          have hA2 : upd G12 A2 (.lst (as ++ [V.ref px1, V.ref px2, V.ref px3, V.ref px4, V.ref px5, V.ref px6, V.ref px7, V.ref px8, V.ref px9, V.ref px10, V.ref px11])) A2 = some (.lst (as ++ [V.ref px1, V.ref px2, V.ref px3, V.ref px4, V.ref px5, V.ref px6, V.ref px7, V.ref px8, V.ref px9, V.ref px10, V.ref px11])) := upd_same
          have S := S.ex e
          have kk := kk.trans e.kp
          generalize upd G12 A2 (.lst (as ++ [V.ref px1, V.ref px2, V.ref px3, V.ref px4, V.ref px5, V.ref px6, V.ref px7, V.ref px8, V.ref px9, V.ref px10, V.ref px11])) = G13 at e ok hA2 S kk
          generalize as ++ [V.ref px1, V.ref px2, V.ref px3, V.ref px4, V.ref px5, V.ref px6, V.ref px7, V.ref px8, V.ref px9, V.ref px10, V.ref px11] = asks at ok hA2
          have hAL := lOf (K := K) hA2
          repeat walk_at "s"
          refine ⟨⟨_, hAL⟩, for_list (xs := asks) (fun i σ H' => (∃ y10 y11, σ = [some (.ref s), some (.ref a), some (.ref o), some (.int t), some (.ref D), some (.ref A2), z6, z7, some (.int (c : Int)), some (.ref hole), y10, y11, none, none, none]) ∧ Ex G13 H') ⟨⟨_, _, rfl⟩, Ex.refl⟩ (fun i σ H' _ h => h.2.l hAL) ?_ ?_⟩
          · rintro i x σ H14 hx ⟨⟨y10, y11, rfl⟩, e14⟩
            obtain ⟨ax, l, u, p, form, xs, rest, yo, rfl, hat, hll, _, ⟨hp, _, xl, smx⟩, hrest, due⟩ := (ok x (List.mem_of_getElem? hx)).ex e14
            have hc : ∃ cs : List (List V), Cont H14 (.ref p :: rest) cs ∧ (∀ ys ∈ cs, ys.length < 200 ∧ ∀ x ∈ ys, Sm x H14) ∧ ((rest = [] ∧ yo = none ∧ cs = [xs] ∧ (form = 0 ∨ form = 1)) ∨ ∃ q ys, rest = [.ref q] ∧ yo = some ys ∧ cs = [xs, ys] ∧ (form = 0 ∨ form = 1 ∨ form = 2)) := by
              rcases hrest with ⟨rfl, rfl, f⟩ | ⟨q, ys, rfl, rfl, ⟨hq, _, yl, smy⟩, f⟩
              · refine ⟨[xs], ⟨rfl, fun j r ys a b => ?_⟩, fun ys h => ?_, .inl ⟨rfl, rfl, rfl, f⟩⟩
                · match j, a, b with
                  | 0, a, b =>
                    cases a
                    cases b
                    exact ⟨p, rfl, hp⟩
                · rw [List.mem_singleton.mp h]
                  exact ⟨xl, smx⟩
              · refine ⟨[xs, ys], ⟨rfl, fun j r zs a b => ?_⟩, fun zs h => ?_, .inr ⟨q, ys, rfl, rfl, rfl, f⟩⟩
                · match j, a, b with
                  | 0, a, b =>
                    cases a
                    cases b
                    exact ⟨p, rfl, hp⟩
                  | 1, a, b =>
                    cases a
                    cases b
                    exact ⟨q, rfl, hq⟩
                · simp only [List.mem_cons, List.not_mem_nil, or_false] at h
                  rcases h with rfl | rfl
                  · exact ⟨xl, smx⟩
                  · exact ⟨yl, smy⟩
            obtain ⟨cs, cont, csz, kind⟩ := hc
            have cl2 : cs.length ≤ 2 := by
              rcases kind with ⟨_, _, rfl, _⟩ | ⟨_, _, _, _, rfl, _⟩ <;> simp
            have hlL := lOf (K := K) hll
            repeat walk_at "s"
            refine ⟨⟨_, hlL⟩, fun E1 hE1 => lc_list (fun j H' => ∃ rs, H' E1 = some (.lst rs) ∧ Cont H' rs (cs.take j) ∧ (∀ r ∈ rs, r ≠ V.ref E1) ∧ Ex H14 H') ⟨[], upd_same, ⟨rfl, fun j r ys a => by cases a⟩, (fun r h => by cases h), Ex.refl.at hE1⟩ (fun i H' _ ⟨_, _, _, _, h⟩ => h.l hlL) ?_ ?_⟩
            · rintro j z H15 hz ⟨rs, hrs, cont5, ne5, e15⟩
              have hjl := (List.getElem?_eq_some_iff.mp hz).1
              rw [cont.1] at hjl
              obtain ⟨pz, rfl, hpz⟩ := cont.2 j z _ hz (List.getElem?_eq_getElem hjl)
              have hpz := e15 _ _ hpz
              refine ⟨rfl, ?_⟩
              repeat walk_at "s"
              refine ⟨pz, _, rfl, .inl (lOf hpz), fun nz hnz => ?_⟩
              have e16 := Ex.refl.at (H := H15) (o := .lst cs[j]) hnz
              have rl : rs.length = j := by rw [cont5.1, List.length_take]; omega
              refine ⟨rs, e16 _ _ hrs, by rw [sizeLine_eq]; omega, rs ++ [.ref nz], upd_same, ?_, ?_, (e15.trans e16).at hE1⟩
              · rw [List.take_succ, List.getElem?_eq_getElem hjl]
                refine Cont.upd ((cont5.ex e16).snoc upd_same) fun r hr => ?_
                rcases List.mem_append.mp hr with hr | hr
                · exact ne5 r hr
                · rw [List.mem_singleton.mp hr]
                  intro z
                  injection z with z
                  rw [z, hrs] at hnz
                  cases hnz
              · intro r hr
                rcases List.mem_append.mp hr with hr | hr
                · exact ne5 r hr
                · rw [List.mem_singleton.mp hr]
                  intro z
                  injection z with z
                  rw [z, hrs] at hnz
                  cases hnz
            · rintro H15 ⟨rs, hrs, cont5, _, e15⟩
              rw [cont.1, List.take_length] at cont5
              have ths : Ths K H15 form E1 xs yo := by
                rcases kind with ⟨_, rfl, rfl, f⟩ | ⟨q, ys, _, rfl, rfl, f⟩
                · match rs, cont5, hrs with
                  | [r1], cont5, hrs =>
                    obtain ⟨p1, rfl, hp1⟩ := cont5.2 0 r1 xs rfl rfl
                    exact ⟨p1, [], lOf hrs, hp1, by omega, .inl ⟨rfl, rfl, f⟩⟩
                · match rs, cont5, hrs with
                  | [r1, r2], cont5, hrs =>
                    obtain ⟨p1, rfl, hp1⟩ := cont5.2 0 r1 xs rfl rfl
                    obtain ⟨q1, rfl, hq1⟩ := cont5.2 1 r2 ys rfl rfl
                    exact ⟨p1, _, lOf hrs, hp1, by omega, .inr ⟨q1, ys, rfl, rfl, hq1, by have := (csz ys (by simp)).1; omega, f⟩⟩
              have due5 := due.mono (fun v h => h.ex e15) (fun h => e15.t h) (fun h => e15.t h) (fun k h => e15.t h) (fun f h => e15.t h)
              obtain ⟨ys, ds, hu5, hds, dsz, use⟩ := due_use due5
              have hat5 := e15.t hat
              repeat walk_at "s"
              dsimp only [tNil]
              refine fault_ok ths use (fun r H16 e16 hr q16 => ?_)
              have hat6 := e16.t hat5
              have hu6 := e16.t hu5
              have hrs6 := e16 _ _ hrs
              have cont6 := cont5.ex e16
              have hll6 := (e15.trans e16) _ _ hll
              have contl := cont.ex (e15.trans e16)
              have e46 := e15.trans e16
              clear use due5 ths hat5 hu5
              repeat walk_at "s"
              refine ⟨_, _, .tuple ds, rfl, .tup q16 (hds _), .tup hu6 (hds _), (by simp only [sizeD]; omega), fun H17 e17 => ?_⟩
              have hat7 := e17.t hat6
              have e47 := e46.trans e17
              obtain ⟨dss, g1, g2, g3⟩ := conts_dp (K := K) (H := H17) (cs := cs) fun ys hy => ⟨(csz ys hy).1, fun x hx => ((csz ys hy).2 x hx).ex e47⟩
              repeat walk_at "s"
              refine ⟨_, _, .list (dss.map PyData.list), rfl, .lst (lOf (e17 _ _ hrs6)) ((cont6.ex e17).dp g1 g2), .lst (lOf (e17 _ _ hll6)) ((contl.ex e17).dp g1 g2), (by simp only [sizeD]; omega), fun H18 e18 => ?_⟩
              repeat walk_at "s"
              exact ⟨⟨_, _, rfl⟩, e14.trans (e47.trans e18)⟩
          · rintro σ H14 ⟨⟨y10, y11, rfl⟩, e14⟩
            repeat walk_at "s"
            exact k _ (kk.trans e14.kp) (S.ex e14)
end
end Lw
namespace Lw
open PySem PySem.Spec PyProof.Rows L2 L2H
/-! ### the draws -/
local macro_rules | `(tactic| walk_at "len") => `(tactic| (intro vs H Q E h; first | (obtain ⟨_, e, _⟩ := h; subst e; rfl) | (obtain ⟨_, _, e, _⟩ := h; subst e; rfl) | (obtain ⟨_, _, _, e, _⟩ := h; subst e; rfl) | (obtain ⟨_, _, _, _, e, _⟩ := h; subst e; rfl) | (obtain ⟨_, _, _, _, _, e, _⟩ := h; subst e; rfl) | (obtain ⟨_, _, _, _, _, _, e, _⟩ := h; subst e; rfl) | (obtain ⟨_, _, _, _, _, _, _, e, _⟩ := h; subst e; rfl)))
local macro_rules | `(tactic| walk_at "get") => `(tactic| (first | assumption | exact upd_same | (refine look_new (by assumption) ?_; walk_at "get") | (refine look_ne (by assumption) ?_; walk_at "get")))
local macro_rules | `(tactic| walk_at "sqt") => `(tactic| (first | assumption | (apply Ex.t (Ex.refl.at (by assumption)); walk_at "sqt")))
local macro_rules | `(tactic| walk_at "s") => `(tactic| (first
  | refine ⟨_, rfl, ?_⟩
  | refine Or.inl ⟨_, rfl, ?_⟩
  | refine Or.inl ⟨_, _, _, _, rfl, rfl, lOf (by walk_at "get"), rfl, ?_⟩
  | refine Or.inl ⟨_, _, _, _, rfl, rfl, (show SqL _ _ _ _ by assumption), rfl, ?_⟩
  | refine Or.inr (Or.inl ⟨_, _, _, _, rfl, rfl, (show SqT _ _ _ _ by walk_at "sqt"), rfl, ?_⟩)
  | refine ⟨_, _, _, _, rfl, rfl, (by walk_at "get"), rfl, ?_⟩
  | refine ⟨_, _, rfl, rfl, Or.inl (Or.inr ⟨by decide, by decide⟩), ?_⟩
  | refine ⟨_, _, rfl, rfl, (by show (0 : Int) < _; first | assumption | decide), ?_⟩
  | refine ⟨_, _, rfl, rfl, ⟨by decide, by decide⟩, ?_⟩
  | refine ⟨_, _, rfl, rfl, ⟨by decide, by decide +kernel⟩, ?_⟩
  | refine ⟨_, _, rfl, rfl, (by show (0 : Int) < _; decide +kernel), ?_⟩
  | refine ⟨(show CMulA _ _ from Or.inl (Or.inl ⟨by (try dsimp only); omega, by (try dsimp only); omega⟩)), ?_⟩
  | refine ⟨_, _, rfl, rfl, ?_⟩
  | refine ⟨_, _, rfl, .inl ⟨_, (show SqL _ _ _ _ by assumption), rfl⟩, ?_⟩
  | refine ⟨_, _, rfl, .inl ⟨_, lOf (by walk_at "get"), rfl⟩, ?_⟩
  | refine ⟨_, _, rfl, (show Dp _ _ _ _ by assumption), ?_⟩
  | refine ⟨_, _, rfl, (show SqT _ _ _ _ by assumption), ?_⟩
  | refine ⟨_, _, rfl, (show SqL _ _ _ _ by assumption), ?_⟩
  | refine ⟨_, _, rfl, ?_⟩
  | refine ⟨rfl, _, rfl, ?_⟩
  | refine ⟨rfl, ?_⟩
  | refine ⟨_, _, _, _, _, rfl, (by walk_at "get"), (by assumption), (by assumption), rfl, ?_⟩
  | refine ⟨_, _, _, _, _, rfl, .own _, (by assumption), (by assumption), ?_⟩
  | refine ⟨_, _, _, _, _, rfl, .ty _, (by assumption), kit_ty (by rfl), ?_⟩))
local macro_rules | `(tactic| walk_at "c") => `(tactic| (try dsimp only [L2.start, List.set, List.map, List.length, List.replicate, List.cons_append, List.nil_append, List.append, HAppend.hAppend, Append.append, Int.toNat, Nat.reduceSub, Nat.reduceAdd]))
local macro_rules | `(tactic| walk_at "T") => `(tactic| ((repeat walk_at "s"); refine iteT (by first | rfl | assumption | decide) ?_; (repeat walk_at "s")))
local macro_rules | `(tactic| walk_at "F") => `(tactic| ((repeat walk_at "s"); refine iteF (by first | rfl | assumption | decide) ?_; (repeat walk_at "s")))
local macro_rules | `(tactic| walk_at "isi") => `(tactic| ((repeat walk_at "s"); refine ⟨_, _, _, _, _, rfl, .ty _, (by assumption), kit_ty (by rfl), ?_⟩; (repeat walk_at "s")))
local macro_rules | `(tactic| walk_at "mem") => `(tactic| (first | exact List.Mem.head _ | (refine List.Mem.tail _ ?_; walk_at "mem")))
local macro_rules | `(tactic| walk_at "ext") => `(tactic| (first | exact Ex.refl | (refine Ex.new ?_ (by assumption); walk_at "ext")))
local macro_rules | `(tactic| walk_at "al") => `(tactic| ((repeat walk_at "s"); refine ⟨sz rfl, fun _ _ => ?_⟩))
section
variable {w : World} {K : PySem.W.Frag} {mg : Str → Option Value} {base : Heap}
def spStore (K : PySem.W.Frag) : Sp := fun vs H Q _ => ∃ (a : Addr) (ns : List Int), vs = [.ref a] ∧ SqL K H a (ns.map V.int) ∧ ns.length ≤ 63 ∧ ∀ s H', Ex H H' → H s = none → StO H' s → Q (.ref s) H'
theorem sc_l_store : FnScope ["script", "cell", "cells", "mixed"] ["script"] (defScope s_l_store) := ⟨rfl, rfl, rfl, by decide +kernel, rfl, by decide +kernel, by decide +kernel⟩
theorem d_l_store (T : Tx K mg) : Dn PP w K mg base CX0 2 "_law_store" ["script"] (spStore K) := by
  obtain ⟨fd, F⟩ := T.d 12
  refine ⟨_, fd, T.g 12, F.kp, FunD.bindsN F (fun _ _ _ _ _ _ us hl => match us, hl with | [_], _ => rfl), FunD.ok F sc_l_store (by walk_at "len") (fun cdv A outer s H vs Q E hr h => ?_)⟩
  obtain ⟨a, ns, rfl, ha, hn, k⟩ := h
  refine ⟨_, PSs.nox ((pss_cons (ps_setLc (i := 2) (own := [("cell", 1)]) rfl sc_l_store.nd rfl rfl (sw_true rfl rfl rfl (by decide +kernel)) (pi_list (pe_slice sl_list (pv 0) po_none (po_some pe_int))) (blkOk_by (own := [("cell", 1)]) (N := ["script", "cell", "cells", "mixed"]) (sc := defScope s_l_store) (by decide +kernel)) (fun _ _ _ _ _ => (pg_name (i := 1) sc_l_store.nd rfl (.inl rfl))) (fun _ _ _ _ _ => pts_nil) (fun _ _ _ _ _ => (pe_callTy call_int1 (by rfl) (T.f 70) (by decide +kernel) (pa_cons (pv 1) pa_nil))))
      (pss_cons (ps_set (i := 3) sc_l_store.nd rfl (.inl rfl) pe_int)
      (pss_cons (ps_for PassesOwn.never rfl (pi_list (pv 2)) (pg_name (i := 1) sc_l_store.nd rfl (.inl rfl)) (pss_one (ps_set (i := 3) sc_l_store.nd rfl (.inl rfl) (pe_op op_mod (pe_callTy call_int1 (by rfl) (T.f 70) (by decide +kernel) (pa_cons (pe_op op_addA (pe_op op_addA (pe_op op_mulA (pv 3) pe_int) (pe_op op_mod (pe_callTy call_int1 (by rfl) (T.f 70) (by decide +kernel) (pa_cons (pv 1) pa_nil)) pe_int)) pe_int) pa_nil)) pe_int))))
      (pss_one (ps_ret (pe_lst (pa_cons (pv 2) (pa_cons pe_int (pa_cons pe_int (pa_cons (pv 3) (pa_cons pe_int pa_nil)))))))))))), ?_⟩
  repeat walk_at "s"
  intro p hp
  have hs : cutV (ns.map V.int) none (some 63) = ns.map V.int := by
    have h1 : HT.sIx (ns.map V.int).length (ns.map V.int).length (some ((63 : Nat) : Int)) = (ns.map V.int).length := by
      rw [HT.sIx_nat, List.length_map]
      omega
    show ((ns.map V.int).drop 0).take (HT.sIx (ns.map V.int).length (ns.map V.int).length (some ((63 : Nat) : Int)) - 0) = _
    rw [h1, List.drop_zero, Nat.sub_zero, List.take_length]
  have e1 : Ex H (upd H p (.lst (ns.map V.int))) := Ex.refl.at hp
  have hp1 : SqL K (upd H p (.lst (ns.map V.int))) p (ns.map V.int) := lOf upd_same
  rw [hs]
  refine ⟨p, rfl, ⟨_, hp1⟩, fun D hD => lc_list (fun i H' => H' D = some (.lst ((ns.map V.int).take i)) ∧ Ex (upd H p (.lst (ns.map V.int))) H') ⟨upd_same, Ex.refl.at hD⟩ (fun i H' _ h => h.2.l hp1) ?_ ?_⟩
  · rintro i x H2 hx ⟨hd, e2⟩
    obtain ⟨z, rfl⟩ : ∃ z, x = .int z := by
      obtain ⟨z, _, rfl⟩ := List.mem_map.mp (List.mem_of_getElem? hx)
      exact ⟨z, rfl⟩
    refine ⟨rfl, ?_⟩
    repeat walk_at "s"
    refine ⟨_, hd, ?_, ?_, e2.at hD⟩
    · rw [List.length_take, List.length_map, sizeLine_eq]
      omega
    · rw [List.take_succ, hx]
      exact upd_same
  · rintro H2 ⟨hd, e2⟩
    rw [List.take_length] at hd
    have hd2 : SqL K H2 D (ns.map V.int) := lOf hd
    have e3 := e1.trans e2
    repeat walk_at "s"
    refine ⟨⟨_, hd2⟩, for_list (fun i σ H' => (∃ (m : Int) (z : Option V), σ = [some (.ref a), z, some (.ref D), some (.int m)] ∧ 0 ≤ m ∧ m < 2147483647) ∧ H' = H2) ⟨⟨_, _, rfl, by decide, by decide⟩, rfl⟩ (fun i σ H' _ h => by rw [h.2]; exact hd2) ?_ ?_⟩
    · rintro i x σ _ hx ⟨⟨m, z, rfl, m0, m1⟩, rfl⟩
      obtain ⟨z, rfl⟩ : ∃ z, x = .int z := by
        obtain ⟨z, _, rfl⟩ := List.mem_map.mp (List.mem_of_getElem? hx)
        exact ⟨z, rfl⟩
      repeat walk_at "s"
      exact ⟨⟨_, _, rfl, Int.emod_nonneg _ (by decide), Int.emod_lt_of_pos _ (by decide)⟩, rfl⟩
    · rintro σ _ ⟨⟨m, z, rfl, m0, m1⟩, rfl⟩
      repeat walk_at "s"
      refine ⟨sz rfl, fun t ht => ?_⟩
      exact k t _ (e3.trans (Ex.refl.at ht)) (e3.none ht) ⟨D, ns, 0, 0, m, 0, upd_same, look_new ht hd, ne_of_none hd ht, by decide, by decide, m0, m1, hn⟩
end
end Lw
namespace Lw
open PySem PySem.Spec PyProof.Rows L2 L2H
/-! ### the draws -/
local macro_rules | `(tactic| walk_at "len") => `(tactic| (intro vs H Q E h; first | (obtain ⟨_, e, _⟩ := h; subst e; rfl) | (obtain ⟨_, _, e, _⟩ := h; subst e; rfl) | (obtain ⟨_, _, _, e, _⟩ := h; subst e; rfl) | (obtain ⟨_, _, _, _, e, _⟩ := h; subst e; rfl) | (obtain ⟨_, _, _, _, _, e, _⟩ := h; subst e; rfl) | (obtain ⟨_, _, _, _, _, _, e, _⟩ := h; subst e; rfl) | (obtain ⟨_, _, _, _, _, _, _, e, _⟩ := h; subst e; rfl)))
local macro_rules | `(tactic| walk_at "get") => `(tactic| (first | assumption | exact upd_same | (refine look_new (by assumption) ?_; walk_at "get") | (refine look_ne (by assumption) ?_; walk_at "get")))
local macro_rules | `(tactic| walk_at "sqt") => `(tactic| (first | assumption | (apply Ex.t (Ex.refl.at (by assumption)); walk_at "sqt")))
local macro_rules | `(tactic| walk_at "s") => `(tactic| (first
  | refine ⟨_, rfl, ?_⟩
  | refine Or.inl ⟨_, rfl, ?_⟩
  | refine Or.inl ⟨_, _, _, _, rfl, rfl, lOf (by walk_at "get"), rfl, ?_⟩
  | refine Or.inl ⟨_, _, _, _, rfl, rfl, (show SqL _ _ _ _ by assumption), rfl, ?_⟩
  | refine Or.inr (Or.inl ⟨_, _, _, _, rfl, rfl, (show SqT _ _ _ _ by walk_at "sqt"), rfl, ?_⟩)
  | refine ⟨_, _, _, _, rfl, rfl, (by walk_at "get"), rfl, ?_⟩
  | refine ⟨_, _, rfl, rfl, Or.inl (Or.inr ⟨by decide, by decide⟩), ?_⟩
  | refine ⟨_, _, rfl, rfl, (by show (0 : Int) < _; first | assumption | decide), ?_⟩
  | refine ⟨_, _, rfl, rfl, ⟨by decide, by decide⟩, ?_⟩
  | refine ⟨_, _, rfl, rfl, ⟨by decide, by decide +kernel⟩, ?_⟩
  | refine ⟨_, _, rfl, rfl, (by show (0 : Int) < _; decide +kernel), ?_⟩
  | refine ⟨(show CMulA _ _ from Or.inl (Or.inl ⟨by (try dsimp only); omega, by (try dsimp only); omega⟩)), ?_⟩
  | refine ⟨_, _, rfl, rfl, ?_⟩
  | refine ⟨_, _, rfl, .inl ⟨_, (show SqL _ _ _ _ by assumption), rfl⟩, ?_⟩
  | refine ⟨_, _, rfl, .inl ⟨_, lOf (by walk_at "get"), rfl⟩, ?_⟩
  | refine ⟨_, _, rfl, (show Dp _ _ _ _ by assumption), ?_⟩
  | refine ⟨_, _, rfl, (show SqT _ _ _ _ by assumption), ?_⟩
  | refine ⟨_, _, rfl, (show SqL _ _ _ _ by assumption), ?_⟩
  | refine ⟨_, _, rfl, ?_⟩
  | refine ⟨rfl, _, rfl, ?_⟩
  | refine ⟨rfl, ?_⟩
  | refine ⟨_, _, _, _, _, rfl, (by walk_at "get"), (by assumption), (by assumption), rfl, ?_⟩
  | refine ⟨_, _, _, _, _, rfl, .own _, (by assumption), (by assumption), ?_⟩
  | refine ⟨_, _, _, _, _, rfl, .ty _, (by assumption), kit_ty (by rfl), ?_⟩))
local macro_rules | `(tactic| walk_at "c") => `(tactic| (try dsimp only [L2.start, List.set, List.map, List.length, List.replicate, List.cons_append, List.nil_append, List.append, HAppend.hAppend, Append.append, Int.toNat, Nat.reduceSub, Nat.reduceAdd]))
local macro_rules | `(tactic| walk_at "T") => `(tactic| ((repeat walk_at "s"); refine iteT (by first | rfl | assumption | decide) ?_; (repeat walk_at "s")))
local macro_rules | `(tactic| walk_at "F") => `(tactic| ((repeat walk_at "s"); refine iteF (by first | rfl | assumption | decide) ?_; (repeat walk_at "s")))
local macro_rules | `(tactic| walk_at "isi") => `(tactic| ((repeat walk_at "s"); refine ⟨_, _, _, _, _, rfl, .ty _, (by assumption), kit_ty (by rfl), ?_⟩; (repeat walk_at "s")))
local macro_rules | `(tactic| walk_at "mem") => `(tactic| (first | exact List.Mem.head _ | (refine List.Mem.tail _ ?_; walk_at "mem")))
local macro_rules | `(tactic| walk_at "ext") => `(tactic| (first | exact Ex.refl | (refine Ex.new ?_ (by assumption); walk_at "ext")))
local macro_rules | `(tactic| walk_at "al") => `(tactic| ((repeat walk_at "s"); refine ⟨sz rfl, fun _ _ => ?_⟩))
section
variable {w : World} {K : PySem.W.Frag} {mg : Str → Option Value} {base : Heap}
def spLaw (K : PySem.W.Frag) : Sp := fun vs H Q _ => ∃ (a : Addr) (ns : List Int), vs = [.ref a] ∧ SqL K H a (ns.map V.int) ∧ ns.length ≤ 63 ∧ ∀ H', Q (.bl true) H'
theorem sc_law : FnScope ["script", "store", "numbers", "small", "shifted", "number"] ["script"] (defScope s_law) := ⟨rfl, rfl, rfl, by decide +kernel, rfl, by decide +kernel, by decide +kernel⟩
theorem d_law (T : Tx K mg) {fd : FuncData} (F : FunD K fd33.name fd33.qual fd33.params fd33.body fd33.scope (He.DefD.dvs K fd33) (He.DefD.kws K fd33) (He.fAd K fd33.at_) fd) : FnOk PP w K mg base CX0 12 (He.fAd K fd33.at_) fd ["script"] (spLaw K) := by
  refine FunD.ok F sc_law (by walk_at "len") (fun cdv A outer s H vs Q E hr h => ?_)
  obtain ⟨a, ns, rfl, ha, hn, k⟩ := h
  refine ⟨_, PSs.nox ((pss_cons (ps_set (i := 1) sc_law.nd rfl (.inl rfl) (pe_d (d_l_store T) (hr.mono (by decide)) rfl pass0 (pa_cons (pv 0) pa_nil)))
      (pss_cons (ps_set (i := 2) sc_law.nd rfl (.inl rfl) (pe_d (d_l_numbers T) (hr.mono (by decide)) rfl pass0 (pa_cons (pv 1) (pa_cons (pe_d (d_l_size T) (hr.mono (by decide)) rfl pass0 (pa_cons (pv 1) (pa_cons pe_int (pa_cons pe_int pa_nil)))) pa_nil))))
      (pss_cons (ps_set (i := 3) sc_law.nd rfl (.inl rfl) (pe_d (d_l_numbers T) (hr.mono (by decide)) rfl pass0 (pa_cons (pv 1) (pa_cons (pe_d (d_l_take T) (hr.mono (by decide)) rfl pass0 (pa_cons (pv 1) (pa_cons pe_int pa_nil))) pa_nil))))
      (pss_cons (ps_setLc (i := 4) (own := [("number", 5)]) rfl sc_law.nd rfl rfl (sw_true rfl rfl rfl (by decide +kernel)) (pi_list (pv 2)) (blkOk_by (own := [("number", 5)]) (N := ["script", "store", "numbers", "small", "shifted", "number"]) (sc := defScope s_law) (by decide +kernel)) (fun _ _ _ _ _ => (pg_name (i := 5) sc_law.nd rfl (.inl rfl))) (fun _ _ _ _ _ => pts_nil) (fun _ _ _ _ _ => (pe_op op_mod (pe_callTy call_int1 (by rfl) (T.f 70) (by decide +kernel) (pa_cons (pe_op (show OpR _ (binaryOp .Add) (rAdd K) from op_addA) (pv 5) pe_int) pa_nil)) pe_int)))
      (pss_cons (ps_if (PW.pt (pw_or (pt_not (pt_truth (pe_d (d_l_right T) (hr.mono (by decide)) rfl pass0 (pa_cons (pv 1) (pa_cons (pv 2) pa_nil))) (by intro _; rfl))) (pw_or1 (pt_not (pt_truth (pe_d (d_l_same T) (hr.mono (by decide)) rfl pass0 (pa_cons (pe_d (d_turn_levels T) (hr.mono (by decide)) rfl passN (pa_cons (pe_callTy call_list_of (by rfl) (T.f 73) (by decide +kernel) (pa_cons (pv 4) pa_nil)) pa_nil)) (pa_cons (pe_d (d_l_orderby T) (hr.mono (by decide)) rfl pass0 (pa_cons (pv 4) pa_nil)) pa_nil))) (by intro _; rfl)))))) (pss_one (ps_ret pe_bl)) pss_nil)
      (pss_cons (ps_if (PW.pt (pw_or (pt_not (pt_truth (pe_d (d_l_right T) (hr.mono (by decide)) rfl pass0 (pa_cons (pv 1) (pa_cons (pv 3) pa_nil))) (by intro _; rfl))) (pw_or1 (pt_not (pt_truth (pe_d (d_l_same T) (hr.mono (by decide)) rfl pass0 (pa_cons (pe_d (d_turn_levels T) (hr.mono (by decide)) rfl passN (pa_cons (pe_callTy call_list_of (by rfl) (T.f 73) (by decide +kernel) (pa_cons (pv 2) pa_nil)) pa_nil)) (pa_cons (pe_d (d_l_orderby T) (hr.mono (by decide)) rfl pass0 (pa_cons (pv 2) pa_nil)) pa_nil))) (by intro _; rfl)))))) (pss_one (ps_ret pe_bl)) pss_nil)
      (pss_one (ps_ret (pe_d (d_l_refused T) (hr.mono (by decide)) rfl pass0 (pa_cons (pv 1) (pa_cons (pv 2) (pa_cons (pe_d (d_l_orderby T) (hr.mono (by decide)) rfl pass0 (pa_cons (pv 2) pa_nil)) pa_nil))))))))))))), ?_⟩
  repeat walk_at "s"
  refine ⟨hn, fun s H1 e1 hs0 S1 => ?_⟩
  repeat walk_at "s"
  refine ⟨s, 9, 59, rfl, S1, by decide, by decide, by decide, fun v H2 k2 S2 v0 v1 => ?_⟩
  repeat walk_at "s"
  refine ⟨S2, v0, by omega, fun p1 n1 H3 k3 S3 hp1 hq1 hl1 g1 => ?_⟩
  have hp1s := S2.ne hp1
  repeat walk_at "s"
  refine ⟨S3, by decide, fun u H4 k4 S4 u0 _ u4 => ?_⟩
  have u4 := u4 (by decide)
  have hq14 := k4.1 _ _ hp1s hq1
  repeat walk_at "s"
  refine ⟨S4, u0, by omega, fun p2 n2 H5 k5 S5 hp2 hq2 hl2 g2 => ?_⟩
  have hp2s := S4.ne hp2
  have hq15 := k5.1 _ _ hp1s hq14
  have hq15L := lOf (K := K) hq15
  clear hq1 hq14 k2 k3 k4 k5 S2 S3 S4 hp1 hp2
  repeat walk_at "s"
  refine ⟨⟨_, hq15L⟩, fun D hD => lc_list (fun i H' => ∃ n3 : List Int, H' D = some (.lst (n3.map V.int)) ∧ n3.length = i ∧ Nums n3 ∧ Ex H5 H') ⟨[], upd_same, rfl, (fun n h => by cases h), Ex.refl.at hD⟩ (fun i H' _ ⟨_, _, _, _, h⟩ => h.l hq15L) ?_ ?_⟩
  · rintro i x H7 hx ⟨n3, hd, hl3, g3, e7⟩
    obtain ⟨z, _, rfl⟩ := List.mem_map.mp (List.mem_of_getElem? hx)
    have hi := (List.getElem?_eq_some_iff.mp hx).1
    rw [List.length_map] at hi
    refine ⟨rfl, ?_⟩
    repeat walk_at "s"
    refine ⟨_, hd, by rw [List.length_map, sizeLine_eq]; omega, n3 ++ [(z + 1) % 1001], ?_, by rw [List.length_append, hl3]; rfl, fun n h => ?_, e7.at hD⟩
    · rw [List.map_append]
      exact upd_same
    · rcases List.mem_append.mp h with h | h
      · exact g3 n h
      · obtain rfl := List.mem_singleton.mp h
        have := Int.emod_nonneg (z + 1) (show (1001 : Int) ≠ 0 by decide)
        have := Int.emod_lt_of_pos (z + 1) (show (0 : Int) < 1001 by decide)
        simp only [lv, Bool.and_eq_true, decide_eq_true_eq]
        omega
  · rintro H7 ⟨n3, hd, hl3, g3, e7⟩
    rw [List.length_map] at hl3
    have h17 := e7 _ _ hq15
    have h27 := e7 _ _ hq2
    have S7 := S5.ex e7
    have hDs := S5.ne hD
    obtain ⟨L1, F1⟩ := TurnX.Fin.ex n1
    obtain ⟨L3, F3⟩ := TurnX.Fin.ex n3
    have l1 : L1.length = n1.length + 1 := F1.len
    have l3 : L3.length = n3.length + 1 := F3.len
    clear hq15 hq2 S5 e7 hq15L
    repeat walk_at "s"
    refine ⟨s, p1, n1, rfl, S7, h17, hp1s, by omega, g1, fun H8 k8 S8 => ?_⟩
    have h18 := k8.1 _ _ hp1s h17
    have h28 := k8.1 _ _ hp2s h27
    have hd8 := k8.1 _ _ hDs hd
    repeat walk_at "s"
    refine ⟨D, _, rfl, .inl (lOf hd8), fun q hq => ?_⟩
    have e9 := Ex.refl.at (H := H8) (o := .lst (n3.map V.int)) hq
    repeat walk_at "s"
    refine ⟨q, _, rfl, upd_same, by rw [List.length_map]; omega, .inr (.inr ⟨n3, rfl, by omega, g3, fun L2 pt H10 F2 e10 hpt ht => ?_⟩)⟩
    obtain rfl := F3.unique F2
    have e810 := e9.trans e10
    repeat walk_at "s"
    refine ⟨D, n3, L3, rfl, lOf (e810 _ _ hd8), by omega, F3, fun po H11 e11 hpo hoo => ?_⟩
    have e811 := e810.trans e11
    repeat walk_at "s"
    refine ⟨_, _, _, rfl, lstN (lOf (e11 _ _ ht)), lstN (lOf hoo), szl (by rw [List.length_map]; omega), fun H12 e12 => ?_⟩
    have e812 := e811.trans e12
    have h112 := e812 _ _ h18
    have h212 := e812 _ _ h28
    have S12 := S8.ex e812
    clear e9 e10 e11 e12 e810 e811 e812 ht hoo h18 h28 hd8 S8 k8
    repeat walk_at "s"
    refine ⟨s, p2, n2, rfl, S12, h212, hp2s, by omega, g2, fun H13 k13 S13 => ?_⟩
    have h113 := k13.1 _ _ hp1s h112
    repeat walk_at "s"
    refine ⟨p1, _, rfl, .inl (lOf h113), fun q2 hq2 => ?_⟩
    have e14 := Ex.refl.at (H := H13) (o := .lst (n1.map V.int)) hq2
    repeat walk_at "s"
    refine ⟨q2, _, rfl, upd_same, by rw [List.length_map]; omega, .inr (.inr ⟨n1, rfl, by omega, g1, fun L2 pt2 H15 F2 e15 hpt2 ht2 => ?_⟩)⟩
    obtain rfl := F1.unique F2
    have e1315 := e14.trans e15
    repeat walk_at "s"
    refine ⟨p1, n1, L1, rfl, lOf (e1315 _ _ h113), by omega, F1, fun po2 H16 e16 hpo2 hoo2 => ?_⟩
    have e1316 := e1315.trans e16
    repeat walk_at "s"
    refine ⟨_, _, _, rfl, lstN (lOf (e16 _ _ ht2)), lstN (lOf hoo2), szl (by rw [List.length_map]; omega), fun H17 e17 => ?_⟩
    have e1317 := e1316.trans e17
    have h117 := e1317 _ _ h113
    have S17 := S13.ex e1317
    repeat walk_at "s"
    refine ⟨p1, n1, L1, rfl, lOf h117, by omega, F1, fun po3 H18 e18 hpo3 hoo3 => ?_⟩
    have S18 := S17.ex e18
    repeat walk_at "s"
    exact ⟨s, p1, po3, n1, L1, rfl, S18, e18 _ _ h117, hp1s, by omega, g1, hoo3, S17.ne hpo3, Pm.fin F1, l1, fun H19 _ _ => k _⟩
end
end Lw
namespace Lw
open PySem PySem.Spec PyProof.Rows L2
theorem facts {w : World} {K : PySem.W.Frag} {h : Heap} {mg : Str → Option Value} {f : Addr} (X : K.In h) (G : h.Ns mainGlobals mg) (hfa : mg ("law" : Str) = some (.ref f)) (c : HeZ.SaysZ file fa fn ers gts exB K) :
    ∃ fd : FuncData, (∀ (s : Shared) (v : Value), BindsTo s fd ⟨[v], []⟩ [("script", v)]) ∧ ∀ base : Heap, K.In base → base.Ns mainGlobals mg → FnOk PP w K mg base CX0 12 f fd ["script"] (spLaw K) := by
  have T : Tx K mg := ⟨c, h, X, G⟩
  obtain ⟨fd, F⟩ := T.d 33
  have e := hfa.symm.trans (T.g 33 (x := "law"))
  cases e
  have b := FunD.bindsA (ps := ["script"]) F fun _ _ _ _ _ _ us hl => match us, hl with | [_], _ => rfl
  refine ⟨fd, fun s v => b s [v] rfl, fun base _ _ => ?_⟩
  exact d_law T F
end Lw
open PySem PySem.W PySem.Calls PyProof.Rows
theorem PySem.Challenge.cw_textbetween_k34_levels_turn_holds : PySem.Challenge.rw_textbetween_k34_levels_turn.Holds := by
  w_on; o_law
  refine HandSHeadRun.head_any (r := Lw.RR) (q := Lw.qv) (H := Lw.hk) (ob := Lw.ob) (M := 20000) (loose := Lw.loose) (d := HandSHeadRun.topDef Lw.RR.prog 71) (kwd := []) Lw.ob_eq
    (by kernel_rfl) (fun s => by kernel_rfl) Lw.run (by kernel_rfl) (by kernel_rfl) (by kernel_rfl) (by rfl) (by first | assumption | decide +kernel) (by decide +kernel) ⟨rfl, rfl, rfl, rfl, rfl, by decide +kernel⟩ ?hw ?hc
  case hw => w_witness2
  case hc =>
    refine L2.walk_ofE (l := PySem.Challenge.rw_textbetween_k34_levels_turn) (n := 63) (k := 12) (x := "script") (CX := L2.CX0) rfl (by decide) (by kernel_rfl) ⟨rfl, by decide, by decide⟩ ?F (fun _ _ _ _ z => z)
    intro w mg fa h Y G hmg0
    obtain ⟨K, KX, c⟩ := Y
    have hmg : mg ("law" : PySem.Str) = some (.ref fa) := by
      have e : (HandSHeadRun.topDef Lw.RR.prog 71).name = ("law" : PySem.Str) := by kernel_rfl
      rw [← e]
      exact hmg0
    obtain ⟨fd, hb, hF⟩ := Lw.facts (w := w) KX G hmg c
    exact ⟨K, fd, Lw.spLaw K, KX, hb, fun H a ns hl hn hS => ⟨a, ns, rfl, hS, by first | assumption | exact hl | exact hn | omega, fun _ => rfl⟩, hF⟩
