import PyProof.Rows.All
import Wide.All
import OpenK.AllK
import Wide.FinOn
import PyProof.EqAt
import PyProof.EqKinds
import PyProof.TupleCall
import PyProof.ReprRoads
import PyProof.ReprLen
import KE.KExcSuper
import KE.KExcIs
import KE.DatumOrd
import KE.IntTextLaws
import KE.RegKSuper
import KE.RegKIsAll
import KE.RegKTryMore
import PySem.Challenge.RW_eachfloweachlink_k16_two_families_rounde
import HandS.ForMost
import HandS.Exc
import HandS.ExcInit
import HandS.ExcOwn
import HandS.ExcField
import HandS.TryMany
import HandS.WordsExc
import HandS.Wide
import HandS.Deep
import HandS.Conv
import HandS.IsInst
import HandS.NoneIn
import HandS.Evl
import HandS.Base
import HandS.Call
import HandS.List
import HandS.Ends
import HandS.Words
import HandS.Text
import HandS.Walk
import HandS.Gcd
import HandS.RevRange
import HandS.More
set_option Elab.async false
set_option linter.all false
set_option maxRecDepth 100000
set_option maxHeartbeats 4000000
/-! # Own errors over ValueError whose __init__ says super().__init__(text) and then stores its arguments -/
namespace PySem
namespace XS
open PySem.W PySem.Calls PyProof.Rows PySem.HandSPX

/-- the text of such an __init__: the scope, the arguments, the first statement, a store -/
def supS (msg : Str) (p0 p1 p2 p3 p4 p5 : Pos) (j : Nat) : Stmt :=
  .Expr (.Call (.Attribute (.Call (.Name "super" p0) [] [] p1) "__init__" p2) [.Constant (.str msg) j p3] [] p4) p5
def stoS (f : Str) (a1 a2 a3 a4 : Pos) : Stmt := .Assign [.Attribute (.Name "self" a1) f a2] (.Name f a3) a4

/-- what the written part says of the class at C, its __init__ at fI -/
structure ErrTxt (prog : Program) (K : Frag) (mg : Str → Option Value) (x qual : Str) (st : Stmt) (fs : List Str) (C fI : Addr) : Prop where
  gC : mg x = some (.ref C)
  cls : ∃ nm q N bs bm sn sub ab col dd k0 k1 k2 k3 k5,
    K.lookup C = some (excClassObj nm q C N bs bm true sn sub ab col dd k0 k1 k2 k3 k5 "ValueError.__new__") ∧ refsVE bm = true
  sup : ks_superIn K C C "__init__" = some (some (.builtin "ValueError.__init__"))
  stc : nsIn K cStatics "thirdparty.any" = some none
  sa : findIn K (.ref C) "__setattr__" = some (some (.builtin "object.__setattr__"))
  xf : L2.xfB K C = true
  noF : ∀ f ∈ fs, findIn K (.ref C) f = some none
  iC : findIn K (.ref C) "__init__" = some (some (.ref fI))
  tI : typeIn K (.ref fI) = some (.type "function")
  kC : keepIn K (.ref C) = true
  mC : mroIn K C (.ref C) = some true
  vC : subIn K (.ref C) (.type "ValueError") = some true
  tC : typeIn K (.ref C) = some (.type "type")
  te : exmOne K (.ref C) (.ref C) = some true
  mgS : mg "super" = none
  fn : ∃ (oc : Value) (od : Option Addr) (kV doc pm : Value) (an : Option Addr) (ct : Value) (osl : Array (Option Value)) (cda cc : Addr),
    K.lookup fI = some ⟨oc, od, .func (ksFn "__init__" qual (L2.defArgs st) (L2.defBody st) (L2.defScope st) .none kV doc pm an (.ref cda) ct cc), osl⟩ ∧
    codeIn K (.ref cda) qual = true ∧
    (∃ cl cld csl, K.lookup cc = some ⟨cl, cld, .cell (some (.ref C)), csl⟩) ∧
    (∃ ccl cdd vs ccs file tf, K.lookup cda = some ⟨ccl, cdd, .fields vs, ccs⟩ ∧ vs[2]? = some (.str file tf) ∧ ((prog.main.file : Str) == file) = true)
  top : (prog.main.scope.names.lookup ("super" : Str)).isSome = false

section
variable {prog : Program} {w : World} {A : Around} {E : Value → Shared → Prop} {s : Shared} {K : Frag} {mg mb : Str → Option Value}
  {x qual : Str} {st : Stmt} {fs : List Str} {C fI : Addr}

theorem ErrTxt.cl (T : ErrTxt prog K mg x qual st fs C fI) : ∃ cd, clsIn K C = some cd ∧ refsVE cd.mro = true ∧ cd.hasDict = true := by
  obtain ⟨nm, q, N, bs, bm, sn, sub, ab, col, dd, k0, k1, k2, k3, k5, hC, hbm⟩ := T.cls
  refine ⟨{ name := nm, bases := bs, mro := .ref C :: bm, ns := N, qualname := q, hasDict := true, slotNames := sn, subclasses := sub, abstract := ab, collection := col, hasDel := false }, ?_, hbm, rfl⟩
  unfold clsIn
  rw [hC] <;> rfl

/-- the wrapper that super() hands out is called: the args are laid anew -/
theorem call_mw (T : ErrTxt prog K mg x qual st fs C fI) {u e t0 : Addr} {rest : List Value} {Q : Value → Shared → Prop} (X : K.In s.heap)
    (hu : s.heap.get? u = some (kxs_mw "ValueError.__init__" e)) (he : s.heap.get? e = some (excO C t0)) (hz : rest.length ≤ sizeLine)
    (hq : ∀ h' t1, (∀ b o, b ≠ e → s.heap.get? b = some o → h'.get? b = some o) → h'.get? e = some (excO C t1) → Q .none { s with heap := h' }) :
    wpAny (model prog w) A (call (.ref u) rest) Q E s := by
  obtain ⟨nm, q, N, bs, bm, sn, sub, ab, col, dd, k0, k1, k2, k3, k5, hC, hbm⟩ := T.cls
  have hC' := X _ _ hC
  obtain ⟨h, g, d, t, os⟩ := s
  refine wpAny_call (codeAny_of_tree ?_)
  show wpAny _ A.in1 (callAny (Value.ref u) ⟨rest, []⟩) _ _ ⟨h, g, d, t, os⟩
  simp only [callAny]
  refine wpAny_bind (wpAny_load (a := u) hu ?_)
  have z : (Value.type "method-wrapper" == Value.type "method" || Value.type "method-wrapper" == Value.type "builtin_function_or_method" || Value.type "method-wrapper" == Value.type "method-wrapper") = true := by decide
  simp only [kxs_mw, z, if_true]
  refine KFB.if_so (by decide) (wpAny_bind ?_)
  refine check_bound_init F.excBase_ValueError.toExcCallFacts hC' he rfl ?_
  refine wpAny_bind (wpAny_pure (wpAny_pure ⟨plainId_quiet F.excBase_ValueError.init.plain _, codeAny_builtin F.excBase_ValueError.initEntry ?_⟩))
  exact exc_init_tree (cls := .ref C) (t0 := t0) (dv := none) (c2 := .none) (c3 := .none) (b4 := .bool false) he hz fun h' k e' _ => hq h' _ k e'

/-- a method's call on one line: what it evaluates to, its places symbolic -/
theorem super_eval {p0 p1 p2 p4 : Pos} {es : List Expr} {env : Env} (hpos : (p2.endLine == p4.line) = true) (hform : methodCallForm es.length (backTo p4 (starEach es env)) [] = true) :
    eval (.Call (.Attribute (.Call (.Name "super" p0) [] [] p1) "__init__" p2) es [] p4) env = (do
      let ov ← attributeBase (.Call (.Name "super" p0) [] [] p1) "__init__" env (eval (.Call (.Name "super" p0) [] [] p1) env)
      standAt p2.atName
      let (f, first) ← holding [ov] (getMethod ov "__init__" (do return (← importBound (.Call (.Name "super" p0) [] [] p1) env).getD true))
      callWith p4 f first (backTo p4 (starEach es env)) []) := by
  have e1 : methodCallPos true (.Call (.Name "super" p0) [] [] p1) env p2 p4 = pure p4 := by
    unfold methodCallPos
    rw [if_pos (by rw [hpos]; rfl)]
  rw [arm_eval_Call]
  have e2 : ∀ ov : Value, methodCall (.Call (.Name "super" p0) [] [] p1) "__init__" p2 p4 env ov (es.length + 0) (backTo p4 (starEach es env)) [] = (do
      let (f, first) ← holding [ov] (getMethod ov "__init__" (do return (← importBound (.Call (.Name "super" p0) [] [] p1) env).getD true))
      callWith p4 f first (backTo p4 (starEach es env)) []) := fun ov => by
    unfold methodCall calleeOf
    rw [Nat.add_zero, hform, e1]
    rfl
  show (do
      let ov ← attributeBase (.Call (.Name "super" p0) [] [] p1) "__init__" env (eval (.Call (.Name "super" p0) [] [] p1) env)
      standAt p2.atName
      methodCall (.Call (.Name "super" p0) [] [] p1) "__init__" p2 p4 env ov (es.length + 0) (backTo p4 (starEach es env)) []) = _
  simp only [e2]
/-- the first statement of such an __init__ -/
theorem sup_stmt (T : ErrTxt prog K mg x qual st fs C fI) {qn : Str} {scope : Scope} {L f cda cc : Addr} {fd : FuncData} {o : Addr} {t0 : Addr} {m : Str → Option Value} {body : List Stmt} {ar : Arg}
    {msg : Str} {p0 p1 p2 p3 p4 p5 : Pos} {j : Nat} {Q : Flow → Shared → Prop} {oc : Value} {od : Option Addr} {osl : Array (Option Value)}
    (X : K.In s.heap) (hg : s.heap.Ns mainGlobals mg) (hb : s.heap.Ns builtinsNs mb) (hmb : mb "super" = some (.type "super"))
    (hm : s.heap.Ns L m) (hself : m ar.arg = some (.ref o)) (ho : s.heap.get? o = some (excO C t0)) (hoC : o ≠ C)
    (hf : K.lookup f = some ⟨oc, od, .func fd, osl⟩) (hp : (fd.params.posonlyargs ++ fd.params.args).head? = some ar)
    (hcell : ∃ cl cld csl, K.lookup cc = some ⟨cl, cld, .cell (some (.ref C)), csl⟩)
    (hcode : ∃ ccl cdd vs ccs file tf, K.lookup cda = some ⟨ccl, cdd, .fields vs, ccs⟩ ∧ vs[2]? = some (.str file tf) ∧ ((prog.main.file : Str) == file) = true)
    (hk : scope.kind = .function) (hks : scope.names.lookup ("super" : Str) = some .globalImplicit) (hkc : scope.names.lookup ("__class__" : Str) = some .free) (hka : scope.names.lookup ar.arg = some .local)
    (hq : ∀ h' tk t1, (∀ b u, b ≠ o → s.heap.get? b = some u → h'.get? b = some u) → h'.get? o = some (excO C t1) → Q .next { s with heap := h', toks := tk })
    (hpos : (p2.endLine == p4.line) = true) (hi : interactive (ksEnv qn scope L f (.ref cda) cc) = false := by rfl) :
    PySem.wpAt (model prog w) A (.func body (ksEnv qn scope L f (.ref cda) cc)) (exec (supS msg p0 p1 p2 p3 p4 p5 j) (ksEnv qn scope L f (.ref cda) cc)) Q E s := by
  obtain ⟨cl, cld, csl, hcell⟩ := hcell
  obtain ⟨ccl, cdd, vs, ccs, file, tf, hcode, hvs, hfile⟩ := hcode
  obtain ⟨nm, q, N, bs, bm, sn, sub, ab, col, dd, k0, k1, k2, k3, k5, hC, hbm⟩ := id T.cls
  have hcl : clsIn K C = some { name := nm, bases := bs, mro := .ref C :: bm, ns := N, qualname := q, hasDict := true, slotNames := sn, subclasses := sub, abstract := ab, collection := col, hasDel := false } := by
    unfold clsIn
    rw [hC] <;> rfl
  have hsup := T.sup
  unfold ks_superIn at hsup
  rw [hcl, Option.bind_some] at hsup
  obtain ⟨hh, g, d, t, os⟩ := s
  unfold supS
  refine ks_wpAt_Expr_any (ks_wpAt_MethodCall ?_ (super_eval hpos (by rfl))) hi (by rfl)
  refine ks_wpAt_super_base (env := ksEnv qn scope L f (.ref cda) cc) hks hkc (by decide) rfl (X _ _ hf) rfl hp rfl (X _ _ hcode) rfl hvs hfile T.top ?_
  refine ks_loadName_global hk hks (loadGlobal_builtin (env := ksEnv qn scope L f (.ref cda) cc) hg T.mgS hb hmb ⟨rfl, ?_⟩)
  refine wpAny_loadName_free hk hkc rfl ⟨_, X _ _ hcell, rfl⟩ ?_
  refine wpAny_loadName_local hk hka hm hself ?_
  refine ks_wpAny_isType_cls (X _ _ hC) rfl ⟨rfl, ?_⟩
  refine ks_wpAny_call_super (X _ _ hC) rfl ho rfl (fun c z => by cases z) (looks_mroIn X T.mC) fun h1 e1 kp1 => ?_
  have X1 : K.In h1 := X.keeps kp1
  have ho1 := kp1 _ _ ho
  have I1 : InstAt h1 o (excO C t0) C none := ⟨ho1, rfl, rfl, trivial⟩
  refine kxs_getMethod kxs_ValueError e1 (looks_opaque X1 T.stc) (l₀ := .ref C :: bm) ?_ rfl X1 hsup (I1.type.andThen (looks_subIn X1 T.vC)) hoC (by decide) ?_
  · exact (looks_clsIn X1 hcl).andThen .now
  have kp2 : ∀ b u, h1.get? b = some u → (h1.push (kxs_mw "ValueError.__init__" o)).get? b = some u := fun b u e => Heap.get?_push_of_some _ e
  show wpAny _ _ (callWith p4 (Value.ref h1.objs.size) [] ((false, eval (.Constant (.str msg) j p3) (ksEnv qn scope L f (.ref cda) cc)) :: []) []) _ _ _
  refine kxs_callWith (i := "ValueError.__init__") (x := o) (u := h1.objs.size) rfl (evalArgs_plain (Calls.spliced_cons (wpAny_Constant_str (Calls.spliced_nil ⟨?_, ?_⟩))))
  · show KxsAt _ _ _ (h1.push (kxs_mw "ValueError.__init__" o))
    exact Heap.get?_push_at rfl rfl
  · refine call_mw T (X1.keeps kp2) (e := o) (t0 := t0) (Heap.get?_push_at rfl rfl) (kp2 _ _ ho1) (by show 1 ≤ sizeLine; decide) fun h3 t1 k3 e3 => ?_
    exact hq h3 _ t1 (fun b u hb z => k3 b u hb (kp2 b u (kp1 b u z))) e3

/-- the stores that follow -/
inductive Stos : List Stmt → List Str → Prop
  | nil : Stos [] []
  | cons {f : Str} {a1 a2 a3 a4 : Pos} {r : List Stmt} {gs : List Str} (h : Stos r gs) : Stos (stoS f a1 a2 a3 a4 :: r) (f :: gs)
def mpOf : List (Str × Value) → Str → Option Value
  | [], _ => none
  | (f, v) :: r, y => if y = f then some v else mpOf r y
theorem mpOf_cons (f : Str) (v : Value) (r : List (Str × Value)) : mpOf ((f, v) :: r) = fun y => if y = f then some v else mpOf r y := rfl
theorem mpOf_within : ∀ l : List (Str × Value), Within (mpOf l) (l.map (·.1))
  | [] => Within.nil
  | (f, v) :: r => Within.cons f v (mpOf_within r)
/-- at o: an exception of the class at C whose own dict at dx holds l -/
structure ErrAt (h : Heap) (o C dx : Addr) (l : List (Str × Value)) : Prop where
  obj : ∃ t1 : Addr, h.get? o = some { cls := .ref C, dict := some dx, data := .fields #[.ref t1, .none, .none, .none, .bool false, .none] }
  ns : h.Ns1 dx (mpOf l)

theorem lkL {M : Model} {env : Env} {m : Str → Option Value} {y : Str} {pos : Pos} {v : Value} {Q : Value → Shared → Prop} (hn : s.heap.Ns env.locals m) (hv : m y = some v) (h : Q v s)
    (hk : env.scope.kind = .function) (hl : env.kindOf y = some .local) (hd : (y == ("__debug__" : Str)) = false) :
    wpAny M A (eval (.Name y pos) env) Q E s :=
  wpAny_Name (wpAny_loadName_local hk hl hn hv h) hd

/-- a further store -/
theorem sto_old (T : ErrTxt prog K mg x qual st fs C fI) {env : Env} {o dx : Addr} {f : Str} {a1 a2 a3 a4 : Pos} {v : Value} {m : Str → Option Value} {l : List (Str × Value)} {Q : Flow → Shared → Prop}
    (X : K.In s.heap) (hm : s.heap.Ns env.locals m) (hself : m "self" = some (.ref o)) (hv : m f = some v) (hE : ErrAt s.heap o C dx l) (hl : l.length ≤ 900) (hfs : f ∈ fs)
    (hk : env.scope.kind = .function) (h1 : env.kindOf "self" = some .local) (h2 : env.kindOf f = some .local) (hd : (f == ("__debug__" : Str)) = false)
    (hq : ∀ h' tk, (∀ b u, b ≠ dx → s.heap.get? b = some u → h'.get? b = some u) → h'.Ns1 dx (mpOf ((f, v) :: l)) → Q .next { s with heap := h', toks := tk }) :
    wpAny (model prog w) A (exec (stoS f a1 a2 a3 a4) env) Q E s := by
  obtain ⟨cd, hcd, hmro, hdict⟩ := T.cl
  obtain ⟨⟨t1, hobj⟩, hns⟩ := hE
  obtain ⟨oD, _, _, hoD, _, _⟩ := hns.count (mpOf_within l)
  obtain ⟨hh, g, d, t, os⟩ := s
  unfold stoS
  refine plainObj_wpAny_Assign_Attribute (lkL (v := v) hm hv (lkL (v := .ref o) hm hself ?_ hk h1 (by decide)) hk h2 hd)
  refine set_plain X (ox := { cls := .ref C, dict := some dx, data := .fields #[.ref t1, .none, .none, .none, .bool false, .none] }) (od := some oD) ⟨hobj, rfl, rfl, hoD⟩ T.sa ?_
  exact PySem.OEX.osa_old X hobj hns (mpOf_within l) (by rw [List.length_map]; omega) hcd hmro hdict (T.noF f hfs) fun h' tk' k hn => hq h' tk' k hn
/-- the first store: the own dict is laid -/
theorem sto_new (T : ErrTxt prog K mg x qual st fs C fI) {env : Env} {o t1 : Addr} {f : Str} {a1 a2 a3 a4 : Pos} {v : Value} {m : Str → Option Value} {Q : Flow → Shared → Prop}
    (X : K.In s.heap) (hm : s.heap.Ns env.locals m) (hself : m "self" = some (.ref o)) (hv : m f = some v) (hobj : s.heap.get? o = some (excO C t1)) (hfs : f ∈ fs)
    (hk : env.scope.kind = .function) (h1 : env.kindOf "self" = some .local) (h2 : env.kindOf f = some .local) (hd : (f == ("__debug__" : Str)) = false)
    (hq : ∀ h' tk dx, (∀ b u, b ≠ o → s.heap.get? b = some u → h'.get? b = some u) → s.heap.objs.size ≤ dx → dx ≠ o → ErrAt h' o C dx [(f, v)] → Q .next { s with heap := h', toks := tk }) :
    wpAny (model prog w) A (exec (stoS f a1 a2 a3 a4) env) Q E s := by
  obtain ⟨cd, hcd, hmro, hdict⟩ := T.cl
  obtain ⟨hh, g, d, t, os⟩ := s
  unfold stoS
  refine plainObj_wpAny_Assign_Attribute (lkL (v := v) hm hv (lkL (v := .ref o) hm hself ?_ hk h1 (by decide)) hk h2 hd)
  refine set_plain X (ox := excO C t1) (od := none) ⟨hobj, rfl, rfl, trivial⟩ T.sa ?_
  exact exc_osa X hobj hcd hmro hdict (T.noF f hfs) fun h' tk' dx k dn dne hx hn => hq h' tk' dx k dn dne ⟨⟨t1, hx⟩, hn⟩

theorem sto_run (T : ErrTxt prog K mg x qual st fs C fI) {env : Env} {o dx : Addr} {m : Str → Option Value} {Q : Flow → Shared → Prop}
    (hk : env.scope.kind = .function) (h1 : env.kindOf "self" = some .local) (hself : m "self" = some (.ref o)) (hLo : env.locals ≠ dx) (hodx : dx ≠ o) :
    ∀ {body : List Stmt} {gs : List Str}, Stos body gs → ∀ (ps : List (Str × Value)) (l : List (Str × Value)) (s : Shared), ps.map (·.1) = gs → (∀ p ∈ ps, m p.1 = some p.2 ∧ p.1 ∈ fs ∧ env.kindOf p.1 = some .local ∧ (p.1 == ("__debug__" : Str)) = false) →
      l.length + ps.length ≤ 900 → K.In s.heap → K.lookup dx = none → s.heap.Ns env.locals m → ErrAt s.heap o C dx l →
      (∀ h' tk, (∀ b u, b ≠ dx → s.heap.get? b = some u → h'.get? b = some u) → h'.Ns1 dx (mpOf (ps.reverse ++ l)) → Q .next { s with heap := h', toks := tk }) →
      wpAny (model prog w) A (execs body env) Q E s := by
  intro body gs hst
  induction hst with
  | nil =>
    intro ps l s e hp hl X hdx hm hE hq
    cases ps with
    | cons _ _ => cases e
    | nil =>
      refine wpAny_execs_nil ?_
      exact hq s.heap s.toks (fun _ _ _ z => z) hE.ns
  | @cons f a1 a2 a3 a4 r gs hst ih =>
    intro ps l s e hp hl X hdx hm hE hq
    cases ps with
    | nil => cases e
    | cons p ps =>
      obtain ⟨pf, v⟩ := p
      have e1 : pf = f := (List.cons.inj e).1
      subst e1
      obtain ⟨hv, hfs, hkf, hdf⟩ := hp (pf, v) List.mem_cons_self
      refine wpAny_execs_cons (sto_old T X hm hself hv hE (by simp only [List.length_cons] at hl; omega) hfs hk h1 hkf hdf fun h' tk k hn => ?_)
      obtain ⟨oL, es, ep, hL, hr⟩ := hm
      have kK : K.In h' := fun a u z => k a u (fun y => by rw [y, hdx] at z; cases z) (X a u z)
      refine ih ps ((pf, v) :: l) { s with heap := h', toks := tk } (List.cons.inj e).2 (fun q hq => hp q (List.mem_cons_of_mem _ hq)) (by simp only [List.length_cons] at hl ⊢; omega) kK hdx ⟨oL, es, ep, k _ _ hLo hL, hr⟩ ⟨?_, hn⟩ fun h2 tk2 k2 hn2 => ?_
      · obtain ⟨t1, z⟩ := hE.obj
        exact ⟨t1, k _ _ (Ne.symm hodx) z⟩
      · refine hq h2 tk2 (fun b u hb z => k2 b u hb (k b u hb z)) ?_
        rw [List.reverse_cons, List.append_assoc]
        exact hn2

/-- what the text of the __init__ must be (each by rfl or decide at a written text) -/
structure ErrSyn (qual : Str) (st : Stmt) (f0 : Str) (gs : List Str) : Prop where
  body : ∃ (msg : Str) (p0 p1 p2 p3 p4 p5 : Pos) (j : Nat) (a1 a2 a3 a4 : Pos) (r : List Stmt), L2.defBody st = supS msg p0 p1 p2 p3 p4 p5 j :: stoS f0 a1 a2 a3 a4 :: r ∧ Stos r gs ∧ (p2.endLine == p4.line) = true
  ar : ∃ ar : Arg, ((L2.defArgs st).posonlyargs ++ (L2.defArgs st).args).head? = some ar ∧ ar.arg = "self"
  kind : (L2.defScope st).kind = .function
  sup : (L2.defScope st).names.lookup ("super" : Str) = some .globalImplicit
  cls : (L2.defScope st).names.lookup ("__class__" : Str) = some .free
  self : (L2.defScope st).names.lookup ("self" : Str) = some .local
  loc : ∀ f ∈ f0 :: gs, (L2.defScope st).names.lookup f = some .local ∧ (f == ("__debug__" : Str)) = false
  cell : ∀ y ∈ (L2.defScope st).names, y.2 ≠ .cell
  co : (L2.defScope st).isCoroutine = false
  gen : (L2.defScope st).isGenerator = false
  nd : ((("self" : Str) :: f0 :: gs) : List Str).Nodup
  short : gs.length ≤ 100
  bind : ∀ (kV doc pm : Value) (an : Option Addr) (cdv ct : Value) (cc : Addr) (us : List Value), us.length = ((("self" : Str) :: f0 :: gs) : List Str).length →
    ∀ s : Shared, BindsTo s (ksFn "__init__" qual (L2.defArgs st) (L2.defBody st) (L2.defScope st) .none kV doc pm an cdv ct cc) ⟨us, []⟩ (((("self" : Str) :: f0 :: gs) : List Str).zip us)

theorem lookup_rev {n : Str} {v : Value} : ∀ {l : List (Str × Value)}, (l.map (·.1)).Nodup → (n, v) ∈ l → l.reverse.lookup n = some v := by
  intro l
  induction l with
  | nil => intro _ h; cases h
  | cons p l ih =>
    intro nd h
    obtain ⟨f, u⟩ := p
    rw [List.map_cons, List.nodup_cons] at nd
    rw [List.reverse_cons, List.lookup_append]
    rcases List.mem_cons.mp h with e | h
    · cases e
      have z : l.reverse.lookup n = none := by
        rw [List.lookup_eq_none_iff]
        intro q hq
        have : q.1 ∈ l.map (·.1) := List.mem_map_of_mem (List.mem_reverse.mp hq)
        have ne : ¬ n = q.1 := fun e => nd.1 (by rw [e]; exact this)
        simp [ne]
      rw [z]
      simp [List.lookup]
    · rw [ih nd.2 h]
      rfl

theorem zip_map1 : ∀ (ns : List Str) (us : List Value), us.length = ns.length → (ns.zip us).map (·.1) = ns
  | [], _, _ => rfl
  | n :: ns, [], h => by cases h
  | n :: ns, u :: us, h => by
    show n :: (ns.zip us).map (·.1) = n :: ns
    rw [zip_map1 ns us (Nat.succ.inj h)]

theorem errs_init (T : ErrTxt prog K mg x qual st fs C fI) {f0 : Str} {gs : List Str} (S : ErrSyn qual st f0 gs) (hfs : fs = f0 :: gs) {R : Result → Shared → Prop} {o t0 : Addr} {v0 : Value} {vs : List Value}
    (X : K.In s.heap) (hlim : s.heap.NoLimit) (hg : s.heap.Ns mainGlobals mg) (hb : s.heap.Ns builtinsNs mb) (hmb : mb "super" = some (.type "super"))
    (ho : s.heap.get? o = some (excO C t0)) (hno : K.lookup o = none) (hroom : A.depth < recursionLimit) (hlen : vs.length = gs.length)
    (hq : ∀ h' tk dx, (∀ b u, b ≠ o → s.heap.get? b = some u → h'.get? b = some u) → s.heap.objs.size ≤ dx → dx ≠ o → ErrAt h' o C dx (((f0, v0) :: gs.zip vs).reverse) → R (.ok (.ret .none)) { s with heap := h', toks := tk }) :
    codeAny (model prog w) A (.call (.ref fI) ⟨.ref o :: v0 :: vs, []⟩) R s := by
  obtain ⟨oc, od, kV, doc, pm, an, ct, osl, cda, cc, lk, hcd, hcell, hcode⟩ := T.fn
  obtain ⟨msg, p0, p1, p2, p3, p4, p5, j, a1, a2, a3, a4, r, hbody, hst, hpos⟩ := S.body
  obtain ⟨ar, har, hself⟩ := S.ar
  have hCo : o ≠ C := by
    rintro rfl
    obtain ⟨nm, q, N, bs, bm, sn, sub, ab, col, dd, k0, k1, k2, k3, k5, hC, hbm⟩ := T.cls
    rw [hno] at hC
    cases hC
  have hlt : o < s.heap.objs.size := Heap.lt_size ho
  have hulen : (Value.ref o :: v0 :: vs).length = ((("self" : Str) :: f0 :: gs) : List Str).length := by simp [hlen]
  have nd : ((((("self" : Str) :: f0 :: gs) : List Str).zip (Value.ref o :: v0 :: vs)).map (·.1)).Nodup := by
    rw [zip_map1 _ _ hulen]
    exact S.nd
  refine ks_codeAny_call_defAt (fd := ksFn "__init__" qual (L2.defArgs st) (L2.defBody st) (L2.defScope st) .none kV doc pm an (.ref cda) ct cc) (body := L2.defBody st) (binds := ((("self" : Str) :: f0 :: gs) : List Str).zip (Value.ref o :: v0 :: vs))
    hroom (X _ _ lk) rfl hlim (codeRec_of X hcd) rfl (S.bind _ _ _ _ _ _ _ _ hulen s) S.cell (fun y hy => ?_) (fun h0 hns hk0 => ?_) S.co S.gen S.kind
  · have : y.1 ∈ ((("self" : Str) :: f0 :: gs) : List Str) := (List.of_mem_zip hy).1
    rcases List.mem_cons.mp this with e | e
    · rw [e]; exact S.self
    · exact (S.loc _ e).1
  show PySem.wpAt _ (A.deeper (ksEnv qual (L2.defScope st) s.heap.objs.size fI (.ref cda) cc)) (.func (L2.defBody st) (ksEnv qual (L2.defScope st) s.heap.objs.size fI (.ref cda) cc)) (execs (L2.defBody st) (ksEnv qual (L2.defScope st) s.heap.objs.size fI (.ref cda) cc)) _ _ _
  have hb2 : execs (L2.defBody st) (ksEnv qual (L2.defScope st) s.heap.objs.size fI (.ref cda) cc) = execs (supS msg p0 p1 p2 p3 p4 p5 j :: stoS f0 a1 a2 a3 a4 :: r) (ksEnv qual (L2.defScope st) s.heap.objs.size fI (.ref cda) cc) := by rw [hbody]
  rw [hb2]
  have X0 : K.In h0 := X.keeps hk0
  have m_self : (((("self" : Str) :: f0 :: gs) : List Str).zip (Value.ref o :: v0 :: vs)).reverse.lookup ("self" : Str) = some (.ref o) := lookup_rev nd List.mem_cons_self
  have m_f0 : (((("self" : Str) :: f0 :: gs) : List Str).zip (Value.ref o :: v0 :: vs)).reverse.lookup f0 = some v0 := lookup_rev nd (List.mem_cons_of_mem _ List.mem_cons_self)
  have hLo : s.heap.objs.size ≠ o := Nat.ne_of_gt hlt
  refine ks_wpAt_execs_cons (sup_stmt T (fd := ksFn "__init__" qual (L2.defArgs st) (L2.defBody st) (L2.defScope st) .none kV doc pm an (.ref cda) ct cc) (ar := ar) (o := o) (t0 := t0) (m := fun y => (((("self" : Str) :: f0 :: gs) : List Str).zip (Value.ref o :: v0 :: vs)).reverse.lookup y)
    X0 (hg.keeps hk0) (hb.keeps hk0) hmb hns (by rw [hself]; exact m_self) (hk0 _ _ ho) hCo lk har hcell hcode S.kind S.sup S.cls (by rw [hself]; exact S.self) (fun h1 tk1 t1 k1 e1 => ?_) hpos (by unfold interactive; simp [S.kind]))
  show PySem.wpAt _ _ _ (execs _ _) _ _ _
  refine wpAt_of_wpAny ?_
  have hns0 := hns
  obtain ⟨oL, es, ep, hL, hr⟩ := hns
  have hns1 : h1.Ns s.heap.objs.size (fun y => (((("self" : Str) :: f0 :: gs) : List Str).zip (Value.ref o :: v0 :: vs)).reverse.lookup y) := ⟨oL, es, ep, k1 _ _ hLo hL, hr⟩
  have X1 : K.In h1 := fun a u z => k1 a u (fun y => by rw [y, hno] at z; cases z) (X0 a u z)
  refine wpAny_execs_cons (sto_new T (m := fun y => (((("self" : Str) :: f0 :: gs) : List Str).zip (Value.ref o :: v0 :: vs)).reverse.lookup y) X1 hns1 m_self m_f0 e1 (by rw [hfs]; exact List.mem_cons_self) S.kind S.self (S.loc f0 List.mem_cons_self).1 (S.loc f0 List.mem_cons_self).2
    fun h2 tk2 dx k2 dn dne hE => ?_)
  have hL1 : s.heap.objs.size < h1.objs.size := hns1.lt
  have hLdx : s.heap.objs.size ≠ dx := Nat.ne_of_lt (Nat.lt_of_lt_of_le hL1 dn)
  have hKdx : K.lookup dx = none := by
    cases z : K.lookup dx with
    | none => rfl
    | some u => exact absurd (Nat.lt_of_lt_of_le (Heap.lt_size (X1 _ _ z)) dn) (Nat.lt_irrefl _)
  have X2 : K.In h2 := fun a u z => k2 a u (fun y => by rw [y, hno] at z; cases z) (X1 a u z)
  show wpAny _ _ (execs r _) _ _ _
  refine sto_run T (env := ksEnv qual (L2.defScope st) s.heap.objs.size fI (.ref cda) cc) (dx := dx) (o := o) (m := fun y => (((("self" : Str) :: f0 :: gs) : List Str).zip (Value.ref o :: v0 :: vs)).reverse.lookup y) S.kind S.self m_self hLdx dne hst (gs.zip vs) [(f0, v0)] _ (zip_map1 gs vs hlen) (fun p hp => ?_) ?_ X2 hKdx ?_ hE fun h3 tk3 k3 hn3 => ?_
  · have pg : p.1 ∈ gs := (List.of_mem_zip hp).1
    exact ⟨lookup_rev nd (List.mem_cons_of_mem _ (List.mem_cons_of_mem _ hp)), by rw [hfs]; exact List.mem_cons_of_mem _ pg, (S.loc _ (List.mem_cons_of_mem _ pg)).1, (S.loc _ (List.mem_cons_of_mem _ pg)).2⟩
  · rw [List.length_zip]
    have := S.short
    simp only [List.length_cons, List.length_nil]
    omega
  · exact ⟨oL, es, ep, k2 _ _ hLo (k1 _ _ hLo hL), hr⟩
  · refine hq h3 _ dx (fun b u hb z => ?_) (Nat.le_of_lt (Nat.lt_of_lt_of_le hL1 dn)) dne ?_
    · have z0 := hk0 b u z
      have z1 := k1 b u hb z0
      have z2 := k2 b u hb z1
      exact k3 b u (Nat.ne_of_lt (Nat.lt_trans (Heap.lt_size z) (Nat.lt_of_lt_of_le hL1 dn))) z2
    · obtain ⟨t2, z⟩ := hE.obj
      refine ⟨⟨t2, k3 _ _ (Ne.symm dne) z⟩, ?_⟩
      rw [List.reverse_cons]
      exact hn3

/-- a made error: at e, its own dict at d -/
structure Made (h h' : Heap) (e C d : Addr) (l : List (Str × Value)) : Prop where
  keep : ∀ b o, h.get? b = some o → h'.get? b = some o
  new : h.objs.size ≤ e
  dbig : h.objs.size ≤ d
  dne : d ≠ e
  er : ErrAt h' e C d l

theorem errs_made (T : ErrTxt prog K mg x qual st fs C fI) {f0 : Str} {gs : List Str} (S : ErrSyn qual st f0 gs) (hfs : fs = f0 :: gs) {R : Result → Shared → Prop} {v0 : Value} {vs : List Value}
    (X : K.In s.heap) (hlim : s.heap.NoLimit) (hg : s.heap.Ns mainGlobals mg) (hb : s.heap.Ns builtinsNs mb) (hmb : mb "super" = some (.type "super"))
    (hroom : A.depth + 1 < recursionLimit) (hlen : vs.length = gs.length)
    (hq : ∀ h' tk e d, Made s.heap h' e C d (((f0, v0) :: gs.zip vs).reverse) → R (.ok (.ret (.ref e))) { s with heap := h', toks := tk }) :
    codeAny (model prog w) A (.call (.ref C) ⟨v0 :: vs, []⟩) R s := by
  obtain ⟨nm, q, N, bs, bm, sn, sub, ab, col, dd, k0, k1, k2, k3, k5, hC, hbm⟩ := id T.cls
  obtain ⟨hp, g, dr, tk, os⟩ := s
  have k : ∀ b o, hp.get? b = some o → ((hp.push (kdv_tup (v0 :: vs))).push (excO C hp.objs.size)).get? b = some o := fun b o e => Heap.get?_push_of_some _ (Heap.get?_push_of_some _ e)
  have hget : ((hp.push (kdv_tup (v0 :: vs))).push (excO C hp.objs.size)).get? (hp.objs.size + 1) = some (excO C hp.objs.size) := by heap_get
  have hnx : K.lookup (hp.objs.size + 1) = none := by
    cases e : K.lookup (hp.objs.size + 1) with
    | none => rfl
    | some o =>
      have z : hp.get? (hp.objs.size + 1) = some o := X _ _ e
      exact absurd (Nat.lt_of_succ_lt (Heap.lt_size z)) (Nat.lt_irrefl _)
  have hsz : (v0 :: vs).length ≤ sizeLine := by
    have := S.short
    have z : 101 ≤ sizeLine := by decide
    simp only [List.length_cons, hlen]
    omega
  refine call_own F.excBase_ValueError (fun X => refsVE_contains X bm hbm) (X _ _ hC) (looks_findIn X T.iC) (fun self => bind_fn X self T.tI) hsz ?_
  refine errs_init (s := ⟨(hp.push (kdv_tup (v0 :: vs))).push (excO C hp.objs.size), g, dr, tk, os⟩) T S hfs (X.keeps k) (hlim.keeps k) (hg.keeps k) (hb.keeps k) hmb hget hnx ?_ hlen fun h' tk' dx k' dn dne hE => ?_
  · show A.depth + 1 < recursionLimit
    exact hroom
  · have old : ∀ b o, hp.get? b = some o → h'.get? b = some o := fun b o e => k' b o (Nat.ne_of_lt (Nat.lt_succ_of_lt (Heap.lt_size e))) (k b o e)
    have z : hp.objs.size + 1 + 1 ≤ dx := by
      first
        | (simpa only [Heap.size_push] using dn)
        | exact dn
        | (have q := dn; rw [Heap.size_push, Heap.size_push] at q; exact q)
    exact ⟨rfl, hq h' tk' (hp.objs.size + 1) dx ⟨old, Nat.le_succ _, Nat.le_trans (Nat.le_trans (Nat.le_succ _) (Nat.le_succ _)) z, dne, hE⟩⟩
end
end XS
end PySem

namespace PySem
namespace XS
open PySem.W PySem.Calls PyProof.Rows PySem.HandSPX
/-! ### what the top must have written, fact by fact -/
theorem exm_of {K : Frag} {D S : Addr} {b : Bool} (h1 : subIn K (.ref S) (.type "BaseException") = some true) (h2 : isClsIn K S = true) (h3 : typeIn K (.ref S) = some (.type "type")) (h4 : subIn K (.ref D) (.ref S) = some b) :
    exmOne K (.ref D) (.ref S) = some b := by
  have e1 : (subIn K (.ref S) (.type "BaseException") == some true) = true := by rw [h1] <;> rfl
  have e2 : ((clsIn K S).isSome && typeIn K (.ref S) == some (.type "type")) = true := by
    have h2' : (clsIn K S).isSome = true := h2
    rw [h2', h3] <;> rfl
  show (if (subIn K (.ref S) (.type "BaseException") == some true) = true then (if ((clsIn K S).isSome && typeIn K (.ref S) == some (.type "type")) = true then subIn K (.ref D) (.ref S) else none) else none) = some b
  rw [if_pos e1, if_pos e2]
  exact h4
theorem xf_of {K : Frag} {C : Addr} (ga : findIn K (.ref C) "__getattribute__" = some (some (.builtin "BaseException.__getattribute__"))) (gg : findIn K (.ref C) "__getattr__" = some none)
    (eC : subIn K (.ref C) (.type "BaseException") = some true) (hC : hasDictIn K C = true) : L2.xfB K C = true := by
  unfold L2.xfB
  rw [decide_eq_true ga, decide_eq_true gg, decide_eq_true eC, hC]
  rfl
theorem errTxt_mk {prog : Program} {K : Frag} {h : Heap} {mg : Str → Option Value} {x qual : Str} {st : Stmt} {fs : List Str} {C fI : Addr} (X : K.In h) (G : h.Ns mainGlobals mg)
    {nm q : Str} {N : Addr} {bs bm : List Value} {sn : List Str} {sub : List Value} {ab : Bool} {col : Option Bool} {dd : Option Addr} {m0 m1 m2 m3 m5 : Option Value}
    {oc kV doc pm ct : Value} {od an : Option Addr} {osl : Array (Option Value)} {cda cc : Addr} {cl : Value} {cld : Option Addr} {csl : Array (Option Value)} {ccl : Value} {cdd : Option Addr} {vs : Array Value} {ccs : Array (Option Value)} {file : Str} {tf : Tok}
    (gC : nsIn K mainGlobals x = some (some (.ref C)))
    (xL : K.lookup C = some (excClassObj nm q C N bs bm true sn sub ab col dd m0 m1 m2 m3 m5 "ValueError.__new__")) (hbm : refsVE bm = true)
    (sup : ks_superIn K C C "__init__" = some (some (.builtin "ValueError.__init__"))) (stc : nsIn K cStatics "thirdparty.any" = some none)
    (sa : findIn K (.ref C) "__setattr__" = some (some (.builtin "object.__setattr__")))
    (ga : findIn K (.ref C) "__getattribute__" = some (some (.builtin "BaseException.__getattribute__"))) (gg : findIn K (.ref C) "__getattr__" = some none)
    (eC : subIn K (.ref C) (.type "BaseException") = some true) (hC : hasDictIn K C = true) (noF : ∀ f ∈ fs, findIn K (.ref C) f = some none)
    (iC : findIn K (.ref C) "__init__" = some (some (.ref fI))) (tI : typeIn K (.ref fI) = some (.type "function")) (kC : keepIn K (.ref C) = true)
    (mC : mroIn K C (.ref C) = some true) (vC : subIn K (.ref C) (.type "ValueError") = some true) (tC : typeIn K (.ref C) = some (.type "type"))
    (isC : isClsIn K C = true) (sC : subIn K (.ref C) (.ref C) = some true) (mgS : nsIn K mainGlobals "super" = some none)
    (l : K.lookup fI = some ⟨oc, od, .func (ksFn "__init__" qual (L2.defArgs st) (L2.defBody st) (L2.defScope st) .none kV doc pm an (.ref cda) ct cc), osl⟩) (c : codeIn K (.ref cda) qual = true)
    (lc : K.lookup cc = some ⟨cl, cld, .cell (some (.ref C)), csl⟩) (ld : K.lookup cda = some ⟨ccl, cdd, .fields vs, ccs⟩) (hv : vs[2]? = some (.str file tf)) (hf : ((prog.main.file : Str) == file) = true)
    (top : (prog.main.scope.names.lookup ("super" : Str)).isSome = false) : ErrTxt prog K mg x qual st fs C fI :=
  { gC := mg_of X G gC, cls := ⟨nm, q, N, bs, bm, sn, sub, ab, col, dd, m0, m1, m2, m3, m5, xL, hbm⟩, sup := sup, stc := stc, sa := sa, xf := xf_of ga gg eC hC, noF := noF, iC := iC, tI := tI, kC := kC, mC := mC, vC := vC, tC := tC,
    te := exm_of eC isC tC sC, mgS := mg_none_of X G mgS, fn := ⟨oc, od, kV, doc, pm, an, ct, osl, cda, cc, l, c, ⟨cl, cld, csl, lc⟩, ⟨ccl, cdd, vs, ccs, file, tf, ld, hv, hf⟩⟩, top := top }
end XS
end PySem

namespace L2
open PySem PySem.Spec PyProof.Rows

theorem pair_app {α β : Type} {F : α → β → Prop} {l1 : List α} {u1 : List β} (h : Paired F l1 u1) : ∀ {l2 : List α} {u2 : List β}, Paired F l2 u2 → Paired F (l1 ++ l2) (u1 ++ u2) := by
  induction h with
  | nil => intro l2 u2 g; exact g
  | cons r _ ih => intro l2 u2 g; exact .cons r (ih g)
theorem pair_rev {α β : Type} {F : α → β → Prop} {l : List α} {u : List β} (h : Paired F l u) : Paired F l.reverse u.reverse := by
  induction h with
  | nil => exact .nil
  | cons r _ ih =>
    rw [List.reverse_cons, List.reverse_cons]
    exact pair_app ih (.cons r .nil)
abbrev FV : (Str × V) → (Str × Value) → Prop := fun p q => p.1 = q.1 ∧ RelV p.2 q.2
theorem pair_zip : ∀ {ns : List Str} {vs : List V} {us : List Value}, Vals vs us → Paired FV (ns.zip vs) (ns.zip us)
  | [], _, _, _ => .nil
  | _ :: _, _, _, .nil => .nil
  | n :: ns, _, _, .cons r t => .cons ⟨rfl, r⟩ (pair_zip (ns := ns) t)
theorem relO_mp {l : List (Str × V)} {u : List (Str × Value)} (h : Paired FV l u) (g : Str) : RelO (l.lookup g) (XS.mpOf u g) := by
  induction h with
  | nil => exact True.intro
  | @cons p q l u r _ ih =>
    obtain ⟨f, v⟩ := p
    obtain ⟨f', w⟩ := q
    obtain ⟨e, rv⟩ := r
    dsimp only at e rv
    subst e
    rw [lookup_put, XS.mpOf_cons]
    dsimp only
    by_cases hw : g = f
    · rw [if_pos hw, if_pos hw]
      exact rv
    · rw [if_neg hw, if_neg hw]
      exact ih

/-- C(e, ..) of such an error: its own dict, new, holds the fields (the last one first) -/
def tMkE (C : Addr) (ns : List Str) (ta : TA) : St → Hp → XK → Prop := fun σ H Q => ta σ H fun vs H1 => vs.length = ns.length ∧ ∀ d, H1 d = none → Q (.ref C) (some d) (upd H1 d (.xd (ns.zip vs).reverse))
def tRaiseE (C : Addr) (ns : List Str) (W : WX) (ta : TA) : TS := fun _ σ H => tMkE C ns ta σ H fun cls d H' => W cls d σ H'

section
variable {X : Cx} {C fI : Addr} {x qual : Str} {st : Stmt} {f0 : Str} {gs : List Str}
theorem pmk_err {e : Expr} {es : List Expr} {ta : TA} {p pos : Pos} {k : Nat} (T : XS.ErrTxt X.prog X.K X.mg x qual st (f0 :: gs) C fI) (S : XS.ErrSyn qual st f0 gs) (hr : Room k X.A) (ha : PA X (e :: es) ta) (hg : Gl X x := by rfl)
    (hdb : (x == ("__debug__" : Str)) = false := by decide) (he : starEach (e :: es) X.env = (false, eval e X.env) :: starEach es X.env := by rfl) (hpl : (backTo pos (starEach es X.env)).any (·.1) = false := by rfl) :
    PMk X (.Call (.Name x p) (e :: es) [] pos) (tMkE C (f0 :: gs) ta) := by
  intro pins s σ H Q I h
  obtain ⟨mb, hb1, hb2⟩ := I.mod.blt
  refine wpAny_Call_Name_kw (ld_glob I hg T.gC ?_ hdb)
  refine PySem.W.callWith_K (h₀ := X.base) I.ok.mod.kin T.kC (thn (ha.run pos pins s σ H _ I h) fun us s1 hh => ?_) he hpl
  obtain ⟨vs, H1, I1, r1, hlen, q1⟩ := hh
  refine ⟨I1.kIn, ?_⟩
  cases r1 with
  | nil => cases hlen
  | @cons v u vr ur rv rr =>
    show wpAny _ _ (call (.ref C) (u :: ur)) _ _ _
    have hlim := I1.nolimit
    have hul : ur.length = gs.length := by
      rw [← Vals.length rr]
      exact Nat.succ.inj hlen
    have KI := I1.kIn
    have hglob := I1.mod.glob.keeps I1.bk
    have hblt := hb1.keeps I1.bk
    obtain ⟨hp, g, dr, tk, os⟩ := s1
    refine wpAny_call (XS.errs_made T S rfl KI hlim hglob hblt ((hb2 "super" (by decide)).trans PyProof.Rows.Boot.«super») (by have := hr.dp; omega) hul fun h' tk' ex d M => ?_)
    show MkP X pins σ Q (.ref ex) ⟨h', g, dr, tk', os⟩
    obtain ⟨t1, hoe⟩ := M.er.obj
    have hns := M.er.ns
    obtain ⟨G', g1, g2⟩ := restrict h' fun b => decide (b ≠ ex)
    have gk : ∀ b, b ≠ ex → G'.get? b = h'.get? b := fun b hb => g1 b (decide_eq_true hb)
    have ge : G'.get? ex = none := g2 ex (by simp)
    have old : ∀ b o, hp.get? b = some o → G'.get? b = some o := fun b o q => (gk b (Nat.ne_of_lt (Nat.lt_of_lt_of_le (Heap.lt_size q) M.new))).trans (M.keep b o q)
    have ob : ObjOk X.prog X.w (upd H1 d (.xd ((f0 :: gs).zip (v :: vr)).reverse)) G' d (.xd ((f0 :: gs).zip (v :: vr)).reverse) :=
      ⟨_, hns.at (fun o q => (gk d M.dne).trans q), fun f => relO_mp (pair_rev (.cons ⟨rfl, rv⟩ (pair_zip rr))) f⟩
    have J : Inv X pins σ (upd H1 d (.xd ((f0 :: gs).zip (v :: vr)).reverse)) ⟨G', g, dr, tk', os⟩ := I1.laid (t' := tk') old M.dbig ob
    refine ⟨ex, _, _, ⟨G', g, dr, tk', os⟩, _, .ref C, some d, rfl, J, fun b o q => ?_, ge, hoe, ⟨rfl, rfl⟩, rfl, rfl, ?_, rfl, I1.bare, raises_own (xfB_ok T.xf).exC T.tC, q1 d (I1.hok.fresh M.dbig)⟩
    · by_cases hb : b = ex
      · have q' : G'.get? b = some o := q
        rw [hb, ge] at q'; cases q'
      · exact (gk b hb).symm.trans q
    · rw [upd_ne (Ne.symm M.dne)]
      exact I1.hok.fresh M.new
theorem ps_raiseErr {e : Expr} {es : List Expr} {ta : TA} {W : WX} {p pos pos2 : Pos} {k : Nat} (hc : X.calm = true) (T : XS.ErrTxt X.prog X.K X.mg x qual st (f0 :: gs) C fI) (S : XS.ErrSyn qual st f0 gs) (hr : Room k X.A) (tk : Takes X W) (ha : PA X (e :: es) ta)
    (hg : Gl X x := by rfl) (hdb : (x == ("__debug__" : Str)) = false := by decide) (he : starEach (e :: es) X.env = (false, eval e X.env) :: starEach es X.env := by rfl) (hpl : (backTo pos (starEach es X.env)).any (·.1) = false := by rfl) :
    PS X (.Raise (some (.Call (.Name x p) (e :: es) [] pos)) none pos2) (tRaiseE C (f0 :: gs) W ta) := ps_raise hc tk (pmk_err T S hr ha hg hdb he hpl)
end

/-! ### isinstance(e, c), e the error that the suite holds, whatever its own dict -/
def rIsX (K : PySem.W.Frag) (a : Addr) (cls : Value) (d : Option Addr) : List V → Hp → VK → Prop := fun xs H Q =>
  ∃ (D dd : Addr) (fs : List (Str × V)) (c : V) (cv : Value) (b : Bool), cls = .ref D ∧ d = some dd ∧ xs = [.ref a, c] ∧ (∀ u, RelV c u → u = cv) ∧ PySem.W.kitOne K (.ref D) cv = some b ∧ H dd = some (.xd fs) ∧
    (PySem.W.findIn K (.ref D) "__class__" = some (some (.builtin "object.__class__")) ∧ PySem.W.mroIn K D (.type "object") = some true ∧ xfB K D = true) ∧ Q (.bl b) H
theorem call_isX {X : Cx} {a : Addr} {oe : Obj} {cls : Value} {d : Option Addr} {pn : List (Addr × Obj)} (hn : PySem.W.specialIn X.K (.builtin "object.__class__") "__get__" = some (some (.builtin "getset_descriptor.__get__")))
    (ht : PySem.W.takesIn X.K (.builtin "object.__class__") = some true) (hz : Zc cls d oe) (hf : ∃ vs, oe.data = .fields vs) : CallR (X.suite a ((a, oe) :: pn)) (.builtin "isinstance") (rIsX X.K a cls d) := by
  intro pins s σ H xs us Q I r h
  obtain ⟨D, dd, fs, c, cv, b, rfl, rfl, rfl, hcv, e, hdd, ⟨ha, hm, hx⟩, q⟩ := h
  obtain ⟨ga, gg, exC, hdC⟩ := xfB_ok hx
  cases r with
  | cons rx rr =>
    cases rr with
    | cons rt rr =>
      cases rr
      cases rx
      have ec := hcv _ rt
      subst ec
      obtain ⟨hget, _⟩ := I.pin (a, oe) (List.mem_append.mpr (.inl List.mem_cons_self))
      obtain ⟨vs, hv⟩ := hf
      have hxd : ObjOk X.prog X.w H s.heap dd (.xd fs) := I.hok dd _ hdd
      obtain ⟨mA, hns, _⟩ := hxd
      obtain ⟨od, ho, _⟩ := lookIn_ns hns
      have J : PySem.W.InstAt s.heap a oe D (some od) := ⟨hget, hz.1, by unfold PySem.W.notCls; rw [hv] <;> rfl, by rw [hz.2]; exact ho⟩
      obtain ⟨cd, hc, _⟩ := PySem.W.any_some hdC
      exact PySem.W.kia_one (PySem.W.kitx_exc (by rw [hc]; rfl) ga gg exC ha hn ht hm) I.kIn J e (fun z => nomatch z) fun tk => ⟨.bl b, H, I.kept (t' := tk) fun _ _ z => z, rfl, q⟩
end L2

/-! ### try with several clauses, with a name or without -/
namespace L2
open PySem PySem.Spec PyProof.Rows
abbrev Clause := Value × Option Nat × (Addr → Value → Option Addr → TS)
def endN : Option Nat → Ends → Ends
  | none, D => D
  | some i, D => { nx := fun σ' H' => D.nx (σ'.set i none) H', rt := D.rt, bk := fun σ' H' => D.bk (σ'.set i none) H', ct := fun σ' H' => D.ct (σ'.set i none) H' }
def inN : Option Nat → Addr → St → St
  | none, _, σ => σ
  | some i, a, σ => σ.set i (some (.ref a))
/-- what the clauses wish of an exception of the body, one after the other -/
def wGen (K : PySem.W.Frag) (Wout : WX) (D : Ends) : List Clause → WX
  | [] => Wout
  | (c, io, ts) :: r => fun cls d σ H => ∃ b, PySem.W.exmOne K cls c = some b ∧ (b = true → ∀ a, H a = none → ts a cls d (endN io D) (inN io a σ) H) ∧ (b = false → wGen K Wout D r cls d σ H)
inductive HdsG (X : Cx) : List ExceptHandler → List Clause → Prop
  | nil : HdsG X [] []
  | plain {x : Str} {c : Value} {ts : Addr → Value → Option Addr → TS} {b₀ : Stmt} {suite : List Stmt} {np pq : Pos} {hds : List ExceptHandler} {l : List Clause} (hc : Names X x c)
      (hsu : ∀ (a : Addr) (oe : Obj) (cls : Value) (d : Option Addr) (pn : List (Addr × Obj)), Zc cls d oe → (∃ vs, oe.data = .fields vs) → PSs (X.suite a ((a, oe) :: pn)) (b₀ :: suite) (ts a cls d)) (r : HdsG X hds l) :
      HdsG X (.ExceptHandler (some (.Name x np)) none (b₀ :: suite) pq :: hds) ((c, none, ts) :: l)
  | named {x n : Str} {c : Value} {i : Nat} {ts : Addr → Value → Option Addr → TS} {b₀ : Stmt} {suite : List Stmt} {np pq : Pos} {hds : List ExceptHandler} {l : List Clause} (hc : Names X x c)
      (hi : X.N[i]? = some n) (hln : X.env.kindOf n = some .local)
      (hsu : ∀ (a : Addr) (oe : Obj) (cls : Value) (d : Option Addr) (pn : List (Addr × Obj)), Zc cls d oe → (∃ vs, oe.data = .fields vs) → PSs (X.suite a ((a, oe) :: pn)) (b₀ :: suite) (ts a cls d)) (r : HdsG X hds l) :
      HdsG X (.ExceptHandler (some (.Name x np)) (some n) (b₀ :: suite) pq :: hds) ((c, some i, ts) :: l)
section
variable {X : Cx} {body : List Stmt} {hd0 : ExceptHandler} {hds : List ExceptHandler} {l : List Clause} {pos : Pos} {tb : WX → TS} {Wout : WX}
theorem ps_try_gen (hs : X.stack = X.env :: X.outer) (hf : X.env.frame = some X.env.locals) (hN : X.N.Nodup) (tk : Takes X Wout)
    (hb : ∀ (W : WX) (pn : List (Addr × Obj)) (xe : Value → Shared → Prop), Takes (X.tr pn xe) W → PassesOwn (model X.prog X.w) X.A X.env xe → PSs (X.tr pn xe) body (tb W))
    (hh : HdsG X (hd0 :: hds) l) : PS X (.Try body (hd0 :: hds) [] [] pos) (fun D σ H => tb (wGen X.K Wout D l) D σ H) := by
  refine ⟨fun pins s σ H D I h => ?_⟩
  have ok := I.ok
  have frm : X.A.frames = some (X.env :: X.outer) := by rw [ok.frames, hs]
  refine wpAny_Try_except ?_
  refine wpAny_mono ((hb (wGen X.K Wout D l) (X.pn ++ pins)
    (fun ev z1 => wpAny (model X.prog X.w) X.A (noteFrame ev X.env) (fun _ z2 => wpAny (model X.prog X.w) X.A (setFlight ev none) (fun _ z3 => wpAny (model X.prog X.w) X.A (handleBy ev X.env (hd0 :: hds)) (SP X pins D) X.xe z3) X.xe z2) X.xe z1)
    (fun u s' xx => ?_) PassesOwn.looking).run [] s σ H D (I.toTry _) h) (fun fl s1 hsp => ?_) (fun ev s1 he => he)
  · obtain ⟨ea, B, sI, pp, σq, Hq, cls, d, rfl, Jt, nb, up, sky, na, os, ag, wish⟩ := xx
    have J : Inv X pins σq Hq sI := Jt.ofTry ok
    have sky2 : Sky B (X.env :: X.outer) ea (Zc cls d) X.env.locals s'.heap := by rw [← hs]; exact sky
    show wpAny (model X.prog X.w) X.A (noteFrame (Value.ref ea) X.env) _ _ _
    refine Sky.land Zc.steady frm hf sky2 fun g3 fly3 upg3 => ?_
    have K3 : Inv X pins σq Hq { s' with heap := g3 } := J.landed nb fly3.1 (up.trans upg3) os ag
    obtain ⟨ob3, fv3, hg3, zc3, dt3⟩ := fly3.there
    have noframe : ∀ {hh : Heap} {o : Obj} {vs : Array Value}, hh.FunFrames B (X.env :: X.outer) → hh.get? ea = some o → o.data = .fields vs → ea ∉ frs (X.env :: X.outer) := fun {hh o vs} ff e1 dd1 hm1 => by
      obtain ⟨_, o2, e2, hnf⟩ := ff.mem hm1
      rw [e1] at e2
      cases e2
      exact hnf _ dd1
    have nofr := noframe fly3.2.2.1 hg3 dt3
    have neL : ea ≠ X.env.locals := fun z => nofr (List.mem_filterMap.mpr ⟨X.env, List.mem_cons_self, by rw [hf, z]⟩)
    have neF : ea ∉ X.fs := fun hm1 => by
      obtain ⟨e1, he1, q1⟩ := List.mem_filterMap.mp hm1
      exact nofr (List.mem_filterMap.mpr ⟨e1, List.mem_cons_of_mem _ he1, q1⟩)
    have Q3 := K3.suite hg3 dt3 na neL neF
    have LT : PySem.W.Looks (model X.prog X.w) g3 (typeOf (.ref ea)) cls := fun A1 Q1 E1 z1 k1 q1 => wpAny_typeOf_ref (k1 _ _ hg3) (by rw [zc3.1]; exact q1)
    have named : ∀ {x : Str} {c : Value} {np : Pos} {Q1 : Value → Shared → Prop} {E1 : Value → Shared → Prop}, Names X x c → Q1 c { s' with heap := g3 } → wpAny (model X.prog X.w) (X.A.mark (some (.ref ea))) (eval (.Name x np) X.env) Q1 E1 { s' with heap := g3 } := fun {x c np Q1 E1} hc q1 => by
      obtain ⟨hg, hdbg, hm | ⟨hm, hv, hnn⟩⟩ := hc
      · exact ld_glob (X := X.suite ea ((ea, ob3) :: (X.pn ++ pins))) Q3 hg hm q1 hdbg
      · exact ld_blt (X := X.suite ea ((ea, ob3) :: (X.pn ++ pins))) Q3 hg hm hv q1 hnn hdbg
    have run : ∀ {hs2 : List ExceptHandler} {l2 : List Clause}, HdsG X hs2 l2 → wGen X.K Wout D l2 cls d σq Hq → wpAny (model X.prog X.w) X.A (handleBy (.ref ea) X.env hs2) (SP X pins D) X.xe { s' with heap := g3 } := by
      intro hs2 l2 hk
      induction hk with
      | nil =>
        intro w1
        refine wpAny_handleBy_nil ?_
        obtain ⟨_, _, _, o1, vs1, T1, oT1, tt1, he1, hz1, hd1, hw1, hr1⟩ := id fly3
        unfold PySem.passOn
        refine wpAny_bind (wpAny_field he1 hd1 hw1 ?_)
        rw [if_neg (show ¬ ((Value.ref T1 == Value.none) = true) from by simp)]
        have last : wpAny (model X.prog X.w) X.A (setFlight (.ref ea) X.env.frame) (fun _ z4 => wpAny (model X.prog X.w) X.A (throw (.ref ea) : Sem Flow) (SP X pins D) X.xe z4) X.xe { s' with heap := g3 } := by
          rw [hf]
          refine HandSPX.setFlight_upZ fly3 fun g4 fly4 upg4 => wpAny_throw (tk _ _ ?_)
          exact ⟨ea, B, sI, pins, σq, Hq, cls, d, rfl, J, nb, (up.trans upg3).trans upg4, .inr (.inr (by rw [hs]; exact fly4)), na, os, ag, w1⟩
        first
          | exact wpAny_bind (wpAny_pure (wpAny_bind last))
          | exact wpAny_bind last
      | @plain x c ts b₀ suite np pq hs3 l3 hc hsu r ih =>
        intro w1
        obtain ⟨b, hb1, hyes, hno⟩ := w1
        refine wpAny_handleBy_cons (codeAny_handlers_test ?_) (by intro q; cases q)
        refine named hc ((PySem.W.exm_one (M := model X.prog X.w) K3.kIn LT hb1).here ?_)
        cases b with
        | true =>
          refine codeAny_handlers_suite (HandSPX.lands_againZ fly3 fun g4 fly4 upg4 => ?_)
          have K4 : Inv X pins σq Hq { s' with heap := g4 } := J.landed nb fly4.1 ((up.trans upg3).trans upg4) os ag
          obtain ⟨ob4, fv4, hg4, zc4, dt4⟩ := fly4.there
          have Q4 := K4.suite hg4 dt4 na neL neF
          refine wpAny_mono ((hsu ea ob4 cls d (X.pn ++ pins) zc4 ⟨_, dt4⟩).run [] _ _ Hq _ Q4 (hyes rfl ea na)) (fun f1 s6 hsp => ?_) (fun _ _ z => False.elim z)
          cases f1 with
          | ret u6 =>
            obtain ⟨v6, σ6, H6, S6, r6, q6⟩ := hsp
            exact ⟨_, _, _, S6.unsuite ok, r6, q6⟩
          | next | brk | cont =>
            obtain ⟨σ6, H6, S6, q6⟩ := hsp
            exact ⟨_, _, S6.unsuite ok, q6⟩
        | false =>
          show wpAny _ X.A (handleBy (.ref ea) X.env hs3) _ _ _
          exact ih (hno rfl)
      | @named x n c i ts b₀ suite np pq hs3 l3 hc hi hln hsu r ih =>
        intro w1
        obtain ⟨b, hb1, hyes, hno⟩ := w1
        refine wpAny_handleBy_cons (codeAny_handlers_test ?_) (by intro q; cases q)
        refine named hc ((PySem.W.exm_one (M := model X.prog X.w) K3.kIn LT hb1).here ?_)
        cases b with
        | true =>
          refine codeAny_handlers_suite_as (HandSPX.lands_againZ fly3 fun g4 fly4 upg4 => ?_)
          have K4 : Inv X pins σq Hq { s' with heap := g4 } := J.landed nb fly4.1 ((up.trans upg3).trans upg4) os ag
          obtain ⟨ob4, fv4, hg4, zc4, dt4⟩ := fly4.there
          have Q4 := K4.suite hg4 dt4 na neL neF
          refine store_ok (X := X.suite ea ((ea, ob4) :: (X.pn ++ pins))) (v := .ref ea) Q4 hN hi (.inl hln) rfl (fun s5 S5 => ?_) (.inr hln)
          refine wpAny_mono ((hsu ea ob4 cls d (X.pn ++ pins) zc4 ⟨_, dt4⟩).run [] s5 _ Hq _ S5 (hyes rfl ea na)) (fun f1 s6 hsp => ?_) (fun _ _ z => False.elim z)
          have away : ∀ {σ6 : St} {H6 : Hp} {Q6 : Shared → Prop}, Inv (X.suite ea ((ea, ob4) :: (X.pn ++ pins))) [] σ6 H6 s6 → (∀ s7, Inv X pins (σ6.set i none) H6 s7 → Q6 s7) →
              wpAny (model X.prog X.w) X.A (do bindName X.env n .none; unbindBehindTheSuite X.env n pq) (fun _ s7 => Q6 s7) X.xe s6 := fun S6 hq => gone_ok (S6.unsuite ok) hN hi hln hq
          cases f1 with
          | ret u6 =>
            obtain ⟨v6, σ6, H6, S6, r6, q6⟩ := hsp
            exact away S6 fun s7 J7 => ⟨_, _, _, J7, r6, q6⟩
          | next | brk | cont =>
            obtain ⟨σ6, H6, S6, q6⟩ := hsp
            exact away S6 fun s7 J7 => ⟨_, _, J7, q6⟩
        | false =>
          show wpAny _ X.A (handleBy (.ref ea) X.env hs3) _ _ _
          exact ih (hno rfl)
    exact run hh wish
  · cases fl with
    | next =>
      obtain ⟨σq, Hq, Jt, q1⟩ := hsp
      exact wpAny_execs_nil ⟨σq, Hq, Jt.ofTry ok, q1⟩
    | brk | cont =>
      obtain ⟨σq, Hq, Jt, q1⟩ := hsp
      exact ⟨σq, Hq, Jt.ofTry ok, q1⟩
    | ret u =>
      obtain ⟨v, σq, Hq, Jt, r1, q1⟩ := hsp
      exact ⟨v, σq, Hq, Jt.ofTry ok, r1, q1⟩
end
end L2

/-! # Own layer: defs bundled by name, list items read for a store, frames, reading steps -/
namespace L2
open PySem PySem.Spec PyProof.Rows

/-- the def of this name keeps the promise -/
def FnB (P : Program) (w : World) (K : PySem.W.Frag) (mg : Str → Option Value) (base : Heap) (CX : CXT) (k : Nat) (x : Str) (ps : List Str) (sp : Sp) : Prop :=
  ∃ (f : Addr) (fd : FuncData), FnOk P w K mg base CX k f fd ps sp ∧ mg x = some (.ref f) ∧ PySem.W.keepIn K (.ref f) = true ∧ Binds K fd ps []

section
variable {X : Cx} {CX : CXT} {k : Nat} {ps : List Str} {sp : Sp} {E : XK} {x : Str} {p pos : Pos} {e : Expr} {es : List Expr} {t : TA}
theorem pe_callF (F : FnB X.prog X.w X.K X.mg X.base CX k x ps sp) (hr : Room k X.A) (hg : Gl X x) (hx : Passes CX X E)
    (ha : PA X (e :: es) t) (hdb : (x == ("__debug__" : Str)) = false := by decide) (he : starEach (e :: es) X.env = (false, eval e X.env) :: starEach es X.env := by rfl) (hpl : (backTo pos (starEach es X.env)).any (·.1) = false := by rfl) :
    PE X (.Call (.Name x p) (e :: es) [] pos) (tCall sp [] E t) := by
  obtain ⟨f, fd, F1, g, kp, b⟩ := F
  exact pe_call F1 hr hg g kp b .nil hx ha hdb he hpl
theorem pe_callFS {ES : St → XK} (F : FnB X.prog X.w X.K X.mg X.base CX k x ps sp) (hr : Room k X.A) (hg : Gl X x) (hx : ∀ σ, PassesAt CX X σ (ES σ))
    (ha : PA X (e :: es) t) (hdb : (x == ("__debug__" : Str)) = false := by decide) (he : starEach (e :: es) X.env = (false, eval e X.env) :: starEach es X.env := by rfl) (hpl : (backTo pos (starEach es X.env)).any (·.1) = false := by rfl) :
    PE X (.Call (.Name x p) (e :: es) [] pos) (tCallS sp ES t) := by
  obtain ⟨f, fd, F1, g, kp, b⟩ := F
  exact pe_callS F1 hr hg g kp b hx ha hdb he hpl
theorem pget_list : PGet X (rIxL X.K) := by
  intro pins s σ H o i ov iv Q I ro ri h
  obtain ⟨p, xs, j, z, rfl, rfl, hq, he, q⟩ := h
  cases ro
  obtain ⟨t, rfl⟩ := ri
  obtain ⟨its, r, pl, hz⟩ := I.list hq
  obtain ⟨n, h1, h2, h3, h4, h5⟩ := atI_get he
  obtain ⟨w, ew, rw'⟩ := r.get h2
  have hl := r.length
  have hn := line63
  have fin : EP X pins σ Q w s := ⟨z, H, I, rw', q⟩
  by_cases h0 : 0 ≤ j
  · have hj : j.toNat = n := by
      rw [seqIndex_of h0 h5] at h1
      exact Option.some.inj h1
    exact wpAny_getItem_list pl.isList h0 (by omega) (by rw [hj]; simpa using ew) fin
  · have hj : (j + (its.toArray.size : Int)).toNat = n := by
      rw [seqIndex_neg (by omega) h4] at h1
      rw [List.size_toArray, ← hl]
      exact Option.some.inj h1
    exact wpAny_getItem_list_neg (Q := fun v s' => EP X pins σ Q v s') pl.isList (by omega) (by rw [List.size_toArray] <;> omega) (by omega) (by rw [hj]; simpa using ew) fin
end

theorem passN {X : Cx} : Passes (L2.CX X.prog X.w) X E0 := fun _ _ _ _ _ _ _ h => by
  obtain ⟨_, _, _, _, _, _, _, _, _, _, _, _, z⟩ := h
  exact z.elim
/-! ### frames: what is tracked stays, but for the addresses of S -/
def Fr (S : List Addr) (H H' : Hp) : Prop := ∀ a o, H a = some o → a ∉ S → H' a = some o
theorem Fr.refl (S : List Addr) (H : Hp) : Fr S H H := fun _ _ h _ => h
theorem Fr.trans {S : List Addr} {H H1 H2 : Hp} (a : Fr S H H1) (b : Fr S H1 H2) : Fr S H H2 := fun c o h n => b c o (a c o h n) n
theorem Fr.new {S : List Addr} {H H' : Hp} {p : Addr} {o : HO} (e : Fr S H H') (h : H' p = none) : Fr S H (upd H' p o) := fun a u ha n => by
  have z := e a u ha n
  rw [upd_ne (ne_of_none z h)]
  exact z
/-- a store at an address of S, or at one that H does not know -/
theorem Fr.put {S : List Addr} {H H' : Hp} {p : Addr} {o : HO} (e : Fr S H H') (h : p ∈ S ∨ H p = none) : Fr S H (upd H' p o) := fun a u ha n => by
  have ne : a ≠ p := by
    rintro rfl
    rcases h with h | h
    · exact n h
    · rw [ha] at h
      cases h
  rw [upd_ne ne]
  exact e a u ha n
theorem Fr.sub {S S' : List Addr} {H H' : Hp} (e : Fr S H H') (h : ∀ a, a ∈ S → a ∈ S') : Fr S' H H' := fun a o ha n => e a o ha fun z => n (h a z)
theorem Fr.nil {S : List Addr} {H H' : Hp} (e : Fr [] H H') : Fr S H H' := fun a o ha _ => e a o ha (by simp)
theorem Fr.free {H H' : Hp} {p : Addr} (e : Fr [] H H') (h : H' p = none) : H p = none := by
  cases q : H p with
  | none => rfl
  | some o =>
    rw [e p o q (by simp)] at h
    cases h
theorem Fr.free1 {H H' : Hp} {p b : Addr} {o : HO} (e : Fr [b] H H') (hb : H' b = some o) (h : H' p = none) : H p = none := by
  cases q : H p with
  | none => rfl
  | some u =>
    by_cases z : p = b
    · rw [z, hb] at h
      cases h
    · rw [e p u q (by simpa using z)] at h
      cases h
theorem Fr.l {K : PySem.W.Frag} {H H' : Hp} {a : Addr} {xs : List V} (e : Fr [] H H') (h : SqL K H a xs) : SqL K H' a xs := by
  rcases h with (h | ⟨o, h⟩) | h
  · exact .inl (.inl (e _ _ h (by simp)))
  · exact .inl (.inr ⟨o, e _ _ h (by simp)⟩)
  · exact .inr h
theorem Fr.t {K : PySem.W.Frag} {H H' : Hp} {a : Addr} {xs : List V} (e : Fr [] H H') (h : SqT K H a xs) : SqT K H' a xs := by
  rcases h with (h | ⟨o, h⟩) | h
  · exact .inl (.inl (e _ _ h (by simp)))
  · exact .inl (.inr ⟨o, e _ _ h (by simp)⟩)
  · exact .inr h

/-! ### places of lists -/
theorem at_map {α : Type} {f : α → V} {xs : List α} {j : Nat} {v : α} (h : xs[j]? = some v) : atI (xs.map f) (j : Int) = some (f v) := atI_nat (by rw [List.getElem?_map, h]; rfl)
theorem ix_nat {n j : Nat} (h : j < n) : ixN n (j : Int) = some j := by
  unfold ixN
  rw [if_pos (Int.natCast_nonneg j), if_pos (by exact_mod_cast h)]
  rfl
theorem at_int {α : Type} {xs : List α} {i : Int} {v : α} (h0 : 0 ≤ i) (h : xs[i.toNat]? = some v) : atI xs i = some v := by
  have e : ((i.toNat : Nat) : Int) = i := Int.toNat_of_nonneg h0
  rw [← e]
  exact atI_nat h
theorem ix_int {n : Nat} {i : Int} (h0 : 0 ≤ i) (h : i < n) : ixN n i = some i.toNat := by
  unfold ixN
  rw [if_pos h0, if_pos h]
end L2

namespace L2
open PySem PySem.Spec PyProof.Rows
/-- the built-in names that no module of the row binds -/
structure Blt (mg : Str → Option Value) : Prop where
  m_len : mg "len" = none
  m_int : mg "int" = none
  m_range : mg "range" = none
  m_list : mg "list" = none
  m_min : mg "min" = none
  m_max : mg "max" = none
  m_abs : mg "abs" = none
  m_isinstance : mg "isinstance" = none
  m_bool : mg "bool" = none
  m_str : mg "str" = none
  m_tuple : mg "tuple" = none
  m_dict : mg "dict" = none
  m_sorted : mg "sorted" = none
  m_sum : mg "sum" = none
  m_repr : mg "repr" = none
  m_zip : mg "zip" = none
  m_enumerate : mg "enumerate" = none
  m_reversed : mg "reversed" = none

theorem dec_iff {p : Prop} [Decidable p] {A B : Prop} (h1 : p → A) (h2 : ¬ p → B) : if decide p = true then A else B := by
  by_cases h : p
  · rw [decide_eq_true h]
    exact iteT (h1 h)
  · rw [decide_eq_false h]
    exact iteF (h2 h)
theorem iteY {c : Bool} {A B : Prop} (hc : c = true) (h : A) : if c = true then A else B := by rw [if_pos hc]; exact h
theorem iteN {c : Bool} {A B : Prop} (hc : c = false) (h : B) : if c = true then A else B := by rw [hc, if_neg Bool.false_ne_true]; exact h
/-- b || c by its ways -/
theorem bool_iff {c : Bool} {A B : Prop} (h1 : c = true → A) (h2 : c = false → B) : if c = true then A else B := by
  cases c with
  | true => exact iteT (h1 rfl)
  | false => exact iteF (h2 rfl)

/-! ### the bag of a law: what is left of the script, and the numbers drawn from it -/
def BagAt (H : Hp) (b c : Addr) (ns : List Int) (i v s : Int) : Prop :=
  H b = some (.lst [.ref c, .int i, .int v, .int s]) ∧ H c = some (.lst (ns.map V.int)) ∧ 0 ≤ i ∧ 0 ≤ v ∧ 0 ≤ s
def Bag (H : Hp) (b : Addr) : Prop := ∃ c ns i v s, BagAt H b c ns i v s
theorem BagAt.ne {H : Hp} {b c : Addr} {ns : List Int} {i v s : Int} (h : BagAt H b c ns i v s) : c ≠ b := by
  rintro rfl
  have e := h.1.symm.trans h.2.1
  cases ns with
  | nil => cases e
  | cons n r =>
    have e2 := HO.lst.inj (Option.some.inj e)
    cases e2
theorem BagAt.put {H : Hp} {b c : Addr} {ns : List Int} {i v s i' v' s' : Int} (h : BagAt H b c ns i v s) (hi : 0 ≤ i') (hv : 0 ≤ v') (hs : 0 ≤ s') : BagAt (upd H b (.lst [.ref c, .int i', .int v', .int s'])) b c ns i' v' s' :=
  ⟨upd_same, by rw [upd_ne h.ne]; exact h.2.1, hi, hv, hs⟩
theorem BagAt.fr {S : List Addr} {H H' : Hp} {b c : Addr} {ns : List Int} {i v s : Int} (h : BagAt H b c ns i v s) (e : Fr S H H') (hb : b ∉ S) (hc : c ∉ S) : BagAt H' b c ns i v s :=
  ⟨e _ _ h.1 hb, e _ _ h.2.1 hc, h.2.2⟩
theorem Bag.fr {H H' : Hp} {b : Addr} (h : Bag H b) (e : Fr [] H H') : Bag H' b := by
  obtain ⟨c, ns, i, v, s, h⟩ := h
  exact ⟨c, ns, i, v, s, h.fr e (by simp) (by simp)⟩
theorem Bag.new {H : Hp} {b p : Addr} {o : HO} (h : Bag H b) (hp : H p = none) : Bag (upd H p o) b := h.fr ((Fr.refl [] H).new hp)
theorem Bag.some {H : Hp} {b : Addr} (h : Bag H b) : ∃ o, H b = Option.some o := by
  obtain ⟨c, ns, i, v, s, h⟩ := h
  exact ⟨_, h.1⟩
/-- the bag at b whose numbers stand at c -/
def BagC (H : Hp) (b c : Addr) : Prop := ∃ ns i v s, BagAt H b c ns i v s
theorem BagC.ne {H : Hp} {b c : Addr} (h : BagC H b c) : c ≠ b := by
  obtain ⟨ns, i, v, s, h⟩ := h
  exact h.ne
theorem BagC.fr {S : List Addr} {H H' : Hp} {b c : Addr} (h : BagC H b c) (e : Fr S H H') (hb : b ∉ S) (hc : c ∉ S) : BagC H' b c := by
  obtain ⟨ns, i, v, s, h⟩ := h
  exact ⟨ns, i, v, s, h.fr e hb hc⟩
theorem BagC.put {H : Hp} {b c p : Addr} {o : HO} (h : BagC H b c) (hb : p ≠ b) (hc : p ≠ c) : BagC (upd H p o) b c :=
  h.fr (S := [p]) ((Fr.refl _ H).put (.inl (by simp))) (by simpa using hb.symm) (by simpa using hc.symm)
theorem BagC.new {H : Hp} {b c p : Addr} {o : HO} (h : BagC H b c) (hp : H p = none) : BagC (upd H p o) b c := by
  obtain ⟨ns, i, v, s, h⟩ := h
  exact ⟨ns, i, v, s, h.fr ((Fr.refl [] H).new hp) (by simp) (by simp)⟩
theorem BagC.b {H : Hp} {b c : Addr} (h : BagC H b c) : ∃ i v s, H b = some (.lst [.ref c, .int i, .int v, .int s]) := by
  obtain ⟨ns, i, v, s, h⟩ := h
  exact ⟨_, _, _, h.1⟩
theorem BagC.neb {H : Hp} {b c p : Addr} (h : BagC H b c) (hp : H p = none) : p ≠ b := by
  obtain ⟨i, v, s, h⟩ := h.b
  exact (ne_of_none h hp).symm
theorem BagC.nec {H : Hp} {b c p : Addr} (h : BagC H b c) (hp : H p = none) : p ≠ c := by
  obtain ⟨ns, i, v, s, h⟩ := h
  exact (ne_of_none h.2.1 hp).symm
/-- _law_take(bag, many): some number below many; all but the bag stays -/
def spTake : Sp := fun vs H Q _ => ∃ (b c : Addr) (many : Int), vs = [.ref b, .int many] ∧ BagC H b c ∧ 0 < many ∧ many.natAbs.log2 < 9000 ∧
  ∀ (t : Int) (H' : Hp), 0 ≤ t → t < many → Fr [b] H H' → BagC H' b c → Q (.int t) H'
/-- _law_bag(script): a new bag -/
def spBag (K : PySem.W.Frag) : Sp := fun vs H Q _ => ∃ (a : Addr) (ns : List Int), vs = [.ref a] ∧ SqL K H a (ns.map V.int) ∧ ns.length ≤ 1000 ∧
  ∀ (b c : Addr) (H' : Hp), H b = none → H c = none → Fr [] H H' → BagC H' b c → Q (.ref b) H'
theorem log_ok {z : Int} (h : z.natAbs < 2 ^ 250) : z.natAbs.log2 < 9000 := by
  by_cases c : z.natAbs = 0
  · rw [c]
    decide
  · rw [Nat.log2_lt c]
    exact Nat.lt_of_lt_of_le h (Nat.pow_le_pow_right (by decide) (by decide))
end L2

namespace L2
open PySem PySem.Spec PyProof.Rows
theorem get_map_int {ns : List Int} {i : Nat} {y : V} (h : (ns.map V.int)[i]? = some y) : ∃ z, ns[i]? = some z ∧ y = V.int z := by
  rw [List.getElem?_map] at h
  cases e : ns[i]? with
  | none => rw [e] at h; cases h
  | some z => rw [e] at h; exact ⟨z, rfl, (Option.some.inj h).symm⟩
theorem get_mapf {α : Type} {f : α → V} {ns : List α} {i : Nat} {y : V} (h : (ns.map f)[i]? = some y) : ∃ z, ns[i]? = some z ∧ y = f z := by
  rw [List.getElem?_map] at h
  cases e : ns[i]? with
  | none => rw [e] at h; cases h
  | some z => rw [e] at h; exact ⟨z, rfl, (Option.some.inj h).symm⟩
theorem take_succ {α : Type} {ns : List α} {i : Nat} {z : α} (h : ns[i]? = some z) : ns.take (i + 1) = ns.take i ++ [z] := by
  rw [List.take_add_one, h]
  rfl
end L2

namespace L2
open PySem PySem.Spec PyProof.Rows
theorem for_rng {n : Nat} {g : TG} {tb : TS} {D : Ends} {σ : St} {H : Hp} (Pv : Nat → St → Hp → Prop) (h0 : Pv 0 σ H)
    (hs : ∀ i σ H, i < n → Pv i σ H → g (.int (i : Int)) σ H fun σ2 H2 => tb { D with nx := Pv (i + 1), ct := Pv (i + 1), bk := D.nx } σ2 H2) (hd : ∀ σ H, Pv n σ H → D.nx σ H) :
    ∃ W : Nat → Nat → St → Hp → Prop, (∃ m, W 0 m σ H) ∧ ∀ i m σ H, W i m σ H →
      ((Itr 0 n).stop i H ∧ D.nx σ H) ∨ ((Itr 0 n).go i H ∧ ∃ N : St → Hp → Prop, (∀ σ' H', N σ' H' → ∃ m', m' < m ∧ W (i + 1) m' σ' H') ∧ ∀ x H', (Itr 0 n).yld i H x H' → g x σ H' fun σ2 H2 => tb { D with nx := N, ct := N, bk := D.nx } σ2 H2) :=
  for_range Pv h0 (fun i σ H hi p => by rw [Int.zero_add]; exact hs i σ H hi p) hd
theorem lc_rng {n : Nat} {g : TG} {tt : TT} {te : TE} {vs : List Nat} {σ : St} {H1 : Hp} {D : Addr} {Qd : Hp → Prop} (Pv : Nat → Hp → Prop) (h0 : Pv 0 (upd H1 D (.lst [])))
    (hs : ∀ i H, i < n → Pv i H → g (.int (i : Int)) (wipe σ vs) H fun σ2 H2 => wipe σ2 vs = wipe σ vs ∧ tt σ2 H2 fun b H3 =>
      if b = true then te σ2 H3 fun y H4 => ∃ acc, H4 D = some (.lst acc) ∧ acc.length < sizeLine ∧ Pv (i + 1) (upd H4 D (.lst (acc ++ [y]))) else Pv (i + 1) H3) (hd : ∀ H, Pv n H → Qd H) :
    ∃ W : Nat → Nat → Hp → Prop, (∃ m, W 0 m (upd H1 D (.lst []))) ∧ ∀ i m H, W i m H →
      ((Itr 0 n).stop i H ∧ Qd H) ∨ ((Itr 0 n).go i H ∧ ∃ Nx : Hp → Prop, (∀ H', Nx H' → ∃ m', m' < m ∧ W (i + 1) m' H') ∧ ∀ x H', (Itr 0 n).yld i H x H' → g x (wipe σ vs) H' fun σ2 H2 => wipe σ2 vs = wipe σ vs ∧ tt σ2 H2 fun b H3 =>
        if b = true then te σ2 H3 fun y H4 => ∃ acc, H4 D = some (.lst acc) ∧ acc.length < sizeLine ∧ Nx (upd H4 D (.lst (acc ++ [y]))) else Nx H3) :=
  lc_range Pv h0 (fun i H hi p => by rw [Int.zero_add]; exact hs i H hi p) hd
/-- numbers that a range takes -/
theorem rg_ok {n : Nat} (h : n ≤ 100000000) : -(2 ^ 62) ≤ (n : Int) ∧ (n : Int) < 2 ^ 62 := by omega
theorem len_line {n : Nat} (h : n ≤ 100000) : n ≤ sizeLine := Nat.le_trans h (by decide)
theorem len_lt {n : Nat} (h : n < 100000) : n < sizeLine := Nat.lt_of_lt_of_le h (by decide)
/-- ends that nobody asks for -/
def noEnds : Ends := { nx := fun _ _ => False, rt := fun _ _ => False }
theorem rep_one {n : Nat} {v : V} : (List.replicate n [v]).flatten = List.replicate n v := by
  induction n with
  | zero => rfl
  | succ m ih =>
    rw [List.replicate_succ, List.flatten_cons, ih, List.replicate_succ]
    rfl
end L2

namespace L2
open PySem PySem.Spec PyProof.Rows
theorem while_m {c : TT} {tb : TS} {D : Ends} {σ : St} {H : Hp} (W : Nat → St → Hp → Prop) (m0 : Nat) (h0 : W m0 σ H)
    (hs : ∀ m σ H, W m σ H → c σ H fun b H1 => if b = true then tb { D with nx := fun σ' H' => ∃ m', m' < m ∧ W m' σ' H', ct := fun σ' H' => ∃ m', m' < m ∧ W m' σ' H', bk := D.nx } σ H1 else D.nx σ H1)
    (mono : ∀ σ H Q Q', (∀ b H1, Q b H1 → Q' b H1) → c σ H Q → c σ H Q') : tWhile c tb D σ H := by
  refine ⟨W, ⟨m0, h0⟩, fun m σ H p => mono σ H _ _ (fun b H1 q => ?_) (hs m σ H p)⟩
  cases b with
  | true => exact ⟨_, fun σ' H' h => h, q⟩
  | false => exact q
/-- while True -/
theorem while_true {tb : TS} {D : Ends} {σ : St} {H : Hp} (W : Nat → St → Hp → Prop) (m0 : Nat) (h0 : W m0 σ H)
    (hs : ∀ m σ H, W m σ H → tb { D with nx := fun σ' H' => ∃ m', m' < m ∧ W m' σ' H', ct := fun σ' H' => ∃ m', m' < m ∧ W m' σ' H', bk := D.nx } σ H) : tWhile (tB (tC (.bl true))) tb D σ H :=
  while_m W m0 h0 (fun m σ H p => ⟨true, rfl, iteT (hs m σ H p)⟩) fun σ H Q Q' h ⟨c, e, q⟩ => ⟨c, e, h _ _ q⟩
/-- the places of a list of numbers, as a dict -/
def kvsOf : List Int → Nat → List (Key × V)
  | [], _ => []
  | v :: r, i => (Sum.inl v, V.int (i : Int)) :: kvsOf r (i + 1)
theorem kvsOf_len : ∀ (l : List Int) (i : Nat), (kvsOf l i).length = l.length
  | [], _ => rfl
  | v :: r, i => by
    show (kvsOf r (i + 1)).length + 1 = r.length + 1
    rw [kvsOf_len r]
theorem kvsOf_snoc (v : Int) : ∀ (l : List Int) (i : Nat), kvsOf (l ++ [v]) i = kvsOf l i ++ [(Sum.inl v, V.int ((i + l.length : Nat) : Int))]
  | [], i => rfl
  | u :: r, i => by
    show (_ :: kvsOf (r ++ [v]) (i + 1)) = _ :: (kvsOf r (i + 1) ++ _)
    rw [kvsOf_snoc v r (i + 1)]
    have e : i + 1 + r.length = i + (u :: r).length := by
      rw [List.length_cons]
      omega
    rw [e]
theorem kvsOf_val (v : Int) : ∀ (l : List Int) (i : Nat), valV (kvsOf l i) (Sum.inl v : Key) = if v ∈ l then some (V.int ((i + l.idxOf v : Nat) : Int)) else none
  | [], i => rfl
  | u :: r, i => by
    have ih := kvsOf_val v r (i + 1)
    unfold valV at ih ⊢
    show ((_ :: kvsOf r (i + 1)).find? _).map _ = _
    rw [List.find?_cons]
    by_cases c : u = v
    · have d : decide ((Sum.inl u : Key) = Sum.inl v) = true := decide_eq_true (by rw [c])
      simp only [d]
      rw [if_pos (by rw [c]; exact List.mem_cons_self), c, List.idxOf_cons_self]
      rfl
    · have d : decide ((Sum.inl u : Key) = Sum.inl v) = false := decide_eq_false (fun e => c (Sum.inl.inj e))
      simp only [d]
      rw [ih]
      by_cases m : v ∈ r
      · rw [if_pos m, if_pos (List.mem_cons_of_mem _ m)]
        have ec : (u == v) = false := by simpa using c
        rw [List.idxOf_cons, ec]
        have e : i + 1 + r.idxOf v = i + (r.idxOf v + 1) := by omega
        rw [e]
        rfl
      · rw [if_neg m, if_neg]
        intro h
        rcases List.mem_cons.mp h with h | h
        · exact c h.symm
        · exact m h
theorem cut_drop (xs : List V) (i : Nat) (h : i ≤ xs.length) : cutV xs (some (i : Int)) none = xs.drop i := by
  unfold cutV
  have e1 : HT.sIx xs.length 0 (some (i : Int)) = i := by
    rw [HT.sIx_nat]
    omega
  have e2 : HT.sIx xs.length xs.length none = xs.length := rfl
  rw [e1, e2]
  exact List.take_of_length_le (by rw [List.length_drop]; exact Nat.le_refl _)
end L2

namespace L2
open PySem PySem.Spec PyProof.Rows
theorem nint {a b : Int} (h : (!decide (V.int a = V.int b)) = true) : a ≠ b := fun e => by
  rw [e] at h
  simp at h
theorem yint {a b : Int} (h : (!decide (V.int a = V.int b)) = false) : a = b := by
  have : decide (V.int a = V.int b) = true := by simpa using h
  exact V.int.inj (of_decide_eq_true this)
theorem ne_if {a b : Int} {A B : Prop} (h1 : a ≠ b → A) (h2 : a = b → B) : if (!decide (V.int a = V.int b)) = true then A else B := bool_iff (fun h => h1 (nint h)) fun h => h2 (yint h)
theorem eq_if {a b : Int} {A B : Prop} (h1 : a = b → A) (h2 : a ≠ b → B) : if decide (V.int a = V.int b) = true then A else B :=
  dec_iff (fun h => h1 (V.int.inj h)) fun h => h2 fun e => h (congrArg V.int e)
theorem not_if {p : Prop} [Decidable p] {A B : Prop} (h1 : ¬ p → A) (h2 : p → B) : if (!decide p) = true then A else B := by
  by_cases h : p
  · rw [decide_eq_true h]
    exact iteF (h2 h)
  · rw [decide_eq_false h]
    exact iteT (h1 h)
end L2

namespace L2
open PySem PySem.Spec PyProof.Rows
/-- min(t), t a tuple of two ints -/
def rMinT (K : PySem.W.Frag) : List V → Hp → VK → Prop := fun vs H Q => ∃ (a : Addr) (i j : Int), vs = [V.ref a] ∧ SqT K H a [.int i, .int j] ∧ Q (.int (if j < i then j else i)) H
theorem cr_minT {X : Cx} (hc : X.calm = true) (hu : X.A.units + 65 < cLine) : CallR X (.builtin "min") (rMinT X.K) := by
  intro pins s σ H vs us Q I r h
  obtain ⟨a, i, j, rfl, hs, q⟩ := h
  obtain ⟨its, rv, hl, _⟩ := I.tuple hs
  rw [Vals.ref1 r]
  obtain ⟨u1, u2, rfl, ⟨t1, rfl⟩, ⟨t2, rfl⟩⟩ := vals2 rv
  refine PySem.W.min_tuple_datum (α := Int) (x := i) (xs := [j]) (I.ok.hd hc) hl (PySem.W.HoldAll.cons (PySem.W.holds_int _ _) (PySem.W.HoldAll.cons (PySem.W.holds_int _ _) PySem.W.HoldAll.nil)) (by show X.A.units + 1 + 0 < cLine; omega) fun k v h' tk hk hv kp => ?_
  have J := I.kept (t' := tk) kp
  have hval : ∀ (n : Int) (t : Tok), v = .int n t → n = PySem.W.minOf i [j] := fun n t e => by
    subst e
    obtain ⟨as, rd⟩ := hv
    cases rd
    rfl
  have em : PySem.W.minOf i [j] = if j < i then j else i := by
    show (if PySem.W.DatumOrd.lt j i = true then j else i) = _
    by_cases c : j < i
    · rw [if_pos c, if_pos (by show decide (j < i) = true; exact decide_eq_true c)]
    · rw [if_neg c, if_neg (by show ¬ decide (j < i) = true; simpa using c)]
  obtain ⟨n, t, rfl⟩ : ∃ n t, v = Value.int n t := by
    match k, hk with
    | 0, hk => exact ⟨i, t1, (Option.some.inj hk).symm⟩
    | 1, hk => exact ⟨j, t2, (Option.some.inj hk).symm⟩
    | k + 2, hk => simp at hk
  have en := hval n t rfl
  rw [em] at en
  exact ⟨.int n, H, J, ⟨t, rfl⟩, by rw [en]; exact q⟩
end L2

namespace L2
open PySem PySem.Spec PyProof.Rows
/-! ### data: lists of ints, pairs of ints, lists of pairs -/
def dInts (xs : List Int) : PyData := .list (xs.map PyData.int)
def dPr (p : Int × Int) : PyData := .tuple [.int p.1, .int p.2]
def dPrs (ps : List (Int × Int)) : PyData := .list (ps.map dPr)
theorem dpa_ints {K : PySem.W.Frag} {H : Hp} : ∀ xs : List Int, DpAll K H (xs.map V.int) (xs.map PyData.int)
  | [] => .nil
  | x :: xs => .cons (.int x) (dpa_ints xs)
theorem dp_ints {K : PySem.W.Frag} {H : Hp} {a : Addr} {xs : List Int} (h : SqL K H a (xs.map V.int)) : Dp K H (.ref a) (dInts xs) := .lst h (dpa_ints xs)
theorem dp_pr {K : PySem.W.Frag} {H : Hp} {t : Addr} {p : Int × Int} (h : SqT K H t [.int p.1, .int p.2]) : Dp K H (.ref t) (dPr p) := .tup h (.cons (.int _) (.cons (.int _) .nil))
theorem dpa_prs {K : PySem.W.Frag} {H : Hp} : ∀ (ts : List Addr) (ps : List (Int × Int)), ts.length = ps.length → (∀ (k : Nat) (t : Addr) (p : Int × Int), ts[k]? = some t → ps[k]? = some p → SqT K H t [.int p.1, .int p.2]) → DpAll K H (ts.map V.ref) (ps.map dPr)
  | [], [], _, _ => .nil
  | t :: ts, p :: ps, hl, h => .cons (dp_pr (h 0 t p rfl rfl)) (dpa_prs ts ps (by simpa using hl) fun k t' p' a b => h (k + 1) t' p' a b)
  | [], _ :: _, hl, _ => by simp at hl
  | _ :: _, [], hl, _ => by simp at hl
theorem ints_lay : ∀ xs : List Int, PyData.canLayAll0 (xs.map PyData.int) = true
  | [] => by simp [PyData.canLayAll0]
  | x :: xs => by simp [PyData.canLayAll0, PyData.canLay0, ints_lay xs]
theorem ints_depth : ∀ xs : List Int, PyData.depthAll (xs.map PyData.int) ≤ 1
  | [] => by simp [PyData.depthAll]
  | x :: xs => by
    have := ints_depth xs
    simp only [List.map_cons, PyData.depthAll, PyData.depth]
    omega
theorem prs_lay : ∀ ps : List (Int × Int), PyData.canLayAll0 (ps.map dPr) = true
  | [] => by simp [PyData.canLayAll0]
  | p :: ps => by simp [PyData.canLayAll0, PyData.canLay0, dPr, prs_lay ps]
theorem pr_depth (p : Int × Int) : (dPr p).depth ≤ 2 := by simp [dPr, PyData.depth, PyData.depthAll]
theorem prs_depth : ∀ ps : List (Int × Int), PyData.depthAll (ps.map dPr) ≤ 2
  | [] => by simp [PyData.depthAll]
  | p :: ps => by
    have h1 := prs_depth ps
    have h2 := pr_depth p
    simp only [List.map_cons, PyData.depthAll]
    omega
theorem shaped_of {d : PyData} (h : d.canLay0 = true) (h2 : d.depth ≤ 64) : SeqAt.shaped d = true := by
  show (d.canLay0 && decide (d.depth ≤ 64)) = true
  rw [h, decide_eq_true h2]
  rfl
theorem ints_shaped (xs : List Int) : SeqAt.shaped (dInts xs) = true := shaped_of (by simp only [dInts, PyData.canLay0]; exact ints_lay xs) (by have := ints_depth xs; simp only [dInts, PyData.depth]; omega)
theorem pr_shaped (p : Int × Int) : SeqAt.shaped (dPr p) = true := shaped_of (by simp [dPr, PyData.canLay0, PyData.canLayAll0]) (by have := pr_depth p; omega)
theorem prs_shaped (ps : List (Int × Int)) : SeqAt.shaped (dPrs ps) = true := shaped_of (by simp only [dPrs, PyData.canLay0]; exact prs_lay ps) (by have := prs_depth ps; simp only [dPrs, PyData.depth]; omega)
theorem ints_eqvA : ∀ xs : List Int, PyData.eqvAll (xs.map PyData.int) (xs.map PyData.int) = true
  | [] => by simp [PyData.eqvAll]
  | x :: xs => by simp [PyData.eqvAll, PyData.eqv, ints_eqvA xs]
theorem ints_eqv (xs : List Int) : PyData.eqv (dInts xs) (dInts xs) = true := by simp only [dInts, PyData.eqv]; exact ints_eqvA xs
theorem pr_eqv (p q : Int × Int) : PyData.eqv (dPr p) (dPr q) = decide (p = q) := by
  obtain ⟨a, b⟩ := p
  obtain ⟨c, d⟩ := q
  have e : PyData.eqv (dPr (a, b)) (dPr (c, d)) = ((a == c) && ((b == d) && true)) := by simp only [dPr, PyData.eqv, PyData.eqvAll]
  rw [e]
  by_cases h1 : a = c
  · by_cases h2 : b = d
    · subst h1 h2
      simp
    · simp [h2]
  · simp [h1]
theorem prs_eqvA : ∀ ps : List (Int × Int), PyData.eqvAll (ps.map dPr) (ps.map dPr) = true
  | [] => by simp [PyData.eqvAll]
  | p :: ps => by
    simp only [List.map_cons, PyData.eqvAll, prs_eqvA ps, pr_eqv]
    simp
theorem prs_eqv (ps : List (Int × Int)) : PyData.eqv (dPrs ps) (dPrs ps) = true := by simp only [dPrs, PyData.eqv]; exact prs_eqvA ps
theorem any_pr (ps : List (Int × Int)) (p : Int × Int) : ((ps.map dPr).any fun z => PyData.eqv z (dPr p)) = decide (p ∈ ps) := by
  induction ps with
  | nil => rfl
  | cons q ps ih =>
    rw [List.map_cons, List.any_cons, ih, pr_eqv]
    by_cases c : q = p
    · subst c; simp
    · simp [c, Ne.symm c]
end L2

/-! # Own layer: defs whose promise is kept where no repr is under way (the law's own call is such a place): repr of lists and tuples -/
namespace L2
open PySem PySem.Spec PyProof.Rows
/-- as FnOk, but for calls with no repr under way -/
structure FnG (P : Program) (w : World) (K : PySem.W.Frag) (mg : Str → Option Value) (base : Heap) (CX : CXT) (k : Nat) (f : Addr) (fd : FuncData) (ps : List Str) (sp : Sp) : Prop where
  many : ∀ vs H Q E, sp vs H Q E → vs.length = ps.length
  go : ∀ (B : Around) (out : List Env) (z : Shared) (H : Hp) (ar : Args) (us : List Value) (vs : List V) (Q : VK) (E : XK), Room k B → B.guards = some [] → Env0 P w K mg base B out z H → BindsTo z fd ar (ps.zip us) →
    Vals vs us → sp vs H Q E → codeAny (model P w) B (.call (.ref f) ar) (CR CX out P w H z Q E) z
theorem FnOk.g {P : Program} {w : World} {K : PySem.W.Frag} {mg : Str → Option Value} {base : Heap} {CX : CXT} {k : Nat} {f : Addr} {fd : FuncData} {ps : List Str} {sp : Sp} (F : FnOk P w K mg base CX k f fd ps sp) : FnG P w K mg base CX k f fd ps sp :=
  ⟨F.len, fun B out z H ar us vs Q E hr _ => F.run B out z H ar us vs Q E hr⟩
section
variable {P : Program} {w : World} {K : PySem.W.Frag} {mg : Str → Option Value} {base : Heap}
theorem fnG_mk {CX : CXT} {k : Nat} {x qual : Str} {st : Stmt} {f : Addr} {fd : FuncData} {N ps : List Str} {sp : Sp} (F : Fun K x qual st f fd) (S : FnScope N ps (defScope st)) (many : ∀ vs H Q E, sp vs H Q E → vs.length = ps.length)
    (body : ∀ (cdv : Value) (B : Around) (out : List Env) (z : Shared) (H : Hp) (vs : List V) (Q : VK) (E : XK), Room k (B.deeper (envOfC qual (defScope st) z.heap.objs.size f cdv)) → B.guards = some [] → sp vs H Q E →
      ∃ t, PSs (cxOf CX P w K mg base N qual (defScope st) f cdv B out z H E) (defBody st) t ∧ t { nx := fun _ H' => Q .non H', rt := Q } (start N vs) H) : FnG P w K mg base CX (k + 1) f fd ps sp := by
  obtain ⟨oc, od, kV, doc, pm, an, cdv, ct, osl, rfl, look, code⟩ := F.ex
  refine ⟨many, fun B out z H ar us vs Q E room hg e0 bind vals prom => ?_⟩
  have nvs := many vs H Q E prom
  have kin : K.In z.heap := e0.mod.kin.keeps fun c o hc => (e0.bs c o hc).1
  have nolim : z.heap.NoLimit := e0.mod.nolimit.keeps fun c o hc => (e0.bs c o hc).1
  refine codeAny_call_function room.depth (kin _ _ look) rfl S.co S.gen rfl (PySem.W.codeRec_of kin code) (bind _ _ _ _ ?_)
  refine wpAny_newFunctionEnv_cells S.kind (fun ⟨n, u⟩ hy => (S.par n (List.of_mem_zip hy).1).imp id fun q => ⟨q, PySem.W.cellsFrom_some _ _ _ (.inl q)⟩) fun env he z1 inside => ?_
  subst he
  refine ⟨nolim.keeps inside.toInCall.keep, codeAny_func ?_⟩
  obtain ⟨t, tree, wish⟩ := body cdv B out z H vs Q E (room.deeper _) hg prom
  have I0 := inv_start (CX := CX) (E := E) (qual := qual) (f := f) (cd := cdv) S room.hd e0 nvs vals inside
  refine wpAny_mono (tree.run [] z1 (start N vs) H _ I0 wish) (fun fl z2 hs => ?_) fun e z2 hs => hs
  match fl, hs with
  | .ret u, ⟨v, _, H2, J, rv, q⟩ => exact ⟨v, H2, J.os, J.bare, J.base, J.hok, rv, q⟩
  | .next, ⟨_, H2, J, q⟩ => exact ⟨V.non, H2, J.os, J.bare, J.base, J.hok, rfl, q⟩
  | .brk, ⟨_, _, _, q⟩ => exact q.elim
  | .cont, ⟨_, _, _, q⟩ => exact q.elim
/-- a def that raises nothing -/
theorem Fun.okG {k : Nat} {x qual : Str} {st : Stmt} {f : Addr} {fd : FuncData} {N ps : List Str} {sp : Sp} (F : Fun K x qual st f fd) (S : FnScope N ps (defScope st)) (many : ∀ vs H Q E, sp vs H Q E → vs.length = ps.length)
    (body : ∀ (cdv : Value) (A : Around) (outer : List Env) (s : Shared) (H : Hp) (vs : List V) (Q : VK) (E : XK), Room k (A.deeper (envOfC qual (defScope st) s.heap.objs.size f cdv)) → A.guards = some [] → sp vs H Q E →
      ∃ t, PSs (cxOf CX0 P w K mg base N qual (defScope st) f cdv A outer s H E).nox (defBody st) t ∧ t { nx := fun _ H' => Q .non H', rt := Q } (start N vs) H) : FnG P w K mg base CX0 (k + 1) f fd ps sp :=
  fnG_mk F S many fun cdv A outer s H vs Q E hr hg hsp => by
    obtain ⟨t, h, q⟩ := body cdv A outer s H vs Q E hr hg hsp
    exact ⟨t, h.nox, q⟩
end
/-- such a def, bundled by its name -/
def FnGB (P : Program) (w : World) (K : PySem.W.Frag) (mg : Str → Option Value) (base : Heap) (CX : CXT) (k : Nat) (x : Str) (ps : List Str) (sp : Sp) : Prop :=
  ∃ (f : Addr) (fd : FuncData), FnG P w K mg base CX k f fd ps sp ∧ mg x = some (.ref f) ∧ PySem.W.keepIn K (.ref f) = true ∧ Binds K fd ps []
section
variable {X : Cx} {CX : CXT} {k : Nat} {ps : List Str} {sp : Sp} {E : XK} {x : Str} {p pos : Pos} {e : Expr} {es : List Expr} {t : TA}
theorem pe_callG (F : FnGB X.prog X.w X.K X.mg X.base CX k x ps sp) (hr : Room k X.A) (hgu : X.A.guards = some []) (hg : Gl X x) (hx : Passes CX X E)
    (ha : PA X (e :: es) t) (hdb : (x == ("__debug__" : Str)) = false := by decide) (he : starEach (e :: es) X.env = (false, eval e X.env) :: starEach es X.env := by rfl) (hpl : (backTo pos (starEach es X.env)).any (·.1) = false := by rfl) :
    PE X (.Call (.Name x p) (e :: es) [] pos) (tCall sp [] E t) := by
  obtain ⟨f, fd, F, hm, hk, hb⟩ := F
  refine ⟨fun pins s σ H Q I h => wpAny_Call_Name_kw (ld_glob I hg hm ?_ hdb)⟩
  refine PySem.W.callWith_K (h₀ := X.base) I.ok.mod.kin hk (thn (ha.run pos pins s σ H _ I h) fun us s1 hh => ?_) he hpl
  obtain ⟨vs, H1, J, r, q⟩ := hh
  rw [List.append_nil] at q
  refine ⟨J.kIn, wpAny_call (codeAny_mono (F.go X.A X.stack s1 H1 ⟨us, []⟩ us vs Q E hr hgu J.env0 ?_ r q) fun res s2 done => ?_)⟩
  · have := hb s1 us J.kIn (by rw [List.append_nil, ← r.length]; exact F.many _ _ _ _ q)
    rwa [List.append_nil] at this
  · match res, done with
    | .error e, h => exact hx pins σ H1 s1 e s2 J h
    | .ok (.ret u), h => exact J.after h
/-- repr(x), x a list or a tuple of data -/
def rReprD (K : PySem.W.Frag) : List V → Hp → VK → Prop := fun xs H Q => ∃ (a : Addr) (d : PyData), xs = [.ref a] ∧ Dp K H (.ref a) d ∧ SeqAt.shaped d = true ∧ d.showable = true ∧ d.shown.length ≤ sizeLine ∧ Q (.str d.shown) H
theorem cr_reprD (hgu : X.A.guards = some []) (hu : X.A.units + 66 < cLine) : CallR X (.builtin "repr") (rReprD X.K) := by
  intro pins s σ H xs us Q I r h
  obtain ⟨a, d, rfl, hd, sd, hs, hz, q⟩ := h
  match us, r with
  | [u], .cons (rx : u = Value.ref a) .nil =>
    subst rx
    obtain ⟨as, rd⟩ := Dp.reads I d (.ref a) (.ref a) hd rfl
    have dep := SeqAt.depth_of_shaped sd
    refine repr_of_reads' rd hs (PyData.noDict_hsm (PyData.hasDict_of_canLay d (SeqAt.canLay_of_shaped sd))) hgu (by omega) (fun _ _ z => z) (fun h' u tk kp => ?_) hz
    exact ⟨.str d.shown, H, I.kept kp, ⟨u, rfl⟩, q⟩
end

/-- the head: the law's def called with the script, no repr under way -/
theorem law_callG {P : Program} {w : World} {K : PySem.W.Frag} {mg mb : Str → Option Value} {k : Nat} {fa a : Addr} {fd : FuncData} {x : Str} {sp : Sp} {z : Shared} {us : List Value} {ns : List Int}
    (kin : K.In z.heap) (glob : z.heap.Ns mainGlobals mg) (blt : z.heap.Ns builtinsNs mb) (bbb : ∀ x : Str, x ≠ "__name__" → mb x = bootBuiltins x) (nolim : z.heap.NoLimit) (gens : z.gens = #[])
    (obj : z.heap.get? a = some { cls := .type "list", data := .seq us.toArray }) (inty : IntsAre us ns) (short : ns.length ≤ sizeLine) (room : Room k callerA)
    (F : ∀ base : Heap, K.In base → base.Ns mainGlobals mg → FnG P w K mg base CX0 k fa fd [x] sp) (bind : ∀ (s : Shared) (u : Value), BindsTo s fd ⟨[u], []⟩ [(x, u)])
    (prom : ∀ H : Hp, Only H → SqL K H a (ns.map V.int) → sp [.ref a] H (fun v _ => v = .bl true) fun _ _ _ => False) :
    codeAny (model P w) callerA (.call (.ref fa) ⟨[.ref a], []⟩) (fun r s' => r = .ok (.ret (.bool true)) ∧ OldK z.heap s'.heap ∧ s'.os = z.os ∧ AllBare s'.gens) z := by
  have vals := vals_ints inty
  -- what is tracked: the script, if the written part does not hold it
  obtain ⟨H, only, sq, hok, just, out⟩ : ∃ H : Hp, Only H ∧ SqL K H a (ns.map V.int) ∧ HOk P w H z.heap ∧ (∀ b o, H b = some o → b = a) ∧ (∀ o, H a = some o → K.lookup a = none) := by
    cases hk : K.lookup a with
    | some o =>
      have e := kin a o hk
      rw [obj] at e
      cases e
      exact ⟨fun _ => none, fun _ => .inl rfl, .inr ⟨_, us.toArray, _, hk, rfl, rfl, rfl, by rw [List.size_toArray, inty.length]; exact short, vals⟩, (fun b u hb => nomatch (show (none : Option HO) = some u from hb)), (fun b o hb => nomatch (show (none : Option HO) = some o from hb)), (fun o hb => nomatch (show (none : Option HO) = some o from hb))⟩
    | none =>
      have it : ∀ {b : Addr} {o : HO}, (if b = a then some (HO.frz { cls := .type "list", data := .seq us.toArray } (.lst (ns.map V.int))) else none) = some o → b = a ∧ o = HO.frz { cls := .type "list", data := .seq us.toArray } (.lst (ns.map V.int)) := fun {b o} hb => by
        by_cases c : b = a
        · rw [if_pos c] at hb
          exact ⟨c, (Option.some.inj hb).symm⟩
        · rw [if_neg c] at hb
          cases hb
      refine ⟨fun b => if b = a then some (.frz { cls := .type "list", data := .seq us.toArray } (.lst (ns.map V.int))) else none, fun b => ?_, .inl (.inr ⟨_, if_pos rfl⟩), fun b u hb => ?_, fun b o hb => (it hb).1, fun _ _ => rfl⟩
      · by_cases c : b = a
        · exact .inr ⟨_, _, if_pos c⟩
        · exact .inl (if_neg c)
      · obtain ⟨rfl, rfl⟩ := it hb
        exact ⟨obj, by rw [List.length_map]; exact short, us, _, vals, obj⟩
  have stays : ∀ {b : Addr} {o : Obj}, z.heap.get? b = some o → H b = none → (hidT z.heap H).get? b = some o := fun e n => hidT_get e n
  have kin2 : K.In (hidT z.heap H) := fun b o e => stays (kin b o e) (by
    cases q : H b with
    | none => rfl
    | some u =>
      have eb := just b u q
      subst eb
      rw [out u q] at e
      cases e)
  have ns2 : ∀ {b : Addr} {m : Str → Option Value}, z.heap.Ns b m → (hidT z.heap H).Ns b m := fun {b m} hn => by
    obtain ⟨o, es, ep, e, d, r⟩ := hn
    refine ⟨o, es, ep, stays e ?_, d, r⟩
    cases q : H b with
    | none => rfl
    | some u =>
      have eb := just b u q
      subst eb
      rw [obj] at e
      cases e
      have d2 : Data.seq us.toArray _ = Data.dict es ep := d
      cases d2
  obtain ⟨mc, l1, l2⟩ := nolim
  have e0 : Env0 P w K mg (hidT z.heap H) callerA [] z H :=
    { frames := rfl, mod := ⟨kin2, ns2 glob, ⟨mb, ns2 blt, bbb⟩, ⟨mc, ns2 l1, l2⟩⟩, bs := fun b o e => of_hidT e, bsz := Nat.le_of_eq (hidT_size _ _), funs := trivial, frf := fun b hb => (List.not_mem_nil hb).elim, hok := hok, bare := .of_eq gens }
  refine codeAny_mono ((F _ kin2 (ns2 glob)).go callerA [] z H ⟨[.ref a], []⟩ [.ref a] [.ref a] _ _ room rfl e0 (bind z (.ref a)) (.cons rfl .nil) (prom H only sq)) fun res s' done => ?_
  match res, done with
  | .error e, h => exact h.elim
  | .ok (.ret u), ⟨v, H', os, bare, un, hok', rv, q⟩ =>
    obtain rfl : v = .bl true := q
    obtain rfl : u = Value.bool true := rv
    refine ⟨rfl, OldK.of_keep fun b o e => ?_, os, bare⟩
    cases q : H b with
    | none => exact un.keep b o e q (fun h => (List.not_mem_nil h).elim) (fun h => (List.not_mem_nil h).elim)
    | some u =>
      rcases only b with n | ⟨ob, xs, n⟩
      · rw [q] at n
        cases n
      · obtain ⟨e1, _⟩ := hok b _ n
        rw [e] at e1
        cases e1
        obtain ⟨e2, _⟩ := hok' b _ (un.frzs b o _ n)
        exact e2
theorem walk_ofG {l : PySem.W.OpenLaw} {n k : Nat} {q : Program} {loose : List Str} {XP : (Str → Option Value) → Heap → Prop} {YP : World → Heap → Prop} {d : DefRec} {K : Params → PySem.W.Frag} {sp : PySem.W.Frag → Sp} {x : Str}
    (most : l.most = some n) (short : n ≤ sizeLine) (dfl : d.params.defaults = []) (room : Room k callerA) (kin : ∀ (w : World) (h : Heap), YP w h → (K w.params).In h)
    (F : ∀ (w : World) (mg : Str → Option Value) (fa : Addr) (h : Heap), (K w.params).In h → h.Ns mainGlobals mg → mg d.name = some (.ref fa) →
      ∃ fd : FuncData, (∀ (s : Shared) (u : Value), BindsTo s fd ⟨[u], []⟩ [(x, u)]) ∧ ∀ base : Heap, (K w.params).In base → base.Ns mainGlobals mg → FnG l.prog w (K w.params) mg base CX0 k fa fd [x] (sp (K w.params)))
    (prom : ∀ (K : PySem.W.Frag) (H : Hp) (a : Addr) (ns : List Int), ns.length ≤ n → SqL K H a (ns.map V.int) → sp K [.ref a] H (fun v _ => v = .bl true) fun _ _ _ => False) :
    PySem.W.WalkO q loose XP YP l.row.toRowW d [] (fun f vs => PySem.call f vs) := by
  refine Att.attach_call most dfl fun w s0 s1 mg mb fa o pm cd doc a vs ns G Y ho hd hcd hmg hobj hints hlen hg => ?_
  obtain ⟨fd, bind, hF⟩ := F w mg fa _ (kin w _ Y) G.T.g hmg
  exact law_callG (kin w _ Y) G.T.g G.T.b G.T.builtins G.T.nolimit hg hobj hints (Nat.le_trans hlen short) room hF bind fun H _ hS => prom _ H a ns hlen hS
end L2

/-! # Lines of words: what a split by line feeds and spaces tells, and what one look through the signs tells. Plain Lean -/
namespace Lns
/-- split at the sign c, acc the part under way -/
def spA (c : Nat) : List Nat → List Nat → List (List Nat)
  | acc, [] => [acc]
  | acc, a :: r => if a = c then acc :: spA c [] r else spA c (acc ++ [a]) r
def okS (a : Nat) : Bool := decide (33 ≤ a) && decide (a ≤ 126)
def okW (w : List Nat) : Bool := (!w.isEmpty) && w.all okS
def wordsOf (l : List Nat) : Option (List (List Nat)) := if (spA 32 [] l).all okW = true then some (spA 32 [] l) else none
abbrev Rows := List (List (List Nat))
def goP : List (List Nat) → Rows → Nat × Rows
  | [], rows => (0, rows)
  | [l], rows => (if l = [] then 0 else rows.length + 1, rows)
  | l :: m :: ls, rows => match wordsOf l with
    | none => (rows.length + 1, rows)
    | some ws => goP (m :: ls) (rows ++ [ws])
def prog (t : List Nat) : Nat × Rows := goP (spA 10 [] t) []
def scan : List Nat → Rows → List (List Nat) → List Nat → Bool → Nat × Rows
  | [], rows, _, _, st => (if st = true then rows.length + 1 else 0, rows)
  | a :: r, rows, ws, w, _ =>
    if a = 32 ∨ a = 10 then
      if w = [] then (rows.length + 1, rows)
      else if a = 10 then scan r (rows ++ [ws ++ [w]]) [] [] false else scan r rows (ws ++ [w]) [] true
    else if okS a = true then scan r rows ws (w ++ [a]) true else (rows.length + 1, rows)
theorem spA_hit (c : Nat) (acc r : List Nat) : spA c acc (c :: r) = acc :: spA c [] r := by rw [spA, if_pos rfl]
theorem spA_miss {c a : Nat} (acc r : List Nat) (h : a ≠ c) : spA c acc (a :: r) = spA c (acc ++ [a]) r := by rw [spA, if_neg h]
theorem spA_ne (c : Nat) : ∀ (l acc : List Nat), spA c acc l ≠ []
  | [], acc => by simp [spA]
  | a :: r, acc => by
    by_cases h : a = c
    · rw [h, spA_hit]
      simp
    · rw [spA_miss _ _ h]
      exact spA_ne c r _
theorem spA_app (c : Nat) : ∀ (p acc s : List Nat) (ws : List (List Nat)) (w : List Nat), spA c acc p = ws ++ [w] → spA c acc (p ++ s) = ws ++ spA c w s
  | [], acc, s, ws, w, h => by
    have h' : [acc] = ws ++ [w] := h
    cases ws with
    | nil =>
      have e : acc = w := by simpa using h'
      rw [e]
      rfl
    | cons x xs => simp at h'
  | a :: p, acc, s, ws, w, h => by
    rw [List.cons_append]
    by_cases e : a = c
    · rw [e, spA_hit] at h
      rw [e, spA_hit]
      cases ws with
      | nil =>
        have e2 : acc = w ∧ spA c [] p = [] := by simpa using h
        exact absurd e2.2 (spA_ne c p [])
      | cons x xs =>
        have e2 : acc = x ∧ spA c [] p = xs ++ [w] := by simpa using h
        rw [spA_app c p [] s xs w e2.2, e2.1]
        rfl
    · rw [spA_miss _ _ e] at h
      rw [spA_miss _ _ e]
      exact spA_app c p _ s ws w h
theorem spA_head (c : Nat) : ∀ (s acc : List Nat), ∃ t r, spA c acc s = (acc ++ t) :: r
  | [], acc => ⟨[], [], by simp [spA]⟩
  | a :: s, acc => by
    by_cases e : a = c
    · exact ⟨[], spA c [] s, by rw [e, spA_hit]; simp⟩
    · obtain ⟨t, r, h⟩ := spA_head c s (acc ++ [a])
      exact ⟨a :: t, r, by rw [spA_miss _ _ e, h]; simp⟩
/-- no text that begins so is a line of words -/
def Bad (q : List Nat) : Prop := ∀ s, (spA 32 [] (q ++ s)).all okW = false
theorem Bad.more {q : List Nat} (h : Bad q) (a : Nat) : Bad (q ++ [a]) := fun s => by
  rw [List.append_assoc]
  exact h _
theorem goP_bad : ∀ (r q : List Nat) (rows : Rows), Bad q → q ≠ [] → goP (spA 10 q r) rows = (rows.length + 1, rows)
  | [], q, rows, _, hq => by
    show goP [q] rows = _
    unfold goP
    rw [if_neg hq]
  | a :: r, q, rows, hb, hq => by
    by_cases c : a = 10
    · rw [c, spA_hit]
      cases hr : spA 10 [] r with
      | nil => exact absurd hr (spA_ne 10 r [])
      | cons m ls =>
        have e : wordsOf q = none := by
          unfold wordsOf
          have := hb []
          rw [List.append_nil] at this
          rw [this]
          rfl
        show goP (q :: m :: ls) rows = _
        unfold goP
        rw [e]
    · rw [spA_miss _ _ c]
      exact goP_bad r _ rows (hb.more a) (by simp)
theorem scan_go : ∀ (t : List Nat) (rows : Rows) (ws : List (List Nat)) (w : List Nat) (p : List Nat), spA 32 [] p = ws ++ [w] → ws.all okW = true → w.all okS = true →
    scan t rows ws w (!p.isEmpty) = goP (spA 10 p t) rows
  | [], rows, ws, w, p, h, h1, h2 => by
    show (if (!p.isEmpty) = true then rows.length + 1 else 0, rows) = goP [p] rows
    unfold goP
    cases p with
    | nil => rfl
    | cons a p => rfl
  | a :: r, rows, ws, w, p, h, h1, h2 => by
    have badw : a = 32 ∨ a = 10 → w = [] → a ≠ 10 → Bad (p ++ [a]) := fun c hw ne s => by
      have a32 : a = 32 := by omega
      rw [List.append_assoc, spA_app 32 p [] _ ws w h, hw, a32]
      show (ws ++ spA 32 [] (32 :: s)).all okW = false
      rw [spA_hit, List.all_append, List.all_cons]
      have : okW [] = false := rfl
      rw [this, Bool.false_and, Bool.and_false]
    unfold scan
    by_cases c : a = 32 ∨ a = 10
    · rw [if_pos c]
      by_cases hw : w = []
      · rw [if_pos hw]
        by_cases c10 : a = 10
        · rw [c10, spA_hit]
          cases hr : spA 10 [] r with
          | nil => exact absurd hr (spA_ne 10 r [])
          | cons m ls =>
            have e : wordsOf p = none := by
              unfold wordsOf
              rw [h, List.all_append, hw]
              have : [([] : List Nat)].all okW = false := rfl
              rw [this, Bool.and_false]
              rfl
            unfold goP
            rw [e]
        · rw [spA_miss _ _ c10]
          exact (goP_bad r _ rows (badw c hw c10) (by simp)).symm
      · rw [if_neg hw]
        have hwW : okW w = true := by
          unfold okW
          rw [h2]
          cases w with
          | nil => exact absurd rfl hw
          | cons x y => rfl
        by_cases c10 : a = 10
        · rw [if_pos c10, c10, spA_hit]
          cases hr : spA 10 [] r with
          | nil => exact absurd hr (spA_ne 10 r [])
          | cons m ls =>
            have e : wordsOf p = some (ws ++ [w]) := by
              unfold wordsOf
              rw [h, List.all_append, h1, List.all_cons, hwW]
              rfl
            have ih := scan_go r (rows ++ [ws ++ [w]]) [] [] [] rfl rfl rfl
            rw [hr] at ih
            unfold goP
            rw [e]
            exact ih
        · have a32 : a = 32 := by omega
          rw [if_neg c10, spA_miss _ _ c10]
          have ih := scan_go r rows (ws ++ [w]) [] (p ++ [a]) (by
            rw [spA_app 32 p [] _ ws w h, a32]
            show ws ++ spA 32 w [32] = _
            rw [spA_hit]
            simp [spA]) (by rw [List.all_append, h1, List.all_cons, hwW]; rfl) rfl
          rw [← ih]
          congr 1
          cases p <;> rfl
    · have n10 : a ≠ 10 := fun e => c (.inr e)
      have n32 : a ≠ 32 := fun e => c (.inl e)
      rw [if_neg c, spA_miss _ _ n10]
      by_cases ok : okS a = true
      · rw [if_pos ok]
        have ih := scan_go r rows ws (w ++ [a]) (p ++ [a]) (by
          rw [spA_app 32 p [] _ ws w h, spA_miss _ _ n32]
          rfl) h1 (by rw [List.all_append, h2, List.all_cons, ok]; rfl)
        rw [← ih]
        congr 1
        cases p <;> rfl
      · rw [if_neg ok]
        refine (goP_bad r _ rows (fun s => ?_) (by simp)).symm
        rw [List.append_assoc, spA_app 32 p [] _ ws w h]
        show (ws ++ spA 32 w (a :: s)).all okW = false
        rw [spA_miss _ _ n32]
        obtain ⟨t, r2, e⟩ := spA_head 32 s (w ++ [a])
        rw [e, List.all_append, List.all_cons]
        have : okW (w ++ [a] ++ t) = false := by
          unfold okW
          rw [List.all_append, List.all_append, List.all_cons]
          have : okS a = false := by simpa using ok
          rw [this]
          simp
        rw [this, Bool.false_and, Bool.and_false]
theorem scan_prog (t : List Nat) : scan t [] [] [] false = prog t := scan_go t [] [] [] [] rfl rfl rfl
/-- what the words of the rows weigh -/
def wsum (ws : List (List Nat)) : Nat := (ws.map fun w => w.length + 1).sum
def rsum (rows : Rows) : Nat := (rows.map fun ws => wsum ws + 1).sum
theorem wsum_snoc (ws : List (List Nat)) (w : List Nat) : wsum (ws ++ [w]) = wsum ws + w.length + 1 := by
  simp [wsum, Nat.add_assoc]
theorem rsum_snoc (rows : Rows) (ws : List (List Nat)) : rsum (rows ++ [ws]) = rsum rows + wsum ws + 1 := by
  simp [rsum, Nat.add_assoc]
theorem scan_sum : ∀ (t : List Nat) (rows : Rows) (ws : List (List Nat)) (w : List Nat) (st : Bool), rsum (scan t rows ws w st).2 ≤ rsum rows + 2 * (wsum ws + w.length + t.length)
  | [], rows, ws, w, st => by
    show rsum rows ≤ _
    omega
  | a :: r, rows, ws, w, st => by
    unfold scan
    by_cases c : a = 32 ∨ a = 10
    · rw [if_pos c]
      by_cases hw : w = []
      · rw [if_pos hw]
        show rsum rows ≤ _
        omega
      · rw [if_neg hw]
        by_cases c10 : a = 10
        · rw [if_pos c10]
          have ih := scan_sum r (rows ++ [ws ++ [w]]) [] [] false
          rw [rsum_snoc, wsum_snoc] at ih
          have e : wsum [] = 0 := rfl
          rw [e] at ih
          simp only [List.length_nil, List.length_cons] at ih ⊢
          omega
        · rw [if_neg c10]
          have ih := scan_sum r rows (ws ++ [w]) [] true
          rw [wsum_snoc] at ih
          simp only [List.length_nil, List.length_cons] at ih ⊢
          omega
    · rw [if_neg c]
      by_cases ok : okS a = true
      · rw [if_pos ok]
        have ih := scan_sum r rows ws (w ++ [a]) true
        rw [List.length_append, List.length_singleton] at ih
        simp only [List.length_cons] at ih ⊢
        omega
      · rw [if_neg ok]
        show rsum rows ≤ _
        omega
def okR (rows : Rows) : Prop := ∀ ws ∈ rows, ∀ w ∈ ws, ∀ c ∈ w, c < 128
theorem ok_lt {a : Nat} (h : okS a = true) : a < 128 := by
  unfold okS at h
  simp at h
  omega
theorem scan_okR : ∀ (t : List Nat) (rows : Rows) (ws : List (List Nat)) (w : List Nat) (st : Bool), okR rows → (∀ v ∈ ws, ∀ c ∈ v, c < 128) → (∀ c ∈ w, c < 128) → okR (scan t rows ws w st).2
  | [], rows, ws, w, st, h, _, _ => h
  | a :: r, rows, ws, w, st, h, h1, h2 => by
    have h3 : ∀ v ∈ ws ++ [w], ∀ c ∈ v, c < 128 := fun v hv => by
      rcases List.mem_append.mp hv with z | z
      · exact h1 v z
      · have : v = w := by simpa using z
        rw [this]
        exact h2
    unfold scan
    by_cases c : a = 32 ∨ a = 10
    · rw [if_pos c]
      by_cases hw : w = []
      · rw [if_pos hw]
        exact h
      · rw [if_neg hw]
        by_cases c10 : a = 10
        · rw [if_pos c10]
          refine scan_okR r _ [] [] false (fun v hv => ?_) (fun v hv => by simp at hv) (fun c hc => by simp at hc)
          rcases List.mem_append.mp hv with z | z
          · exact h v z
          · have : v = ws ++ [w] := by simpa using z
            rw [this]
            exact h3
        · rw [if_neg c10]
          exact scan_okR r rows _ [] true h h3 (fun c hc => by simp at hc)
    · rw [if_neg c]
      by_cases ok : okS a = true
      · rw [if_pos ok]
        refine scan_okR r rows ws _ true h h1 fun c hc => ?_
        rcases List.mem_append.mp hc with z | z
        · exact h2 c z
        · have : c = a := by simpa using z
          rw [this]
          exact ok_lt ok
      · rw [if_neg ok]
        exact h
theorem prog_sum (t : List Nat) : rsum (prog t).2 ≤ 2 * t.length := by
  rw [← scan_prog]
  have := scan_sum t [] [] [] false
  have e1 : rsum [] = 0 := rfl
  have e2 : wsum [] = 0 := rfl
  rw [e1, e2] at this
  simp at this
  omega
theorem prog_ok (t : List Nat) : okR (prog t).2 := by
  rw [← scan_prog]
  exact scan_okR t [] [] [] false (fun v hv => by simp at hv) (fun v hv => by simp at hv) (fun c hc => by simp at hc)
theorem spA_len (c : Nat) : ∀ (l acc : List Nat), (spA c acc l).length ≤ l.length + 1
  | [], acc => by simp [spA]
  | a :: r, acc => by
    by_cases h : a = c
    · rw [h, spA_hit]
      have := spA_len c r []
      simp only [List.length_cons]
      omega
    · rw [spA_miss _ _ h]
      have := spA_len c r (acc ++ [a])
      simp only [List.length_cons]
      omega
theorem spA_mem (c : Nat) : ∀ (l acc : List Nat), ∀ w ∈ spA c acc l, w.length ≤ acc.length + l.length
  | [], acc, w, h => by
    have : w = acc := by simpa [spA] using h
    rw [this]
    simp
  | a :: r, acc, w, h => by
    by_cases e : a = c
    · rw [e, spA_hit] at h
      rcases List.mem_cons.mp h with z | z
      · rw [z]
        omega
      · have := spA_mem c r [] w z
        simp only [List.length_nil, List.length_cons] at this ⊢
        omega
    · rw [spA_miss _ _ e] at h
      have := spA_mem c r (acc ++ [a]) w h
      simp only [List.length_append, List.length_singleton, List.length_cons, List.length_nil] at this ⊢
      omega
theorem goP_step {L : List (List Nat)} {i : Nat} {rows : Rows} (h : i + 1 < L.length) : goP (L.drop i) rows = match wordsOf (L.getD i []) with
    | none => (rows.length + 1, rows)
    | some ws => goP (L.drop (i + 1)) (rows ++ [ws]) := by
  rw [List.drop_eq_getElem_cons (show i < L.length by omega), List.drop_eq_getElem_cons h]
  have e : L.getD i [] = L[i]'(by omega) := by rw [List.getD_eq_getElem?_getD, List.getElem?_eq_getElem (by omega)]; rfl
  rw [e]
  rfl
theorem goP_last {L : List (List Nat)} {i : Nat} {rows : Rows} (h : i + 1 = L.length) : goP (L.drop i) rows = (if L.getD i [] = [] then 0 else rows.length + 1, rows) := by
  rw [List.drop_eq_getElem_cons (show i < L.length by omega), h, List.drop_length]
  have e : L.getD i [] = L[i]'(by omega) := by rw [List.getD_eq_getElem?_getD, List.getElem?_eq_getElem (by omega)]; rfl
  rw [e]
  rfl
theorem scan_nil (rows : Rows) (ws : List (List Nat)) (w : List Nat) (st : Bool) : scan [] rows ws w st = (if st = true then rows.length + 1 else 0, rows) := rfl
theorem scan_cons (a : Nat) (r : List Nat) (rows : Rows) (ws : List (List Nat)) (w : List Nat) (st : Bool) : scan (a :: r) rows ws w st = if a = 32 ∨ a = 10 then
      if w = [] then (rows.length + 1, rows)
      else if a = 10 then scan r (rows ++ [ws ++ [w]]) [] [] false else scan r rows (ws ++ [w]) [] true
    else if okS a = true then scan r rows ws (w ++ [a]) true else (rows.length + 1, rows) := rfl
theorem rows_sum (rows : Rows) : rows.length ≤ rsum rows := by
  induction rows with
  | nil => exact Nat.le_refl _
  | cons v rows ih =>
    unfold rsum at ih ⊢
    simp only [List.map_cons, List.sum_cons, List.length_cons]
    omega
theorem scan_fst : ∀ (t : List Nat) (rows : Rows) (ws : List (List Nat)) (w : List Nat) (st : Bool), (scan t rows ws w st).1 ≤ (scan t rows ws w st).2.length + 1
  | [], rows, ws, w, st => by
    rw [scan_nil]
    show (if st = true then rows.length + 1 else 0) ≤ rows.length + 1
    split <;> omega
  | a :: r, rows, ws, w, st => by
    rw [scan_cons]
    split
    · split
      · exact Nat.le_refl _
      · split
        · exact scan_fst r _ _ _ _
        · exact scan_fst r _ _ _ _
    · split
      · exact scan_fst r _ _ _ _
      · exact Nat.le_refl _
theorem prog_le (t : List Nat) : (prog t).1 ≤ 2 * t.length + 1 := by
  have h1 := prog_sum t
  have h2 := rows_sum (prog t).2
  have h3 : (prog t).1 ≤ (prog t).2.length + 1 := by
    rw [← scan_prog]
    exact scan_fst t [] [] [] false
  omega
end Lns

/-! # Own layer: texts by their signs (lists of numbers) -/
namespace L2
open PySem PySem.Spec PyProof.Rows TL
def mk (l : List Nat) : Str := ⟨l.toArray⟩
abbrev vS (l : List Nat) : V := .str (mk l)
theorem tlm (l : List Nat) : tl (mk l) = l := rfl
theorem mkt (x : Str) : mk (tl x) = x := mk_tl x
theorem mk_inj {a b : List Nat} (h : mk a = mk b) : a = b := by
  have := congrArg tl h
  exact this
theorem mk_len (l : List Nat) : (mk l).length = l.length := by rw [len_tl]; rfl
theorem mk_app (a b : List Nat) : mk a ++ mk b = mk (a ++ b) := ext_tl (by rw [tl_append]; rfl)
theorem mk_lit (s : String) : Str.ofString s = mk (s.toList.map Char.toNat) := ext_tl (tl_ofString s)
theorem str_if {a b : List Nat} {A B : Prop} (h1 : a = b → A) (h2 : a ≠ b → B) : if decide (V.str (mk a) = V.str (mk b)) = true then A else B :=
  dec_iff (fun h => h1 (mk_inj (V.str.inj h))) fun h => h2 fun e => h (by rw [e])
theorem strn_if {a b : List Nat} {A B : Prop} (h1 : a ≠ b → A) (h2 : a = b → B) : if (!decide (V.str (mk a) = V.str (mk b))) = true then A else B :=
  not_if (fun h => h1 fun e => h (by rw [e])) fun h => h2 (mk_inj (V.str.inj h))
theorem lt1 (a b : Nat) : (([a] : List Nat) < [b]) ↔ a < b := by
  rw [List.cons_lt_cons_iff]
  simp
/-- a for over a text -/
theorem for_sgn {l : List Nat} {g : TG} {tb : TS} {D : Ends} {σ : L2.St} {H : Hp} (Pv : Nat → L2.St → Hp → Prop) (h0 : Pv 0 σ H)
    (hs : ∀ i c σ H, l[i]? = some c → Pv i σ H → g (.str (mk [c])) σ H fun σ2 H2 => tb { D with nx := Pv (i + 1), ct := Pv (i + 1), bk := D.nx } σ2 H2) (hd : ∀ σ H, Pv l.length σ H → D.nx σ H) :
    ∃ W : Nat → Nat → L2.St → Hp → Prop, (∃ m, W 0 m σ H) ∧ ∀ i m σ H, W i m σ H →
      ((Its (mk l)).stop i H ∧ D.nx σ H) ∨ ((Its (mk l)).go i H ∧ ∃ N : L2.St → Hp → Prop, (∀ σ' H', N σ' H' → ∃ m', m' < m ∧ W (i + 1) m' σ' H') ∧ ∀ x H', (Its (mk l)).yld i H x H' → g x σ H' fun σ2 H2 => tb { D with nx := N, ct := N, bk := D.nx } σ2 H2) := by
  have hz : (mk l).cps.size = l.length := by show l.toArray.size = _; simp
  refine for_it walk_str Pv h0 (fun _ _ _ _ _ => trivial) (fun i x σ H H' hi p y => ?_) (fun σ H p => hd σ H (by rw [← hz]; exact p))
  obtain ⟨rfl, c, hc, rfl⟩ := y
  exact hs i c σ _ (by have : l.toArray[i]? = some c := hc; simpa using this) p
theorem split_spA (x y : Str) (c : Nat) (hy : tl y = [c]) (hc : c < 256) : Txt.split x y = (Lns.spA c [] (tl x)).map mk := by
  have key : ∀ (l acc : List Nat), spl [c] 0 acc l = Lns.spA c acc l := by
    intro l
    induction l with
    | nil => intro acc; rw [spl_nil]; rfl
    | cons a r ih =>
      intro acc
      by_cases h : a = c
      · rw [h, Lns.spA_hit, spl_hit (by simp [pre])]
        exact congrArg (acc :: ·) (ih [])
      · rw [Lns.spA_miss _ _ h, spl_miss (by simp [pre, h])]
        exact ih _
  have hk : y.cps.all (· < 256) = true := by
    rw [← Array.all_toList]
    have : y.cps.toList = [c] := hy
    rw [this]
    simp [hc]
  have e := split_spl x y (by rw [hy]; simp) (kind_ok hk)
  rw [hy, key] at e
  rw [← e, List.map_map]
  have : (mk ∘ tl) = id := funext fun z => mkt z
  rw [this, List.map_id]
/-- short and of plain signs -/
def Tx (n : Nat) (l : List Nat) : Prop := l.length ≤ n ∧ ∀ c ∈ l, c < 128
theorem Tx.more {n m : Nat} {l : List Nat} (h : Tx n l) (le : n ≤ m) : Tx m l := ⟨Nat.le_trans h.1 le, h.2⟩
theorem Tx.app {n m : Nat} {a b : List Nat} (h : Tx n a) (g : Tx m b) : Tx (n + m) (a ++ b) :=
  ⟨by rw [List.length_append]; exact Nat.add_le_add h.1 g.1, fun c hc => by rcases List.mem_append.mp hc with z | z; exact h.2 c z; exact g.2 c z⟩
theorem Tx.nil : Tx 0 [] := ⟨Nat.le_refl _, fun c h => by simp at h⟩
/-- a slice of a text -/
theorem cut_mk (l : List Nat) (lo hi : Option Int) : ∃ l', cutS (mk l) lo hi = mk l' ∧ l'.length ≤ l.length ∧ ∀ c ∈ l', c ∈ l := by
  refine ⟨(l.drop (HT.sIx (mk l).length 0 lo)).take (HT.sIx (mk l).length (mk l).length hi - HT.sIx (mk l).length 0 lo), rfl, ?_, fun c hc => List.mem_of_mem_drop (List.mem_of_mem_take hc)⟩
  rw [List.length_take, List.length_drop]
  omega
theorem Tx.cut {n : Nat} {l l' : List Nat} (h : Tx n l) (hl : l'.length ≤ l.length) (hm : ∀ c ∈ l', c ∈ l) : Tx n l' := ⟨Nat.le_trans hl h.1, fun c hc => h.2 c (hm c hc)⟩

/-! ### rows of words as data -/
def dS (l : List Nat) : PyData := .str (mk l)
def dRow (ws : List (List Nat)) : PyData := .list (ws.map dS)
def dRows (rows : List (List (List Nat))) : PyData := .list (rows.map dRow)
theorem dpa_words {K : PySem.W.Frag} {H : Hp} : ∀ ws : List (List Nat), DpAll K H (ws.map vS) (ws.map dS)
  | [] => .nil
  | w :: ws => .cons (.str _) (dpa_words ws)
/-- at p: the list of these rows -/
def RowsAt (H : Hp) (p : Addr) (rows : List (List (List Nat))) : Prop :=
  ∃ rs : List Addr, H p = some (.lst (rs.map V.ref)) ∧ rs.length = rows.length ∧ ∀ (k : Nat) (r : Addr) (ws : List (List Nat)), rs[k]? = some r → rows[k]? = some ws → H r = some (.lst (ws.map vS))
theorem dpa_rows {K : PySem.W.Frag} {H : Hp} : ∀ (rs : List Addr) (rows : List (List (List Nat))), rs.length = rows.length → (∀ (k : Nat) (r : Addr) (ws : List (List Nat)), rs[k]? = some r → rows[k]? = some ws → H r = some (.lst (ws.map vS))) → DpAll K H (rs.map V.ref) (rows.map dRow)
  | [], [], _, _ => .nil
  | r :: rs, ws :: rows, hl, h => .cons (.lst (SqL.of (h 0 r ws rfl rfl)) (dpa_words ws)) (dpa_rows rs rows (by simpa using hl) fun k r' ws' a b => h (k + 1) r' ws' a b)
  | [], _ :: _, hl, _ => by simp at hl
  | _ :: _, [], hl, _ => by simp at hl
theorem dp_rows {K : PySem.W.Frag} {H : Hp} {p : Addr} {rows : List (List (List Nat))} (h : RowsAt H p rows) : Dp K H (.ref p) (dRows rows) := by
  obtain ⟨rs, h1, h2, h3⟩ := h
  exact .lst (SqL.of h1) (dpa_rows rs rows h2 h3)
theorem RowsAt.fr {H H' : Hp} {p : Addr} {rows : List (List (List Nat))} (h : RowsAt H p rows) (e : Fr [] H H') : RowsAt H' p rows := by
  obtain ⟨rs, h1, h2, h3⟩ := h
  exact ⟨rs, e _ _ h1 (by simp), h2, fun k r ws a b => e _ _ (h3 k r ws a b) (by simp)⟩
/-- all words of plain signs -/
def AscR (rows : List (List (List Nat))) : Prop := ∀ ws ∈ rows, ∀ w ∈ ws, ∀ c ∈ w, c < 128
theorem strOk_mk {l : List Nat} (h : ∀ c ∈ l, c < 128) : PyData.strOk (mk l) = true := by
  unfold PyData.strOk
  rw [← Array.all_toList, List.all_eq_true]
  intro c hc
  have := h c hc
  exact decide_eq_true (by omega)
theorem row_lay : ∀ ws : List (List Nat), (∀ w ∈ ws, ∀ c ∈ w, c < 128) → PyData.canLayAll0 (ws.map dS) = true
  | [], _ => by simp [PyData.canLayAll0]
  | w :: ws, h => by
    have h1 := strOk_mk (h w List.mem_cons_self)
    have h2 := row_lay ws fun v hv => h v (List.mem_cons_of_mem _ hv)
    simp [PyData.canLayAll0, dS, PyData.canLay0, h1]
    exact h2
theorem rows_lay : ∀ rows : List (List (List Nat)), AscR rows → PyData.canLayAll0 (rows.map dRow) = true
  | [], _ => by simp [PyData.canLayAll0]
  | ws :: rows, h => by
    have h1 := row_lay ws (h ws List.mem_cons_self)
    have h2 := rows_lay rows fun v hv => h v (List.mem_cons_of_mem _ hv)
    simp only [List.map_cons, PyData.canLayAll0, dRow, PyData.canLay0, h1, h2]
    rfl
theorem row_depth : ∀ ws : List (List Nat), PyData.depthAll (ws.map dS) ≤ 1
  | [] => by simp [PyData.depthAll]
  | w :: ws => by
    have := row_depth ws
    simp only [List.map_cons, PyData.depthAll, dS, PyData.depth]
    omega
theorem rows_depth : ∀ rows : List (List (List Nat)), PyData.depthAll (rows.map dRow) ≤ 2
  | [] => by simp [PyData.depthAll]
  | ws :: rows => by
    have h1 := rows_depth rows
    have h2 := row_depth ws
    simp only [List.map_cons, PyData.depthAll, dRow, PyData.depth]
    omega
theorem rows_shaped {rows : List (List (List Nat))} (h : AscR rows) : SeqAt.shaped (dRows rows) = true :=
  shaped_of (by simp only [dRows, PyData.canLay0]; exact rows_lay rows h) (by have := rows_depth rows; simp only [dRows, PyData.depth]; omega)
theorem row_show : ∀ ws : List (List Nat), PyData.showableAll (ws.map dS) = true
  | [] => by simp [PyData.showableAll]
  | w :: ws => by simp [PyData.showableAll, dS, PyData.showable]; exact row_show ws
theorem rows_show : ∀ rows : List (List (List Nat)), PyData.showableAll (rows.map dRow) = true
  | [] => by simp [PyData.showableAll]
  | ws :: rows => by
    have h1 := row_show ws
    have h2 := rows_show rows
    simp only [List.map_cons, PyData.showableAll, dRow, PyData.showable, h1, h2]
    rfl
theorem rows_showable (rows : List (List (List Nat))) : (dRows rows).showable = true := by simp only [dRows, PyData.showable]; exact rows_show rows
/-- what the words weigh -/
def cost (rows : List (List (List Nat))) : Nat := (rows.map fun ws => (ws.map fun w => w.length + 1).sum + 1).sum
theorem row_weight : ∀ ws : List (List Nat), PyData.weightAll (ws.map dS) = (ws.map fun w => w.length + 1).sum
  | [] => rfl
  | w :: ws => by
    have e : (mk w).cps.size = w.length := by show w.toArray.size = _; simp
    simp only [List.map_cons, PyData.weightAll, dS, PyData.weight, List.sum_cons, e]
    have := row_weight ws
    omega
theorem rows_weight : ∀ rows : List (List (List Nat)), PyData.weightAll (rows.map dRow) = cost rows
  | [] => rfl
  | ws :: rows => by
    have h1 := row_weight ws
    have h2 := rows_weight rows
    unfold cost at h2 ⊢
    simp only [List.map_cons, PyData.weightAll, dRow, PyData.weight, List.sum_cons, h1, h2]
theorem row_short : ∀ ws : List (List Nat), (∀ w ∈ ws, ∀ c ∈ w, c < 128) → PyData.leavesShortAll 8 (ws.map dS) = true
  | [], _ => by simp [PyData.leavesShortAll]
  | w :: ws, h => by
    have h1 : (PyData.leavesShort 8 (dS w)) = true := by
      simp only [dS, PyData.leavesShort, List.all_eq_true, decide_eq_true_eq]
      intro c hc
      have := h w List.mem_cons_self c hc
      exact Nat.lt_of_lt_of_le this (by decide)
    have h2 := row_short ws fun v hv => h v (List.mem_cons_of_mem _ hv)
    simp only [List.map_cons, PyData.leavesShortAll, h1, h2]
    rfl
theorem rows_short : ∀ rows : List (List (List Nat)), AscR rows → PyData.leavesShortAll 8 (rows.map dRow) = true
  | [], _ => by simp [PyData.leavesShortAll]
  | ws :: rows, h => by
    have h1 := row_short ws (h ws List.mem_cons_self)
    have h2 := rows_short rows fun v hv => h v (List.mem_cons_of_mem _ hv)
    simp only [List.map_cons, PyData.leavesShortAll, dRow, PyData.leavesShort, h1, h2]
    rfl
theorem rows_shown {rows : List (List (List Nat))} (h : AscR rows) : (dRows rows).shown.length ≤ 10 * cost rows + 8 := by
  have := PyData.shown_le 8 (Nat.le_refl _) (dRows rows) (by simp only [dRows, PyData.leavesShort]; exact rows_short rows h)
  have e : (dRows rows).weight = cost rows := by simp only [dRows, PyData.weight]; exact rows_weight rows
  rw [e] at this
  exact this
/-! ### plain signs stay plain when a text is shown -/
def Asc (x : Str) : Prop := ∀ c ∈ tl x, c < 128
theorem asc_char : ∀ c, c < 128 → (∀ d ∈ Builtin.Str.reprChar 39 c, d < 128) ∧ ∀ d ∈ Builtin.Str.reprChar 34 c, d < 128 := by decide +kernel
theorem asc_fold (q : Nat) (hq : q = 39 ∨ q = 34) : ∀ (l : List Nat) (acc : Array Nat), (∀ c ∈ l, c < 128) → (∀ d ∈ acc.toList, d < 128) → ∀ d ∈ (l.foldl (fun out c => out ++ (Builtin.Str.reprChar q c).toArray) acc).toList, d < 128
  | [], acc, _, h => h
  | c :: l, acc, hl, h => by
    refine asc_fold q hq l _ (fun c hc => hl c (List.mem_cons_of_mem _ hc)) fun d hd => ?_
    rw [Array.toList_append] at hd
    rcases List.mem_append.mp hd with z | z
    · exact h d z
    · have hc := asc_char c (hl c List.mem_cons_self)
      have z' : d ∈ Builtin.Str.reprChar q c := by simpa using z
      rcases hq with rfl | rfl
      · exact hc.1 d z'
      · exact hc.2 d z'
theorem asc_repr {x : Str} (h : Asc x) : Asc (reprText x) := by
  have hq : reprQuote x = 39 ∨ reprQuote x = 34 := by
    unfold reprQuote
    split
    · exact .inr rfl
    · exact .inl rfl
  have q128 : reprQuote x < 128 := by omega
  intro d hd
  have hd' : d ∈ ((x.cps.foldl (fun out c => out ++ (Builtin.Str.reprChar (reprQuote x) c).toArray) #[reprQuote x]).push (reprQuote x)).toList := hd
  rw [Array.toList_push, ← Array.foldl_toList] at hd'
  rcases List.mem_append.mp hd' with z | z
  · exact asc_fold _ hq x.cps.toList _ h (fun d hd => by
      have : d = reprQuote x := by simpa using hd
      rw [this]
      exact q128) d z
  · have : d = reprQuote x := by simpa using z
    rw [this]
    exact q128
theorem asc_app {x y : Str} (h : Asc x) (g : Asc y) : Asc (x ++ y) := fun c hc => by
  rw [tl_append] at hc
  rcases List.mem_append.mp hc with z | z
  · exact h c z
  · exact g c z
theorem asc_from : ∀ (ts : List Str) (k : Nat) (acc : Str), (∀ t ∈ ts, Asc t) → Asc acc → Asc (textFrom k acc ts)
  | [], k, acc, _, h => h
  | t :: ts, k, acc, ht, h => by
    unfold textFrom
    refine asc_from ts _ _ (fun u hu => ht u (List.mem_cons_of_mem _ hu)) (asc_app (asc_app h ?_) (ht t List.mem_cons_self))
    split
    · show ∀ c ∈ tl (Str.ofString ", "), c < 128
      rw [tl_ofString]
      decide
    · show ∀ c ∈ tl (Str.ofString ""), c < 128
      rw [tl_ofString]
      decide
theorem asc_list {ts : List Str} (h : ∀ t ∈ ts, Asc t) : Asc (listText ts) := by
  unfold listText
  refine asc_app (asc_from ts 0 _ h ?_) ?_
  · show ∀ c ∈ tl (Str.ofString "["), c < 128
    rw [tl_ofString]
    decide
  · show ∀ c ∈ tl (Str.ofString "]"), c < 128
    rw [tl_ofString]
    decide
theorem asc_row : ∀ ws : List (List Nat), (∀ w ∈ ws, ∀ c ∈ w, c < 128) → ∀ t ∈ PyData.shownAll (ws.map dS), Asc t
  | [], _, t, ht => by simp [PyData.shownAll] at ht
  | w :: ws, h, t, ht => by
    simp only [List.map_cons, PyData.shownAll, List.mem_cons] at ht
    rcases ht with rfl | ht
    · simp only [dS, PyData.shown]
      exact asc_repr (h w List.mem_cons_self)
    · exact asc_row ws (fun v hv => h v (List.mem_cons_of_mem _ hv)) t ht
theorem asc_rows : ∀ rows : List (List (List Nat)), AscR rows → ∀ t ∈ PyData.shownAll (rows.map dRow), Asc t
  | [], _, t, ht => by simp [PyData.shownAll] at ht
  | ws :: rows, h, t, ht => by
    simp only [List.map_cons, PyData.shownAll, List.mem_cons] at ht
    rcases ht with rfl | ht
    · simp only [dRow, PyData.shown]
      exact asc_list (asc_row ws (h ws List.mem_cons_self))
    · exact asc_rows rows (fun v hv => h v (List.mem_cons_of_mem _ hv)) t ht
theorem rows_asc {rows : List (List (List Nat))} (h : AscR rows) : Asc (dRows rows).shown := by
  simp only [dRows, PyData.shown]
  exact asc_list (asc_rows rows h)
/-! ### tests of texts -/
theorem lit_if {a b : List Nat} {s : String} {A B : Prop} (hb : s.toList.map Char.toNat = b) (h1 : a = b → A) (h2 : a ≠ b → B) : if decide (V.str (mk a) = V.str (Str.ofString s)) = true then A else B := by
  have e : Str.ofString s = mk b := by rw [mk_lit, hb]
  rw [e]
  exact str_if h1 h2
theorem litn_if {a b : List Nat} {s : String} {A B : Prop} (hb : s.toList.map Char.toNat = b) (h1 : a ≠ b → A) (h2 : a = b → B) : if (!decide (V.str (mk a) = V.str (Str.ofString s))) = true then A else B := by
  have e : Str.ofString s = mk b := by rw [mk_lit, hb]
  rw [e]
  exact strn_if h1 h2
theorem le_a {c b : Nat} {s : String} (hs : s.toList.map Char.toNat = [b]) : (!decide ((mk [c]).cps.toList < (Str.ofString s).cps.toList)) = decide (b ≤ c) := by
  have e : (Str.ofString s).cps.toList = [b] := by rw [← hs]; exact tl_ofString s
  have e2 : (mk [c]).cps.toList = [c] := rfl
  rw [e, e2]
  by_cases h : b ≤ c
  · rw [decide_eq_true h, decide_eq_false (fun z => by have := (lt1 c b).mp z; omega)]
    rfl
  · rw [decide_eq_false h, decide_eq_true ((lt1 c b).mpr (by omega))]
    rfl
theorem le_b {c b : Nat} {s : String} (hs : s.toList.map Char.toNat = [b]) : (!decide ((Str.ofString s).cps.toList < (mk [c]).cps.toList)) = decide (c ≤ b) := by
  have e : (Str.ofString s).cps.toList = [b] := by rw [← hs]; exact tl_ofString s
  have e2 : (mk [c]).cps.toList = [c] := rfl
  rw [e, e2]
  by_cases h : c ≤ b
  · rw [decide_eq_true h, decide_eq_false (fun z => by have := (lt1 b c).mp z; omega)]
    rfl
  · rw [decide_eq_false h, decide_eq_true ((lt1 b c).mpr (by omega))]
    rfl
/-- '!' <= sign <= '~' -/
theorem sign_if {ta : TE} {σ : L2.St} {H : Hp} {c : Nat} {Q : Bool → Hp → Prop} (ha : ∀ R : VK, R (.str (mk [c])) H → ta σ H R) (h : Q (Lns.okS c) H) :
    tTest (tChain (fun x y H Q => ∃ i j, x = .str i ∧ y = .str j ∧ Q (.bl (!decide (j.cps.toList < i.cps.toList))) H) (fun x y H Q => ∃ i j, x = .str i ∧ y = .str j ∧ Q (.bl (!decide (j.cps.toList < i.cps.toList))) H)
      (tC (.str (Str.ofString "!"))) ta (tC (.str (Str.ofString "~")))) σ H Q := by
  refine ha _ ⟨_, _, rfl, rfl, _, rfl, ?_⟩
  rw [le_a (b := 33) (by decide)]
  by_cases h1 : 33 ≤ c
  · refine iteY (decide_eq_true h1) ⟨_, _, rfl, rfl, _, rfl, ?_⟩
    rw [le_b (b := 126) (by decide)]
    have e : Lns.okS c = decide (c ≤ 126) := by
      unfold Lns.okS
      rw [decide_eq_true h1]
      rfl
    rw [← e]
    exact h
  · refine iteN (decide_eq_false h1) ⟨_, rfl, ?_⟩
    have e : Lns.okS c = false := by
      unfold Lns.okS
      rw [decide_eq_false h1]
      rfl
    rw [← e]
    exact h
theorem at_lastm {α : Type} {xs : List α} {v : α} (h : xs[xs.length - 1]? = some v) : atI xs (-1) = some v := by
  have hl : 0 < xs.length := by
    have := (List.getElem?_eq_some_iff.mp h).1
    omega
  have e : xs.dropLast ++ [v] = xs := by
    have ne : xs ≠ [] := by
      intro z
      rw [z] at hl
      simp at hl
    have := List.dropLast_concat_getLast ne
    rw [List.getLast_eq_getElem] at this
    have g := (List.getElem?_eq_some_iff.mp h).2
    rw [g] at this
    exact this
  rw [← e]
  exact atI_last _ _
theorem lit1_eq {c b : Nat} {s : String} (hs : s.toList.map Char.toNat = [b]) : decide (V.str (mk [c]) = V.str (Str.ofString s)) = decide (c = b) := by
  have e : Str.ofString s = mk [b] := by rw [mk_lit, hs]
  rw [e]
  by_cases h : c = b
  · rw [decide_eq_true h, h]
    exact decide_eq_true rfl
  · rw [decide_eq_false h]
    exact decide_eq_false fun z => h (by have := mk_inj (V.str.inj z); simpa using this)
theorem lit1_ne {c b : Nat} {s : String} (hs : s.toList.map Char.toNat = [b]) : (!decide (V.str (mk [c]) = V.str (Str.ofString s))) = decide (c ≠ b) := by
  rw [lit1_eq hs]
  by_cases h : c = b <;> simp [h]
/-- short texts of plain signs -/
def TxS (n : Nat) (y : Str) : Prop := y.length ≤ n ∧ Asc y
theorem TxS.more {n m : Nat} {y : Str} (h : TxS n y) (le : n ≤ m) : TxS m y := ⟨Nat.le_trans h.1 le, h.2⟩
theorem str_app_len (x y : Str) : (x ++ y).length = x.length + y.length := by
  rw [len_tl, len_tl, len_tl, tl_append, List.length_append]
theorem TxS.app {n m : Nat} {x y : Str} (h : TxS n x) (g : TxS m y) : TxS (n + m) (x ++ y) :=
  ⟨by rw [str_app_len]; exact Nat.add_le_add h.1 g.1, asc_app h.2 g.2⟩
theorem TxS.cut {n : Nat} {x : Str} (h : TxS n x) (lo hi : Option Int) : TxS n (cutS x lo hi) := by
  refine ⟨Nat.le_trans (cutS_length x lo hi) h.1, fun c hc => ?_⟩
  have e : tl (cutS x lo hi) = (x.cps.toList.drop (HT.sIx x.length 0 lo)).take (HT.sIx x.length x.length hi - HT.sIx x.length 0 lo) := rfl
  rw [e] at hc
  exact h.2 c (List.mem_of_mem_drop (List.mem_of_mem_take hc))
theorem TxS.lit {s : String} {n : Nat} (h1 : (s.toList.map Char.toNat).length ≤ n) (h2 : ∀ c ∈ s.toList.map Char.toNat, c < 128) : TxS n (Str.ofString s) :=
  ⟨by rw [len_tl, tl_ofString]; exact h1, fun c hc => by rw [tl_ofString] at hc; exact h2 c hc⟩
theorem TxS.tx {n : Nat} {y : Str} (h : TxS n y) : Tx n (tl y) := ⟨by rw [← len_tl]; exact h.1, h.2⟩
theorem line_le {n : Nat} (h : n ≤ 16000000) : n ≤ sizeLine := Nat.le_trans h (by decide)
/-- t1 or t2, both answers known -/
theorem tOr_p {t1 t2 : TT} {σ : L2.St} {H : Hp} {Q : Bool → Hp → Prop} {p q : Prop} [Decidable p] [Decidable q] (h1 : ∀ R : Bool → Hp → Prop, R (decide p) H → t1 σ H R) (h2 : ∀ R : Bool → Hp → Prop, R (decide q) H → t2 σ H R) (h : Q (decide (p ∨ q)) H) : tOr t1 t2 σ H Q := by
  refine h1 _ ?_
  by_cases hp : p
  · refine iteY (decide_eq_true hp) ?_
    rw [decide_eq_true (Or.inl hp)] at h
    exact h
  · refine iteN (decide_eq_false hp) (h2 _ ?_)
    have e : decide (p ∨ q) = decide q := by simp [hp]
    rw [← e]
    exact h
/-- t1 and t2, where only the second one's answer matters -/
theorem tAnd_any {t1 t2 : TT} {σ : L2.St} {H : Hp} {Q : Bool → Hp → Prop} {p : Prop} (h1 : ∀ R : Bool → Hp → Prop, (∀ c, R c H) → t1 σ H R) (h2 : ∀ R : Bool → Hp → Prop, (p → R true H) → R false H → t2 σ H R) (hT : p → Q true H) (hF : Q false H) : tAnd t1 t2 σ H Q := by
  refine h1 _ fun c => ?_
  cases c with
  | true => exact iteT (h2 _ hT hF)
  | false => exact iteF hF
theorem dec_R {p : Prop} [Decidable p] {R : Bool → Hp → Prop} {H : Hp} (h1 : p → R true H) (h2 : R false H) : R (decide p) H := by
  by_cases h : p
  · rw [decide_eq_true h]
    exact h1 h
  · rw [decide_eq_false h]
    exact h2
/-- t1 or t2, both answers known, the second one asked only behind the first -/
theorem tOr_p2 {t1 t2 : TT} {σ : L2.St} {H : Hp} {Q : Bool → Hp → Prop} {p q : Prop} [Decidable p] [Decidable q] (h1 : ∀ R : Bool → Hp → Prop, R (decide p) H → t1 σ H R) (h2 : ¬ p → ∀ R : Bool → Hp → Prop, R (decide q) H → t2 σ H R) (h : Q (decide (p ∨ q)) H) : tOr t1 t2 σ H Q := by
  refine h1 _ ?_
  by_cases hp : p
  · refine iteY (decide_eq_true hp) ?_
    rw [decide_eq_true (Or.inl hp)] at h
    exact h
  · refine iteN (decide_eq_false hp) (h2 hp _ ?_)
    have e : decide (p ∨ q) = decide q := by simp [hp]
    rw [← e]
    exact h
/-- t1 and t2, both answers known -/
theorem tAnd_p {t1 t2 : TT} {σ : L2.St} {H : Hp} {Q : Bool → Hp → Prop} {p q : Prop} [Decidable p] [Decidable q] (h1 : ∀ R : Bool → Hp → Prop, R (decide p) H → t1 σ H R) (h2 : p → ∀ R : Bool → Hp → Prop, R (decide q) H → t2 σ H R) (h : Q (decide (p ∧ q)) H) : tAnd t1 t2 σ H Q := by
  refine h1 _ ?_
  by_cases hp : p
  · refine iteY (decide_eq_true hp) (h2 hp _ ?_)
    have e : decide (p ∧ q) = decide q := by simp [hp]
    rw [← e]
    exact h
  · refine iteN (decide_eq_false hp) ?_
    have e : decide (p ∧ q) = false := by simp [hp]
    rw [← e]
    exact h
theorem lit_eq {a b : List Nat} {s : String} (hb : s.toList.map Char.toNat = b) : decide (V.str (mk a) = V.str (Str.ofString s)) = decide (a = b) := by
  have e : Str.ofString s = mk b := by rw [mk_lit, hb]
  rw [e]
  by_cases h : a = b
  · rw [decide_eq_true h, h]
    exact decide_eq_true rfl
  · rw [decide_eq_false h]
    exact decide_eq_false fun z => h (mk_inj (V.str.inj z))
theorem int_eq {a b : Int} : decide (V.int a = V.int b) = decide (a = b) := by
  by_cases h : a = b
  · rw [decide_eq_true h, h]
    exact decide_eq_true rfl
  · rw [decide_eq_false h]
    exact decide_eq_false fun z => h (V.int.inj z)
end L2

/-! # Fractions: the lowest terms by taking rests, and how long that takes. Plain Lean -/
namespace Frc
/-- (F k, F (k + 1)) of Fibonacci's numbers -/
def fibP : Nat → Nat × Nat
  | 0 => (0, 1)
  | k + 1 => ((fibP k).2, (fibP k).1 + (fibP k).2)
def fib (k : Nat) : Nat := (fibP k).1
theorem fib_step (k : Nat) : fib (k + 2) = fib k + fib (k + 1) := rfl
/-- by a fold, for large numbers -/
def fibL : Nat → Nat → Nat → Nat
  | 0, a, _ => a
  | k + 1, a, b => fibL k b (a + b)
theorem fibL_eq : ∀ (k m : Nat), fibL k (fib m) (fib (m + 1)) = fib (m + k)
  | 0, m => rfl
  | k + 1, m => by
    show fibL k (fib (m + 1)) (fib m + fib (m + 1)) = _
    rw [← fib_step, fibL_eq k (m + 1)]
    congr 1
    omega
theorem fib_large : 10 ^ 400 < fib 2000 := by
  have := fibL_eq 2000 0
  rw [Nat.zero_add] at this
  rw [← this]
  show 10 ^ 400 < fibL 2000 0 1
  decide +kernel
/-- where the rests stand behind k steps: one and two, from top and bottom -/
structure At (t b k one two : Nat) : Prop where
  gcd : Nat.gcd one two = Nat.gcd t b
  pos : 0 < one ∨ k = 0
  big : k = 0 → two = b
  less : 0 < k → two < one
  fb : 0 < k → Frc.fib k * one + Frc.fib (k - 1) * two ≤ b
theorem At.zero (t b : Nat) : At t b 0 t b := ⟨rfl, .inr rfl, fun _ => rfl, fun h => absurd h (by omega), fun h => absurd h (by omega)⟩
theorem At.step {t b k one two : Nat} (h : At t b k one two) (h2 : 0 < two) : At t b (k + 1) two (one % two) := by
  have lt := Nat.mod_lt one h2
  refine ⟨?_, .inl h2, fun z => by omega, fun _ => lt, fun _ => ?_⟩
  · rw [Nat.gcd_comm, ← Nat.gcd_rec, Nat.gcd_comm]
    exact h.gcd
  · by_cases k0 : k = 0
    · have e := h.big k0
      rw [k0, e]
      show 1 * b + 0 * (one % b) ≤ b
      omega
    · have f := h.fb (by omega)
      have l := h.less (by omega)
      have q : two + one % two ≤ one := by
        have e := Nat.div_add_mod one two
        have p : 1 ≤ one / two := (Nat.le_div_iff_mul_le h2).mpr (by omega)
        have m : two * 1 ≤ two * (one / two) := Nat.mul_le_mul_left _ p
        omega
      obtain ⟨j, rfl⟩ : ∃ j, k = j + 1 := ⟨k - 1, by omega⟩
      show Frc.fib (j + 1 + 1) * two + Frc.fib (j + 1) * (one % two) ≤ b
      have s : Frc.fib (j + 1 + 1) = Frc.fib j + Frc.fib (j + 1) := fib_step j
      rw [s, Nat.add_mul]
      have f' : Frc.fib (j + 1) * one + Frc.fib j * two ≤ b := f
      have m : Frc.fib (j + 1) * (two + one % two) ≤ Frc.fib (j + 1) * one := Nat.mul_le_mul_left _ q
      rw [Nat.mul_add] at m
      omega
theorem At.late {t b one two : Nat} (h : At t b 2000 one two) (hb : b < 10 ^ 400) : False := by
  have f := h.fb (by omega)
  have p : 0 < one := by
    rcases h.pos with z | z
    · exact z
    · omega
  have l := fib_large
  have m : fib 2000 * 1 ≤ fib 2000 * one := Nat.mul_le_mul_left _ p
  omega
theorem At.done {t b k one : Nat} (h : At t b k one 0) : one = Nat.gcd t b := by
  have := h.gcd
  rw [Nat.gcd_zero_right] at this
  exact this
/-- top / bottom in lowest terms (bottom above 0) -/
def low (t b : Int) : Int × Int := (t / (Nat.gcd t.natAbs b.natAbs : Nat), b / (Nat.gcd t.natAbs b.natAbs : Nat))
theorem gcd_pos {t b : Int} (h : b ≠ 0) : 0 < Nat.gcd t.natAbs b.natAbs := Nat.gcd_pos_of_pos_right _ (by omega)
theorem low_neg (t b : Int) : low (-t) (-b) = ((-t) / (Nat.gcd t.natAbs b.natAbs : Nat), (-b) / (Nat.gcd t.natAbs b.natAbs : Nat)) := by
  unfold low
  rw [Int.natAbs_neg, Int.natAbs_neg]
/-- the lowest terms are the terms themselves, if only 1 divides both -/
theorem low_eq {t b : Int} (hb : 0 < b) : low t b = (t, b) ↔ Nat.gcd t.natAbs b.natAbs = 1 := by
  have g := gcd_pos (t := t) (b := b) (by omega)
  constructor
  · intro h
    have h2 : b / (Nat.gcd t.natAbs b.natAbs : Nat) = b := congrArg Prod.snd h
    refine Classical.byContradiction fun ne => ?_
    have g2 : 2 ≤ Nat.gcd t.natAbs b.natAbs := by omega
    have : b / (Nat.gcd t.natAbs b.natAbs : Nat) < b := Int.ediv_lt_of_lt_mul (by omega) (by
      have : (2 : Int) ≤ ((Nat.gcd t.natAbs b.natAbs : Nat) : Int) := by omega
      have m : b * 2 ≤ b * ((Nat.gcd t.natAbs b.natAbs : Nat) : Int) := Int.mul_le_mul_of_nonneg_left this (by omega)
      omega)
    omega
  · intro h
    unfold low
    rw [h]
    simp

/-! ### words of digits -/
def isD (c : Nat) : Bool := decide (48 ≤ c) && decide (c ≤ 57)
def val (cs : List Nat) : Nat := cs.foldl (fun acc c => acc * 10 + (c - 48)) 0
/-- the number that a word of digits tells, -1 if it tells none -/
def dig (l : List Nat) : Int := if l = [] ∨ 300 < l.length ∨ (l.head? = some 48 ∧ 1 < l.length) then -1 else if l.all isD = true then (val l : Int) else -1
theorem val_snoc (cs : List Nat) (c : Nat) : val (cs ++ [c]) = val cs * 10 + (c - 48) := by
  unfold val
  rw [List.foldl_append]
  rfl
theorem val_lt : ∀ (n : Nat) (cs : List Nat), cs.length = n → cs.all isD = true → val cs < 10 ^ n
  | 0, cs, h, _ => by
    have := List.eq_nil_of_length_eq_zero h
    rw [this]
    decide
  | n + 1, cs, h, hd => by
    have ne : cs ≠ [] := by
      intro z
      rw [z] at h
      simp at h
    rw [← List.dropLast_concat_getLast ne] at hd ⊢
    rw [List.all_append] at hd
    rw [Bool.and_eq_true] at hd
    have ih := val_lt n cs.dropLast (by simp [h]) hd.1
    rw [val_snoc]
    have hc : isD (cs.getLast ne) = true := by simpa using hd.2
    unfold isD at hc
    simp at hc
    rw [Nat.pow_succ]
    omega
theorem dig_lt (l : List Nat) : dig l < 10 ^ 300 := by
  unfold dig
  split
  · exact Int.lt_of_lt_of_le (show (-1 : Int) < 0 by decide) (Int.pow_nonneg (by decide))
  · split
    · rename_i h1 h2
      have a := val_lt l.length l rfl h2
      have b : l.length ≤ 300 := by omega
      have c : 10 ^ l.length ≤ 10 ^ 300 := Nat.pow_le_pow_right (by decide) b
      have d : val l < 10 ^ 300 := by omega
      exact_mod_cast d
    · exact Int.lt_of_lt_of_le (show (-1 : Int) < 0 by decide) (Int.pow_nonneg (by decide))
theorem dig_ge (l : List Nat) : -1 ≤ dig l := by
  unfold dig
  split
  · omega
  · split <;> omega
theorem val_pos : ∀ (cs : List Nat) (c : Nat), 48 < c → 0 < val (c :: cs) := by
  have key : ∀ (cs : List Nat) (a : Nat), 0 < a → 0 < cs.foldl (fun acc c => acc * 10 + (c - 48)) a := by
    intro cs
    induction cs with
    | nil => intro a h; exact h
    | cons c cs ih => intro a h; exact ih _ (by show 0 < a * 10 + (c - 48); omega)
  intro cs c h
  unfold val
  exact key cs _ (by show 0 < 0 * 10 + (c - 48); omega)
/-- only the word 0 tells 0 -/
theorem dig_zero {l : List Nat} : dig l = 0 ↔ l = [48] := by
  constructor
  · intro h
    unfold dig at h
    split at h
    · omega
    · rename_i h1
      split at h
      · rename_i h2
        cases l with
        | nil => exact absurd (.inl rfl) h1
        | cons c cs =>
          by_cases c48 : c = 48
          · subst c48
            cases cs with
            | nil => rfl
            | cons d ds => exact absurd (.inr (.inr ⟨rfl, by simp⟩)) h1
          · have hc : isD c = true := by
              rw [List.all_cons, Bool.and_eq_true] at h2
              exact h2.1
            unfold isD at hc
            simp at hc
            have := val_pos cs c (by omega)
            omega
      · omega
  · intro h
    rw [h]
    decide
end Frc

/-! # Own layer: repr of any data; exact slices; numbers as texts -/
namespace L2
open PySem PySem.Spec PyProof.Rows TL
section
variable {X : Cx}
/-- repr(x), x any data -/
def rReprX (K : PySem.W.Frag) : List V → Hp → VK → Prop := fun xs H Q => ∃ (x : V) (d : PyData), xs = [x] ∧ Dp K H x d ∧ SeqAt.shaped d = true ∧ d.showable = true ∧ d.shown.length ≤ sizeLine ∧ Q (.str d.shown) H
theorem cr_reprX (hgu : X.A.guards = some []) (hu : X.A.units + 66 < cLine) : CallR X (.builtin "repr") (rReprX X.K) := by
  intro pins s σ H xs us Q I r h
  obtain ⟨x, d, rfl, hd, sd, hs, hz, q⟩ := h
  cases hd with
  | non =>
    match us, r with
    | [u], .cons (rx : u = Value.none) .nil =>
      subst rx
      exact PySem.P.repr_of_none ⟨.str (PyData.shown .none), H, I.tok _, ⟨s.toks, rfl⟩, q⟩
  | bl b =>
    match us, r with
    | [u], .cons (rx : u = Value.bool b) .nil =>
      subst rx
      refine PySem.P.repr_of_bool ⟨.str (PyData.shown (.bool b)), H, I.tok _, ⟨s.toks, ?_⟩, q⟩
      cases b <;> rfl
  | int i =>
    match us, r with
    | [u], .cons (rx : ∃ t, u = Value.int i t) .nil =>
      obtain ⟨t, rfl⟩ := rx
      exact PySem.P.repr_of_int (of_decide_eq_true hs) ⟨.str (PyData.shown (.int i)), H, I.tok _, ⟨s.toks, rfl⟩, q⟩
  | str y =>
    match us, r with
    | [u], .cons (rx : ∃ t, u = Value.str y t) .nil =>
      obtain ⟨t, rfl⟩ := rx
      exact PySem.P.repr_of_str ⟨.str (PyData.shown (.str y)), H, I.tok _, ⟨s.toks, rfl⟩, q⟩ hz
  | @lst a ys ds h1 h2 => exact cr_reprD hgu hu pins s σ H _ us Q I r ⟨a, _, rfl, .lst h1 h2, sd, hs, hz, q⟩
  | @tup a ys ds h1 h2 => exact cr_reprD hgu hu pins s σ H _ us Q I r ⟨a, _, rfl, .tup h1 h2, sd, hs, hz, q⟩
end
/-- _law_same(left, right): the same data -/
def spSameX (K : PySem.W.Frag) : Sp := fun vs H Q _ => ∃ (x y : V) (d : PyData), vs = [x, y] ∧ Dp K H x d ∧ Dp K H y d ∧ SeqAt.shaped d = true ∧ d.showable = true ∧ d.shown.length ≤ sizeLine ∧ Q (.bl true) H
theorem cut_take (l : List Nat) (k : Nat) : cutS (mk l) none (some (k : Int)) = mk (l.take k) := by
  have e1 : HT.sIx (mk l).length 0 none = 0 := rfl
  unfold cutS
  rw [e1, HT.sIx_nat, mk_len]
  have e : (mk l).cps.toList = l := rfl
  rw [e, List.drop_zero, Nat.sub_zero]
  show mk (l.take (min k l.length)) = _
  by_cases h : k ≤ l.length
  · rw [Nat.min_eq_left h]
  · rw [Nat.min_eq_right (by omega), List.take_of_length_le (Nat.le_refl _), List.take_of_length_le (by omega)]
theorem cut_dropS (l : List Nat) (k : Nat) : cutS (mk l) (some (k : Int)) none = mk (l.drop k) := by
  have e1 : HT.sIx (mk l).length (mk l).length none = (mk l).length := rfl
  unfold cutS
  rw [e1, HT.sIx_nat, mk_len]
  have e : (mk l).cps.toList = l := rfl
  rw [e]
  show mk ((l.drop (min k l.length)).take (l.length - min k l.length)) = _
  rw [List.take_of_length_le (by rw [List.length_drop]; omega)]
  by_cases h : k ≤ l.length
  · rw [Nat.min_eq_left h]
  · rw [Nat.min_eq_right (by omega), List.drop_of_length_le (Nat.le_refl _), List.drop_of_length_le (by omega)]
/-- the text of a number -/
def numT (i : Int) : List Nat := tl (Str.ofString (toString i))
theorem mk_num (i : Int) : Str.ofString (toString i) = mk (numT i) := (mkt _).symm
theorem numT_nat (n : Nat) : numT (n : Int) = numL n := tl_num n
theorem numT_neg (n : Nat) : numT (-((n + 1 : Nat) : Int)) = 45 :: numL (n + 1) := by
  unfold numT
  have e : toString (-((n + 1 : Nat) : Int)) = "-" ++ toString (((n + 1 : Nat) : Nat)) := rfl
  have e2 : toString (((n + 1 : Nat) : Int)) = toString ((n + 1 : Nat)) := rfl
  rw [tl_ofString, e, String.toList_append, List.map_append]
  have := tl_num (n + 1)
  rw [tl_ofString, e2] at this
  rw [this]
  rfl
theorem numT_asc (i : Int) : ∀ c ∈ numT i, c < 128 := by
  have key : ∀ n : Nat, ∀ c ∈ numL n, c < 128 := fun n c hc => by
    have := numL_digits n c hc
    omega
  cases i with
  | ofNat n => exact fun c hc => key n c (by rw [← numT_nat]; exact hc)
  | negSucc n =>
    intro c hc
    have e : (Int.negSucc n) = -((n + 1 : Nat) : Int) := rfl
    rw [e, numT_neg] at hc
    rcases List.mem_cons.mp hc with z | z
    · omega
    · exact key _ c z
theorem numT_len {i : Int} {k : Nat} (hk : 0 < k) (h : i.natAbs < 10 ^ k) : (numT i).length ≤ k + 1 := by
  cases i with
  | ofNat n =>
    have e : numT (Int.ofNat n) = numL n := numT_nat n
    rw [e]
    have := numL_len hk (n := n) h
    omega
  | negSucc n =>
    have e : (Int.negSucc n) = -((n + 1 : Nat) : Int) := rfl
    rw [e, numT_neg, List.length_cons]
    have := numL_len hk (n := n + 1) (by simpa using h)
    omega
theorem log_1920 {i : Int} (h : i.natAbs < 10 ^ 570) : i.natAbs.log2 < 1920 := by
  by_cases c : i.natAbs = 0
  · rw [c]
    decide
  · rw [Nat.log2_lt c]
    exact Nat.lt_trans h (by decide +kernel)
theorem int_shown {i : Int} {k : Nat} (hk : 0 < k) (h : i.natAbs < 10 ^ k) : (PyData.shown (.int i)).length ≤ k + 1 := by
  show (Str.ofString (toString i)).length ≤ _
  rw [len_tl]
  exact numT_len hk h
/-! ### int(text) of digits -/
theorem int_dig {l : List Nat} (h : l.all Frc.isD = true) (h1 : l ≠ []) (h2 : l.length ≤ 640) : PySem.intText? (mk l) = some ((Frc.val l : Nat) : Int) := by
  have hd : NumText.AllDigits (mk l).cps.toList := fun c hc => by
    have := List.all_eq_true.mp h c hc
    unfold Frc.isD at this
    simpa using this
  have := PySem.intText_digits hd h1 (by rw [mk_len]; omega)
  exact this
mutual
/-- data stay as long as what is tracked stays -/
theorem dp_fr {K : PySem.W.Frag} {H H' : Hp} (e : Fr [] H H') : ∀ (d : PyData) (v : V), Dp K H v d → Dp K H' v d
  | .none, _, h => by cases h; exact .non
  | .bool b, _, h => by cases h; exact .bl b
  | .int i, _, h => by cases h; exact .int i
  | .str x, _, h => by cases h; exact .str x
  | .list ds, _, h => by
    cases h with
    | lst h1 h2 => exact .lst (e.l h1) (dpa_fr e ds _ h2)
  | .tuple ds, _, h => by
    cases h with
    | tup h1 h2 => exact .tup (e.t h1) (dpa_fr e ds _ h2)
  | .dict _, _, h => by cases h
theorem dpa_fr {K : PySem.W.Frag} {H H' : Hp} (e : Fr [] H H') : ∀ (ds : List PyData) (vs : List V), DpAll K H vs ds → DpAll K H' vs ds
  | [], _, h => by cases h; exact .nil
  | d :: ds, _, h => by
    cases h with
    | cons h1 h2 => exact .cons (dp_fr e d _ h1) (dpa_fr e ds _ h2)
end
end L2

/-! # Own layer: x in xs for ints -/
namespace L2
open PySem PySem.Spec PyProof.Rows
theorem flat_ints (l : List Int) : (l.map V.int).all flatV = true := by
  induction l with
  | nil => rfl
  | cons x l ih => rw [List.map_cons, List.all_cons, ih]; rfl
theorem flat_nats (l : List Nat) : (l.map fun (k : Nat) => V.int (k : Int)).all flatV = true := by
  induction l with
  | nil => rfl
  | cons x l ih => rw [List.map_cons, List.all_cons, ih]; rfl
theorem inV_ints (x : Int) (l : List Int) : inV (V.int x) (l.map V.int) = decide (x ∈ l) := by
  induction l with
  | nil => rfl
  | cons y l ih =>
    show ((y == x) || inV (V.int x) (l.map V.int)) = _
    rw [ih]
    by_cases c : y = x
    · subst c; simp
    · by_cases d : x ∈ l
      · simp [d]
      · have : ¬ x = y := fun e => c e.symm
        simp [c, d, this]
theorem inV_nats (x : Nat) (l : List Nat) : inV (V.int (x : Int)) (l.map fun (k : Nat) => V.int (k : Int)) = decide (x ∈ l) := by
  induction l with
  | nil => rfl
  | cons y l ih =>
    show ((((y : Nat) : Int) == (x : Int)) || inV (V.int (x : Int)) (l.map fun (k : Nat) => V.int (k : Int))) = _
    rw [ih]
    by_cases c : y = x
    · subst c; simp
    · have c' : ¬ ((y : Int) = (x : Int)) := by omega
      by_cases d : x ∈ l
      · simp [d]
      · have : ¬ x = y := fun e => c e.symm
        simp [c', d, this]
theorem inV_pair (x a b : Int) : inV (V.int x) [V.int a, V.int b] = decide (x = a ∨ x = b) := by
  show ((a == x) || ((b == x) || false)) = _
  by_cases c : a = x
  · subst c; simp
  · have c1 : ¬ x = a := fun e => c e.symm
    by_cases d : b = x
    · subst d; simp
    · have d1 : ¬ x = b := fun e => d e.symm
      simp [c, d, c1, d1]
end L2
namespace L2
open PySem PySem.Spec PyProof.Rows
/-- list(x), by a reading that names its written part -/
def rListOf (K : PySem.W.Frag) : List V → Hp → VK → Prop := fun xs H Q => ∃ p ys, xs = [V.ref p] ∧ (SqL K H p ys ∨ SqT K H p ys) ∧ ∀ (l : Addr), H l = none → Q (V.ref l) (upd H l (HO.lst ys))
theorem call_list_ofK {X : Cx} : CallR X (.type "list") (rListOf X.K) := call_list_of
end L2

/-! # Own layer: data that can be compared and shown: depth and shown length -/
namespace L2
open PySem PySem.Spec PyProof.Rows TL
structure OkD (e L : Nat) (d : PyData) : Prop where
  lay : d.canLay0 = true
  dep : d.depth ≤ e
  show_ : d.showable = true
  len : d.shown.length ≤ L
theorem OkD.more {e e' L L' : Nat} {d : PyData} (h : OkD e L d) (he : e ≤ e') (hl : L ≤ L') : OkD e' L' d := ⟨h.lay, Nat.le_trans h.dep he, h.show_, Nat.le_trans h.len hl⟩
theorem OkD.int {i : Int} {k : Nat} (hk : 0 < k) (hk2 : k ≤ 570) (h : i.natAbs < 10 ^ k) : OkD 0 (k + 1) (.int i) := by
  refine ⟨by simp [PyData.canLay0], by simp [PyData.depth], ?_, int_shown hk h⟩
  simp only [PyData.showable, decide_eq_true_eq]
  exact log_1920 (Nat.lt_of_lt_of_le h (Nat.pow_le_pow_right (by decide) hk2))
theorem OkD.bool (b : Bool) : OkD 0 5 (.bool b) := by
  refine ⟨by simp [PyData.canLay0], by simp [PyData.depth], rfl, ?_⟩
  cases b <;> decide
theorem OkD.none : OkD 0 4 .none := ⟨by simp [PyData.canLay0], by simp [PyData.depth], rfl, by decide⟩
theorem OkD.str {y : Str} {n : Nat} (h : TxS n y) : OkD 0 (10 * n + 2) (.str y) := by
  have hr := StrLaws.reprText_len y (fun c hc => Nat.lt_of_lt_of_le (h.2 c hc) (by decide))
  have h1 := h.1
  have ho : PyData.strOk y = true := strOk_mk (l := tl y) h.2
  exact ⟨by simp [PyData.canLay0, ho], by simp [PyData.depth], rfl, by rw [PyData.shown]; omega⟩
theorem layAll_of : ∀ ds : List PyData, (∀ d ∈ ds, d.canLay0 = true) → PyData.canLayAll0 ds = true
  | [], _ => by simp [PyData.canLayAll0]
  | d :: ds, h => by simp [PyData.canLayAll0, h d List.mem_cons_self, layAll_of ds fun x hx => h x (List.mem_cons_of_mem _ hx)]
theorem depAll_of (e : Nat) : ∀ ds : List PyData, (∀ d ∈ ds, d.depth ≤ e) → PyData.depthAll ds ≤ e
  | [], _ => by simp [PyData.depthAll]
  | d :: ds, h => by
    have h1 := h d List.mem_cons_self
    have h2 := depAll_of e ds fun x hx => h x (List.mem_cons_of_mem _ hx)
    simp only [PyData.depthAll]
    omega
theorem showAll_of : ∀ ds : List PyData, (∀ d ∈ ds, d.showable = true) → PyData.showableAll ds = true
  | [], _ => by simp [PyData.showableAll]
  | d :: ds, h => by simp [PyData.showableAll, h d List.mem_cons_self, showAll_of ds fun x hx => h x (List.mem_cons_of_mem _ hx)]
theorem shownAll_len (L : Nat) : ∀ ds : List PyData, (∀ d ∈ ds, d.shown.length ≤ L) → ((PyData.shownAll ds).map (·.length)).sum ≤ ds.length * L ∧ (PyData.shownAll ds).length = ds.length
  | [], _ => by simp [PyData.shownAll]
  | d :: ds, h => by
    have h1 := h d List.mem_cons_self
    have h2 := shownAll_len L ds fun x hx => h x (List.mem_cons_of_mem _ hx)
    simp only [PyData.shownAll, List.map_cons, List.sum_cons, List.length_cons, h2.2, Nat.succ_mul]
    exact ⟨by have := h2.1; omega, trivial⟩
theorem OkD.list {e L n : Nat} {ds : List PyData} (h : ∀ d ∈ ds, OkD e L d) (hn : ds.length ≤ n) : OkD (e + 1) (n * (L + 2) + 3) (.list ds) := by
  refine ⟨?_, ?_, ?_, ?_⟩
  · simp only [PyData.canLay0]
    exact layAll_of ds fun d hd => (h d hd).lay
  · have := depAll_of e ds fun d hd => (h d hd).dep
    simp only [PyData.depth]
    omega
  · simp only [PyData.showable]
    exact showAll_of ds fun d hd => (h d hd).show_
  · have h1 := shownAll_len L ds fun d hd => (h d hd).len
    have h2 := listText_len_le (PyData.shownAll ds)
    rw [PyData.shown]
    have h3 := Nat.mul_le_mul_right (L + 2) hn
    rw [Nat.mul_add] at h3
    have h4 := h1.1
    have h5 := h1.2
    omega
theorem OkD.tup {e L n : Nat} {ds : List PyData} (h : ∀ d ∈ ds, OkD e L d) (hn : ds.length ≤ n) : OkD (e + 1) (n * (L + 2) + 4) (.tuple ds) := by
  refine ⟨?_, ?_, ?_, ?_⟩
  · simp only [PyData.canLay0]
    exact layAll_of ds fun d hd => (h d hd).lay
  · have := depAll_of e ds fun d hd => (h d hd).dep
    simp only [PyData.depth]
    omega
  · simp only [PyData.showable]
    exact showAll_of ds fun d hd => (h d hd).show_
  · have h1 := shownAll_len L ds fun d hd => (h d hd).len
    have h2 := tupleText_len_le (PyData.shownAll ds)
    rw [PyData.shown]
    have h3 := Nat.mul_le_mul_right (L + 2) hn
    rw [Nat.mul_add] at h3
    have h4 := h1.1
    have h5 := h1.2
    omega
theorem OkD.shaped {e L : Nat} {d : PyData} (h : OkD e L d) (he : e ≤ 64 := by decide) : SeqAt.shaped d = true := shaped_of h.lay (Nat.le_trans h.dep he)
theorem OkD.line {e L : Nat} {d : PyData} (h : OkD e L d) (hL : L ≤ 16000000 := by decide) : d.shown.length ≤ sizeLine := line_le (Nat.le_trans h.len hL)
theorem OkD.refl {e L : Nat} {d : PyData} (h : OkD e L d) : PyData.eqv d d = true := SeqAt.eqv_refl d h.lay
theorem OkD.ints {k n : Nat} {xs : List Int} (hk : 0 < k) (hk2 : k ≤ 570) (h : ∀ x ∈ xs, x.natAbs < 10 ^ k) (hn : xs.length ≤ n) : OkD 1 (n * (k + 3) + 3) (dInts xs) := by
  refine OkD.list (e := 0) (L := k + 1) (fun d hd => ?_) (by rw [List.length_map]; exact hn)
  obtain ⟨x, hx, rfl⟩ := List.mem_map.mp hd
  exact OkD.int hk hk2 (h x hx)
def dIss (rows : List (List Int)) : PyData := .list (rows.map dInts)
theorem OkD.rows {k n m : Nat} {rows : List (List Int)} (hk : 0 < k) (hk2 : k ≤ 570) (h : ∀ r ∈ rows, r.length ≤ n ∧ ∀ x ∈ r, x.natAbs < 10 ^ k) (hm : rows.length ≤ m) : OkD 2 (m * (n * (k + 3) + 3 + 2) + 3) (dIss rows) := by
  refine OkD.list (e := 1) (fun d hd => ?_) (by rw [List.length_map]; exact hm)
  obtain ⟨r, hr, rfl⟩ := List.mem_map.mp hd
  exact OkD.ints hk hk2 (h r hr).2 (h r hr).1
theorem dpa_rows_ints {K : PySem.W.Frag} {H : Hp} : ∀ (rs : List Addr) (rows : List (List Int)), rs.length = rows.length → (∀ (k : Nat) (r : Addr) (row : List Int), rs[k]? = some r → rows[k]? = some row → SqL K H r (row.map V.int)) → DpAll K H (rs.map V.ref) (rows.map dInts)
  | [], [], _, _ => .nil
  | r :: rs, row :: rows, hl, h => .cons (dp_ints (h 0 r row rfl rfl)) (dpa_rows_ints rs rows (by simpa using hl) fun k r' row' a b => h (k + 1) r' row' a b)
  | [], _ :: _, hl, _ => by simp at hl
  | _ :: _, [], hl, _ => by simp at hl
end L2

/-! # Own layer: for k in reversed(range(n)) -/
namespace L2
open PySem PySem.Spec PyProof.Rows
theorem for_rev {n : Nat} {g : TG} {tb : TS} {D : Ends} {σ : St} {H : Hp} (Pv : Nat → St → Hp → Prop) (h0 : Pv 0 σ H)
    (hs : ∀ i σ H, i < n → Pv i σ H → g (.int ((n - 1 - i : Nat) : Int)) σ H fun σ2 H2 => tb { D with nx := Pv (i + 1), ct := Pv (i + 1), bk := D.nx } σ2 H2) (hd : ∀ σ H, Pv n σ H → D.nx σ H) :
    ∃ W : Nat → Nat → St → Hp → Prop, (∃ m, W 0 m σ H) ∧ ∀ i m σ H, W i m σ H →
      ((Itc (0 + ((((n : Int) - 0).toNat : Nat) : Int) - 1) (-1) ((n : Int) - 0).toNat).stop i H ∧ D.nx σ H) ∨ ((Itc (0 + ((((n : Int) - 0).toNat : Nat) : Int) - 1) (-1) ((n : Int) - 0).toNat).go i H ∧ ∃ N : St → Hp → Prop, (∀ σ' H', N σ' H' → ∃ m', m' < m ∧ W (i + 1) m' σ' H') ∧
        ∀ x H', (Itc (0 + ((((n : Int) - 0).toNat : Nat) : Int) - 1) (-1) ((n : Int) - 0).toNat).yld i H x H' → g x σ H' fun σ2 H2 => tb { D with nx := N, ct := N, bk := D.nx } σ2 H2) := by
  have e : ((n : Int) - 0).toNat = n := by omega
  rw [e]
  refine for_rangeC Pv h0 (fun i σ H hi p => ?_) hd
  have z : 0 + (n : Int) - 1 + (i : Nat) * -1 = ((n - 1 - i : Nat) : Int) := by omega
  rw [z]
  exact hs i σ H hi p
end L2

/-! # Networks: what is carried, rounds of fractional arcs, rounding. Plain Lean -/
namespace Cir

abbrev Arc := Int × Int
def Good (n : Int) (p : Arc) : Prop := (0 ≤ p.1 ∧ p.1 < n) ∧ (0 ≤ p.2 ∧ p.2 < n) ∧ p.1 ≠ p.2
instance (n : Int) (p : Arc) : Decidable (Good n p) := by unfold Good; infer_instance
def ind (a v : Int) : Int := if a = v then 1 else 0
def dlt (p : Arc) (v : Int) : Int := ind p.2 v - ind p.1 v
def net : List Arc → List Int → Int → Int
  | p :: as, x :: xs, v => x * dlt p v + net as xs v
  | _, _, _ => 0
def arcOf (arcs : List Arc) (k : Nat) : Arc := arcs.getD k (0, 0)
def part (xs : List Int) (k : Nat) : Int := xs.getD k 0

theorem net_snoc : ∀ (as : List Arc) (xs : List Int) (p : Arc) (x v : Int), as.length = xs.length → net (as ++ [p]) (xs ++ [x]) v = net as xs v + x * dlt p v
  | [], [], p, x, v, _ => by simp [net]
  | q :: as, y :: xs, p, x, v, h => by
    have ih := net_snoc as xs p x v (by simpa using h)
    simp only [List.cons_append, net, ih]
    omega
  | [], _ :: _, _, _, _, h => by simp at h
  | _ :: _, [], _, _, _, h => by simp at h
theorem net_set : ∀ (as : List Arc) (xs : List Int) (k : Nat) (y v : Int), as.length = xs.length → k < xs.length → net as (xs.set k y) v = net as xs v + (y - part xs k) * dlt (arcOf as k) v
  | [], [], k, y, v, _, h => by simp at h
  | p :: as, x :: xs, 0, y, v, _, _ => by
    have e1 : part (x :: xs) 0 = x := rfl
    have e2 : arcOf (p :: as) 0 = p := rfl
    rw [List.set_cons_zero, e1, e2]
    simp only [net, Int.sub_mul]
    omega
  | p :: as, x :: xs, k + 1, y, v, hl, h => by
    have ih := net_set as xs k y v (by simpa using hl) (by simpa using h)
    have e1 : part (x :: xs) (k + 1) = part xs k := rfl
    have e2 : arcOf (p :: as) (k + 1) = arcOf as k := rfl
    rw [List.set_cons_succ, e1, e2]
    simp only [net, ih]
    omega
  | [], _ :: _, _, _, _, h, _ => by simp at h
  | _ :: _, [], _, _, _, h, _ => by simp at h
theorem part_get {xs : List Int} {k : Nat} {x : Int} (h : xs[k]? = some x) : part xs k = x := by
  unfold part
  rw [List.getD_eq_getElem?_getD, h]
  rfl
theorem arc_get {xs : List Arc} {k : Nat} {x : Arc} (h : xs[k]? = some x) : arcOf xs k = x := by
  unfold arcOf
  rw [List.getD_eq_getElem?_getD, h]
  rfl
theorem get_part {xs : List Int} {k : Nat} (h : k < xs.length) : xs[k]? = some (part xs k) := by
  rw [List.getElem?_eq_getElem h, part_get (List.getElem?_eq_getElem h)]
theorem get_arc {xs : List Arc} {k : Nat} (h : k < xs.length) : xs[k]? = some (arcOf xs k) := by
  rw [List.getElem?_eq_getElem h, arc_get (List.getElem?_eq_getElem h)]
theorem part_set_same {xs : List Int} {k : Nat} {y : Int} (h : k < xs.length) : part (xs.set k y) k = y := part_get (by rw [List.getElem?_set_self h])
theorem part_set_ne {xs : List Int} {k j : Nat} {y : Int} (h : k ≠ j) : part (xs.set k y) j = part xs j := by
  unfold part
  rw [List.getD_eq_getElem?_getD, List.getD_eq_getElem?_getD, List.getElem?_set_ne h]

/-! ### what enters each node -/
def spareL (n : Nat) (as : List Arc) (xs : List Int) : List Int := (List.range n).map fun (v : Nat) => net as xs (v : Int)
theorem spareL_len (n : Nat) (as : List Arc) (xs : List Int) : (spareL n as xs).length = n := by simp [spareL]
theorem spareL_get {n : Nat} {as : List Arc} {xs : List Int} {i : Int} (h0 : 0 ≤ i) (h : i < n) : (spareL n as xs)[i.toNat]? = some (net as xs i) := by
  unfold spareL
  rw [List.getElem?_map, List.getElem?_range (by omega)]
  simp only [Option.map_some]
  rw [Int.toNat_of_nonneg h0]
theorem spareL_zero (n : Nat) : spareL n [] [] = List.replicate n 0 := by
  apply List.ext_getElem?
  intro i
  unfold spareL
  by_cases h : i < n
  · rw [List.getElem?_map, List.getElem?_range h, List.getElem?_replicate, if_pos h]
    rfl
  · rw [List.getElem?_eq_none (by simp; omega), List.getElem?_eq_none (by simp; omega)]
theorem spare_step {n : Nat} {as : List Arc} {xs : List Int} {p : Arc} {x : Int} (hl : as.length = xs.length) (hg : Good n p) :
    ((spareL n as xs).set p.1.toNat (net as xs p.1 - x)).set p.2.toNat (net as xs p.2 + x) = spareL n (as ++ [p]) (xs ++ [x]) := by
  obtain ⟨⟨h1, h2⟩, ⟨h3, h4⟩, h5⟩ := hg
  apply List.ext_getElem?
  intro i
  by_cases hi : i < n
  · have e : (spareL n (as ++ [p]) (xs ++ [x]))[i]? = some (net as xs i + x * dlt p i) := by
      have := spareL_get (n := n) (as := as ++ [p]) (xs := xs ++ [x]) (i := (i : Int)) (by omega) (by omega)
      rw [Int.toNat_natCast] at this
      rw [this, net_snoc _ _ _ _ _ hl]
    have e0 : (spareL n as xs)[i]? = some (net as xs i) := by
      have := spareL_get (n := n) (as := as) (xs := xs) (i := (i : Int)) (by omega) (by omega)
      rwa [Int.toNat_natCast] at this
    rw [e]
    by_cases c2 : p.2.toNat = i
    · have c3 : (i : Int) = p.2 := by omega
      rw [c2, List.getElem?_set_self (by rw [List.length_set, spareL_len]; omega), c3]
      have e1 : dlt p p.2 = 1 := by
        unfold dlt ind
        rw [if_pos rfl, if_neg h5]
        rfl
      rw [e1, Int.mul_one]
    · rw [List.getElem?_set_ne c2]
      have c3 : p.2 ≠ i := by omega
      by_cases c1 : p.1.toNat = i
      · have c5 : (i : Int) = p.1 := by omega
        rw [c1, List.getElem?_set_self (by rw [spareL_len]; omega), c5]
        have e1 : dlt p p.1 = -1 := by
          unfold dlt ind
          rw [if_pos rfl, if_neg (Ne.symm h5)]
          rfl
        rw [e1]
        congr 1
        omega
      · have c5 : p.1 ≠ i := by omega
        rw [List.getElem?_set_ne c1, e0]
        simp [dlt, ind, if_neg c3, if_neg c5]
  · rw [List.getElem?_eq_none (by simp [spareL_len]; omega), List.getElem?_eq_none (by rw [spareL_len]; omega)]

/-! ### the arcs that touch a node -/
def touch (p : Arc) (v : Int) : Bool := decide (p.1 = v) || decide (p.2 = v)
def nearI (arcs : List Arc) (i : Nat) (v : Int) : List Nat := (List.range i).filter fun k => touch (arcOf arcs k) v
def nearOf (arcs : List Arc) (v : Int) : List Nat := nearI arcs arcs.length v
theorem nearI_succ (arcs : List Arc) (i : Nat) (v : Int) : nearI arcs (i + 1) v = nearI arcs i v ++ (if touch (arcOf arcs i) v then [i] else []) := by
  unfold nearI
  rw [List.range_succ, List.filter_append]
  congr 1
  by_cases h : touch (arcOf arcs i) v = true
  · rw [List.filter_cons, if_pos h, if_pos h]; rfl
  · rw [List.filter_cons, if_neg h, if_neg h]; rfl
theorem mem_near {arcs : List Arc} {v : Int} {k : Nat} : k ∈ nearOf arcs v ↔ k < arcs.length ∧ touch (arcOf arcs k) v = true := by
  unfold nearOf nearI
  rw [List.mem_filter, List.mem_range]
theorem nearI_len (arcs : List Arc) (i : Nat) (v : Int) : (nearI arcs i v).length ≤ i := by
  unfold nearI
  exact Nat.le_trans (List.length_filter_le _ _) (by simp)

/-! ### a round of fractional arcs -/
def frac (p : List Int) (d : Int) (k : Nat) : Bool := decide (part p k % d ≠ 0)
def other (row : List Nat) (p : List Int) (d : Int) (came : Nat) : Nat := (row.find? fun k => decide (k ≠ came) && frac p d k).getD came
def stepN (arcs : List Arc) (arc : Nat) (node : Int) : Int × Int := if (arcOf arcs arc).1 = node then ((arcOf arcs arc).2, 1) else ((arcOf arcs arc).1, -1)
def fround (arcs : List Arc) (p : List Int) (d : Int) : Nat → List Int → List (Nat × Int) → Int → Nat → List (Nat × Int)
  | 0, _, _, _, _ => []
  | f + 1, vs, path, node, arc =>
    if (stepN arcs arc node).1 ∈ vs then (path ++ [(arc, (stepN arcs arc node).2)]).drop (vs.idxOf (stepN arcs arc node).1)
    else fround arcs p d f (vs ++ [(stepN arcs arc node).1]) (path ++ [(arc, (stepN arcs arc node).2)]) (stepN arcs arc node).1 (other (nearOf arcs (stepN arcs arc node).1) p d arc)
def roundOf (n : Nat) (arcs : List Arc) (p : List Int) (d : Int) (start : Nat) : List (Nat × Int) := fround arcs p d (n + 1) [(arcOf arcs start).1] [] (arcOf arcs start).1 start

/-- the arc a, passed in the way w, leads from u to v -/
def Ste (arcs : List Arc) (a : Nat) (w u v : Int) : Prop := (w = 1 ∧ (arcOf arcs a).1 = u ∧ (arcOf arcs a).2 = v) ∨ (w = -1 ∧ (arcOf arcs a).2 = u ∧ (arcOf arcs a).1 = v)
def Wk (arcs : List Arc) : List Int → List (Nat × Int) → Prop
  | [_], [] => True
  | u :: v :: us, q :: path => Ste arcs q.1 q.2 u v ∧ Wk arcs (v :: us) path
  | _, _ => False
theorem Wk.snoc {arcs : List Arc} : ∀ {us : List Int} {path : List (Nat × Int)} {a : Nat} {w u v : Int}, Wk arcs us path → us.getLast? = some u → Ste arcs a w u v → Wk arcs (us ++ [v]) (path ++ [(a, w)])
  | [x], [], a, w, u, v, _, hu, hs => by
    simp at hu
    subst hu
    exact ⟨hs, trivial⟩
  | x :: y :: us, q :: path, a, w, u, v, h, hu, hs => by
    obtain ⟨h1, h2⟩ := h
    refine ⟨h1, ?_⟩
    exact Wk.snoc (us := y :: us) h2 (by rw [List.getLast?_cons_cons] at hu; exact hu) hs
  | [], _, _, _, _, _, h, _, _ => by simp [Wk] at h
  | [x], _ :: _, _, _, _, _, h, _, _ => by simp [Wk] at h
  | _ :: _ :: _, [], _, _, _, _, h, _, _ => by simp [Wk] at h
theorem Wk.len {arcs : List Arc} : ∀ {us : List Int} {path : List (Nat × Int)}, Wk arcs us path → us.length = path.length + 1
  | [_], [], _ => rfl
  | u :: v :: us, q :: path, h => by
    have := Wk.len (us := v :: us) h.2
    simp only [List.length_cons] at this ⊢
    omega
  | [], _, h => by simp [Wk] at h
  | [_], _ :: _, h => by simp [Wk] at h
  | _ :: _ :: _, [], h => by simp [Wk] at h
theorem Wk.drop {arcs : List Arc} : ∀ {us : List Int} {path : List (Nat × Int)} (i : Nat), Wk arcs us path → i ≤ path.length → Wk arcs (us.drop i) (path.drop i)
  | us, path, 0, h, _ => by simpa using h
  | u :: v :: us, q :: path, i + 1, h, hi => by
    have := Wk.drop (us := v :: us) i h.2 (by simpa using hi)
    simpa using this
  | [], _, _ + 1, h, _ => by simp [Wk] at h
  | [_], [], _ + 1, _, hi => by simp at hi
  | [_], _ :: _, _ + 1, h, _ => by simp [Wk] at h
  | _ :: _ :: _, [], _ + 1, h, _ => by simp [Wk] at h
theorem Wk.get {arcs : List Arc} : ∀ {us : List Int} {path : List (Nat × Int)} {i : Nat} {q : Nat × Int}, Wk arcs us path → path[i]? = some q → ∃ u v, us[i]? = some u ∧ us[i + 1]? = some v ∧ Ste arcs q.1 q.2 u v
  | u :: v :: us, q :: path, 0, q', h, hq => by
    simp at hq
    subst hq
    exact ⟨u, v, rfl, rfl, h.1⟩
  | u :: v :: us, q :: path, i + 1, q', h, hq => by
    obtain ⟨a, b, h1, h2, h3⟩ := Wk.get (us := v :: us) (i := i) (q := q') h.2 (by simpa using hq)
    exact ⟨a, b, by simpa using h1, by simpa using h2, h3⟩
  | [], _, _, _, h, _ => by simp [Wk] at h
  | [_], [], _, _, _, hq => by simp at hq
  | [_], _ :: _, _, _, h, _ => by simp [Wk] at h
  | _ :: _ :: _, [], _, _, h, _ => by simp [Wk] at h
def fsum (arcs : List Arc) : List (Nat × Int) → Int → Int
  | [], _ => 0
  | q :: r, v => q.2 * dlt (arcOf arcs q.1) v + fsum arcs r v
theorem Ste.sum {arcs : List Arc} {a : Nat} {w u v : Int} (h : Ste arcs a w u v) (x : Int) : w * dlt (arcOf arcs a) x = ind v x - ind u x := by
  unfold dlt
  rcases h with ⟨rfl, h1, h2⟩ | ⟨rfl, h1, h2⟩
  · rw [h1, h2]; omega
  · rw [h1, h2]; omega
theorem Wk.sum {arcs : List Arc} : ∀ {u : Int} {us : List Int} {path : List (Nat × Int)} {l : Int}, Wk arcs (u :: us) path → (u :: us).getLast? = some l → ∀ x, fsum arcs path x = ind l x - ind u x
  | u, [], [], l, _, hl, x => by
    simp at hl
    subst hl
    simp [fsum]
  | u, v :: us, q :: path, l, h, hl, x => by
    have ih := Wk.sum (u := v) (us := us) h.2 (by rw [List.getLast?_cons_cons] at hl; exact hl) x
    simp only [fsum, ih, Ste.sum h.1 x]
    omega
  | _, [], _ :: _, _, h, _, _ => by simp [Wk] at h
  | _, _ :: _, [], _, h, _, _ => by simp [Wk] at h

/-! ### a round is found -/
theorem nodup_le : ∀ (n : Nat) (l : List Int), l.Nodup → (∀ v ∈ l, 0 ≤ v ∧ v < n) → l.length ≤ n
  | 0, [], _, _ => Nat.le_refl _
  | 0, v :: l, _, h => by
    have := h v List.mem_cons_self
    omega
  | n + 1, l, nd, h => by
    have ih := nodup_le n (l.erase (n : Int)) (nd.erase _) fun v hv => by
      have h1 := h v (List.mem_of_mem_erase hv)
      have h2 : v ≠ n := (nd.mem_erase_iff.mp hv).1
      omega
    have := List.length_erase (a := (n : Int)) (l := l)
    split at this <;> omega
theorem touch_dlt {n : Int} {p : Arc} {v : Int} (hg : Good n p) (h : touch p v = true) : dlt p v = 1 ∨ dlt p v = -1 := by
  unfold touch at h
  unfold dlt ind
  have h5 := hg.2.2
  by_cases c1 : p.1 = v
  · have c2 : p.2 ≠ v := fun e => h5 (c1.trans e.symm)
    rw [if_pos c1, if_neg c2]; omega
  · have c2 : p.2 = v := by simpa [c1] using h
    rw [if_neg c1, if_pos c2]; omega
theorem untouch_dlt {p : Arc} {v : Int} (h : touch p v = false) : dlt p v = 0 := by
  unfold touch at h
  simp only [Bool.or_eq_false_iff, decide_eq_false_iff_not] at h
  unfold dlt ind
  rw [if_neg h.1, if_neg h.2]; rfl
/-- all but the arc a are whole or away from v: the rest is a's -/
theorem net_mod (d v : Int) : ∀ (as : List Arc) (xs : List Int) (a : Nat), as.length = xs.length → a < xs.length →
    (∀ k, k < xs.length → k ≠ a → dlt (arcOf as k) v = 0 ∨ part xs k % d = 0) → ∃ c, net as xs v = c * d + part xs a * dlt (arcOf as a) v
  | [], [], a, _, h, _ => by simp at h
  | p :: as, x :: xs, 0, hl, _, h => by
    have e1 : part (x :: xs) 0 = x := rfl
    have e2 : arcOf (p :: as) 0 = p := rfl
    have all : ∀ (as : List Arc) (xs : List Int), as.length = xs.length → (∀ k, k < xs.length → dlt (arcOf as k) v = 0 ∨ part xs k % d = 0) → ∃ c, net as xs v = c * d := by
      intro as
      induction as with
      | nil =>
        intro xs hl _
        cases xs with
        | nil => exact ⟨0, by simp [net]⟩
        | cons _ _ => simp at hl
      | cons q as ih =>
        intro xs hl h
        cases xs with
        | nil => simp at hl
        | cons y xs =>
          obtain ⟨c, hc⟩ := ih xs (by simpa using hl) fun k hk => h (k + 1) (by simpa using hk)
          rcases h 0 (by simp) with z | z
          · have z' : dlt q v = 0 := z
            exact ⟨c, by simp only [net, z', hc]; omega⟩
          · have z' : y % d = 0 := z
            obtain ⟨e, he⟩ := Int.dvd_of_emod_eq_zero z'
            refine ⟨c + e * dlt q v, ?_⟩
            simp only [net, hc, he, Int.add_mul]
            rw [Int.mul_assoc, Int.mul_comm d, Int.add_comm]
    obtain ⟨c, hc⟩ := all as xs (by simpa using hl) fun k hk => h (k + 1) (by simpa using hk) (by omega)
    refine ⟨c, ?_⟩
    rw [e1, e2]
    simp only [net, hc]
    omega
  | p :: as, x :: xs, a + 1, hl, ha, h => by
    obtain ⟨c, hc⟩ := net_mod d v as xs a (by simpa using hl) (by simpa using ha) fun k hk hne => h (k + 1) (by simpa using hk) (by omega)
    have e1 : part (x :: xs) (a + 1) = part xs a := rfl
    have e2 : arcOf (p :: as) (a + 1) = arcOf as a := rfl
    rw [e1, e2]
    rcases h 0 (by simp) (by omega) with z | z
    · have z' : dlt p v = 0 := z
      exact ⟨c, by simp only [net, z', hc]; omega⟩
    · have z' : x % d = 0 := z
      obtain ⟨e, he⟩ := Int.dvd_of_emod_eq_zero z'
      refine ⟨c + e * dlt p v, ?_⟩
      simp only [net, hc, he, Int.add_mul]
      rw [Int.mul_assoc d, Int.mul_comm d]
      omega
  | [], _ :: _, _, h, _, _ => by simp at h
  | _ :: _, [], _, h, _, _ => by simp at h
theorem bal_other {n : Int} {arcs : List Arc} {p : List Int} {d v : Int} {a : Nat} (hl : arcs.length = p.length) (hg : ∀ k, k < arcs.length → Good n (arcOf arcs k)) (hb : net arcs p v % d = 0)
    (ha : a < arcs.length) (hf : frac p d a = true) (ht : touch (arcOf arcs a) v = true) : ∃ k, k ∈ nearOf arcs v ∧ k ≠ a ∧ frac p d k = true := by
  refine Classical.byContradiction fun no => ?_
  have h : ∀ k, k < p.length → k ≠ a → dlt (arcOf arcs k) v = 0 ∨ part p k % d = 0 := fun k hk hne => by
    by_cases c : touch (arcOf arcs k) v = true
    · right
      refine Classical.byContradiction fun z => no ⟨k, mem_near.mpr ⟨by omega, c⟩, hne, ?_⟩
      unfold frac
      exact decide_eq_true z
    · left
      exact untouch_dlt (by simpa using c)
  obtain ⟨c, hc⟩ := net_mod d v arcs p a hl (by omega) h
  have hf' : part p a % d ≠ 0 := of_decide_eq_true hf
  rw [hc, Int.add_comm, Int.add_mul_emod_self_right] at hb
  rcases touch_dlt (hg a ha) ht with z | z
  · rw [z, Int.mul_one] at hb
    exact hf' hb
  · rw [z, Int.mul_neg, Int.mul_one] at hb
    exact hf' (Int.emod_eq_zero_of_dvd ((Int.dvd_neg).mp (Int.dvd_of_emod_eq_zero hb)))
theorem other_ok {row : List Nat} {p : List Int} {d : Int} {came : Nat} (h : ∃ k, k ∈ row ∧ k ≠ came ∧ frac p d k = true) :
    other row p d came ∈ row ∧ other row p d came ≠ came ∧ frac p d (other row p d came) = true := by
  unfold other
  cases e : row.find? fun k => decide (k ≠ came) && frac p d k with
  | none =>
    obtain ⟨k, h1, h2, h3⟩ := h
    have := List.find?_eq_none.mp e k h1
    simp [h2, h3] at this
  | some k =>
    have h1 := List.find?_some e
    have h2 := List.mem_of_find?_eq_some e
    simp only [Bool.and_eq_true, decide_eq_true_eq] at h1
    exact ⟨h2, h1.1, h1.2⟩

structure St0 (n : Nat) (arcs : List Arc) (p : List Int) (d : Int) (vs : List Int) (path : List (Nat × Int)) (node : Int) (arc : Nat) : Prop where
  wk : Wk arcs vs path
  nd : vs.Nodup
  last : vs.getLast? = some node
  rng : ∀ v ∈ vs, 0 ≤ v ∧ v < n
  ar : arc < arcs.length ∧ frac p d arc = true ∧ touch (arcOf arcs arc) node = true
  old : ∀ q ∈ path, q.1 < arcs.length ∧ frac p d q.1 = true ∧ (q.2 = 1 ∨ q.2 = -1)
  cons : ∀ i q q', path[i]? = some q → path[i + 1]? = some q' → q.1 ≠ q'.1
  lastne : ∀ q, path.getLast? = some q → q.1 ≠ arc
structure Rnd (arcs : List Arc) (p : List Int) (d : Int) (found : List (Nat × Int)) : Prop where
  ne : found ≠ []
  ok : ∀ q ∈ found, q.1 < arcs.length ∧ frac p d q.1 = true ∧ (q.2 = 1 ∨ q.2 = -1)
  nd : (found.map (·.1)).Nodup
  bal : ∀ v, fsum arcs found v = 0
theorem stepN_ste {arcs : List Arc} {arc : Nat} {node : Int} (h : touch (arcOf arcs arc) node = true) : Ste arcs arc (stepN arcs arc node).2 node (stepN arcs arc node).1 ∧ ((stepN arcs arc node).2 = 1 ∨ (stepN arcs arc node).2 = -1) := by
  unfold touch at h
  unfold stepN
  by_cases c : (arcOf arcs arc).1 = node
  · rw [if_pos c]
    exact ⟨.inl ⟨rfl, c, rfl⟩, .inl rfl⟩
  · rw [if_neg c]
    exact ⟨.inr ⟨rfl, by simpa [c] using h, rfl⟩, .inr rfl⟩
theorem Ste.far {n : Int} {arcs : List Arc} {a : Nat} {w u v : Int} (hg : Good n (arcOf arcs a)) (h : Ste arcs a w u v) : (0 ≤ v ∧ v < n) ∧ touch (arcOf arcs a) v = true := by
  unfold touch
  rcases h with ⟨_, h1, h2⟩ | ⟨_, h1, h2⟩
  · refine ⟨by rw [← h2]; exact hg.2.1, ?_⟩
    simp [h2]
  · refine ⟨by rw [← h2]; exact hg.1, ?_⟩
    simp [h2]
theorem getElem?_snoc_last {α : Type} {l : List α} {x y : α} {i : Nat} (h : (l ++ [x])[i]? = some y) : (i < l.length ∧ l[i]? = some y) ∨ (i = l.length ∧ y = x) := by
  by_cases c : i < l.length
  · rw [List.getElem?_append_left c] at h
    exact .inl ⟨c, h⟩
  · rw [List.getElem?_append_right (by omega)] at h
    have : i - l.length = 0 := by
      by_cases z : i - l.length = 0
      · exact z
      · rw [List.getElem?_eq_none (by simp; omega)] at h
        cases h
    rw [this] at h
    exact .inr ⟨by omega, by simpa using h.symm⟩
theorem cons_snoc {n : Nat} {arcs : List Arc} {p : List Int} {d : Int} {vs : List Int} {path : List (Nat × Int)} {node : Int} {arc : Nat} {w : Int} (S : St0 n arcs p d vs path node arc) :
    ∀ i q q', (path ++ [(arc, w)])[i]? = some q → (path ++ [(arc, w)])[i + 1]? = some q' → q.1 ≠ q'.1 := by
  intro i q q' h1 h2
  rcases getElem?_snoc_last h2 with ⟨c2, h2⟩ | ⟨c2, rfl⟩
  · rcases getElem?_snoc_last h1 with ⟨c1, h1⟩ | ⟨c1, _⟩
    · exact S.cons i q q' h1 h2
    · omega
  · rcases getElem?_snoc_last h1 with ⟨c1, h1⟩ | ⟨c1, _⟩
    · refine S.lastne q ?_
      rw [List.getLast?_eq_getElem?, ← h1]
      congr 1
      omega
    · omega
theorem rnd_of {n : Nat} {arcs : List Arc} {p : List Int} {d : Int} {vs : List Int} {path : List (Nat × Int)} {node : Int} {arc : Nat} (hg : ∀ k, k < arcs.length → Good n (arcOf arcs k)) (S : St0 n arcs p d vs path node arc)
    (hin : (stepN arcs arc node).1 ∈ vs) : Rnd arcs p d ((path ++ [(arc, (stepN arcs arc node).2)]).drop (vs.idxOf (stepN arcs arc node).1)) := by
  obtain ⟨hs, hw⟩ := stepN_ste S.ar.2.2
  have wk2 := S.wk.snoc S.last hs
  revert hin hs hw wk2
  generalize (stepN arcs arc node).1 = v
  generalize (stepN arcs arc node).2 = w
  intro hin hs hw wk2
  have hlen := S.wk.len
  have hi : vs.idxOf v < vs.length := List.idxOf_lt_length_of_mem hin
  have hget : vs[vs.idxOf v]? = some v := by rw [List.getElem?_eq_getElem hi, List.getElem_idxOf hi]
  have cs := cons_snoc (w := w) S
  revert hi hget
  generalize vs.idxOf v = i0
  intro hi hget
  have wk3 := wk2.drop i0 (by simp; omega)
  have old2 : ∀ q ∈ path ++ [(arc, w)], q.1 < arcs.length ∧ frac p d q.1 = true ∧ (q.2 = 1 ∨ q.2 = -1) := fun q hq => by
    rcases List.mem_append.mp hq with hq | hq
    · exact S.old q hq
    · rw [List.mem_singleton] at hq
      subst hq
      exact ⟨S.ar.1, S.ar.2.1, hw⟩
  refine ⟨fun e => ?_, fun q hq => old2 q (List.mem_of_mem_drop hq), ?_, fun x => ?_⟩
  · have := congrArg List.length e
    simp at this
    omega
  · rw [List.nodup_iff_pairwise_ne, List.pairwise_iff_getElem]
    intro i j hi2 hj2 hij e
    rw [List.length_map, List.length_drop, List.length_append] at hi2 hj2
    simp only [List.length_cons, List.length_nil] at hi2 hj2
    have gi : ((path ++ [(arc, w)]).drop i0)[i]? = some (((path ++ [(arc, w)]).drop i0)[i]'(by simp; omega)) := List.getElem?_eq_getElem _
    have gj : ((path ++ [(arc, w)]).drop i0)[j]? = some (((path ++ [(arc, w)]).drop i0)[j]'(by simp; omega)) := List.getElem?_eq_getElem _
    obtain ⟨u, v', g1, g2, g3⟩ := wk3.get gi
    obtain ⟨u2, v2, f1, f2, f3⟩ := wk3.get gj
    rw [List.getElem_map, List.getElem_map] at e
    rw [List.getElem?_drop] at g1 g2 f1 f2 gi gj
    have inj : ∀ {a b : Nat} {z : Int}, a < vs.length → b < vs.length → (vs ++ [v])[a]? = some z → (vs ++ [v])[b]? = some z → a = b := fun {a b z} ha hb h1 h2 => by
      rw [List.getElem?_append_left ha] at h1
      rw [List.getElem?_append_left hb] at h2
      obtain ⟨ha', e1⟩ := List.getElem?_eq_some_iff.mp h1
      obtain ⟨hb', e2⟩ := List.getElem?_eq_some_iff.mp h2
      exact (List.getElem_inj S.nd).mp (e1.trans e2.symm)
    have nxt : j ≠ i + 1 := fun z => by
      subst z
      exact cs (i0 + i) _ _ gi (by rw [show i0 + i + 1 = i0 + (i + 1) from by omega]; exact gj) e
    rw [e] at g3
    have two : u = u2 ∨ v' = u2 := by
      rcases g3 with ⟨_, a1, a2⟩ | ⟨_, a1, a2⟩ <;> rcases f3 with ⟨_, b1, b2⟩ | ⟨_, b1, b2⟩
      · exact .inl (a1.symm.trans b1)
      · exact .inr (a2.symm.trans b1)
      · exact .inr (a2.symm.trans b1)
      · exact .inl (a1.symm.trans b1)
    rcases two with z | z
    · rw [z] at g1
      have := inj (by omega) (by omega) g1 f1
      omega
    · rw [z] at g2
      have := inj (by omega) (by omega) g2 f1
      omega
  · have e1 : (vs ++ [v]).drop i0 = v :: (vs ++ [v]).drop (i0 + 1) := by
      have h0 : (vs ++ [v])[i0]? = some v := by rw [List.getElem?_append_left hi]; exact hget
      obtain ⟨h1, h2⟩ := List.getElem?_eq_some_iff.mp h0
      rw [List.drop_eq_getElem_cons h1, h2]
    rw [e1] at wk3
    have := wk3.sum (l := v) (by
      rw [← e1, List.getLast?_drop, if_neg (by simp; omega)]
      simp) x
    rw [this]
    omega
theorem fround_ok {n : Nat} {arcs : List Arc} {p : List Int} {d : Int} (hl : arcs.length = p.length) (hg : ∀ k, k < arcs.length → Good n (arcOf arcs k)) (hb : ∀ v, net arcs p v % d = 0) :
    ∀ (f : Nat) (vs : List Int) (path : List (Nat × Int)) (node : Int) (arc : Nat), St0 n arcs p d vs path node arc → n + 1 ≤ f + vs.length → Rnd arcs p d (fround arcs p d f vs path node arc)
  | 0, vs, path, node, arc, S, hf => by
    have := nodup_le n vs S.nd S.rng
    omega
  | f + 1, vs, path, node, arc, S, hf => by
    unfold fround
    by_cases hin : (stepN arcs arc node).1 ∈ vs
    · rw [if_pos hin]
      exact rnd_of hg S hin
    · rw [if_neg hin]
      obtain ⟨hs, hw⟩ := stepN_ste S.ar.2.2
      have wk2 := S.wk.snoc S.last hs
      have far := hs.far (hg arc S.ar.1)
      have oth := other_ok (bal_other (v := (stepN arcs arc node).1) hl hg (hb _) S.ar.1 S.ar.2.1 far.2)
      have mem := mem_near.mp oth.1
      have cs := cons_snoc (w := (stepN arcs arc node).2) S
      refine fround_ok hl hg hb f _ _ _ _ ⟨wk2, ?_, by simp, fun v hv => ?_, ⟨mem.1, oth.2.2, mem.2⟩, fun q hq => ?_, cs, fun q hq => ?_⟩ (by simp; omega)
      · rw [List.nodup_append]
        refine ⟨S.nd, by simp, fun a ha b hb2 => ?_⟩
        rw [List.mem_singleton] at hb2
        subst hb2
        rintro rfl
        exact hin ha
      · rcases List.mem_append.mp hv with hv | hv
        · exact S.rng v hv
        · rw [List.mem_singleton] at hv
          subst hv
          exact far.1
      · rcases List.mem_append.mp hq with hq | hq
        · exact S.old q hq
        · rw [List.mem_singleton] at hq
          subst hq
          exact ⟨S.ar.1, S.ar.2.1, hw⟩
      · rw [List.getLast?_append] at hq
        simp at hq
        subst hq
        exact Ne.symm oth.2.1
theorem roundOf_ok {n : Nat} {arcs : List Arc} {p : List Int} {d : Int} {k : Nat} (hl : arcs.length = p.length) (hg : ∀ k, k < arcs.length → Good n (arcOf arcs k)) (hb : ∀ v, net arcs p v % d = 0) (hk : k < arcs.length) (hf : frac p d k = true) :
    Rnd arcs p d (roundOf n arcs p d k) := by
  unfold roundOf
  have g := hg k hk
  refine fround_ok hl hg hb _ _ _ _ _ ⟨trivial, by simp, rfl, fun v hv => ?_, ⟨hk, hf, by simp [touch]⟩, fun q hq => by simp at hq, fun i q q' h => by simp at h, fun q h => by simp at h⟩ (by simp)
  rw [List.mem_singleton] at hv
  subst hv
  exact g.1

/-! ### a round is carried -/
def dist (p : List Int) (d : Int) (q : Nat × Int) : Int := (q.2 * -(part p q.1)) % d
def stepOf (p : List Int) (d : Int) (found : List (Nat × Int)) : Int := found.foldl (fun s q => if dist p d q < s then dist p d q else s) d
def applyR (p : List Int) (s : Int) (found : List (Nat × Int)) : List Int := found.foldl (fun p q => p.set q.1 (part p q.1 + q.2 * s)) p
theorem applyR_len (s : Int) : ∀ (f : List (Nat × Int)) (p : List Int), (applyR p s f).length = p.length
  | [], _ => rfl
  | q :: f, p => by
    show (applyR (p.set q.1 (part p q.1 + q.2 * s)) s f).length = p.length
    rw [applyR_len s f, List.length_set]
theorem applyR_net (arcs : List Arc) (s v : Int) : ∀ (f : List (Nat × Int)) (p : List Int), arcs.length = p.length → (∀ q ∈ f, q.1 < arcs.length) → net arcs (applyR p s f) v = net arcs p v + s * fsum arcs f v
  | [], p, _, _ => by simp [applyR, fsum]
  | q :: f, p, hl, h => by
    show net arcs (applyR (p.set q.1 (part p q.1 + q.2 * s)) s f) v = _
    have h0 := h q List.mem_cons_self
    rw [applyR_net arcs s v f _ (by rw [List.length_set]; exact hl) fun q' hq => h q' (List.mem_cons_of_mem _ hq), net_set _ _ _ _ _ hl (by omega)]
    simp only [fsum]
    have e : part p q.1 + q.2 * s - part p q.1 = s * q.2 := by rw [Int.mul_comm s]; omega
    rw [e, Int.mul_add, Int.mul_assoc]
    omega
theorem applyR_out (s : Int) : ∀ (f : List (Nat × Int)) (p : List Int) (k : Nat), k ∉ f.map (·.1) → part (applyR p s f) k = part p k
  | [], _, _, _ => rfl
  | q :: f, p, k, h => by
    show part (applyR (p.set q.1 (part p q.1 + q.2 * s)) s f) k = part p k
    simp only [List.map_cons, List.mem_cons, not_or] at h
    rw [applyR_out s f _ k h.2, part_set_ne (Ne.symm h.1)]
theorem applyR_in (s : Int) : ∀ (f : List (Nat × Int)) (p : List Int), (f.map (·.1)).Nodup → (∀ q ∈ f, q.1 < p.length) → ∀ q ∈ f, part (applyR p s f) q.1 = part p q.1 + q.2 * s
  | [], _, _, _, q, h => by simp at h
  | q' :: f, p, nd, hl, q, hq => by
    show part (applyR (p.set q'.1 (part p q'.1 + q'.2 * s)) s f) q.1 = _
    rw [List.map_cons, List.nodup_cons] at nd
    have h0 := hl q' List.mem_cons_self
    rcases List.mem_cons.mp hq with rfl | hq
    · rw [applyR_out s f _ _ nd.1, part_set_same h0]
    · have ne : q'.1 ≠ q.1 := fun e => nd.1 (by rw [e]; exact List.mem_map_of_mem hq)
      rw [applyR_in s f _ nd.2 (fun q2 h2 => by rw [List.length_set]; exact hl q2 (List.mem_cons_of_mem _ h2)) q hq, part_set_ne ne]
theorem fold_min (g : Nat × Int → Int) : ∀ (f : List (Nat × Int)) (s : Int), (∀ q ∈ f, f.foldl (fun s q => if g q < s then g q else s) s ≤ g q) ∧ f.foldl (fun s q => if g q < s then g q else s) s ≤ s ∧
    (f.foldl (fun s q => if g q < s then g q else s) s = s ∨ ∃ q ∈ f, f.foldl (fun s q => if g q < s then g q else s) s = g q)
  | [], s => ⟨fun q h => by simp at h, Int.le_refl _, .inl rfl⟩
  | q :: f, s => by
    by_cases c : g q < s
    · obtain ⟨h1, h2, h3⟩ := fold_min g f (g q)
      simp only [List.foldl_cons, if_pos c]
      refine ⟨fun q' hq => ?_, by omega, ?_⟩
      · rcases List.mem_cons.mp hq with rfl | hq
        · exact h2
        · exact h1 q' hq
      · rcases h3 with h3 | ⟨q', hq, h3⟩
        · exact .inr ⟨q, List.mem_cons_self, h3⟩
        · exact .inr ⟨q', List.mem_cons_of_mem _ hq, h3⟩
    · obtain ⟨h1, h2, h3⟩ := fold_min g f s
      simp only [List.foldl_cons, if_neg c]
      refine ⟨fun q' hq => ?_, h2, ?_⟩
      · rcases List.mem_cons.mp hq with rfl | hq
        · omega
        · exact h1 q' hq
      · rcases h3 with h3 | ⟨q', hq, h3⟩
        · exact .inl h3
        · exact .inr ⟨q', List.mem_cons_of_mem _ hq, h3⟩
theorem dist_frac {p : List Int} {d : Int} {q : Nat × Int} (hd : 0 < d) (hf : frac p d q.1 = true) (hw : q.2 = 1 ∨ q.2 = -1) : 0 < dist p d q ∧ dist p d q < d ∧ (part p q.1 + q.2 * dist p d q) % d = 0 := by
  have hf' : part p q.1 % d ≠ 0 := of_decide_eq_true hf
  have h1 := Int.emod_nonneg (q.2 * -(part p q.1)) (b := d) (by omega)
  have h2 := Int.emod_lt_of_pos (q.2 * -(part p q.1)) hd
  unfold dist
  have e := Int.emod_add_mul_ediv (q.2 * -(part p q.1)) d
  revert e h1 h2
  generalize (q.2 * -(part p q.1)) % d = r
  generalize (q.2 * -(part p q.1)) / d = c
  intro h1 h2 e
  rcases hw with hw | hw
  · rw [hw] at e ⊢
    have e2 : part p q.1 + 1 * r = d * -c := by rw [Int.mul_neg]; omega
    refine ⟨?_, h2, ?_⟩
    · rcases Int.lt_or_eq_of_le h1 with z | z
      · exact z
      · exfalso
        apply hf'
        have : part p q.1 = d * -c := by omega
        rw [this]
        exact Int.mul_emod_right _ _
    · rw [e2]
      exact Int.mul_emod_right _ _
  · rw [hw] at e ⊢
    have e2 : part p q.1 + -1 * r = d * c := by omega
    refine ⟨?_, h2, ?_⟩
    · rcases Int.lt_or_eq_of_le h1 with z | z
      · exact z
      · exfalso
        apply hf'
        have : part p q.1 = d * c := by omega
        rw [this]
        exact Int.mul_emod_right _ _
    · rw [e2]
      exact Int.mul_emod_right _ _

def turn (n : Nat) (arcs : List Arc) (d : Int) (p : List Int) (k : Nat) : List Int := applyR p (stepOf p d (roundOf n arcs p d k)) (roundOf n arcs p d k)
def fracs (m : Nat) (p : List Int) (d : Int) : Nat := ((List.range m).filter (frac p d)).length
theorem filter_lt {P Q : Nat → Bool} : ∀ (l : List Nat), (∀ k ∈ l, P k = true → Q k = true) → (∃ k ∈ l, Q k = true ∧ P k = false) → (l.filter P).length < (l.filter Q).length
  | [], _, h => by simp at h
  | a :: l, h1, h2 => by
    have le : ∀ (l : List Nat), (∀ k ∈ l, P k = true → Q k = true) → (l.filter P).length ≤ (l.filter Q).length := by
      intro l
      induction l with
      | nil => intro _; exact Nat.le_refl _
      | cons b l ih =>
        intro h
        have ih := ih fun k hk => h k (List.mem_cons_of_mem _ hk)
        have hb := h b List.mem_cons_self
        rw [List.filter_cons, List.filter_cons]
        by_cases c : P b = true
        · rw [if_pos c, if_pos (hb c)]; simp; exact ih
        · rw [if_neg c]
          split
          · simp; omega
          · exact ih
    have h0 := h1 a List.mem_cons_self
    have ht : ∀ k ∈ l, P k = true → Q k = true := fun k hk => h1 k (List.mem_cons_of_mem _ hk)
    rw [List.filter_cons, List.filter_cons]
    obtain ⟨k, hk, hq, hp⟩ := h2
    rcases List.mem_cons.mp hk with rfl | hk
    · rw [if_neg (by rw [hp]; decide), if_pos hq]
      have := le l ht
      simp
      omega
    · have ih := filter_lt l ht ⟨k, hk, hq, hp⟩
      by_cases c : P a = true
      · rw [if_pos c, if_pos (h0 c)]; simp; exact ih
      · rw [if_neg c]
        split
        · simp; omega
        · exact ih

/-- what stays true of the parts -/
structure Inv (arcs : List Arc) (am : List Int) (d : Int) (p : List Int) : Prop where
  len : p.length = arcs.length
  bal : ∀ v, net arcs p v = 0
  lo : ∀ k, k < arcs.length → part am k / d * d ≤ part p k
  hi : ∀ k, k < arcs.length → part p k ≤ -(-(part am k) / d) * d
theorem up_le {d x r h : Int} (hd : 0 < d) (hx : x % d ≠ 0) (h1 : x ≤ h * d) (hr : r ≤ (1 * -x) % d) : x + 1 * r ≤ h * d := by
  have e1 := Int.emod_add_mul_ediv (1 * -x) d
  have e2 := Int.emod_lt_of_pos (1 * -x) hd
  have e3 := Int.emod_nonneg (1 * -x) (b := d) (by omega)
  revert hr e1 e2 e3
  generalize (1 * -x) % d = t
  generalize (1 * -x) / d = c
  intro hr e1 e2 e3
  have ne : x ≠ h * d := fun e => hx (by rw [e]; exact Int.mul_emod_left _ _)
  have lt : x < h * d := by omega
  have e4 : x + t = -c * d := by
    rw [Int.neg_mul, Int.mul_comm c d]
    omega
  have le : -c ≤ h := by
    refine Classical.byContradiction fun z => ?_
    have z1 : h + 1 ≤ -c := by omega
    have z2 : (h + 1) * d ≤ -c * d := Int.mul_le_mul_of_nonneg_right z1 (by omega)
    rw [Int.add_mul] at z2
    omega
  have := Int.mul_le_mul_of_nonneg_right le (show 0 ≤ d by omega)
  omega
theorem down_le {d x r h : Int} (hd : 0 < d) (hx : x % d ≠ 0) (h1 : h * d ≤ x) (hr : r ≤ (-1 * -x) % d) : h * d ≤ x + -1 * r := by
  have := up_le (d := d) (x := -x) (r := r) (h := -h) hd (fun e => hx (Int.emod_eq_zero_of_dvd (Int.dvd_neg.mp (Int.dvd_of_emod_eq_zero e)))) (by rw [Int.neg_mul]; omega)
    (by rw [show (1 : Int) * - -x = -1 * -x by omega]; exact hr)
  rw [Int.neg_mul] at this
  omega
theorem turn_ok {n : Nat} {arcs : List Arc} {am : List Int} {d : Int} {p : List Int} {k : Nat} (hd : 0 < d) (hg : ∀ k, k < arcs.length → Good n (arcOf arcs k)) (I : Inv arcs am d p) (hk : k < arcs.length) (hf : frac p d k = true) :
    Inv arcs am d (turn n arcs d p k) ∧ (∀ j, j < arcs.length → frac (turn n arcs d p k) d j = true → frac p d j = true) ∧ fracs arcs.length (turn n arcs d p k) d < fracs arcs.length p d := by
  have R := roundOf_ok (n := n) (p := p) (d := d) (k := k) I.len.symm hg (fun v => by rw [I.bal v]; exact Int.zero_emod _) hk hf
  unfold turn
  revert R
  generalize roundOf n arcs p d k = f
  intro R
  have hlen : ∀ q ∈ f, q.1 < p.length := fun q hq => by rw [I.len]; exact (R.ok q hq).1
  obtain ⟨m1, m2, m3⟩ := fold_min (dist p d) f d
  have step_le : ∀ q ∈ f, stepOf p d f ≤ dist p d q := m1
  obtain ⟨q0, hq0, e0⟩ : ∃ q ∈ f, stepOf p d f = dist p d q := by
    rcases m3 with m3 | m3
    · exfalso
      cases hf' : f with
      | nil => exact R.ne hf'
      | cons q r =>
        have hq : q ∈ f := by rw [hf']; exact List.mem_cons_self
        have a := step_le q hq
        have b := (dist_frac hd (R.ok q hq).2.1 (R.ok q hq).2.2).2.1
        have c : stepOf p d f = d := m3
        omega
    · exact m3
  have d0 := dist_frac hd (R.ok q0 hq0).2.1 (R.ok q0 hq0).2.2
  have inn := applyR_in (stepOf p d f) f p R.nd hlen
  have out := applyR_out (stepOf p d f) f p
  have key : ∀ j, j < arcs.length → (part (applyR p (stepOf p d f) f) j = part p j) ∨ ∃ q ∈ f, q.1 = j ∧ part (applyR p (stepOf p d f) f) j = part p j + q.2 * stepOf p d f := fun j _ => by
    by_cases c : j ∈ f.map (·.1)
    · obtain ⟨q, hq, e⟩ := List.mem_map.mp c
      exact .inr ⟨q, hq, e, by rw [← e]; exact inn q hq⟩
    · exact .inl (out j c)
  have stays : ∀ j, j < arcs.length → frac (applyR p (stepOf p d f) f) d j = true → frac p d j = true := fun j hj h => by
    rcases key j hj with e | ⟨q, hq, e, _⟩
    · unfold frac at h ⊢
      rw [e] at h
      exact h
    · rw [← e]
      exact (R.ok q hq).2.1
  refine ⟨⟨by rw [applyR_len]; exact I.len, fun v => ?_, fun j hj => ?_, fun j hj => ?_⟩, stays, ?_⟩
  · rw [applyR_net arcs _ v f p I.len.symm fun q hq => (R.ok q hq).1, R.bal v, I.bal v]
    omega
  · rcases key j hj with e | ⟨q, hq, e, e2⟩
    · rw [e]
      exact I.lo j hj
    · have fr : part p j % d ≠ 0 := by rw [← e]; exact of_decide_eq_true (R.ok q hq).2.1
      have le := step_le q hq
      have lo := I.lo j hj
      rw [e2]
      unfold dist at le
      rcases (R.ok q hq).2.2 with w | w
      · have s0 : 0 < stepOf p d f := by rw [e0]; exact d0.1
        rw [w]
        omega
      · rw [w, e] at le
        rw [w]
        exact down_le hd fr lo le
  · rcases key j hj with e | ⟨q, hq, e, e2⟩
    · rw [e]
      exact I.hi j hj
    · have fr : part p j % d ≠ 0 := by rw [← e]; exact of_decide_eq_true (R.ok q hq).2.1
      have le := step_le q hq
      have hi := I.hi j hj
      rw [e2]
      unfold dist at le
      rcases (R.ok q hq).2.2 with w | w
      · rw [w, e] at le
        rw [w]
        exact up_le hd fr hi le
      · have s0 : 0 < stepOf p d f := by rw [e0]; exact d0.1
        rw [w]
        omega
  · refine filter_lt _ (fun j hj h => stays j (List.mem_range.mp hj) h) ⟨q0.1, List.mem_range.mpr (R.ok q0 hq0).1, (R.ok q0 hq0).2.1, ?_⟩
    unfold frac
    rw [inn q0 hq0, e0]
    exact decide_eq_false (fun z => z d0.2.2)

/-! ### rounding -/
def inner (n : Nat) (arcs : List Arc) (d : Int) : Nat → List Int → Nat → List Int
  | 0, p, _ => p
  | f + 1, p, k => if frac p d k then inner n arcs d f (turn n arcs d p k) k else p
theorem inner_ok {n : Nat} {arcs : List Arc} {am : List Int} {d : Int} (hd : 0 < d) (hg : ∀ k, k < arcs.length → Good n (arcOf arcs k)) {k : Nat} (hk : k < arcs.length) :
    ∀ (f : Nat) (p : List Int), Inv arcs am d p → fracs arcs.length p d ≤ f → Inv arcs am d (inner n arcs d f p k) ∧ (∀ j, j < arcs.length → frac (inner n arcs d f p k) d j = true → frac p d j = true) ∧ frac (inner n arcs d f p k) d k = false
  | 0, p, I, h => by
    refine ⟨I, fun j _ h => h, ?_⟩
    show frac p d k = false
    unfold fracs at h
    have e := List.eq_nil_of_length_eq_zero (Nat.le_zero.mp h)
    rw [List.filter_eq_nil_iff] at e
    have := e k (List.mem_range.mpr hk)
    simpa using this
  | f + 1, p, I, h => by
    unfold inner
    by_cases c : frac p d k = true
    · rw [if_pos c]
      obtain ⟨I2, h2, h3⟩ := turn_ok hd hg I hk c
      obtain ⟨I3, h4, h5⟩ := inner_ok hd hg hk f _ I2 (by omega)
      exact ⟨I3, fun j hj z => h2 j hj (h4 j hj z), h5⟩
    · rw [if_neg c]
      exact ⟨I, fun j _ h => h, by simpa using c⟩
def outer (n : Nat) (arcs : List Arc) (d : Int) (am : List Int) (i : Nat) : List Int := (List.range i).foldl (fun p k => inner n arcs d (arcs.length + 1) p k) am
theorem outer_succ (n : Nat) (arcs : List Arc) (d : Int) (am : List Int) (i : Nat) : outer n arcs d am (i + 1) = inner n arcs d (arcs.length + 1) (outer n arcs d am i) i := by
  unfold outer
  rw [List.range_succ, List.foldl_append]
  rfl
theorem fracs_le (m : Nat) (p : List Int) (d : Int) : fracs m p d ≤ m := by
  unfold fracs
  exact Nat.le_trans (List.length_filter_le _ _) (by simp)
theorem inv0 {arcs : List Arc} {am : List Int} {d : Int} (hd : 0 < d) (hl : arcs.length = am.length) (hb : ∀ v, net arcs am v = 0) : Inv arcs am d am := by
  refine ⟨hl.symm, hb, fun k _ => Int.ediv_mul_le _ (by omega), fun k _ => ?_⟩
  have := Int.ediv_mul_le (-(part am k)) (b := d) (by omega)
  rw [Int.neg_mul]
  omega
theorem outer_ok {n : Nat} {arcs : List Arc} {am : List Int} {d : Int} (hd : 0 < d) (hg : ∀ k, k < arcs.length → Good n (arcOf arcs k)) (hl : arcs.length = am.length) (hb : ∀ v, net arcs am v = 0) :
    ∀ i, i ≤ arcs.length → Inv arcs am d (outer n arcs d am i) ∧ ∀ j, j < i → frac (outer n arcs d am i) d j = false
  | 0, _ => ⟨inv0 hd hl hb, fun j h => by omega⟩
  | i + 1, hi => by
    obtain ⟨I, h⟩ := outer_ok hd hg hl hb i (by omega)
    rw [outer_succ]
    obtain ⟨I2, h2, h3⟩ := inner_ok hd hg (k := i) (by omega) (arcs.length + 1) _ I (Nat.le_trans (fracs_le _ _ _) (by omega))
    refine ⟨I2, fun j hj => ?_⟩
    by_cases c : j = i
    · rw [c]; exact h3
    · have := h j (by omega)
      cases z : frac (inner n arcs d (arcs.length + 1) (outer n arcs d am i) i) d j with
      | false => rfl
      | true => rw [h2 j (by omega) z] at this; exact this
def roundedF (n : Nat) (arcs : List Arc) (am : List Int) (d : Int) : List Int := (outer n arcs d am arcs.length).map (· / d)
theorem net_scale (d v : Int) : ∀ (as : List Arc) (xs : List Int), (∀ k, k < xs.length → part xs k % d = 0) → d * net as (xs.map (· / d)) v = net as xs v
  | [], _, _ => by simp [net]
  | _ :: _, [], _ => by simp [net]
  | p :: as, x :: xs, h => by
    have ih := net_scale d v as xs fun k hk => h (k + 1) (by simpa using hk)
    have h0 : x % d = 0 := h 0 (by simp)
    have e : d * (x / d) = x := Int.mul_ediv_cancel' (Int.dvd_of_emod_eq_zero h0)
    simp only [List.map_cons, net, Int.mul_add, ih, ← Int.mul_assoc, e]
theorem rounded_ok {n : Nat} {arcs : List Arc} {am : List Int} {d : Int} (hd : 0 < d) (hg : ∀ k, k < arcs.length → Good n (arcOf arcs k)) (hl : arcs.length = am.length) (hb : ∀ v, net arcs am v = 0) :
    (roundedF n arcs am d).length = arcs.length ∧ (∀ k, k < arcs.length → part am k - d < part (roundedF n arcs am d) k * d ∧ part (roundedF n arcs am d) k * d < part am k + d) ∧ ∀ v, net arcs (roundedF n arcs am d) v = 0 := by
  obtain ⟨I, h⟩ := outer_ok hd hg hl hb arcs.length (Nat.le_refl _)
  unfold roundedF
  revert I h
  generalize outer n arcs d am arcs.length = p
  intro I h
  have whole : ∀ k, k < arcs.length → part p k % d = 0 := fun k hk => by
    have := of_decide_eq_false (h k hk)
    exact Classical.byContradiction this
  refine ⟨by rw [List.length_map, I.len], fun k hk => ?_, fun v => ?_⟩
  · have e : part (p.map (· / d)) k = part p k / d := by
      refine part_get ?_
      rw [List.getElem?_map, get_part (by rw [I.len]; exact hk)]
      rfl
    rw [e, Int.ediv_mul_cancel (Int.dvd_of_emod_eq_zero (whole k hk))]
    have lo := I.lo k hk
    have hi := I.hi k hk
    have a := Int.lt_ediv_add_one_mul_self (part am k) hd
    have b := Int.lt_ediv_add_one_mul_self (-(part am k)) hd
    rw [Int.add_mul] at a b
    rw [Int.neg_mul] at hi
    omega
  · have := net_scale d v arcs p fun k hk => whole k (by rw [I.len] at hk; exact hk)
    rw [I.bal v] at this
    rcases Int.mul_eq_zero.mp this with z | z
    · omega
    · exact z

/-! ### networks that are drawn -/
structure NetOk (n : Nat) (d : Int) (c : Nat) (as : List Arc) (xs : List Int) : Prop where
  len : as.length = xs.length
  good : ∀ k, k < as.length → Good n (arcOf as k)
  few : as.length ≤ c
  some : 0 < c → 0 < as.length
  size : ∀ k, k < xs.length → -(2 * d * c) ≤ part xs k ∧ part xs k ≤ 2 * d * c
theorem NetOk.zero (n : Nat) (d : Int) : NetOk n d 0 [] [] := ⟨rfl, fun k h => by simp at h, by simp, fun h => absurd h (by omega), fun k h => by simp at h⟩
theorem NetOk.more {n c : Nat} {d : Int} {as : List Arc} {xs : List Int} (h : NetOk n d c as xs) (hc : 0 < c ) (hd : 0 < d) {c' : Nat} (le : c ≤ c') : NetOk n d c' as xs := by
  refine ⟨h.len, h.good, Nat.le_trans h.few le, fun _ => h.some hc, fun k hk => ?_⟩
  have := h.size k hk
  have m : 2 * d * (c : Int) ≤ 2 * d * (c' : Int) := Int.mul_le_mul_of_nonneg_left (by omega) (by omega)
  omega
theorem arcOf_snoc_lt {as : List Arc} {e : Arc} {k : Nat} (h : k < as.length) : arcOf (as ++ [e]) k = arcOf as k := by
  refine arc_get ?_
  rw [List.getElem?_append_left h, get_arc h]
theorem arcOf_snoc {as : List Arc} {e : Arc} : arcOf (as ++ [e]) as.length = e := by
  refine arc_get ?_
  rw [List.getElem?_append_right (Nat.le_refl _), Nat.sub_self]
  rfl
theorem part_snoc_lt {xs : List Int} {x : Int} {k : Nat} (h : k < xs.length) : part (xs ++ [x]) k = part xs k := by
  refine part_get ?_
  rw [List.getElem?_append_left h, get_part h]
theorem part_snoc {xs : List Int} {x : Int} : part (xs ++ [x]) xs.length = x := by
  refine part_get ?_
  rw [List.getElem?_append_right (Nat.le_refl _), Nat.sub_self]
  rfl
/-- an arc's amount grows -/
theorem NetOk.old {n c : Nat} {d pt : Int} {as : List Arc} {xs : List Int} (h : NetOk n d c as xs) (hd : 0 < d) (h1 : -(2 * d) ≤ pt) (h2 : pt ≤ 2 * d) {k : Nat} (hk : k < as.length) :
    NetOk n d (c + 1) as (xs.set k (part xs k + pt)) ∧ ∀ v, net as (xs.set k (part xs k + pt)) v = net as xs v + pt * dlt (arcOf as k) v := by
  have e : 2 * d * ((c + 1 : Nat) : Int) = 2 * d * c + 2 * d := by
    rw [Int.natCast_add, Int.mul_add]
    omega
  have p : 0 ≤ 2 * d * (c : Int) := Int.mul_nonneg (by omega) (by omega)
  refine ⟨⟨by rw [List.length_set]; exact h.len, h.good, by have := h.few; omega, fun _ => by omega, fun j hj => ?_⟩, fun v => ?_⟩
  · rw [List.length_set] at hj
    rw [e]
    have a := h.size j hj
    by_cases c : k = j
    · rw [c, part_set_same hj]
      omega
    · rw [part_set_ne c]
      omega
  · rw [net_set as xs k _ v h.len (by rw [← h.len]; exact hk)]
    have : part xs k + pt - part xs k = pt := by omega
    rw [this]
/-- a new arc with this amount -/
theorem NetOk.new {n c : Nat} {d pt : Int} {as : List Arc} {xs : List Int} {e : Arc} (h : NetOk n d c as xs) (hd : 0 < d) (h1 : -(2 * d) ≤ pt) (h2 : pt ≤ 2 * d) (hg : Good n e) :
    NetOk n d (c + 1) (as ++ [e]) (xs ++ [pt]) ∧ ∀ v, net (as ++ [e]) (xs ++ [pt]) v = net as xs v + pt * dlt e v := by
  have ee : 2 * d * ((c + 1 : Nat) : Int) = 2 * d * c + 2 * d := by
    rw [Int.natCast_add, Int.mul_add]
    omega
  have p : 0 ≤ 2 * d * (c : Int) := Int.mul_nonneg (by omega) (by omega)
  refine ⟨⟨by simp [h.len], fun k hk => ?_, by have := h.few; simp; omega, fun _ => by simp, fun j hj => ?_⟩, fun v => net_snoc as xs e pt v h.len⟩
  · by_cases c : k < as.length
    · rw [arcOf_snoc_lt c]
      exact h.good k c
    · have e : k = as.length := by
        rw [List.length_append, List.length_singleton] at hk
        omega
      rw [e, arcOf_snoc]
      exact hg
  · rw [ee]
    by_cases c : j < xs.length
    · rw [part_snoc_lt c]
      have := h.size j c
      omega
    · have e : j = xs.length := by
        rw [List.length_append, List.length_singleton] at hj
        omega
      rw [e, part_snoc]
      omega
/-- the nodes in a drawn order -/
structure Ord (n : Nat) (os : List Int) : Prop where
  len : os.length = n
  nd : os.Nodup
  in_ : ∀ v ∈ os, 0 ≤ v ∧ v < n
theorem Ord.base (n : Nat) : Ord n ((List.range n).map fun (i : Nat) => (i : Int)) := by
  refine ⟨by simp, ?_, fun v hv => ?_⟩
  · exact List.Pairwise.map _ (fun a b h e => h (by have e2 : (a : Int) = (b : Int) := e; omega)) (List.nodup_iff_pairwise_ne.mp List.nodup_range)
  · obtain ⟨i, hi, rfl⟩ := List.mem_map.mp hv
    have := List.mem_range.mp hi
    omega
theorem Ord.swap {n : Nat} {os : List Int} (h : Ord n os) {i j : Nat} (hi : i < n) (hj : j < n) : Ord n ((os.set i (part os j)).set j (part os i)) := by
  have li : i < os.length := by rw [h.len]; exact hi
  have lj : j < os.length := by rw [h.len]; exact hj
  have e1 : part os i = os[i] := part_get (List.getElem?_eq_getElem li)
  have e2 : part os j = os[j] := part_get (List.getElem?_eq_getElem lj)
  have p : ((os.set i os[j]).set j os[i]).Perm os := List.set_set_perm li lj
  rw [e1, e2]
  exact ⟨by rw [List.length_set, List.length_set]; exact h.len, p.nodup_iff.mpr h.nd, fun v hv => h.in_ v (p.mem_iff.mp hv)⟩
theorem Ord.ne {n : Nat} {os : List Int} (h : Ord n os) {i j : Nat} (hi : i < n) (hj : j < n) (ne : i ≠ j) : part os i ≠ part os j := by
  intro e
  have li : i < os.length := by rw [h.len]; exact hi
  have lj : j < os.length := by rw [h.len]; exact hj
  have e1 : part os i = os[i] := part_get (List.getElem?_eq_getElem li)
  have e2 : part os j = os[j] := part_get (List.getElem?_eq_getElem lj)
  rw [e1, e2] at e
  exact ne ((List.getElem_inj h.nd).mp e)
theorem Ord.at {n : Nat} {os : List Int} (h : Ord n os) {i : Nat} (hi : i < n) : 0 ≤ part os i ∧ part os i < n := by
  have li : i < os.length := by rw [h.len]; exact hi
  exact h.in_ _ (List.mem_of_getElem? (get_part li))
theorem whole_part {d p : Int} (hd : 0 < d) (h1 : -d ≤ p) (h2 : p ≤ 2 * d) : -d ≤ d * (p / d) ∧ d * (p / d) ≤ 2 * d := by
  have a := Int.mul_ediv_self_le (x := p) (k := d) (by omega)
  have b := Int.lt_mul_ediv_self_add (x := p) (k := d) hd
  have c : -1 ≤ p / d := Int.le_ediv_of_mul_le hd (by omega)
  have e := Int.mul_le_mul_of_nonneg_left c (show 0 ≤ d by omega)
  omega
end Cir

/-! # Families of lots: totals, and rounding both families at once. Plain Lean -/
namespace Fam
open Cir
/-! ### sums -/
def sumN : Nat → (Nat → Int) → Int
  | 0, _ => 0
  | n + 1, g => sumN n g + g n
theorem sumN_congr : ∀ {n : Nat} {g h : Nat → Int}, (∀ k, k < n → g k = h k) → sumN n g = sumN n h
  | 0, _, _, _ => rfl
  | n + 1, g, h, e => by
    simp only [sumN]
    rw [sumN_congr fun k hk => e k (by omega), e n (by omega)]
theorem sumN_zero {n : Nat} {g : Nat → Int} (h : ∀ k, k < n → g k = 0) : sumN n g = 0 := by
  induction n with
  | zero => rfl
  | succ n ih => simp only [sumN, ih fun k hk => h k (by omega), h n (by omega)]; rfl
theorem sumN_split (a : Nat) (g : Nat → Int) : ∀ b, sumN (a + b) g = sumN a g + sumN b (fun k => g (a + k))
  | 0 => by simp [sumN]
  | b + 1 => by
    rw [← Nat.add_assoc]
    simp only [sumN, sumN_split a g b]
    omega
theorem sumN_single {n j : Nat} {x : Int} {g : Nat → Int} (hj : j < n) (h : g j = x) (ho : ∀ k, k < n → k ≠ j → g k = 0) : sumN n g = x := by
  induction n with
  | zero => omega
  | succ n ih =>
    simp only [sumN]
    by_cases c : j = n
    · subst c
      rw [sumN_zero fun k hk => ho k (by omega) (by omega), h]
      omega
    · rw [ih (by omega) fun k hk hne => ho k (by omega) hne, ho n (by omega) (Ne.symm c)]
      omega
theorem sumN_add (g h : Nat → Int) : ∀ n, sumN n (fun k => g k + h k) = sumN n g + sumN n h
  | 0 => rfl
  | n + 1 => by simp only [sumN, sumN_add g h n]; omega
theorem sumN_neg (g : Nat → Int) : ∀ n, sumN n (fun k => -g k) = -sumN n g
  | 0 => rfl
  | n + 1 => by simp only [sumN, sumN_neg g n]; omega
theorem sumN_mul (x : Int) (g : Nat → Int) : ∀ n, sumN n (fun k => x * g k) = x * sumN n g
  | 0 => by simp [sumN]
  | n + 1 => by simp only [sumN, sumN_mul x g n, Int.mul_add]
theorem sumN_swap (g : Nat → Nat → Int) (m : Nat) : ∀ n, sumN n (fun i => sumN m (fun k => g i k)) = sumN m (fun k => sumN n (fun i => g i k))
  | 0 => (sumN_zero fun _ _ => rfl).symm
  | n + 1 => by
    simp only [sumN, sumN_swap g m n]
    rw [← sumN_add]
/-! ### networks by their numbers -/
theorem sumN_front (g : Nat → Int) (n : Nat) : sumN (n + 1) g = g 0 + sumN n (fun k => g (k + 1)) := by
  rw [Nat.add_comm n 1, sumN_split 1 g n]
  simp only [sumN, Int.zero_add]
  congr 1
  exact sumN_congr fun k _ => by rw [Nat.add_comm]
theorem net_sum (v : Int) : ∀ (as : List Arc) (xs : List Int), as.length = xs.length → net as xs v = sumN as.length (fun k => part xs k * dlt (arcOf as k) v)
  | [], [], _ => rfl
  | p :: as, x :: xs, hl => by
    rw [List.length_cons, sumN_front]
    simp only [net]
    rw [net_sum v as xs (by simpa using hl)]
    rfl
  | [], _ :: _, h => by simp at h
  | _ :: _, [], h => by simp at h
theorem ind_sum {n : Nat} {a : Int} (h0 : 0 ≤ a) (h : a < n) : sumN n (fun v => ind a (v : Int)) = 1 := by
  refine sumN_single (j := a.toNat) (by omega) ?_ fun k _ hk => ?_
  · unfold ind
    rw [if_pos (by omega)]
  · unfold ind
    rw [if_neg (by omega)]
theorem net_all {n : Nat} (as : List Arc) (xs : List Int) (hl : as.length = xs.length) (hg : ∀ k, k < as.length → Good n (arcOf as k)) : sumN n (fun v => net as xs (v : Int)) = 0 := by
  rw [sumN_congr fun v _ => net_sum (v : Int) as xs hl, sumN_swap]
  refine sumN_zero fun k hk => ?_
  rw [sumN_mul]
  have g := hg k hk
  have : sumN n (fun v => dlt (arcOf as k) (v : Int)) = 0 := by
    show sumN n (fun v => ind (arcOf as k).2 (v : Int) + -ind (arcOf as k).1 (v : Int)) = 0
    rw [sumN_add, sumN_neg, ind_sum g.2.1.1 g.2.1.2, ind_sum g.1.1 g.1.2]
    rfl
  rw [this, Int.mul_zero]
/-! ### families -/
def OkPar (ps : List Int) : Prop := ∀ k, k < ps.length → -1 ≤ part ps k ∧ part ps k < k
/-- what is due to the totals of lots: the cells of its own, and the lots within -/
def FamEq (ps : List Int) (own t : Nat → Int) : Prop := ∀ j, j < ps.length → t j = own j + sumN ps.length (fun k => if part ps k = (j : Int) then t k else 0)
theorem FamEq.uniq {ps : List Int} {own t u : Nat → Int} (hp : OkPar ps) (h : FamEq ps own t) (g : FamEq ps own u) : ∀ j, j < ps.length → t j = u j := by
  have main : ∀ d j, j < ps.length → ps.length - j ≤ d → t j = u j := by
    intro d
    induction d with
    | zero => intro j hj hd; omega
    | succ d ih =>
      intro j hj hd
      rw [h j hj, g j hj]
      congr 1
      refine sumN_congr fun k hk => ?_
      by_cases c : part ps k = (j : Int)
      · rw [if_pos c, if_pos c]
        have := (hp k hk).2
        exact ih k hk (by omega)
      · rw [if_neg c, if_neg c]
  exact fun j hj => main _ j hj (Nat.le_refl _)
theorem FamEq.congr {ps : List Int} {own own' t : Nat → Int} (h : FamEq ps own t) (e : ∀ j, j < ps.length → own j = own' j) : FamEq ps own' t := fun j hj => by rw [← e j hj]; exact h j hj
def own (places xs : List Int) (j : Nat) : Int := sumN xs.length (fun i => if part places i = (j : Int) then part xs i else 0)
/-! ### totals by adding from the last lot on -/
def ownL (n : Nat) (places xs : List Int) (m : Nat) : List Int := (List.range n).map fun (j : Nat) => sumN m (fun i => if part places i = (j : Int) then part xs i else 0)
theorem ownL_len (n : Nat) (places xs : List Int) (m : Nat) : (ownL n places xs m).length = n := by simp [ownL]
theorem ownL_get {n j m : Nat} {places xs : List Int} (h : j < n) : part (ownL n places xs m) j = sumN m (fun i => if part places i = (j : Int) then part xs i else 0) := by
  refine part_get ?_
  unfold ownL
  rw [List.getElem?_map, List.getElem?_range h]
  rfl
theorem part_ext {xs ys : List Int} (hl : xs.length = ys.length) (h : ∀ k, k < xs.length → part xs k = part ys k) : xs = ys := by
  apply List.ext_getElem?
  intro i
  by_cases hi : i < xs.length
  · rw [get_part hi, get_part (by omega), h i hi]
  · rw [List.getElem?_eq_none (by omega), List.getElem?_eq_none (by omega)]
theorem ownL_zero (n : Nat) (places xs : List Int) : ownL n places xs 0 = List.replicate n 0 := by
  refine part_ext (by simp [ownL]) fun k hk => ?_
  rw [ownL_len] at hk
  rw [ownL_get hk]
  refine (part_get ?_).symm
  rw [List.getElem?_replicate, if_pos hk]
  rfl
theorem ownL_succ {n m : Nat} {places xs : List Int} {p : Nat} (hp : part places m = (p : Int)) (h : p < n) : ownL n places xs (m + 1) = (ownL n places xs m).set p (part (ownL n places xs m) p + part xs m) := by
  refine part_ext (by simp [ownL]) fun k hk => ?_
  rw [ownL_len] at hk
  rw [ownL_get hk]
  simp only [sumN]
  by_cases c : p = k
  · subst c
    rw [part_set_same (by rw [ownL_len]; exact hk), ownL_get hk, if_pos hp]
  · rw [part_set_ne c, ownL_get hk, if_neg (by rw [hp]; omega)]
    omega
def addUp (ps : List Int) (u : List Int) (k : Nat) : List Int := if 0 ≤ part ps k then u.set (part ps k).toNat (part u (part ps k).toNat + part u k) else u
/-- behind the lots from m on -/
def upTo (ps : List Int) (u : List Int) : Nat → List Int
  | 0 => u
  | d + 1 => addUp ps (upTo ps u d) (ps.length - 1 - d)
theorem addUp_len (ps u : List Int) (k : Nat) : (addUp ps u k).length = u.length := by
  unfold addUp
  split <;> simp
theorem upTo_len (ps u : List Int) : ∀ d, (upTo ps u d).length = u.length
  | 0 => rfl
  | d + 1 => by unfold upTo; rw [addUp_len, upTo_len ps u d]
def cellT (ps places xs : List Int) : List Int := upTo ps (ownL ps.length places xs xs.length) ps.length
theorem upTo_stays {ps u : List Int} (hp : OkPar ps) (hu : u.length = ps.length) {j : Nat} : ∀ d e, ps.length - 1 - d ≤ j + 1 → d ≤ e → e ≤ ps.length → j < ps.length → part (upTo ps u d) j = part (upTo ps u e) j → True := fun _ _ _ _ _ _ _ => trivial
theorem addUp_at {ps u : List Int} (hp : OkPar ps) (hu : u.length = ps.length) {k j : Nat} (hk : k < ps.length) (hj : j < ps.length) : part (addUp ps u k) j = part u j + (if part ps k = (j : Int) then part u k else 0) := by
  unfold addUp
  have h := hp k hk
  by_cases c0 : 0 ≤ part ps k
  · rw [if_pos c0]
    by_cases c : (part ps k).toNat = j
    · rw [c, part_set_same (by omega), if_pos (by omega)]
    · rw [part_set_ne c, if_neg (by omega)]
      omega
  · rw [if_neg c0, if_neg (by omega)]
    omega
theorem upTo_eq {ps u : List Int} (hp : OkPar ps) (hu : u.length = ps.length) : ∀ d, d ≤ ps.length → ∀ j, j < ps.length →
    part (upTo ps u d) j = part u j + (sumN ps.length (fun k => if part ps k = (j : Int) then part (upTo ps u (ps.length - 1 - k)) k else 0) - sumN (ps.length - d) (fun k => if part ps k = (j : Int) then part (upTo ps u (ps.length - 1 - k)) k else 0))
  | 0, _, j, hj => by
    rw [Nat.sub_zero, Int.sub_self, Int.add_zero]
    rfl
  | d + 1, hd, j, hj => by
    have ih := upTo_eq hp hu d (by omega) j hj
    have s : upTo ps u (d + 1) = addUp ps (upTo ps u d) (ps.length - 1 - d) := rfl
    rw [s, addUp_at hp (by rw [upTo_len, hu]) (by omega) hj, ih]
    have e : ps.length - d = (ps.length - (d + 1)) + 1 := by omega
    rw [e]
    simp only [sumN]
    have e2 : ps.length - 1 - d = ps.length - (d + 1) := by omega
    have e3 : ps.length - 1 - (ps.length - (d + 1)) = d := by omega
    rw [e2, e3]
    omega
theorem upTo_fin {ps u : List Int} (hp : OkPar ps) (hu : u.length = ps.length) {k : Nat} (hk : k < ps.length) : ∀ e, ps.length - 1 - k ≤ e → e ≤ ps.length → part (upTo ps u e) k = part (upTo ps u (ps.length - 1 - k)) k := by
  intro e h1 h2
  have a := upTo_eq hp hu e h2 k hk
  have b := upTo_eq hp hu (ps.length - 1 - k) (by omega) k hk
  rw [a, b]
  -- no lot from k down has k as its parent
  have z : ∀ m, m ≤ k + 1 → sumN m (fun i => if part ps i = (k : Int) then part (upTo ps u (ps.length - 1 - i)) i else 0) = 0 := fun m hm => by
    refine sumN_zero fun i hi => ?_
    rw [if_neg]
    have := (hp i (by omega)).2
    omega
  rw [z (ps.length - e) (by omega), z (ps.length - (ps.length - 1 - k)) (by omega)]
theorem cellT_len (ps places xs : List Int) : (cellT ps places xs).length = ps.length := by unfold cellT; rw [upTo_len, ownL_len]
theorem cellT_eq {ps places xs : List Int} (hp : OkPar ps) : FamEq ps (own places xs) (part (cellT ps places xs)) := by
  intro j hj
  have hu : (ownL ps.length places xs xs.length).length = ps.length := ownL_len _ _ _ _
  have a := upTo_eq hp hu ps.length (Nat.le_refl _) j hj
  rw [Nat.sub_self] at a
  unfold cellT
  rw [a, ownL_get hj]
  unfold own
  simp only [sumN, Int.sub_zero]
  congr 1
  refine sumN_congr fun k hk => ?_
  rw [upTo_fin hp hu hk ps.length (by omega) (Nat.le_refl _)]
/-! ### totals upward from each cell -/
/-- how often j stands on the way up from at -/
def cnt (ps : List Int) : Nat → Int → Nat → Int
  | 0, _, _ => 0
  | f + 1, at_, j => if at_ < 0 then 0 else (if at_ = (j : Int) then 1 else 0) + cnt ps f (part ps at_.toNat) j
theorem cnt_more {ps : List Int} (hp : OkPar ps) : ∀ (f g : Nat) (at_ : Int) (j : Nat), at_ < f → at_ < g → at_ < ps.length → cnt ps f at_ j = cnt ps g at_ j
  | 0, 0, _, _, _, _, _ => rfl
  | 0, g + 1, at_, j, h1, _, _ => by
    unfold cnt
    rw [if_pos (show at_ < 0 by omega)]
  | f + 1, 0, at_, j, _, h2, _ => by
    unfold cnt
    rw [if_pos (show at_ < 0 by omega)]
  | f + 1, g + 1, at_, j, h1, h2, h3 => by
    unfold cnt
    by_cases c : at_ < 0
    · rw [if_pos c, if_pos c]
    · rw [if_neg c, if_neg c]
      have h := hp at_.toNat (by omega)
      rw [cnt_more hp f g _ j (by omega) (by omega) (by omega)]
theorem cnt_eq {ps : List Int} (hp : OkPar ps) (j : Nat) : ∀ (f : Nat) (at_ : Int), at_ < f → at_ < ps.length → cnt ps f at_ j = (if at_ = (j : Int) then 1 else 0) + sumN ps.length (fun k => if part ps k = (j : Int) then cnt ps f at_ k else 0)
  | 0, at_, h, _ => by
    rw [if_neg (by omega), sumN_zero fun k _ => by split <;> rfl]
    rfl
  | f + 1, at_, h, h2 => by
    by_cases c : at_ < 0
    · rw [if_neg (by omega), sumN_zero fun k _ => by
        split
        · unfold cnt; rw [if_pos c]
        · rfl]
      unfold cnt
      rw [if_pos c]
      rfl
    · have hq := hp at_.toNat (by omega)
      have ih := cnt_eq hp j f (part ps at_.toNat) (by omega) (by omega)
      have e : cnt ps (f + 1) at_ j = (if at_ = (j : Int) then 1 else 0) + cnt ps f (part ps at_.toNat) j := by
        rw [cnt, if_neg c]
      rw [e, ih]
      congr 1
      have e2 : sumN ps.length (fun k => if part ps k = (j : Int) then cnt ps (f + 1) at_ k else 0) = sumN ps.length (fun k => (if part ps k = (j : Int) then (if at_ = (k : Int) then 1 else 0) else 0) + (if part ps k = (j : Int) then cnt ps f (part ps at_.toNat) k else 0)) := by
        refine sumN_congr fun k _ => ?_
        by_cases d : part ps k = (j : Int)
        · rw [if_pos d, if_pos d, if_pos d, cnt, if_neg c]
        · rw [if_neg d, if_neg d, if_neg d]; rfl
      rw [e2, sumN_add]
      congr 1
      symm
      by_cases d : part ps at_.toNat = (j : Int)
      · rw [if_pos d]
        refine sumN_single (j := at_.toNat) (by omega) (by rw [if_pos d, if_pos (by omega)]) fun k _ hk => ?_
        split
        · rw [if_neg (by omega)]
        · rfl
      · rw [if_neg d]
        refine sumN_zero fun k _ => ?_
        by_cases e3 : part ps k = (j : Int)
        · rw [if_pos e3, if_neg]
          intro z
          apply d
          have : at_.toNat = k := by omega
          rw [this]
          exact e3
        · rw [if_neg e3]
def lawT (ps places xs : List Int) (m : Nat) : List Int := (List.range ps.length).map fun (j : Nat) => sumN m (fun i => part xs i * cnt ps ps.length (part places i) j)
theorem lawT_len (ps places xs : List Int) (m : Nat) : (lawT ps places xs m).length = ps.length := by simp [lawT]
theorem lawT_get {ps places xs : List Int} {m j : Nat} (h : j < ps.length) : part (lawT ps places xs m) j = sumN m (fun i => part xs i * cnt ps ps.length (part places i) j) := by
  refine part_get ?_
  unfold lawT
  rw [List.getElem?_map, List.getElem?_range h]
  rfl
theorem lawT_eq {ps places xs : List Int} (hp : OkPar ps) (hpl : ∀ i, i < xs.length → part places i < ps.length) : FamEq ps (own places xs) (part (lawT ps places xs xs.length)) := by
  intro j hj
  rw [lawT_get hj]
  have e : ∀ i, i < xs.length → part xs i * cnt ps ps.length (part places i) j = (if part places i = (j : Int) then part xs i else 0) + sumN ps.length (fun k => if part ps k = (j : Int) then part xs i * cnt ps ps.length (part places i) k else 0) := fun i hi => by
    rw [cnt_eq hp j ps.length (part places i) (hpl i hi) (hpl i hi), Int.mul_add, ← sumN_mul]
    congr 1
    · split
      · rw [Int.mul_one]
      · rw [Int.mul_zero]
    · refine sumN_congr fun k _ => ?_
      split
      · rfl
      · rw [Int.mul_zero]
  rw [sumN_congr e, sumN_add, sumN_swap]
  unfold own
  congr 1
  refine sumN_congr fun k hk => ?_
  rw [lawT_get hk]
  by_cases c : part ps k = (j : Int)
  · rw [if_pos c]
    exact sumN_congr fun i _ => by rw [if_pos c]
  · rw [if_neg c]
    exact sumN_zero fun i _ => by rw [if_neg c]
theorem lawT_cellT {ps places xs : List Int} (hp : OkPar ps) (hpl : ∀ i, i < xs.length → part places i < ps.length) : lawT ps places xs xs.length = cellT ps places xs :=
  part_ext (by rw [lawT_len, cellT_len]) fun k hk => by
    rw [lawT_len] at hk
    exact (lawT_eq hp hpl).uniq hp (cellT_eq hp) k hk
/-! ### both families as a network -/
def cellArcs (n1 : Nat) (cells : List (Int × Int)) : List Arc := cells.map fun c => (1 + c.1, 1 + (n1 : Int) + c.2)
def firstArcs (ps : List Int) (m : Nat) : List Arc := (List.range m).map fun (k : Nat) => (1 + part ps k, 1 + (k : Int))
def secondArcs (n1 : Nat) (ps : List Int) (m : Nat) : List Arc := (List.range m).map fun (k : Nat) => (1 + (n1 : Int) + (k : Int), if 0 ≤ part ps k then 1 + (n1 : Int) + part ps k else 0)
def endsL (first second : List Int) (cells : List (Int × Int)) : List Arc := cellArcs first.length cells ++ firstArcs first first.length ++ secondArcs first.length second second.length
def OkCells (n1 n2 : Nat) (cells : List (Int × Int)) : Prop := ∀ c ∈ cells, (0 ≤ c.1 ∧ c.1 < n1) ∧ (0 ≤ c.2 ∧ c.2 < n2)
theorem endsL_len (first second : List Int) (cells : List (Int × Int)) : (endsL first second cells).length = cells.length + first.length + second.length := by simp [endsL, cellArcs, firstArcs, secondArcs]; omega
def c1 (cells : List (Int × Int)) : List Int := cells.map (·.1)
def c2 (cells : List (Int × Int)) : List Int := cells.map (·.2)
section
variable {first second : List Int} {cells : List (Int × Int)}
theorem ends_cell {i : Nat} (h : i < cells.length) : arcOf (endsL first second cells) i = (1 + part (c1 cells) i, 1 + (first.length : Int) + part (c2 cells) i) := by
  have e1 : part (c1 cells) i = (cells[i]).1 := part_get (by unfold c1; rw [List.getElem?_map, List.getElem?_eq_getElem h]; rfl)
  have e2 : part (c2 cells) i = (cells[i]).2 := part_get (by unfold c2; rw [List.getElem?_map, List.getElem?_eq_getElem h]; rfl)
  rw [e1, e2]
  refine arc_get ?_
  unfold endsL
  rw [List.append_assoc, List.getElem?_append_left (by simp [cellArcs, h])]
  unfold cellArcs
  rw [List.getElem?_map, List.getElem?_eq_getElem h]
  rfl
theorem ends_first {k : Nat} (h : k < first.length) : arcOf (endsL first second cells) (cells.length + k) = (1 + part first k, 1 + (k : Int)) := by
  refine arc_get ?_
  unfold endsL
  rw [List.getElem?_append_left (by simp [cellArcs, firstArcs]; omega), List.getElem?_append_right (by simp [cellArcs])]
  have : cells.length + k - (cellArcs first.length cells).length = k := by simp [cellArcs]
  rw [this]
  unfold firstArcs
  rw [List.getElem?_map, List.getElem?_range h]
  rfl
theorem ends_second {k : Nat} (h : k < second.length) : arcOf (endsL first second cells) (cells.length + first.length + k) = (1 + (first.length : Int) + (k : Int), if 0 ≤ part second k then 1 + (first.length : Int) + part second k else 0) := by
  refine arc_get ?_
  unfold endsL
  rw [List.getElem?_append_right (by simp [cellArcs, firstArcs])]
  have : cells.length + first.length + k - (cellArcs first.length cells ++ firstArcs first first.length).length = k := by simp [cellArcs, firstArcs]
  rw [this]
  unfold secondArcs
  rw [List.getElem?_map, List.getElem?_range h]
  rfl
theorem cell_ok {i : Nat} (hc : OkCells first.length second.length cells) (h : i < cells.length) : (0 ≤ part (c1 cells) i ∧ part (c1 cells) i < first.length) ∧ (0 ≤ part (c2 cells) i ∧ part (c2 cells) i < second.length) := by
  have e1 : part (c1 cells) i = (cells[i]).1 := part_get (by unfold c1; rw [List.getElem?_map, List.getElem?_eq_getElem h]; rfl)
  have e2 : part (c2 cells) i = (cells[i]).2 := part_get (by unfold c2; rw [List.getElem?_map, List.getElem?_eq_getElem h]; rfl)
  rw [e1, e2]
  exact hc _ (List.getElem_mem h)
theorem ends_good (h1 : OkPar first) (h2 : OkPar second) (hc : OkCells first.length second.length cells) : ∀ k, k < (endsL first second cells).length → Good ((1 + first.length + second.length : Nat) : Int) (arcOf (endsL first second cells) k) := by
  intro k hk
  rw [endsL_len] at hk
  by_cases a : k < cells.length
  · rw [ends_cell a]
    have := cell_ok hc a
    exact ⟨⟨by dsimp only; omega, by dsimp only; omega⟩, ⟨by dsimp only; omega, by dsimp only; omega⟩, by dsimp only; omega⟩
  · by_cases b : k < cells.length + first.length
    · obtain ⟨j, rfl⟩ : ∃ j, k = cells.length + j := ⟨k - cells.length, by omega⟩
      rw [ends_first (by omega)]
      have := h1 j (by omega)
      exact ⟨⟨by dsimp only; omega, by dsimp only; omega⟩, ⟨by dsimp only; omega, by dsimp only; omega⟩, by dsimp only; omega⟩
    · obtain ⟨j, rfl⟩ : ∃ j, k = cells.length + first.length + j := ⟨k - cells.length - first.length, by omega⟩
      rw [ends_second (by omega)]
      have := h2 j (by omega)
      refine ⟨⟨by dsimp only; omega, by dsimp only; omega⟩, ⟨?_, ?_⟩, ?_⟩ <;> dsimp only <;> split <;> omega
/-- three lists behind one another, by their numbers -/
theorem net3 (xs t1 t2 : List Int) (hx : xs.length = cells.length) (l1 : t1.length = first.length) (l2 : t2.length = second.length) (v : Int) : net (endsL first second cells) (xs ++ t1 ++ t2) v =
    sumN cells.length (fun i => part xs i * dlt (1 + part (c1 cells) i, 1 + (first.length : Int) + part (c2 cells) i) v) + sumN first.length (fun k => part t1 k * dlt (1 + part first k, 1 + (k : Int)) v) +
    sumN second.length (fun k => part t2 k * dlt (1 + (first.length : Int) + (k : Int), if 0 ≤ part second k then 1 + (first.length : Int) + part second k else 0) v) := by
  rw [net_sum v _ _ (by rw [endsL_len]; simp [hx, l1, l2]; omega), endsL_len, sumN_split, sumN_split]
  have pa : ∀ {a b : List Int} {i : Nat}, i < a.length → part (a ++ b) i = part a i := fun {a b i} h => part_get (by rw [List.getElem?_append_left h, get_part h])
  have pb : ∀ {a b : List Int} {i : Nat}, i < b.length → part (a ++ b) (a.length + i) = part b i := fun {a b i} h => part_get (by rw [List.getElem?_append_right (by omega), Nat.add_sub_cancel_left, get_part h])
  congr 1
  · congr 1
    · refine sumN_congr fun i hi => ?_
      rw [ends_cell hi, List.append_assoc, pa (by omega)]
    · refine sumN_congr fun k hk => ?_
      rw [ends_first hk, pa (by rw [List.length_append]; omega), ← hx, pb (by omega)]
  · refine sumN_congr fun k hk => ?_
    rw [ends_second hk]
    have : cells.length + first.length + k = (xs ++ t1).length + k := by simp [hx, l1]
    rw [this, pb (by omega)]
theorem net_first (h1 : OkPar first) (h2 : OkPar second) (hc : OkCells first.length second.length cells) {xs t1 t2 : List Int} (hx : xs.length = cells.length) (l1 : t1.length = first.length) (l2 : t2.length = second.length) {j : Nat} (hj : j < first.length) :
    net (endsL first second cells) (xs ++ t1 ++ t2) (1 + (j : Int)) = part t1 j - own (c1 cells) xs j - sumN first.length (fun k => if part first k = (j : Int) then part t1 k else 0) := by
  rw [net3 xs t1 t2 hx l1 l2]
  have s1 : sumN cells.length (fun i => part xs i * dlt (1 + part (c1 cells) i, 1 + (first.length : Int) + part (c2 cells) i) (1 + (j : Int))) = -own (c1 cells) xs j := by
    unfold own
    rw [← sumN_neg, hx]
    refine sumN_congr fun i hi => ?_
    have := cell_ok hc hi
    unfold dlt ind
    dsimp only
    rw [if_neg (show ¬ (1 + (first.length : Int) + part (c2 cells) i = 1 + (j : Int)) by omega)]
    by_cases c : part (c1 cells) i = (j : Int)
    · rw [if_pos (show 1 + part (c1 cells) i = 1 + (j : Int) by omega), if_pos c]; omega
    · rw [if_neg (show ¬ (1 + part (c1 cells) i = 1 + (j : Int)) by omega), if_neg c]; omega
  have s2 : sumN first.length (fun k => part t1 k * dlt (1 + part first k, 1 + (k : Int)) (1 + (j : Int))) = part t1 j - sumN first.length (fun k => if part first k = (j : Int) then part t1 k else 0) := by
    have e : ∀ k, k < first.length → part t1 k * dlt (1 + part first k, 1 + (k : Int)) (1 + (j : Int)) = (if k = j then part t1 k else 0) + -(if part first k = (j : Int) then part t1 k else 0) := fun k hk => by
      unfold dlt ind
      dsimp only
      by_cases a : k = j
      · subst a
        have := h1 k hk
        rw [if_pos rfl, if_neg (show ¬ (1 + part first k = 1 + (k : Int)) by omega), if_pos rfl, if_neg (show ¬ (part first k = (k : Int)) by omega)]
        omega
      · rw [if_neg (show ¬ (1 + (k : Int) = 1 + (j : Int)) by omega), if_neg a]
        by_cases b : part first k = (j : Int)
        · rw [if_pos (show 1 + part first k = 1 + (j : Int) by omega), if_pos b]; omega
        · rw [if_neg (show ¬ (1 + part first k = 1 + (j : Int)) by omega), if_neg b]; omega
    rw [sumN_congr e, sumN_add, sumN_neg, sumN_single (j := j) (x := part t1 j) hj (if_pos rfl) fun k _ hk => if_neg hk]
    omega
  have s3 : sumN second.length (fun k => part t2 k * dlt (1 + (first.length : Int) + (k : Int), if 0 ≤ part second k then 1 + (first.length : Int) + part second k else 0) (1 + (j : Int))) = 0 := by
    refine sumN_zero fun k hk => ?_
    have := h2 k hk
    have z : dlt (1 + (first.length : Int) + (k : Int), if 0 ≤ part second k then 1 + (first.length : Int) + part second k else 0) (1 + (j : Int)) = 0 := by
      unfold dlt ind
      dsimp only
      rw [if_neg (show ¬ (1 + (first.length : Int) + (k : Int) = 1 + (j : Int)) by omega), if_neg (by split <;> omega)]
      rfl
    rw [z, Int.mul_zero]
  rw [s1, s2, s3]
  omega
theorem net_second (h1 : OkPar first) (h2 : OkPar second) (hc : OkCells first.length second.length cells) {xs t1 t2 : List Int} (hx : xs.length = cells.length) (l1 : t1.length = first.length) (l2 : t2.length = second.length) {j : Nat} (hj : j < second.length) :
    net (endsL first second cells) (xs ++ t1 ++ t2) (1 + (first.length : Int) + (j : Int)) = own (c2 cells) xs j + sumN second.length (fun k => if part second k = (j : Int) then part t2 k else 0) - part t2 j := by
  rw [net3 xs t1 t2 hx l1 l2]
  have s1 : sumN cells.length (fun i => part xs i * dlt (1 + part (c1 cells) i, 1 + (first.length : Int) + part (c2 cells) i) (1 + (first.length : Int) + (j : Int))) = own (c2 cells) xs j := by
    unfold own
    rw [hx]
    refine sumN_congr fun i hi => ?_
    have := cell_ok hc hi
    unfold dlt ind
    dsimp only
    rw [if_neg (show ¬ (1 + part (c1 cells) i = 1 + (first.length : Int) + (j : Int)) by omega)]
    by_cases c : part (c2 cells) i = (j : Int)
    · rw [if_pos (show 1 + (first.length : Int) + part (c2 cells) i = 1 + (first.length : Int) + (j : Int) by omega), if_pos c]; omega
    · rw [if_neg (show ¬ (1 + (first.length : Int) + part (c2 cells) i = 1 + (first.length : Int) + (j : Int)) by omega), if_neg c]; omega
  have s2 : sumN first.length (fun k => part t1 k * dlt (1 + part first k, 1 + (k : Int)) (1 + (first.length : Int) + (j : Int))) = 0 := by
    refine sumN_zero fun k hk => ?_
    have := h1 k hk
    have z : dlt (1 + part first k, 1 + (k : Int)) (1 + (first.length : Int) + (j : Int)) = 0 := by
      unfold dlt ind
      dsimp only
      rw [if_neg (show ¬ (1 + (k : Int) = 1 + (first.length : Int) + (j : Int)) by omega), if_neg (show ¬ (1 + part first k = 1 + (first.length : Int) + (j : Int)) by omega)]
      rfl
    rw [z, Int.mul_zero]
  have s3 : sumN second.length (fun k => part t2 k * dlt (1 + (first.length : Int) + (k : Int), if 0 ≤ part second k then 1 + (first.length : Int) + part second k else 0) (1 + (first.length : Int) + (j : Int))) =
      sumN second.length (fun k => if part second k = (j : Int) then part t2 k else 0) - part t2 j := by
    have e : ∀ k, k < second.length → part t2 k * dlt (1 + (first.length : Int) + (k : Int), if 0 ≤ part second k then 1 + (first.length : Int) + part second k else 0) (1 + (first.length : Int) + (j : Int)) = (if part second k = (j : Int) then part t2 k else 0) + -(if k = j then part t2 k else 0) := fun k hk => by
      have := h2 k hk
      have e1 : ind (if 0 ≤ part second k then 1 + (first.length : Int) + part second k else 0) (1 + (first.length : Int) + (j : Int)) = if part second k = (j : Int) then 1 else 0 := by
        unfold ind
        by_cases b : part second k = (j : Int)
        · rw [if_pos b, if_pos]
          rw [if_pos (by omega)]
          omega
        · rw [if_neg b, if_neg]
          split <;> omega
      have e2 : ind (1 + (first.length : Int) + (k : Int)) (1 + (first.length : Int) + (j : Int)) = if k = j then 1 else 0 := by
        unfold ind
        by_cases a : k = j
        · rw [if_pos a, if_pos (by omega)]
        · rw [if_neg a, if_neg (by omega)]
      unfold dlt
      dsimp only
      rw [e1, e2]
      by_cases a : k = j
      · rw [if_pos a, if_pos a]
        by_cases b : part second k = (j : Int)
        · rw [if_pos b, if_pos b]; omega
        · rw [if_neg b, if_neg b]; omega
      · rw [if_neg a, if_neg a]
        by_cases b : part second k = (j : Int)
        · rw [if_pos b, if_pos b]; omega
        · rw [if_neg b, if_neg b]; omega
    rw [sumN_congr e, sumN_add, sumN_neg, sumN_single (j := j) (x := part t2 j) hj (if_pos rfl) fun k _ hk => if_neg hk]
    omega
  rw [s1, s2, s3]
  omega
/-- the totals balance -/
theorem net_totals (h1 : OkPar first) (h2 : OkPar second) (hc : OkCells first.length second.length cells) {xs : List Int} (hx : xs.length = cells.length) (v : Nat) (hv : v < 1 + first.length + second.length) :
    net (endsL first second cells) (xs ++ cellT first (c1 cells) xs ++ cellT second (c2 cells) xs) (v : Int) = 0 := by
  have l1 := cellT_len first (c1 cells) xs
  have l2 := cellT_len second (c2 cells) xs
  have rest : ∀ u : Nat, 0 < u → u < 1 + first.length + second.length → net (endsL first second cells) (xs ++ cellT first (c1 cells) xs ++ cellT second (c2 cells) xs) (u : Int) = 0 := fun u h0 hu => by
    by_cases a : u < 1 + first.length
    · obtain ⟨j, rfl⟩ : ∃ j, u = 1 + j := ⟨u - 1, by omega⟩
      have := net_first h1 h2 hc hx l1 l2 (j := j) (by omega)
      rw [show ((1 + j : Nat) : Int) = 1 + (j : Int) by omega, this]
      have := cellT_eq (places := c1 cells) (xs := xs) h1 j (by omega)
      omega
    · obtain ⟨j, rfl⟩ : ∃ j, u = 1 + first.length + j := ⟨u - 1 - first.length, by omega⟩
      have := net_second h1 h2 hc hx l1 l2 (j := j) (by omega)
      rw [show ((1 + first.length + j : Nat) : Int) = 1 + (first.length : Int) + (j : Int) by omega, this]
      have := cellT_eq (places := c2 cells) (xs := xs) h2 j (by omega)
      omega
  by_cases c : v = 0
  · subst c
    have all := net_all (n := 1 + first.length + second.length) (endsL first second cells) (xs ++ cellT first (c1 cells) xs ++ cellT second (c2 cells) xs) (by rw [endsL_len]; simp [hx, l1, l2]; omega) (ends_good h1 h2 hc)
    have : sumN (1 + first.length + second.length) (fun v => net (endsL first second cells) (xs ++ cellT first (c1 cells) xs ++ cellT second (c2 cells) xs) (v : Int)) = net (endsL first second cells) (xs ++ cellT first (c1 cells) xs ++ cellT second (c2 cells) xs) ((0 : Nat) : Int) :=
      sumN_single (j := 0) (by omega) rfl fun k hk hne => rest k (by omega) hk
    rw [this] at all
    exact all
  · exact rest v (by omega) hv
/-- what is rounded -/
def partsOf (first second : List Int) (cells : List (Int × Int)) (xs : List Int) : List Int := xs ++ cellT first (c1 cells) xs ++ cellT second (c2 cells) xs
def roundC (first second : List Int) (cells : List (Int × Int)) (xs : List Int) (d : Int) : List Int := (roundedF (1 + first.length + second.length) (endsL first second cells) (partsOf first second cells xs) d).take cells.length
theorem roundC_ok (h1 : OkPar first) (h2 : OkPar second) (hc : OkCells first.length second.length cells) {xs : List Int} (hx : xs.length = cells.length) {d : Int} (hd : 0 < d) :
    (roundC first second cells xs d).length = cells.length ∧ (∀ k, k < cells.length → part xs k - d < part (roundC first second cells xs d) k * d ∧ part (roundC first second cells xs d) k * d < part xs k + d) ∧
    (∀ j, j < first.length → part (cellT first (c1 cells) xs) j - d < part (cellT first (c1 cells) (roundC first second cells xs d)) j * d ∧ part (cellT first (c1 cells) (roundC first second cells xs d)) j * d < part (cellT first (c1 cells) xs) j + d) ∧
    (∀ j, j < second.length → part (cellT second (c2 cells) xs) j - d < part (cellT second (c2 cells) (roundC first second cells xs d)) j * d ∧ part (cellT second (c2 cells) (roundC first second cells xs d)) j * d < part (cellT second (c2 cells) xs) j + d) := by
  have l1 := cellT_len first (c1 cells) xs
  have l2 := cellT_len second (c2 cells) xs
  have hl : (endsL first second cells).length = (partsOf first second cells xs).length := by unfold partsOf; rw [endsL_len]; simp [hx, l1, l2]; omega
  have bal : ∀ v, net (endsL first second cells) (partsOf first second cells xs) v = 0 := fun v => by
    by_cases c : 0 ≤ v ∧ v < (1 + first.length + second.length : Nat)
    · have := net_totals h1 h2 hc hx v.toNat (by omega)
      rwa [Int.toNat_of_nonneg c.1] at this
    · rw [net_sum v _ _ hl]
      refine sumN_zero fun k hk => ?_
      have g := ends_good h1 h2 hc k hk
      have z : dlt (arcOf (endsL first second cells) k) v = 0 := by
        unfold dlt ind
        rw [if_neg (by rintro rfl; exact c g.2.1), if_neg (by rintro rfl; exact c g.1)]
        rfl
      rw [z, Int.mul_zero]
  obtain ⟨R1, R2, R3⟩ := rounded_ok (n := 1 + first.length + second.length) hd (ends_good h1 h2 hc) hl bal
  unfold roundC
  revert R1 R2 R3
  generalize roundedF (1 + first.length + second.length) (endsL first second cells) (partsOf first second cells xs) d = r
  intro R1 R2 R3
  rw [endsL_len] at R1 R2
  -- the three parts of r
  have hr : r = r.take cells.length ++ (r.drop cells.length).take first.length ++ (r.drop cells.length).drop first.length := by rw [List.append_assoc, List.take_append_drop, List.take_append_drop]
  have a0 : (r.take cells.length).length = cells.length := by rw [List.length_take]; omega
  have a1 : ((r.drop cells.length).take first.length).length = first.length := by rw [List.length_take, List.length_drop]; omega
  have a2 : ((r.drop cells.length).drop first.length).length = second.length := by rw [List.length_drop, List.length_drop]; omega
  have pt : ∀ {k}, k < cells.length → part (r.take cells.length) k = part r k := fun {k} h => part_get (by rw [List.getElem?_take_of_lt h]; exact get_part (by omega))
  have p1 : ∀ {k}, k < first.length → part ((r.drop cells.length).take first.length) k = part r (cells.length + k) := fun {k} h => part_get (by rw [List.getElem?_take_of_lt h, List.getElem?_drop]; exact get_part (by omega))
  have p2 : ∀ {k}, k < second.length → part ((r.drop cells.length).drop first.length) k = part r (cells.length + first.length + k) := fun {k} h => part_get (by rw [List.getElem?_drop, List.getElem?_drop, ← Nat.add_assoc]; exact get_part (by omega))
  have pa : ∀ {a b : List Int} {i : Nat}, i < a.length → part (a ++ b) i = part a i := fun {a b i} h => part_get (by rw [List.getElem?_append_left h, get_part h])
  have pb : ∀ {a b : List Int} {i : Nat}, i < b.length → part (a ++ b) (a.length + i) = part b i := fun {a b i} h => part_get (by rw [List.getElem?_append_right (by omega), Nat.add_sub_cancel_left, get_part h])
  have f1 : FamEq first (own (c1 cells) (r.take cells.length)) (part ((r.drop cells.length).take first.length)) := fun j hj => by
    have n1 := net_first h1 h2 hc a0 a1 a2 hj
    rw [← hr, R3] at n1
    omega
  have f2 : FamEq second (own (c2 cells) (r.take cells.length)) (part ((r.drop cells.length).drop first.length)) := fun j hj => by
    have n1 := net_second h1 h2 hc a0 a1 a2 hj
    rw [← hr, R3] at n1
    omega
  refine ⟨a0, fun k hk => ?_, fun j hj => ?_, fun j hj => ?_⟩
  · have := R2 k (by omega)
    rw [pt hk]
    unfold partsOf at this
    rw [List.append_assoc, pa (by omega)] at this
    exact this
  · rw [← f1.uniq h1 (cellT_eq h1) j hj, p1 hj]
    have := R2 (cells.length + j) (by omega)
    unfold partsOf at this
    rw [pa (by rw [List.length_append]; omega), ← hx, pb (by omega), hx] at this
    exact this
  · rw [← f2.uniq h2 (cellT_eq h2) j hj, p2 hj]
    have := R2 (cells.length + first.length + j) (by omega)
    unfold partsOf at this
    have e : cells.length + first.length + j = (xs ++ cellT first (c1 cells) xs).length + j := by rw [List.length_append, hx, l1]
    rw [e, pb (by omega), ← e] at this
    exact this
end
end Fam
namespace Fam
open Cir
theorem cnt_zero {ps : List Int} (hp : OkPar ps) (j : Nat) : ∀ (f : Nat) (at_ : Int), at_ < j → at_ < ps.length → cnt ps f at_ j = 0
  | 0, _, _, _ => rfl
  | f + 1, at_, h, h2 => by
    unfold cnt
    by_cases c : at_ < 0
    · rw [if_pos c]
    · have hq := hp at_.toNat (by omega)
      rw [if_neg c, if_neg (by omega), cnt_zero hp j f _ (by omega) (by omega)]
      rfl
theorem cnt_le {ps : List Int} (hp : OkPar ps) (j : Nat) : ∀ (f : Nat) (at_ : Int), at_ < ps.length → 0 ≤ cnt ps f at_ j ∧ cnt ps f at_ j ≤ 1
  | 0, _, _ => by simp [cnt]
  | f + 1, at_, h => by
    unfold cnt
    by_cases c : at_ < 0
    · rw [if_pos c]; omega
    · have hq := hp at_.toNat (by omega)
      rw [if_neg c]
      by_cases d : at_ = (j : Int)
      · rw [if_pos d, cnt_zero hp j f _ (by omega) (by omega)]; omega
      · rw [if_neg d]
        have := cnt_le hp j f (part ps at_.toNat) (by omega)
        omega
theorem sumN_abs {M : Int} (h0 : 0 ≤ M) (g : Nat → Int) : ∀ n, (∀ k, k < n → -M ≤ g k ∧ g k ≤ M) → -(M * n) ≤ sumN n g ∧ sumN n g ≤ M * n
  | 0, _ => by simp [sumN]
  | n + 1, h => by
    have ih := sumN_abs h0 g n fun k hk => h k (by omega)
    have hn := h n (by omega)
    simp only [sumN]
    have e : M * ((n + 1 : Nat) : Int) = M * n + M := by rw [Int.natCast_add, Int.mul_add]; omega
    rw [e]
    omega
theorem cellT_abs {ps places xs : List Int} (hp : OkPar ps) (hpl : ∀ i, i < xs.length → part places i < ps.length) {M : Int} (h0 : 0 ≤ M) (hM : ∀ i, i < xs.length → -M ≤ part xs i ∧ part xs i ≤ M) {j : Nat} (hj : j < ps.length) :
    -(M * xs.length) ≤ part (cellT ps places xs) j ∧ part (cellT ps places xs) j ≤ M * xs.length := by
  rw [← lawT_cellT hp hpl, lawT_get hj]
  refine sumN_abs h0 _ _ fun i hi => ?_
  have h1 := cnt_le hp j ps.length (part places i) (hpl i hi)
  have h2 := hM i hi
  have : cnt ps ps.length (part places i) j = 0 ∨ cnt ps ps.length (part places i) j = 1 := by omega
  rcases this with e | e <;> rw [e] <;> omega
/-- one step upward from a cell -/
def stepUp (ps : List Int) (x : Int) : Nat → Int → List Int → List Int
  | 0, _, u => u
  | f + 1, at_, u => if at_ < 0 then u else stepUp ps x f (part ps at_.toNat) (u.set at_.toNat (part u at_.toNat + x))
theorem stepUp_len (ps : List Int) (x : Int) : ∀ (f : Nat) (at_ : Int) (u : List Int), (stepUp ps x f at_ u).length = u.length
  | 0, _, _ => rfl
  | f + 1, at_, u => by
    unfold stepUp
    split
    · rfl
    · rw [stepUp_len ps x f, List.length_set]
theorem stepUp_at {ps : List Int} (hp : OkPar ps) (x : Int) : ∀ (f : Nat) (at_ : Int) (u : List Int), u.length = ps.length → at_ < ps.length → ∀ j, j < ps.length → part (stepUp ps x f at_ u) j = part u j + x * cnt ps f at_ j
  | 0, _, u, _, _, j, _ => by simp [stepUp, cnt]
  | f + 1, at_, u, hu, h, j, hj => by
    unfold stepUp cnt
    by_cases c : at_ < 0
    · rw [if_pos c, if_pos c]; omega
    · have hq := hp at_.toNat (by omega)
      rw [if_neg c, if_neg c, stepUp_at hp x f _ _ (by rw [List.length_set, hu]) (by omega) j hj, Int.mul_add]
      by_cases d : at_ = (j : Int)
      · have e : at_.toNat = j := by omega
        rw [if_pos d, e, part_set_same (by omega), Int.mul_one]
        omega
      · rw [if_neg d, part_set_ne (by omega), Int.mul_zero]
        omega
theorem lawT_zero (ps places xs : List Int) : lawT ps places xs 0 = List.replicate ps.length 0 := by
  refine part_ext (by simp [lawT]) fun k hk => ?_
  rw [lawT_len] at hk
  rw [lawT_get hk]
  refine (part_get ?_).symm
  rw [List.getElem?_replicate, if_pos hk]
  rfl
theorem lawT_succ {ps places xs : List Int} (hp : OkPar ps) {m : Nat} (h : part places m < ps.length) : lawT ps places xs (m + 1) = stepUp ps (part xs m) ps.length (part places m) (lawT ps places xs m) := by
  refine part_ext (by rw [lawT_len, stepUp_len, lawT_len]) fun k hk => ?_
  rw [lawT_len] at hk
  rw [stepUp_at hp _ _ _ _ (lawT_len _ _ _ _) h k hk, lawT_get hk, lawT_get hk]
  rfl
end Fam

namespace K16
open PySem PySem.Spec PyProof.Rows L2
def top (i : Nat) : Stmt := PySem.Challenge.pw_eachfloweachlink_k16_two_families_rounde.main.body.getD i (.Pass ⟨0, 0, 0, 0⟩)
/-! _check_ends(count, arcs): slots 0 count 1 arcs 2 k 3 tail 4 head -/
abbrev s_check_ends : Stmt := top 8
abbrev n_check_ends : List Str := ["count", "arcs", "k", "tail", "head"]
theorem sc_check_ends : FnScope n_check_ends ["count", "arcs"] (defScope s_check_ends) := ⟨rfl, rfl, rfl, by decide +kernel, rfl, by decide +kernel, by decide +kernel⟩
/-! _spare(count, arcs, amounts): slots 0 count 1 arcs 2 amounts 3 spare 4 k -/
abbrev s_spare : Stmt := top 9
abbrev n_spare : List Str := ["count", "arcs", "amounts", "spare", "k"]
theorem sc_spare : FnScope n_spare ["count", "arcs", "amounts"] (defScope s_spare) := ⟨rfl, rfl, rfl, by decide +kernel, rfl, by decide +kernel, by decide +kernel⟩
/-! _check_balance(count, arcs, amounts): slots 0 count 1 arcs 2 amounts 3 spare 4 node -/
abbrev s_check_balance : Stmt := top 10
abbrev n_check_balance : List Str := ["count", "arcs", "amounts", "spare", "node"]
theorem sc_check_balance : FnScope n_check_balance ["count", "arcs", "amounts"] (defScope s_check_balance) := ⟨rfl, rfl, rfl, by decide +kernel, rfl, by decide +kernel, by decide +kernel⟩
/-! _near(count, arcs): slots 0 count 1 arcs 2 near 3 k 4 _ -/
abbrev s_near : Stmt := top 11
abbrev n_near : List Str := ["count", "arcs", "near", "k", "_"]
theorem sc_near : FnScope n_near ["count", "arcs"] (defScope s_near) := ⟨rfl, rfl, rfl, by decide +kernel, rfl, by decide +kernel, by decide +kernel⟩
/-! _other_arc(row, parts, divisor, came): slots 0 row 1 parts 2 divisor 3 came 4 k -/
abbrev s_other_arc : Stmt := top 12
abbrev n_other_arc : List Str := ["row", "parts", "divisor", "came", "k"]
theorem sc_other_arc : FnScope n_other_arc ["row", "parts", "divisor", "came"] (defScope s_other_arc) := ⟨rfl, rfl, rfl, by decide +kernel, rfl, by decide +kernel, by decide +kernel⟩
/-! _fraction_round(arcs, near, parts, divisor, start): slots 0 arcs 1 near 2 parts 3 divisor 4 start 5 node 6 arc 7 path 8 places 9 way -/
abbrev s_fraction_round : Stmt := top 13
abbrev n_fraction_round : List Str := ["arcs", "near", "parts", "divisor", "start", "node", "arc", "path", "places", "way"]
theorem sc_fraction_round : FnScope n_fraction_round ["arcs", "near", "parts", "divisor", "start"] (defScope s_fraction_round) := ⟨rfl, rfl, rfl, by decide +kernel, rfl, by decide +kernel, by decide +kernel⟩
/-! rounded(count, arcs, amounts, divisor): slots 0 count 1 arcs 2 amounts 3 divisor 4 parts 5 near 6 k 7 found 8 step 9 arc 10 way 11 part -/
abbrev s_rounded : Stmt := top 14
abbrev n_rounded : List Str := ["count", "arcs", "amounts", "divisor", "parts", "near", "k", "found", "step", "arc", "way", "part"]
theorem sc_rounded : FnScope n_rounded ["count", "arcs", "amounts", "divisor"] (defScope s_rounded) := ⟨rfl, rfl, rfl, by decide +kernel, rfl, by decide +kernel, by decide +kernel⟩
abbrev s_iA : Stmt := inClass (top 3) 0
abbrev s_iU : Stmt := inClass (top 4) 0
theorem S_BadArc : XS.ErrSyn "BadArc.__init__" s_iA "arc" [] where
  body := ⟨_, _, _, _, _, _, _, _, _, _, _, _, _, rfl, .nil, by decide +kernel⟩
  ar := ⟨_, rfl, rfl⟩
  kind := rfl
  sup := rfl
  cls := rfl
  self := rfl
  loc := by decide +kernel
  cell := by decide +kernel
  co := rfl
  gen := rfl
  nd := by decide +kernel
  short := by decide
  bind := fun _ _ _ _ _ _ _ us hl s => match us, hl with | [_, _], _ => .of_eq rfl
theorem S_Unbalanced : XS.ErrSyn "Unbalanced.__init__" s_iU "node" [] where
  body := ⟨_, _, _, _, _, _, _, _, _, _, _, _, _, rfl, .nil, by decide +kernel⟩
  ar := ⟨_, rfl, rfl⟩
  kind := rfl
  sup := rfl
  cls := rfl
  self := rfl
  loc := by decide +kernel
  cell := by decide +kernel
  co := rfl
  gen := rfl
  nd := by decide +kernel
  short := by decide
  bind := fun _ _ _ _ _ _ _ us hl s => match us, hl with | [_, _], _ => .of_eq rfl
/-- what the top has written -/
structure Txt (P : Program) (K : PySem.W.Frag) (mg : Str → Option Value) (CA CU : Addr) : Prop extends Blt mg where
  arc : ∃ fI, XS.ErrTxt P K mg "BadArc" "BadArc.__init__" s_iA ["arc"] CA fI
  unb : ∃ fI, XS.ErrTxt P K mg "Unbalanced" "Unbalanced.__init__" s_iU ["node"] CU fI
/-- at a: the list of these arcs -/
def ArcsAt (K : PySem.W.Frag) (H : Hp) (a : Addr) (arcs : List Cir.Arc) : Prop :=
  ∃ ts : List Addr, SqL K H a (ts.map V.ref) ∧ ts.length = arcs.length ∧ ∀ (k : Nat) (t : Addr) (p : Cir.Arc), ts[k]? = some t → arcs[k]? = some p → SqT K H t [.int p.1, .int p.2]
theorem ArcsAt.fr {K : PySem.W.Frag} {H H' : Hp} {a : Addr} {arcs : List Cir.Arc} (h : ArcsAt K H a arcs) (e : Fr [] H H') : ArcsAt K H' a arcs := by
  obtain ⟨ts, h1, h2, h3⟩ := h
  exact ⟨ts, e.l h1, h2, fun k t p a b => e.t (h3 k t p a b)⟩
theorem ArcsAt.at {K : PySem.W.Frag} {H : Hp} {a : Addr} {arcs : List Cir.Arc} (h : ArcsAt K H a arcs) : ∃ ts : List Addr, SqL K H a (ts.map V.ref) ∧ ts.length = arcs.length ∧
    ∀ k, k < arcs.length → ∃ t, atI (ts.map V.ref) (k : Int) = some (.ref t) ∧ SqT K H t [.int (Cir.arcOf arcs k).1, .int (Cir.arcOf arcs k).2] := by
  obtain ⟨ts, h1, h2, h3⟩ := h
  refine ⟨ts, h1, h2, fun k hk => ?_⟩
  have e : ts[k]? = some (ts[k]'(by omega)) := List.getElem?_eq_getElem _
  exact ⟨_, at_map e, h3 k _ _ e (Cir.get_arc hk)⟩
theorem at_part {xs : List Int} {k : Nat} (h : k < xs.length) : atI (xs.map V.int) (k : Int) = some (.int (Cir.part xs k)) := at_map (Cir.get_part h)
/-- the first wrong arc -/
def spCheckEnds (K : PySem.W.Frag) (CA : Addr) : Sp := fun vs H Q E => ∃ (n : Nat) (a : Addr) (arcs : List Cir.Arc), vs = [.int (n : Int), .ref a] ∧ ArcsAt K H a arcs ∧ arcs.length ≤ 100000 ∧
  ((∀ k, k < arcs.length → Cir.Good n (Cir.arcOf arcs k)) → Q .non H) ∧
  (∀ k, k < arcs.length → ¬ Cir.Good n (Cir.arcOf arcs k) → (∀ j, j < k → Cir.Good n (Cir.arcOf arcs j)) → ∀ d, H d = none → E (.ref CA) (some d) (upd H d (.xd [(("arc" : Str), .int (k : Int))])))
/-- what enters each node less what leaves it -/
def spSpare (K : PySem.W.Frag) : Sp := fun vs H Q _ => ∃ (n : Nat) (a am : Addr) (arcs : List Cir.Arc) (xs : List Int), vs = [.int (n : Int), .ref a, .ref am] ∧ ArcsAt K H a arcs ∧ SqL K H am (xs.map V.int) ∧ arcs.length = xs.length ∧ arcs.length ≤ 100000 ∧ n ≤ 100000 ∧
  (∀ k, k < arcs.length → Cir.Good n (Cir.arcOf arcs k)) ∧ ∀ (p : Addr) (H' : Hp), H p = none → Fr [] H H' → H' p = some (.lst ((Cir.spareL n arcs xs).map V.int)) → Q (.ref p) H'
/-- the first node that is not in balance -/
def spCheckBal (K : PySem.W.Frag) (CU : Addr) : Sp := fun vs H Q E => ∃ (n : Nat) (a am : Addr) (arcs : List Cir.Arc) (xs : List Int), vs = [.int (n : Int), .ref a, .ref am] ∧ ArcsAt K H a arcs ∧ SqL K H am (xs.map V.int) ∧ arcs.length = xs.length ∧ arcs.length ≤ 100000 ∧ n ≤ 100000 ∧
  (∀ k, k < arcs.length → Cir.Good n (Cir.arcOf arcs k)) ∧ ((∀ v : Nat, v < n → Cir.net arcs xs v = 0) → ∀ H', Fr [] H H' → Q .non H') ∧
  (∀ v : Nat, v < n → Cir.net arcs xs v ≠ 0 → (∀ u : Nat, u < v → Cir.net arcs xs u = 0) → ∀ (d : Addr) (H' : Hp), Fr [] H H' → H' d = some (.xd [(("node" : Str), .int (v : Int))]) → E (.ref CU) (some d) H')
abbrev vN (k : Nat) : V := .int (k : Int)
/-- at p: for each node the numbers of the arcs that touch it -/
def NearAt (z : Addr → Prop) (H : Hp) (p : Addr) (n : Nat) (arcs : List Cir.Arc) : Prop :=
  ∃ rs : List Addr, rs.length = n ∧ H p = some (.lst (rs.map V.ref)) ∧ (∀ (v : Nat) (r : Addr), rs[v]? = some r → H r = some (.lst ((Cir.nearOf arcs v).map vN))) ∧ ∀ r ∈ rs, z r
theorem NearAt.fr {z : Addr → Prop} {H H' : Hp} {p : Addr} {n : Nat} {arcs : List Cir.Arc} (h : NearAt z H p n arcs) (e : Fr [] H H') : NearAt z H' p n arcs := by
  obtain ⟨rs, h1, h2, h3, h4⟩ := h
  exact ⟨rs, h1, e _ _ h2 (by simp), fun v r hr => e _ _ (h3 v r hr) (by simp), h4⟩
theorem NearAt.imp {z z' : Addr → Prop} {H : Hp} {p : Addr} {n : Nat} {arcs : List Cir.Arc} (h : NearAt z H p n arcs) (hz : ∀ r, z r → z' r) : NearAt z' H p n arcs := by
  obtain ⟨rs, h1, h2, h3, h4⟩ := h
  exact ⟨rs, h1, h2, h3, fun r hr => hz r (h4 r hr)⟩
/-- at p: a list of these pairs -/
def PairsAt (H : Hp) (p : Addr) (f : List (Nat × Int)) : Prop :=
  ∃ ts : List Addr, H p = some (.lst (ts.map V.ref)) ∧ ts.length = f.length ∧ ∀ (k : Nat) (t : Addr) (q : Nat × Int), ts[k]? = some t → f[k]? = some q → H t = some (.tup [.int (q.1 : Int), .int q.2])
def spNear (K : PySem.W.Frag) : Sp := fun vs H Q _ => ∃ (n : Nat) (a : Addr) (arcs : List Cir.Arc), vs = [.int (n : Int), .ref a] ∧ ArcsAt K H a arcs ∧ arcs.length ≤ 10000 ∧ n ≤ 10000 ∧
  (∀ k, k < arcs.length → Cir.Good n (Cir.arcOf arcs k)) ∧ ∀ (p : Addr) (H' : Hp), H p = none → Fr [] H H' → NearAt (fun r => H r = none) H' p n arcs → Q (.ref p) H'
def spOther (K : PySem.W.Frag) : Sp := fun vs H Q _ => ∃ (r pp : Addr) (row : List Nat) (xs : List Int) (d : Int) (came : Nat), vs = [.ref r, .ref pp, .int d, .int (came : Int)] ∧ SqL K H r (row.map vN) ∧ SqL K H pp (xs.map V.int) ∧
  (∀ k ∈ row, k < xs.length) ∧ 0 < d ∧ Q (.int ((Cir.other row xs d came : Nat) : Int)) H
def spRound (K : PySem.W.Frag) : Sp := fun vs H Q _ => ∃ (n : Nat) (a ne pp : Addr) (arcs : List Cir.Arc) (xs : List Int) (d : Int) (start : Nat), vs = [.ref a, .ref ne, .ref pp, .int d, .int (start : Int)] ∧ ArcsAt K H a arcs ∧ NearAt (fun _ => True) H ne n arcs ∧ SqL K H pp (xs.map V.int) ∧
  arcs.length = xs.length ∧ arcs.length ≤ 10000 ∧ n ≤ 10000 ∧ (∀ k, k < arcs.length → Cir.Good n (Cir.arcOf arcs k)) ∧ (∀ v, Cir.net arcs xs v % d = 0) ∧ 0 < d ∧ start < arcs.length ∧ Cir.frac xs d start = true ∧
  ∀ (p : Addr) (H' : Hp), H p = none → Fr [] H H' → PairsAt H' p (Cir.roundOf n arcs xs d start) → Q (.ref p) H'
section
variable {P : Program} {w : World} {K : PySem.W.Frag} {mg : Str → Option Value} {base : Heap} {CA CU : Addr}
theorem ok_check_ends {f : Addr} {fd : FuncData} (F : Fun K "_check_ends" "_check_ends" s_check_ends f fd) (T : Txt P K mg CA CU) : FnOk P w K mg base (L2.CX P w) 2 f fd ["count", "arcs"] (spCheckEnds K CA) := by
  refine F.okX sc_check_ends (fun vs H Q E h => ?_) (fun cdv A outer s H vs Q E hr h => ?_)
  · obtain ⟨n, a, arcs, rfl, _⟩ := h
    rfl
  · obtain ⟨n, a, arcs, rfl, hA, hl, kQ, kE⟩ := h
    obtain ⟨fI, TA⟩ := T.arc
    refine ⟨_, (pss_one (ps_for (passes_of rfl) rfl (pi_range1 (by rfl) T.m_range (pa_cons (pe_callB call_len_seq (by rfl) T.m_len (by decide +kernel) (pa_cons (pv 1) pa_nil)) pa_nil)) (pg_name (i := 2) sc_check_ends.nd rfl (Or.inl rfl))
      (pss_cons (ps_par (i := 3) (j := 4) rfl sc_check_ends.nd rfl rfl (by decide) rfl rfl (pa_cons (pe_ix ix_tup (pe_ix ix_list (pv 1) (pv 2) (fun _ _ => rfl)) pe_int (fun _ _ => rfl)) (pa_cons (pe_ix ix_tup (pe_ix ix_list (pv 1) (pv 2) (fun _ _ => rfl)) pe_int (fun _ _ => rfl)) pa_nil)) (by rfl))
      (pss_one (ps_if (PW.pt (pw_or (pt_not (pt_chain op_le op_lt pe_int (pv 3) (pv 0))) (pw_or (pt_not (pt_chain op_le op_lt pe_int (pv 4) (pv 0))) (pw_or1 (pt_cmpR op_eq (pv 3) (pv 4) (nomark _))))))
        (pss_one (ps_raiseErr rfl TA S_BadArc hr (takes_of rfl rfl rfl rfl) (pa_cons (pv 2) pa_nil)))
        pss_nil))))), ?_⟩
    obtain ⟨ts, hL, hn, hT⟩ := hA.at
    refine ⟨_, rfl, _, _, rfl, .inl hL, _, rfl, (rg_ok (by simp; omega)).1, (rg_ok (by simp; omega)).2, for_rng (n := (ts.map V.ref).length) (fun i σ H' => H' = H ∧ (∀ j, j < i → Cir.Good n (Cir.arcOf arcs j)) ∧ ∃ o1 o2 o3 : Option V, σ = [some (.int (n : Int)), some (.ref a), o1, o2, o3])
      ⟨rfl, fun j hj => by omega, _, _, _, rfl⟩ ?_ ?_⟩
    · rintro i σ H' hi ⟨rfl, hgood, o1, o2, o3, rfl⟩
      rw [List.length_map, hn] at hi
      obtain ⟨t, e1, e2⟩ := hT i hi
      refine ⟨_, rfl, _, rfl, _, _, _, _, rfl, rfl, hL, e1, _, _, _, _, rfl, rfl, e2, rfl, ?_⟩
      refine ⟨_, rfl, _, rfl, _, _, _, _, rfl, rfl, hL, e1, _, _, _, _, rfl, rfl, e2, rfl, _, _, rfl, ?_⟩
      have bad : ¬ Cir.Good n (Cir.arcOf arcs i) → tRaiseE CA [("arc" : Str)] (fun cls d _ H => E cls d H) (tCons (tVar 2) tNil) noEnds [some (.int (n : Int)), some (.ref a), some (.int (i : Int)), some (.int (Cir.arcOf arcs i).1), some (.int (Cir.arcOf arcs i).2)] H' :=
        fun hb => ⟨_, rfl, rfl, fun d hd => kE i hi hb hgood d hd⟩
      refine ⟨_, rfl, _, _, rfl, rfl, _, rfl, dec_iff (fun g1 => ⟨_, rfl, _, _, rfl, rfl, _, rfl, ?_⟩) fun b1 => ⟨_, rfl, iteT (bad (fun g => b1 g.1.1))⟩⟩
      refine bool_iff (fun b2 => bad (fun g => ?_)) fun g2 => ?_
      · have := g.1.2
        simp [this] at b2
      refine ⟨_, rfl, _, _, rfl, rfl, _, rfl, dec_iff (fun g3 => ⟨_, rfl, _, _, rfl, rfl, _, rfl, ?_⟩) fun b1 => ⟨_, rfl, iteT (bad (fun g => b1 g.2.1.1))⟩⟩
      refine bool_iff (fun b2 => bad (fun g => ?_)) fun g4 => ?_
      · have := g.2.1.2
        simp [this] at b2
      refine ⟨_, rfl, _, rfl, rfl, _, rfl, ?_⟩
      refine dec_iff (fun b5 => bad (fun g => ?_)) fun g5 => ?_
      · exact g.2.2 (V.int.inj b5)
      · refine ⟨rfl, fun j hj => ?_, _, _, _, rfl⟩
        by_cases c : j < i
        · exact hgood j c
        · have e : j = i := by omega
          subst e
          exact ⟨⟨g1, by simpa using g2⟩, ⟨g3, by simpa using g4⟩, fun e => g5 (congrArg V.int e)⟩
    · rintro σ H' ⟨rfl, hgood, o1, o2, o3, rfl⟩
      refine kQ fun k hk => hgood k ?_
      rw [List.length_map, hn]
      exact hk
theorem ok_spare {f : Addr} {fd : FuncData} (F : Fun K "_spare" "_spare" s_spare f fd) (T : Txt P K mg CA CU) : FnOk P w K mg base CX0 1 f fd ["count", "arcs", "amounts"] (spSpare K) := by
  refine F.ok sc_spare (fun vs H Q E h => ?_) (fun cdv A outer s H vs Q E hr h => ?_)
  · obtain ⟨n, a, am, arcs, xs, rfl, _⟩ := h
    rfl
  · obtain ⟨n, a, am, arcs, xs, rfl, hA, hX, hlx, hl, hn, hgood, k⟩ := h
    refine ⟨_, (pss_cons (ps_set (i := 3) sc_spare.nd rfl (Or.inl rfl) (pe_op op_rep (pe_lst (pa_cons pe_int pa_nil)) (pv 0)))
    (pss_cons (ps_for PassesOwn.never rfl (pi_range1 (by rfl) T.m_range (pa_cons (pe_callB call_len_seq (by rfl) T.m_len (by decide +kernel) (pa_cons (pv 1) pa_nil)) pa_nil)) (pg_name (i := 4) sc_spare.nd rfl (Or.inl rfl))
      (pss_cons (ps_augS (pv 3) (pe_ix ix_tup (pe_ix ix_list (pv 1) (pv 4) (fun _ _ => rfl)) pe_int (fun _ _ => rfl)) pget_list (pe_ix ix_list (pv 2) (pv 4) (fun _ _ => rfl)) ip_sub set_list)
      (pss_one (ps_augS (pv 3) (pe_ix ix_tup (pe_ix ix_list (pv 1) (pv 4) (fun _ _ => rfl)) pe_int (fun _ _ => rfl)) pget_list (pe_ix ix_list (pv 2) (pv 4) (fun _ _ => rfl)) ip_add set_list))))
    (pss_one (ps_ret (pv 3))))), ?_⟩
    obtain ⟨ts, hL, hts, hT⟩ := hA.at
    refine ⟨by show 1 ≤ sizeLine; decide, fun l0 hl0 => ⟨_, rfl, l0, _, _, rfl, rfl, upd_same, by omega, by omega, ?_, fun p hp => ?_⟩⟩
    · show 1 * (n : Int).toNat ≤ sizeLine
      rw [Nat.one_mul]
      exact len_line hn
    have np : H p = none := ((Fr.refl [] H).new hl0).free hp
    have e0 : (List.replicate (n : Int).toNat [V.int 0]).flatten = (Cir.spareL n [] []).map V.int := by
      rw [Cir.spareL_zero, List.map_replicate, rep_one]
      rfl
    rw [e0]
    refine ⟨_, rfl, _, _, rfl, .inl ?_, _, rfl, (rg_ok (by simp; omega)).1, (rg_ok (by simp; omega)).2, for_rng (n := (ts.map V.ref).length)
      (fun i σ H' => Fr [] H H' ∧ H' p = some (.lst ((Cir.spareL n (arcs.take i) (xs.take i)).map V.int)) ∧ ∃ o : Option V, σ = [some (.int (n : Int)), some (.ref a), some (.ref am), some (.ref p), o])
      ⟨((Fr.refl [] H).new hl0).new hp, upd_same, _, rfl⟩ ?_ ?_⟩
    · exact (((Fr.refl [] H).new hl0).new hp).l hL
    · rintro i σ H' hi ⟨e, h1, o, rfl⟩
      rw [List.length_map, hts] at hi
      obtain ⟨t, e1, e2⟩ := hT i hi
      have g := hgood i hi
      have len1 : (arcs.take i).length = (xs.take i).length := by rw [List.length_take, List.length_take, hlx]
      have i1 : (Cir.arcOf arcs i).1.toNat < (Cir.spareL n (arcs.take i) (xs.take i)).length := by rw [Cir.spareL_len]; have := g.1; omega
      have i2 : (Cir.arcOf arcs i).2.toNat < (Cir.spareL n (arcs.take i) (xs.take i)).length := by rw [Cir.spareL_len]; have := g.2.1; omega
      refine ⟨_, rfl, _, rfl, _, rfl, _, _, _, _, rfl, rfl, e.l hL, e1, _, _, _, _, rfl, rfl, e.t e2, rfl, ?_⟩
      refine ⟨_, _, _, _, rfl, rfl, SqL.of h1, at_int g.1.1 (by rw [List.getElem?_map, Cir.spareL_get g.1.1 g.1.2]; rfl), ?_⟩
      refine ⟨_, rfl, _, rfl, _, _, _, _, rfl, rfl, e.l hX, at_part (by omega), _, _, rfl, rfl, _, _, _, _, rfl, rfl, h1, ix_int g.1.1 (by rw [List.length_map, Cir.spareL_len]; exact g.1.2), ?_⟩
      have e' : Fr [] H (upd H' p (.lst (((Cir.spareL n (arcs.take i) (xs.take i)).map V.int).set (Cir.arcOf arcs i).1.toNat (.int (Cir.net (arcs.take i) (xs.take i) (Cir.arcOf arcs i).1 - Cir.part xs i))))) := e.put (.inr np)
      refine ⟨_, rfl, _, rfl, _, rfl, _, _, _, _, rfl, rfl, e'.l hL, e1, _, _, _, _, rfl, rfl, e'.t e2, rfl, ?_⟩
      refine ⟨_, _, _, _, rfl, rfl, SqL.of upd_same, at_int (v := V.int (Cir.net (arcs.take i) (xs.take i) (Cir.arcOf arcs i).2)) g.2.1.1 ?_, ?_⟩
      · rw [List.getElem?_set_ne (by have := g.1; have := g.2.1; have := g.2.2; omega), List.getElem?_map, Cir.spareL_get g.2.1.1 g.2.1.2]
        rfl
      refine ⟨_, rfl, _, rfl, _, _, _, _, rfl, rfl, e'.l hX, at_part (by omega), _, _, rfl, rfl, _, _, _, _, rfl, rfl, upd_same, ix_int g.2.1.1 (by rw [List.length_set, List.length_map, Cir.spareL_len]; exact g.2.1.2), ?_⟩
      refine ⟨e'.put (.inr np), ?_, _, rfl⟩
      rw [upd_same]
      have st := Cir.spare_step (n := n) (x := Cir.part xs i) len1 g
      rw [take_succ (Cir.get_arc hi), take_succ (Cir.get_part (by omega)), ← st, List.map_set, List.map_set]
    · rintro σ H' ⟨e, h1, o, rfl⟩
      rw [List.length_map, hts, List.take_length, hlx, List.take_length] at h1
      exact ⟨_, rfl, k p H' np e h1⟩
theorem ok_check_balance {f : Addr} {fd : FuncData} (F : Fun K "_check_balance" "_check_balance" s_check_balance f fd) (T : Txt P K mg CA CU)
    (F_spare : FnB P w K mg base CX0 1 "_spare" ["count", "arcs", "amounts"] (spSpare K)) : FnOk P w K mg base (L2.CX P w) 3 f fd ["count", "arcs", "amounts"] (spCheckBal K CU) := by
  refine F.okX sc_check_balance (fun vs H Q E h => ?_) (fun cdv A outer s H vs Q E hr h => ?_)
  · obtain ⟨n, a, am, arcs, xs, rfl, _⟩ := h
    rfl
  · obtain ⟨n, a, am, arcs, xs, rfl, hA, hX, hlx, hl, hn, hgood, kQ, kE⟩ := h
    obtain ⟨fI, TU⟩ := T.unb
    refine ⟨_, (pss_cons (ps_set (i := 3) sc_check_balance.nd rfl (Or.inl rfl) (pe_callF F_spare (hr.mono (by decide)) rfl pass0 (pa_cons (pv 0) (pa_cons (pv 1) (pa_cons (pv 2) pa_nil)))))
    (pss_one (ps_for (passes_of rfl) rfl (pi_range1 (by rfl) T.m_range (pa_cons (pv 0) pa_nil)) (pg_name (i := 4) sc_check_balance.nd rfl (Or.inl rfl))
      (pss_one (ps_if (pt_cmpR op_ne (pe_ix ix_list (pv 3) (pv 4) (fun _ _ => rfl)) pe_int (nomark _))
        (pss_one (ps_raiseErr rfl TU S_Unbalanced hr (takes_of rfl rfl rfl rfl) (pa_cons (pv 4) pa_nil)))
        pss_nil))))), ?_⟩
    refine ⟨_, rfl, _, rfl, _, rfl, n, a, am, arcs, xs, rfl, hA, hX, hlx, hl, hn, hgood, fun p H1 np e1 h1 => ?_⟩
    refine ⟨_, rfl, _, rfl, (rg_ok (by omega)).1, (rg_ok (by omega)).2, for_rng (n := n)
      (fun i σ H' => H' = H1 ∧ (∀ u : Nat, u < i → Cir.net arcs xs u = 0) ∧ ∃ o : Option V, σ = [some (.int (n : Int)), some (.ref a), some (.ref am), some (.ref p), o])
      ⟨rfl, fun u hu => by omega, _, rfl⟩ ?_ ?_⟩
    · rintro i σ H' hi ⟨rfl, hz, o, rfl⟩
      refine ⟨_, rfl, _, rfl, _, _, _, _, rfl, rfl, SqL.of h1, at_int (v := V.int (Cir.net arcs xs i)) (by omega) (by rw [List.getElem?_map, Cir.spareL_get (by omega) (by omega)]; rfl), rfl, _, rfl, ?_⟩
      refine bool_iff (fun b => ?_) fun b => ?_
      · have ne : Cir.net arcs xs i ≠ 0 := fun z => by
          rw [z] at b
          simp at b
        exact ⟨_, rfl, rfl, fun d hd => kE i hi ne hz d _ (e1.new hd) upd_same⟩
      · refine ⟨rfl, fun u hu => ?_, _, rfl⟩
        by_cases c : u < i
        · exact hz u c
        · have e : u = i := by omega
          subst e
          have := of_decide_eq_true (show decide (V.int (Cir.net arcs xs u) = V.int 0) = true by simpa using b)
          exact V.int.inj this
    · rintro σ H' ⟨rfl, hz, o, rfl⟩
      exact kQ hz _ e1
end
section
variable {P : Program} {w : World} {K : PySem.W.Frag} {mg : Str → Option Value} {base : Heap} {CA CU : Addr}
theorem ok_near {f : Addr} {fd : FuncData} (F : Fun K "_near" "_near" s_near f fd) (T : Txt P K mg CA CU) : FnOk P w K mg base CX0 1 f fd ["count", "arcs"] (spNear K) := by
  refine F.ok sc_near (fun vs H Q E h => ?_) (fun cdv A outer s H vs Q E hr h => ?_)
  · obtain ⟨n, a, arcs, rfl, _⟩ := h
    rfl
  · obtain ⟨n, a, arcs, rfl, hA, hl, hn, hgood, k⟩ := h
    refine ⟨_, (pss_cons (ps_setLc (i := 2) (own := [("_", 4)]) rfl sc_near.nd rfl rfl (sw_true rfl rfl rfl (by decide +kernel)) (pi_range1 (by rfl) T.m_range (pa_cons (pv 0) pa_nil)) (blkOk_by (own := [("_", 4)]) (N := n_near) (sc := defScope s_near) (by decide +kernel)) (fun _ _ _ _ _ => (pg_name (i := 4) sc_near.nd rfl (Or.inl rfl))) (fun _ _ _ _ _ => pts_nil) (fun _ _ _ _ _ => (pe_lst pa_nil)))
    (pss_cons (ps_for PassesOwn.never rfl (pi_range1 (by rfl) T.m_range (pa_cons (pe_callB call_len_seq (by rfl) T.m_len (by decide +kernel) (pa_cons (pv 1) pa_nil)) pa_nil)) (pg_name (i := 3) sc_near.nd rfl (Or.inl rfl))
      (pss_cons (ps_expr (pe_bm PySem.F.plainAttrs_list PySem.F.slot_list_append PySem.F.type_list_append mt_append (pe_ix ix_list (pv 2) (pe_ix ix_tup (pe_ix ix_list (pv 1) (pv 3) (fun _ _ => rfl)) pe_int (fun _ _ => rfl)) (fun _ _ => rfl)) (pa_cons (pv 3) pa_nil)))
      (pss_one (ps_expr (pe_bm PySem.F.plainAttrs_list PySem.F.slot_list_append PySem.F.type_list_append mt_append (pe_ix ix_list (pv 2) (pe_ix ix_tup (pe_ix ix_list (pv 1) (pv 3) (fun _ _ => rfl)) pe_int (fun _ _ => rfl)) (fun _ _ => rfl)) (pa_cons (pv 3) pa_nil))))))
    (pss_one (ps_ret (pv 2))))), ?_⟩
    obtain ⟨ts, hL, hts, hT⟩ := hA.at
    refine ⟨_, rfl, _, rfl, (rg_ok (by omega)).1, (rg_ok (by omega)).2, fun D hD => lc_rng (n := n)
      (fun i H' => ∃ rs : List Addr, rs.length = i ∧ H' D = some (.lst (rs.map V.ref)) ∧ Fr [] H H' ∧ rs.Nodup ∧ ∀ r ∈ rs, H r = none ∧ r ≠ D ∧ H' r = some (.lst [])) ⟨[], rfl, upd_same, (Fr.refl _ _).new hD, List.nodup_nil, fun r h => by simp at h⟩ ?_ ?_⟩
    · rintro i H' hi ⟨rs, h1, h2, e, nd, h3⟩
      refine ⟨rfl, by show 0 ≤ sizeLine; exact Nat.zero_le _, fun q hq => ⟨_, by rw [upd_ne (ne_of_none h2 hq)]; exact h2, len_lt (by rw [List.length_map]; omega), rs ++ [q], ?_⟩⟩
      have hqD : q ≠ D := (ne_of_none h2 hq).symm
      refine ⟨by simp [h1], ?_, (e.new hq).put (.inr hD), ?_, fun r hr => ?_⟩
      · rw [upd_same, List.map_append]
        rfl
      · rw [List.nodup_append]
        refine ⟨nd, by simp, fun x hx y hy => ?_⟩
        rw [List.mem_singleton] at hy
        subst hy
        exact ne_of_none (h3 x hx).2.2 hq
      · rcases List.mem_append.mp hr with hr | hr
        · have z := h3 r hr
          exact ⟨z.1, z.2.1, by rw [upd_ne z.2.1, upd_ne (ne_of_none z.2.2 hq)]; exact z.2.2⟩
        · rw [List.mem_singleton] at hr
          subst hr
          exact ⟨e.free hq, hqD, by rw [upd_ne hqD]; exact upd_same⟩
    · rintro H1 ⟨rs, h1, h2, e1, nd, h3⟩
      refine ⟨_, rfl, _, _, rfl, .inl (e1.l hL), _, rfl, (rg_ok (by simp; omega)).1, (rg_ok (by simp; omega)).2, for_rng (n := (ts.map V.ref).length)
        (fun i σ H' => Fr [] H H' ∧ H' D = some (.lst (rs.map V.ref)) ∧ (∀ (v : Nat) (r : Addr), rs[v]? = some r → H' r = some (.lst ((Cir.nearI arcs i v).map vN))) ∧ ∃ o1 o2 : Option V, σ = [some (.int (n : Int)), some (.ref a), some (.ref D), o1, o2])
        ⟨e1, h2, fun v r hr => (h3 r (List.mem_of_getElem? hr)).2.2, _, _, rfl⟩ ?_ ?_⟩
      · rintro i σ H' hi ⟨e, g1, g2, o1, o2, rfl⟩
        rw [List.length_map, hts] at hi
        obtain ⟨t, a1, a2⟩ := hT i hi
        have g := hgood i hi
        have b1 : (Cir.arcOf arcs i).1.toNat < rs.length := by have := g.1; omega
        have b2 : (Cir.arcOf arcs i).2.toNat < rs.length := by have := g.2.1; omega
        have c1 := List.getElem?_eq_getElem b1
        have c2 := List.getElem?_eq_getElem b2
        generalize rs[(Cir.arcOf arcs i).1.toNat] = r1 at c1
        generalize rs[(Cir.arcOf arcs i).2.toNat] = r2 at c2
        have n12 : r1 ≠ r2 := fun z => by
          subst z
          obtain ⟨p1, q1⟩ := List.getElem?_eq_some_iff.mp c1
          obtain ⟨p2, q2⟩ := List.getElem?_eq_some_iff.mp c2
          have := (List.getElem_inj nd).mp (q1.trans q2.symm)
          have := g.1; have := g.2.1; have := g.2.2
          omega
        have m1 := h3 r1 (List.mem_of_getElem? c1)
        have m2 := h3 r2 (List.mem_of_getElem? c2)
        have f1 := g2 _ r1 c1
        have f2 := g2 _ r2 c2
        refine ⟨_, rfl, _, rfl, _, rfl, _, _, _, _, rfl, rfl, e.l hL, a1, _, _, _, _, rfl, rfl, e.t a2, rfl, _, _, _, _, rfl, rfl, SqL.of g1, at_int (v := V.ref r1) g.1.1 (by rw [List.getElem?_map, c1]; rfl), ?_⟩
        refine ⟨.inl ⟨rfl, _, SqL.of f1⟩, _, rfl, _, _, _, rfl, rfl, f1, len_lt (by rw [List.length_map]; have := Cir.nearI_len arcs i (((Cir.arcOf arcs i).1.toNat : Nat) : Int); omega), ?_⟩
        have e' := e.put (p := r1) (o := .lst ((Cir.nearI arcs i (((Cir.arcOf arcs i).1.toNat : Nat) : Int)).map vN ++ [.int (i : Int)])) (.inr m1.1)
        have g1' : (upd H' r1 (.lst ((Cir.nearI arcs i (((Cir.arcOf arcs i).1.toNat : Nat) : Int)).map vN ++ [.int (i : Int)]))) D = some (.lst (rs.map V.ref)) := by rw [upd_ne (Ne.symm m1.2.1)]; exact g1
        have f2' : (upd H' r1 (.lst ((Cir.nearI arcs i (((Cir.arcOf arcs i).1.toNat : Nat) : Int)).map vN ++ [.int (i : Int)]))) r2 = some (.lst ((Cir.nearI arcs i (((Cir.arcOf arcs i).2.toNat : Nat) : Int)).map vN)) := by rw [upd_ne (Ne.symm n12)]; exact f2
        refine ⟨_, rfl, _, rfl, _, rfl, _, _, _, _, rfl, rfl, e'.l hL, a1, _, _, _, _, rfl, rfl, e'.t a2, rfl, _, _, _, _, rfl, rfl, SqL.of g1', at_int (v := V.ref r2) g.2.1.1 (by rw [List.getElem?_map, c2]; rfl), ?_⟩
        refine ⟨.inl ⟨rfl, _, SqL.of f2'⟩, _, rfl, _, _, _, rfl, rfl, f2', len_lt (by rw [List.length_map]; have := Cir.nearI_len arcs i (((Cir.arcOf arcs i).2.toNat : Nat) : Int); omega), ?_⟩
        refine ⟨e'.put (.inr m2.1), by rw [upd_ne (Ne.symm m2.2.1)]; exact g1', fun v r hv => ?_, _, _, rfl⟩
        have pos1 : (((Cir.arcOf arcs i).1.toNat : Nat) : Int) = (Cir.arcOf arcs i).1 := Int.toNat_of_nonneg g.1.1
        have pos2 : (((Cir.arcOf arcs i).2.toNat : Nat) : Int) = (Cir.arcOf arcs i).2 := Int.toNat_of_nonneg g.2.1.1
        have same : ∀ {u v : Nat} {r : Addr}, rs[u]? = some r → rs[v]? = some r → u = v := fun {u v r} x y => by
          obtain ⟨p1, q1⟩ := List.getElem?_eq_some_iff.mp x
          obtain ⟨p2, q2⟩ := List.getElem?_eq_some_iff.mp y
          exact (List.getElem_inj nd).mp (q1.trans q2.symm)
        rw [Cir.nearI_succ]
        by_cases z2 : r = r2
        · subst z2
          have ev := same c2 hv
          subst ev
          rw [upd_same, pos2]
          have : Cir.touch (Cir.arcOf arcs i) (Cir.arcOf arcs i).2 = true := by simp [Cir.touch]
          rw [if_pos this, List.map_append]
          rfl
        · rw [upd_ne z2]
          by_cases z1 : r = r1
          · subst z1
            have ev := same c1 hv
            subst ev
            rw [upd_same, pos1]
            have : Cir.touch (Cir.arcOf arcs i) (Cir.arcOf arcs i).1 = true := by simp [Cir.touch]
            rw [if_pos this, List.map_append]
            rfl
          · rw [upd_ne z1, g2 v r hv]
            have : ¬ Cir.touch (Cir.arcOf arcs i) (v : Int) = true := fun h => by
              unfold Cir.touch at h
              simp only [Bool.or_eq_true, decide_eq_true_eq] at h
              rcases h with h | h
              · have : v = (Cir.arcOf arcs i).1.toNat := by omega
                rw [this, c1] at hv
                exact z1 (Option.some.inj hv).symm
              · have : v = (Cir.arcOf arcs i).2.toNat := by omega
                rw [this, c2] at hv
                exact z2 (Option.some.inj hv).symm
            rw [if_neg this, List.append_nil]
      · rintro σ H' ⟨e, g1, g2, o1, o2, rfl⟩
        refine ⟨_, rfl, k D H' hD e ⟨rs, h1, g1, fun v r hr => ?_, fun r hr => (h3 r hr).1⟩⟩
        rw [List.length_map, hts] at g2
        exact g2 v r hr
theorem ok_other_arc {f : Addr} {fd : FuncData} (F : Fun K "_other_arc" "_other_arc" s_other_arc f fd) (T : Txt P K mg CA CU) : FnOk P w K mg base CX0 1 f fd ["row", "parts", "divisor", "came"] (spOther K) := by
  refine F.ok sc_other_arc (fun vs H Q E h => ?_) (fun cdv A outer s H vs Q E hr h => ?_)
  · obtain ⟨r, pp, row, xs, d, came, rfl, _⟩ := h
    rfl
  · obtain ⟨r, pp, row, xs, d, came, rfl, hR, hX, hin, hd, k⟩ := h
    refine ⟨_, (pss_cons (ps_for PassesOwn.never rfl (pi_list (pv 0)) (pg_name (i := 4) sc_other_arc.nd rfl (Or.inl rfl))
      (pss_one (ps_if (PW.pt (pw_and (pt_cmpR op_ne (pv 4) (pv 3) (nomark _)) (pw_and1 (pt_cmpR op_ne (pe_op op_mod (pe_ix ix_list (pv 1) (pv 4) (fun _ _ => rfl)) (pv 2)) pe_int (nomark _)))))
        (pss_one (ps_ret (pv 4)))
        pss_nil)))
    (pss_one (ps_ret (pv 3)))), ?_⟩
    refine ⟨_, rfl, _, rfl, ⟨_, hR⟩, for_list (K := K) (a := r) (xs := row.map vN) (fun i σ H' => H' = H ∧ Cir.other (row.drop i) xs d came = Cir.other row xs d came ∧ ∃ o : Option V, σ = [some (.ref r), some (.ref pp), some (.int d), some (.int (came : Int)), o])
      ⟨rfl, rfl, _, rfl⟩ (fun i σ H' _ ⟨e, _⟩ => by rw [e]; exact hR) ?_ ?_⟩
    · rintro i y σ H' hi ⟨rfl, ho, o, rfl⟩
      obtain ⟨z, hz, rfl⟩ := get_mapf hi
      obtain ⟨hz1, hz2⟩ := List.getElem?_eq_some_iff.mp hz
      have dr : row.drop i = z :: row.drop (i + 1) := by rw [List.drop_eq_getElem_cons hz1, hz2]
      have hzl := hin z (List.mem_of_getElem? hz)
      rw [dr] at ho
      unfold Cir.other at ho
      rw [List.find?_cons] at ho
      refine ⟨_, rfl, _, rfl, rfl, _, rfl, ?_⟩
      by_cases c : z = came
      · have e1 : (!decide (V.int (z : Int) = V.int (came : Int))) = false := by rw [c]; simp
        refine iteN e1 ?_
        have e2 : (decide (z ≠ came) && Cir.frac xs d z) = false := by simp [c]
        simp only [e2] at ho
        exact iteF ⟨rfl, ho, _, rfl⟩
      · have e1 : (!decide (V.int (z : Int) = V.int (came : Int))) = true := by
          have : ¬ V.int (z : Int) = V.int (came : Int) := fun h => c (by have := V.int.inj h; omega)
          simp [this]
        refine iteY e1 ?_
        refine ⟨_, rfl, _, rfl, _, _, _, _, rfl, rfl, hX, at_part hzl, _, rfl, _, _, rfl, rfl, hd, rfl, _, rfl, ?_⟩
        refine ne_if (fun b => ?_) fun b => ?_
        · have e2 : (decide (z ≠ came) && Cir.frac xs d z) = true := by
            unfold Cir.frac
            simp [c, b]
          simp only [e2] at ho
          refine ⟨_, rfl, ?_⟩
          have ho' : z = Cir.other row xs d came := ho
          rw [ho']
          exact k
        · have e2 : (decide (z ≠ came) && Cir.frac xs d z) = false := by
            unfold Cir.frac
            simp [b]
          simp only [e2] at ho
          exact ⟨rfl, ho, _, rfl⟩
    · rintro σ H' ⟨rfl, ho, o, rfl⟩
      rw [List.length_map, List.drop_length] at ho
      have ho' : came = Cir.other row xs d came := ho
      refine ⟨_, rfl, ?_⟩
      rw [← ho'] at k
      exact k
end
def spRounded (K : PySem.W.Frag) (CA CU : Addr) : Sp := fun vs H Q E => ∃ (n : Nat) (a am : Addr) (arcs : List Cir.Arc) (xs : List Int) (d : Int), vs = [.int (n : Int), .ref a, .ref am, .int d] ∧ ArcsAt K H a arcs ∧ SqL K H am (xs.map V.int) ∧
  arcs.length = xs.length ∧ arcs.length ≤ 10000 ∧ n ≤ 10000 ∧ 0 < d ∧ d.natAbs.log2 < 9000 ∧
  ((∀ k, k < arcs.length → Cir.Good n (Cir.arcOf arcs k)) → (∀ v : Nat, v < n → Cir.net arcs xs v = 0) → ∀ (p : Addr) (H' : Hp), H p = none → Fr [] H H' → H' p = some (.lst ((Cir.roundedF n arcs xs d).map V.int)) → Q (.ref p) H') ∧
  (∀ k, k < arcs.length → ¬ Cir.Good n (Cir.arcOf arcs k) → (∀ j, j < k → Cir.Good n (Cir.arcOf arcs j)) → ∀ (d : Addr) (H' : Hp), Fr [] H H' → H' d = some (.xd [(("arc" : Str), .int (k : Int))]) → E (.ref CA) (some d) H') ∧
  ((∀ k, k < arcs.length → Cir.Good n (Cir.arcOf arcs k)) → ∀ v : Nat, v < n → Cir.net arcs xs v ≠ 0 → (∀ u : Nat, u < v → Cir.net arcs xs u = 0) → ∀ (d : Addr) (H' : Hp), Fr [] H H' → H' d = some (.xd [(("node" : Str), .int (v : Int))]) → E (.ref CU) (some d) H')
/-- the least number with a property, if there is one -/
theorem least {P : Nat → Prop} : ∀ (m : Nat), (∃ k, k < m ∧ P k) → ∃ k, k < m ∧ P k ∧ ∀ j, j < k → ¬ P j
  | 0, ⟨k, h, _⟩ => by omega
  | m + 1, ⟨k, h, p⟩ => by
    by_cases c : ∃ k, k < m ∧ P k
    · obtain ⟨k, h1, h2, h3⟩ := least m c
      exact ⟨k, by omega, h2, h3⟩
    · have e : k = m := by
        by_cases z : k = m
        · exact z
        · exact absurd ⟨k, by omega, p⟩ c
      subst e
      exact ⟨k, h, p, fun j hj pj => c ⟨j, hj, pj⟩⟩
section
variable {P : Program} {w : World} {K : PySem.W.Frag} {mg : Str → Option Value} {base : Heap} {CA CU : Addr}
theorem PairsAt.snoc {H : Hp} {p t : Addr} {f : List (Nat × Int)} {q : Nat × Int} {H' : Hp} (h : PairsAt H p f) (e : ∀ a o, H a = some o → a ≠ p → H' a = some o) (hp : ∀ ts : List Addr, H p = some (.lst (ts.map V.ref)) → H' p = some (.lst (ts.map V.ref ++ [.ref t])))
    (ht : H' t = some (.tup [.int (q.1 : Int), .int q.2])) : PairsAt H' p (f ++ [q]) := by
  obtain ⟨ts, h1, h2, h3⟩ := h
  refine ⟨ts ++ [t], ?_, by simp [h2], fun k u r hu hr => ?_⟩
  · rw [List.map_append]
    exact hp ts h1
  · rcases Cir.getElem?_snoc_last hu with ⟨c1, hu⟩ | ⟨c1, rfl⟩
    · rcases Cir.getElem?_snoc_last hr with ⟨c2, hr⟩ | ⟨c2, _⟩
      · refine e _ _ (h3 k u r hu hr) fun z => ?_
        rw [z] at hu
        have := h3 k p r hu hr
        rw [h1] at this
        cases this
      · omega
    · rcases Cir.getElem?_snoc_last hr with ⟨c2, hr⟩ | ⟨c2, rfl⟩
      · omega
      · exact ht
theorem ok_fraction_round {f : Addr} {fd : FuncData} (F : Fun K "_fraction_round" "_fraction_round" s_fraction_round f fd) (T : Txt P K mg CA CU)
    (F_other_arc : FnB P w K mg base CX0 1 "_other_arc" ["row", "parts", "divisor", "came"] (spOther K)) : FnOk P w K mg base CX0 2 f fd ["arcs", "near", "parts", "divisor", "start"] (spRound K) := by
  refine F.ok sc_fraction_round (fun vs H Q E h => ?_) (fun cdv A outer s H vs Q E hr h => ?_)
  · obtain ⟨n, a, ne, pp, arcs, xs, d, start, rfl, _⟩ := h
    rfl
  · obtain ⟨n, a, ne, pp, arcs, xs, d, start, rfl, hA, hN, hX, hlx, hl, hn, hgood, hbal, hd, hst, hfr, k⟩ := h
    have hu := hu_of hr
    refine ⟨_, (pss_cons (ps_set (i := 5) sc_fraction_round.nd rfl (Or.inl rfl) (pe_ix ix_tup (pe_ix ix_list (pv 0) (pv 4) (fun _ _ => rfl)) pe_int (fun _ _ => rfl)))
    (pss_cons (ps_set (i := 6) sc_fraction_round.nd rfl (Or.inl rfl) (pv 4))
    (pss_cons (ps_set (i := 7) sc_fraction_round.nd rfl (Or.inl rfl) (pe_lst pa_nil))
    (pss_cons (ps_set (i := 8) sc_fraction_round.nd rfl (Or.inl rfl) (pe_disp (pps_cons (pv 5) pe_int pps_nil) (by rfl) (by rfl) (fun z => by cases z) (by decide)))
    (pss_one (ps_while PassesOwn.never (pt_val pe_bl)
      (pss_cons (ps_set (i := 9) sc_fraction_round.nd rfl (Or.inl rfl) pe_int)
      (Evl.pss_cut (ps_if (pt_cmpR op_eq (pe_ix ix_tup (pe_ix ix_list (pv 0) (pv 6) (fun _ _ => rfl)) pe_int (fun _ _ => rfl)) (pv 5) (nomark _))
        (pss_one (ps_set (i := 5) sc_fraction_round.nd rfl (Or.inl rfl) (pe_ix ix_tup (pe_ix ix_list (pv 0) (pv 6) (fun _ _ => rfl)) pe_int (fun _ _ => rfl))))
        (pss_cons (ps_set (i := 5) sc_fraction_round.nd rfl (Or.inl rfl) (pe_ix ix_tup (pe_ix ix_list (pv 0) (pv 6) (fun _ _ => rfl)) pe_int (fun _ _ => rfl)))
        (pss_one (ps_set (i := 9) sc_fraction_round.nd rfl (Or.inl rfl) (pe_un un_neg pe_int)))))
      (pss_cons (ps_expr (pe_bm PySem.F.plainAttrs_list PySem.F.slot_list_append PySem.F.type_list_append mt_append (pv 7) (pa_cons (pe_tup (pa_cons (pv 6) (pa_cons (pv 9) pa_nil))) pa_nil)))
      (pss_cons (ps_if (pt_cmp (pc_din hu (pv 5) (pv 8)))
        (pss_one (ps_ret (pe_slice sl_list (pv 7) (po_some (pe_dget hu (pv 8) (pv 5) (fun _ _ => rfl))) po_none)))
        pss_nil)
      (pss_cons (ps_dput hu (pv 8) (pv 5) (pe_callB call_len_seq (by rfl) T.m_len (by decide +kernel) (pa_cons (pv 7) pa_nil)) rfl)
      (pss_one (ps_set (i := 6) sc_fraction_round.nd rfl (Or.inl rfl) (pe_callF F_other_arc (hr.mono (by decide)) rfl pass0 (pa_cons (pe_ix ix_list (pv 1) (pv 5) (fun _ _ => rfl)) (pa_cons (pv 2) (pa_cons (pv 3) (pa_cons (pv 6) pa_nil)))))))))))))))))), ?_⟩
    obtain ⟨ts, hL, hts, hT⟩ := hA.at
    obtain ⟨t0, x1, x2⟩ := hT start hst
    refine ⟨_, rfl, _, rfl, _, _, _, _, rfl, rfl, hL, x1, _, _, _, _, rfl, rfl, x2, rfl, ?_⟩
    refine ⟨_, rfl, by show 0 ≤ sizeLine; exact Nat.zero_le _, fun pa hpa p hp => ⟨_, rfl, upd_same, [((Sum.inl (Cir.arcOf arcs start).1 : Key), V.int 0)], rfl, by show 1 ≤ 15; decide, ?_⟩⟩
    have npa : pa ≠ p := ne_of_none upd_same hp
    have hp0 : H p = none := ((Fr.refl [] H).new hpa).free hp
    refine while_true (fun m σ H' => ∃ (f : Nat) (vs : List Int) (path : List (Nat × Int)) (node : Int) (arc : Nat) (o : Option V), m = n + 1 - vs.length ∧ σ = [some (.ref a), some (.ref ne), some (.ref pp), some (.int d), some (.int (start : Int)), some (.int node), some (.int (arc : Int)), some (.ref pa), some (.ref p), o] ∧
      Cir.fround arcs xs d f vs path node arc = Cir.roundOf n arcs xs d start ∧ Cir.St0 n arcs xs d vs path node arc ∧ n + 1 ≤ f + vs.length ∧ Fr [] H H' ∧ PairsAt H' pa path ∧ H' p = some (.dK (kvsOf vs 0)))
      (n + 1 - 1) ⟨n + 1, [(Cir.arcOf arcs start).1], [], (Cir.arcOf arcs start).1, start, none, rfl, rfl, rfl, ?_, by simp, ?_, ?_, ?_⟩ ?_
    · refine ⟨trivial, by simp, rfl, fun v hv => ?_, ⟨hst, hfr, by simp [Cir.touch]⟩, fun q hq => by simp at hq, fun i q q' h => by simp at h, fun q h => by simp at h⟩
      rw [List.mem_singleton] at hv
      subst hv
      exact (hgood start hst).1
    · rw [upd_upd]
      exact ((Fr.refl [] H).new hpa).new hp
    · refine ⟨[], ?_, rfl, fun k t q h => by simp at h⟩
      rw [upd_ne npa, upd_ne npa]
      exact upd_same
    · exact upd_same
    · rintro m σ H' ⟨f, vs, path, node, arc, o, rfl, rfl, hf, S, hfu, e, hP, hK⟩
      obtain ⟨t, y1, y2⟩ := hT arc S.ar.1
      cases f with
      | zero =>
        have := Cir.nodup_le n vs S.nd S.rng
        omega
      | succ f =>
        unfold Cir.fround at hf
        have ste := Cir.stepN_ste S.ar.2.2
        have far := ste.1.far (hgood arc S.ar.1)
        -- way = 1; if ..
        refine ⟨fun σ' H2 => H2 = H' ∧ σ' = [some (.ref a), some (.ref ne), some (.ref pp), some (.int d), some (.int (start : Int)), some (.int (Cir.stepN arcs arc node).1), some (.int (arc : Int)), some (.ref pa), some (.ref p), some (.int (Cir.stepN arcs arc node).2)], ?_, ?_⟩
        · refine ⟨_, rfl, _, rfl, _, _, _, _, rfl, rfl, e.l hL, y1, _, _, _, _, rfl, rfl, e.t y2, rfl, _, rfl, rfl, _, rfl, eq_if (fun c => ?_) fun c => ?_⟩
          · refine ⟨_, rfl, _, rfl, _, _, _, _, rfl, rfl, e.l hL, y1, _, _, _, _, rfl, rfl, e.t y2, rfl, rfl, ?_⟩
            unfold Cir.stepN
            rw [if_pos c]
            rfl
          · refine ⟨_, rfl, _, rfl, _, _, _, _, rfl, rfl, e.l hL, y1, _, _, _, _, rfl, rfl, e.t y2, rfl, _, rfl, rfl, ?_⟩
            unfold Cir.stepN
            rw [if_neg c]
            rfl
        rintro σ' H2 ⟨rfl, rfl⟩
        revert hf ste far
        generalize Cir.stepN arcs arc node = sn
        obtain ⟨nd, wy⟩ := sn
        intro hf ste far
        -- path.append((arc, way))
        obtain ⟨pts, hp1, hp2, hp3⟩ := id hP
        have wlen := S.wk.len
        have vlen := Cir.nodup_le n vs S.nd S.rng
        refine ⟨_, rfl, .inl ⟨rfl, _, SqL.of hp1⟩, _, rfl, _, rfl, by show 2 ≤ sizeLine; decide, fun tt htt => ⟨_, _, _, rfl, rfl, by rw [upd_ne (ne_of_none hp1 htt)]; exact hp1, len_lt (by rw [List.length_map]; omega), ?_⟩⟩
        have ntp : tt ≠ pa := (ne_of_none hp1 htt).symm
        have ntd : tt ≠ p := (ne_of_none hK htt).symm
        have e3 : Fr [] H (upd (upd H2 tt (.tup [.int (arc : Int), .int wy])) pa (.lst (pts.map V.ref ++ [.ref tt]))) := (e.new htt).put (.inr hpa)
        have P3 : PairsAt (upd (upd H2 tt (.tup [.int (arc : Int), .int wy])) pa (.lst (pts.map V.ref ++ [.ref tt]))) pa (path ++ [(arc, wy)]) := by
          refine hP.snoc (t := tt) (fun b o hb hn => ?_) (fun ts' h => ?_) ?_
          · rw [upd_ne hn, upd_ne (ne_of_none hb htt)]
            exact hb
          · rw [hp1] at h
            have := HO.lst.inj (Option.some.inj h)
            rw [upd_same, this]
          · rw [upd_ne ntp]
            exact upd_same
        have K3 : (upd (upd H2 tt (.tup [.int (arc : Int), .int wy])) pa (.lst (pts.map V.ref ++ [.ref tt]))) p = some (.dK (kvsOf vs 0)) := by
          rw [upd_ne (Ne.symm npa), upd_ne (Ne.symm ntd)]
          exact hK
        show tSeq _ _ _ _ (upd (upd H2 tt (.tup [.int (arc : Int), .int wy])) pa (.lst (pts.map V.ref ++ [.ref tt])))
        revert e3 P3 K3
        generalize upd (upd H2 tt (.tup [.int (arc : Int), .int wy])) pa (.lst (pts.map V.ref ++ [.ref tt])) = H3
        intro e3 P3 K3
        obtain ⟨pt3, q1, q2, q3⟩ := id P3
        -- if node in places
        refine ⟨_, rfl, _, rfl, p, _, rfl, DGet.k (k := Sum.inl nd) K3, _, rfl, ?_⟩
        rw [kvsOf_val]
        by_cases hin : nd ∈ vs
        · rw [if_pos hin] at hf ⊢
          refine iteT ?_
          have hi : vs.idxOf nd < vs.length := List.idxOf_lt_length_of_mem hin
          refine ⟨_, rfl, _, rfl, _, rfl, p, V.int ((0 + vs.idxOf nd : Nat) : Int), rfl, ?_, _, rfl, _, _, rfl, SqL.of q1, fun r hr => ?_⟩
          · have := DGet.k (k := (Sum.inl nd : Key)) K3
            rw [kvsOf_val, if_pos hin] at this
            exact this
          rw [cut_drop _ _ (by rw [List.length_map, q2]; simp; omega), Nat.zero_add]
          refine k r _ (e3.free hr) (e3.new hr) ?_
          rw [← hf]
          refine ⟨pt3.drop (vs.idxOf nd), by rw [upd_same, List.map_drop], by simp [q2], fun k' t' q' h1 h2 => ?_⟩
          rw [List.getElem?_drop] at h1 h2
          have := q3 _ _ _ h1 h2
          rw [upd_ne (ne_of_none this hr)]
          exact this
        · rw [if_neg hin] at hf ⊢
          refine iteF ?_
          -- places[node] = len(path); arc = _other_arc(..)
          refine ⟨_, rfl, _, _, rfl, .inl (SqL.of q1), _, rfl, _, rfl, p, _, rfl, DPut.k (k := Sum.inl nd) K3 (by rw [kvsOf_len]; exact len_lt (by omega)), ?_⟩
          have e4 : Fr [] H (upd H3 p (.dK (putK (kvsOf vs 0) (Sum.inl nd) (.int ((pt3.map V.ref).length : Int))))) := e3.put (.inr hp0)
          have hv : valV (kvsOf vs 0) (Sum.inl nd : Key) = none := by rw [kvsOf_val, if_neg hin]
          have K4 : (upd H3 p (.dK (putK (kvsOf vs 0) (Sum.inl nd) (.int ((pt3.map V.ref).length : Int))))) p = some (.dK (kvsOf (vs ++ [nd]) 0)) := by
            rw [upd_same, putK_new _ hv, kvsOf_snoc]
            have : ((pt3.map V.ref).length : Int) = ((0 + vs.length : Nat) : Int) := by
              rw [List.length_map, q2, List.length_append]
              simp
              omega
            rw [this]
          have P4 : PairsAt (upd H3 p (.dK (putK (kvsOf vs 0) (Sum.inl nd) (.int ((pt3.map V.ref).length : Int))))) pa (path ++ [(arc, wy)]) := by
            refine ⟨pt3, by rw [upd_ne npa]; exact q1, q2, fun k' t' q' h1 h2 => ?_⟩
            have := q3 _ _ _ h1 h2
            rw [upd_ne (ne_of this K3 (by intro z; cases z))]
            exact this
          revert e4 K4 P4
          generalize upd H3 p (.dK (putK (kvsOf vs 0) (Sum.inl nd) (.int ((pt3.map V.ref).length : Int)))) = H4
          intro e4 K4 P4
          obtain ⟨rs, r1, r2, r3, _⟩ := hN.fr e4
          have hnd : nd.toNat < rs.length := by have := far.1; omega
          have c1 := List.getElem?_eq_getElem hnd
          generalize rs[nd.toNat] = rr at c1
          have r4 := r3 _ _ c1
          rw [Int.toNat_of_nonneg far.1.1] at r4
          refine ⟨_, rfl, _, rfl, _, _, _, _, rfl, rfl, SqL.of r2, at_int (v := V.ref rr) far.1.1 (by rw [List.getElem?_map, c1]; rfl), _, rfl, _, rfl, _, rfl, ?_⟩
          refine ⟨rr, pp, Cir.nearOf arcs nd, xs, d, arc, rfl, SqL.of r4, e4.l hX, fun k' hk' => by rw [← hlx]; exact (Cir.mem_near.mp hk').1, hd, ?_⟩
          have wk2 := S.wk.snoc S.last ste.1
          have oth := Cir.other_ok (Cir.bal_other (v := nd) hlx hgood (hbal _) S.ar.1 S.ar.2.1 far.2)
          have mem := Cir.mem_near.mp oth.1
          have cs := Cir.cons_snoc (w := wy) S
          refine ⟨n + 1 - (vs ++ [nd]).length, by simp; omega, f, vs ++ [nd], path ++ [(arc, wy)], nd, Cir.other (Cir.nearOf arcs nd) xs d arc, _, rfl, rfl, hf, ?_, by simp; omega, e4, P4, K4⟩
          refine ⟨wk2, ?_, by simp, fun v hv => ?_, ⟨mem.1, oth.2.2, mem.2⟩, fun q hq => ?_, cs, fun q hq => ?_⟩
          · rw [List.nodup_append]
            refine ⟨S.nd, by simp, fun a ha b hb2 => ?_⟩
            rw [List.mem_singleton] at hb2
            subst hb2
            rintro rfl
            exact hin ha
          · rcases List.mem_append.mp hv with hv | hv
            · exact S.rng v hv
            · rw [List.mem_singleton] at hv
              subst hv
              exact far.1
          · rcases List.mem_append.mp hq with hq | hq
            · exact S.old q hq
            · rw [List.mem_singleton] at hq
              subst hq
              exact ⟨S.ar.1, S.ar.2.1, ste.2⟩
          · rw [List.getLast?_append] at hq
            simp at hq
            subst hq
            exact Ne.symm oth.2.1
end
section
variable {P : Program} {w : World} {K : PySem.W.Frag} {mg : Str → Option Value} {base : Heap} {CA CU : Addr}
theorem net_far {n : Nat} {v : Int} (hv : ¬ (0 ≤ v ∧ v < n)) : ∀ (as : List Cir.Arc) (xs : List Int), (∀ k, k < as.length → Cir.Good n (Cir.arcOf as k)) → Cir.net as xs v = 0
  | [], _, _ => by simp [Cir.net]
  | _ :: _, [], _ => by simp [Cir.net]
  | p :: as, x :: xs, h => by
    have ih := net_far hv as xs fun k hk => h (k + 1) (by simpa using hk)
    have g : Cir.Good n p := h 0 (by simp)
    have e : Cir.dlt p v = 0 := by
      unfold Cir.dlt Cir.ind
      rw [if_neg (by rintro rfl; exact hv g.2.1), if_neg (by rintro rfl; exact hv g.1)]
      rfl
    simp [Cir.net, ih, e]
theorem ok_rounded {f : Addr} {fd : FuncData} (F : Fun K "rounded" "rounded" s_rounded f fd) (T : Txt P K mg CA CU)
    (F_check_ends : FnB P w K mg base (L2.CX P w) 2 "_check_ends" ["count", "arcs"] (spCheckEnds K CA)) (F_check_balance : FnB P w K mg base (L2.CX P w) 3 "_check_balance" ["count", "arcs", "amounts"] (spCheckBal K CU))
    (F_near : FnB P w K mg base CX0 1 "_near" ["count", "arcs"] (spNear K)) (F_fraction_round : FnB P w K mg base CX0 2 "_fraction_round" ["arcs", "near", "parts", "divisor", "start"] (spRound K)) :
    FnOk P w K mg base (L2.CX P w) 4 f fd ["count", "arcs", "amounts", "divisor"] (spRounded K CA CU) := by
  refine F.okX sc_rounded (fun vs H Q E h => ?_) (fun cdv A outer s H vs Q E hr h => ?_)
  · obtain ⟨n, a, am, arcs, xs, d, rfl, _⟩ := h
    rfl
  · obtain ⟨n, a, am, arcs, xs, d, rfl, hA, hX, hlx, hl, hn, hd, hlog, kQ, kA, kU⟩ := h
    refine ⟨_, (pss_cons (ps_expr (pe_callF F_check_ends (hr.mono (by decide)) rfl (passes_call (takes_of rfl rfl rfl rfl) fun _ _ _ _ z => z) (pa_cons (pv 0) (pa_cons (pv 1) pa_nil))))
    (pss_cons (ps_expr (pe_callF F_check_balance (hr.mono (by decide)) rfl (passes_call (takes_of rfl rfl rfl rfl) fun _ _ _ _ z => z) (pa_cons (pv 0) (pa_cons (pv 1) (pa_cons (pv 2) pa_nil)))))
    (pss_cons (ps_set (i := 4) sc_rounded.nd rfl (Or.inl rfl) (pe_callTy call_list_of (by rfl) T.m_list (by decide +kernel) (pa_cons (pv 2) pa_nil)))
    (pss_cons (ps_set (i := 5) sc_rounded.nd rfl (Or.inl rfl) (pe_callF F_near (hr.mono (by decide)) rfl pass0 (pa_cons (pv 0) (pa_cons (pv 1) pa_nil))))
    (pss_cons (ps_for (passes_of rfl) rfl (pi_range1 (by rfl) T.m_range (pa_cons (pe_callB call_len_seq (by rfl) T.m_len (by decide +kernel) (pa_cons (pv 1) pa_nil)) pa_nil)) (pg_name (i := 6) sc_rounded.nd rfl (Or.inl rfl))
      (pss_one (ps_while (passes_of rfl) (pt_cmpR op_ne (pe_op op_mod (pe_ix ix_list (pv 4) (pv 6) (fun _ _ => rfl)) (pv 3)) pe_int (nomark _))
        (pss_cons (ps_set (i := 7) sc_rounded.nd rfl (Or.inl rfl) (pe_callF F_fraction_round (hr.mono (by decide)) rfl pass0 (pa_cons (pv 1) (pa_cons (pv 5) (pa_cons (pv 4) (pa_cons (pv 3) (pa_cons (pv 6) pa_nil)))))))
        (pss_cons (ps_set (i := 8) sc_rounded.nd rfl (Or.inl rfl) (pv 3))
        (pss_cons (ps_for (passes_of rfl) rfl (pi_list (pv 7)) (pg_tup rfl (pgs_cons (pg_name (i := 9) sc_rounded.nd rfl (Or.inl rfl)) (pgs_cons (pg_name (i := 10) sc_rounded.nd rfl (Or.inl rfl)) pgs_nil)))
          (pss_one (ps_set (i := 8) sc_rounded.nd rfl (Or.inl rfl) (pe_callB (call_min2 rfl) (by rfl) T.m_min (by decide +kernel) (pa_cons (pv 8) (pa_cons (pe_op op_mod (pe_op op_mul (pv 10) (pe_un un_neg (pe_ix ix_list (pv 4) (pv 9) (fun _ _ => rfl)))) (pv 3)) pa_nil))))))
        (pss_one (ps_for (passes_of rfl) rfl (pi_list (pv 7)) (pg_tup rfl (pgs_cons (pg_name (i := 9) sc_rounded.nd rfl (Or.inl rfl)) (pgs_cons (pg_name (i := 10) sc_rounded.nd rfl (Or.inl rfl)) pgs_nil)))
          (pss_one (ps_augS (pv 4) (pv 9) pget_list (pe_op op_mul (pv 10) (pv 8)) ip_add set_list))))))))))
    (pss_one (ps_ret (pe_lc (own := [("part", 11)]) rfl sc_rounded.nd (pi_list (pv 4)) (blkOk_by (own := [("part", 11)]) (N := n_rounded) (sc := defScope s_rounded) (by decide +kernel)) (fun _ _ _ _ _ => (pg_name (i := 11) sc_rounded.nd rfl (Or.inl rfl))) (fun _ _ _ _ _ => pts_nil) (fun _ _ _ _ _ => (pe_op op_fdivW (pv 11) (pv 3))))))))))), ?_⟩
    by_cases hgood : ∀ k, k < arcs.length → Cir.Good n (Cir.arcOf arcs k)
    · refine ⟨_, rfl, _, rfl, n, a, arcs, rfl, hA, by omega, fun _ => ?_, fun k hk hb => absurd (hgood k hk) hb⟩
      by_cases hz : ∀ v : Nat, v < n → Cir.net arcs xs v = 0
      · refine ⟨_, rfl, _, rfl, _, rfl, n, a, am, arcs, xs, rfl, hA, hX, hlx, by omega, by omega, hgood, fun _ H1 e1 => ?_, fun v hv hb => absurd (hz v hv) hb⟩
        have hbal : ∀ v, Cir.net arcs xs v = 0 := fun v => by
          by_cases c : 0 ≤ v ∧ v < n
          · have := hz v.toNat (by omega)
            rwa [Int.toNat_of_nonneg c.1] at this
          · exact net_far c arcs xs hgood
        have kQ := kQ hgood hz
        -- parts = list(amounts); near = _near(count, arcs)
        refine ⟨_, rfl, _, _, rfl, .inl (e1.l hX), fun pl hpl => ?_⟩
        have e2 := e1.new (o := .lst (xs.map V.int)) hpl
        have p2 : (upd H1 pl (.lst (xs.map V.int))) pl = some (.lst (xs.map V.int)) := upd_same
        have npl : H pl = none := e1.free hpl
        revert e2 p2
        generalize upd H1 pl (.lst (xs.map V.int)) = H2
        intro e2 p2
        refine ⟨_, rfl, _, rfl, n, a, arcs, rfl, hA.fr e2, hl, hn, hgood, fun ne H3 hne e3 hN => ?_⟩
        have npn : pl ≠ ne := ne_of_none p2 hne
        have hN : NearAt (fun r => r ≠ pl) H3 ne n arcs := hN.imp fun r hr => (ne_of_none p2 hr).symm
        obtain ⟨ts, hL, hts, hT⟩ := hA.at
        have hlm : (ts.map V.ref).length = arcs.length := by rw [List.length_map, hts]
        refine ⟨_, rfl, _, _, rfl, .inl ((e2.trans e3).l hL), _, rfl, (rg_ok (by omega)).1, (rg_ok (by omega)).2, for_rng (n := (ts.map V.ref).length)
          (fun i σ H' => Fr [] H H' ∧ NearAt (fun r => r ≠ pl) H' ne n arcs ∧ H' pl = some (.lst ((Cir.outer n arcs d xs i).map V.int)) ∧ ∃ o1 o2 o3 o4 o5 : Option V, σ = [some (.int (n : Int)), some (.ref a), some (.ref am), some (.int d), some (.ref pl), some (.ref ne), o1, o2, o3, o4, o5, none])
          ⟨e2.trans e3, hN, e3 _ _ p2 (by simp), _, _, _, _, _, rfl⟩ ?_ ?_⟩
        · rintro i σ H' hi ⟨e, hN, hp, o1, o2, o3, o4, o5, rfl⟩
          rw [hlm] at hi
          obtain ⟨I0, _⟩ := Cir.outer_ok hd hgood hlx hbal i (by omega)
          refine ⟨fun m σ H' => ∃ (f : Nat) (p : List Int), m = Cir.fracs arcs.length p d ∧ Cir.inner n arcs d f p i = Cir.outer n arcs d xs (i + 1) ∧ Cir.Inv arcs xs d p ∧ Cir.fracs arcs.length p d ≤ f ∧
            Fr [] H H' ∧ NearAt (fun r => r ≠ pl) H' ne n arcs ∧ H' pl = some (.lst (p.map V.int)) ∧ ∃ o2 o3 o4 o5 : Option V, σ = [some (.int (n : Int)), some (.ref a), some (.ref am), some (.int d), some (.ref pl), some (.ref ne), some (.int (i : Int)), o2, o3, o4, o5, none],
            ⟨_, arcs.length + 1, Cir.outer n arcs d xs i, rfl, (Cir.outer_succ n arcs d xs i).symm, I0, Nat.le_trans (Cir.fracs_le _ _ _) (by omega), e, hN, hp, _, _, _, _, rfl⟩, ?_⟩
          rintro m σ H' ⟨f, p, rfl, hin, I, hf, e, hN, hp, o2, o3, o4, o5, rfl⟩
          have hpl2 : i < p.length := by rw [I.len]; exact hi
          refine ⟨_, rfl, _, rfl, _, _, _, _, rfl, rfl, SqL.of hp, at_part hpl2, _, rfl, _, _, rfl, rfl, hd, rfl, _, rfl, ne_if (fun c => ⟨_, fun σ' H' h => h, ?_⟩) fun c => ?_⟩
          · have fr : Cir.frac p d i = true := decide_eq_true c
            have R := Cir.roundOf_ok (n := n) (p := p) (d := d) (k := i) I.len.symm hgood (fun v => by rw [I.bal v]; exact Int.zero_emod _) hi fr
            obtain ⟨I2, _, lt⟩ := Cir.turn_ok hd hgood I hi fr
            cases f with
            | zero => omega
            | succ f =>
              unfold Cir.inner at hin
              rw [if_pos fr] at hin
              -- found = _fraction_round(..)
              refine ⟨_, rfl, _, rfl, _, rfl, _, rfl, _, rfl, n, a, ne, pl, arcs, p, d, i, rfl, hA.fr e, hN.imp (fun _ _ => trivial), SqL.of hp, I.len.symm, hl, hn, hgood, fun v => by rw [I.bal v]; exact Int.zero_emod _, hd, hi, fr, fun fo H4 hfo e4 hF => ?_⟩
              unfold Cir.turn at hin I2 lt
              generalize Cir.roundOf n arcs p d i = fo' at R hF hin I2 lt
              have e4' := e.trans e4
              have hp4 := e4 _ _ hp (by simp)
              have hN4 := hN.fr e4
              obtain ⟨ft, h1, h2, h3⟩ := hF
              have hft : ∀ {k : Nat} {y : V}, (ft.map V.ref)[k]? = some y → ∃ (t : Addr) (q : Nat × Int), y = .ref t ∧ fo'[k]? = some q ∧ H4 t = some (.tup [.int (q.1 : Int), .int q.2]) ∧ q.1 < p.length ∧ (q.2 = 1 ∨ q.2 = -1) := fun {k y} hy => by
                obtain ⟨t, ht, rfl⟩ := get_mapf hy
                have hk : k < fo'.length := by rw [← h2]; exact (List.getElem?_eq_some_iff.mp ht).1
                have hq := List.getElem?_eq_getElem hk
                have ok := R.ok _ (List.mem_of_getElem? hq)
                exact ⟨t, _, rfl, hq, h3 k t _ ht hq, by rw [I.len]; exact ok.1, ok.2.2⟩
              have nfp : ft.map V.ref ≠ p.map V.int := fun z => by
                have z0 : p.length ≠ 0 := by omega
                cases ft with
                | nil =>
                  have := congrArg List.length z
                  simp at this
                  omega
                | cons t r =>
                  cases p with
                  | nil => exact z0 rfl
                  | cons x r2 => cases z
              have nfo : fo ≠ pl := ne_of h1 hp4 (fun z => nfp (HO.lst.inj z))
              -- step = divisor; the least distance
              refine ⟨_, rfl, _, rfl, fo, rfl, ⟨_, SqL.of h1⟩, for_list (K := K) (a := fo) (xs := ft.map V.ref)
                (fun k σ H' => H' = H4 ∧ ∃ o4 o5 : Option V, σ = [some (.int (n : Int)), some (.ref a), some (.ref am), some (.int d), some (.ref pl), some (.ref ne), some (.int (i : Int)), some (.ref fo), some (.int (Cir.stepOf p d (fo'.take k))), o4, o5, none])
                ⟨rfl, _, _, rfl⟩ (fun k σ H' _ ⟨z, _⟩ => by rw [z]; exact SqL.of h1) ?_ ?_⟩
              · rintro k y σ H' hy ⟨rfl, o4, o5, rfl⟩
                obtain ⟨t, q, rfl, hq, ht, hql, hw⟩ := hft hy
                refine ⟨_, _, rfl, SqT.of ht, rfl, _, _, rfl, _, _, rfl, rfl, ?_⟩
                refine ⟨_, rfl, _, rfl, _, rfl, _, rfl, _, _, _, _, rfl, rfl, SqL.of hp4, at_part hql, _, rfl, _, _, rfl, rfl, .inl ⟨by omega, by omega⟩, _, rfl, _, _, rfl, rfl, hd, _, _, rfl, ?_⟩
                refine ⟨rfl, some (.int (q.1 : Int)), some (.int q.2), ?_⟩
                have st : Cir.stepOf p d (fo'.take (k + 1)) = if Cir.dist p d q < Cir.stepOf p d (fo'.take k) then Cir.dist p d q else Cir.stepOf p d (fo'.take k) := by
                  unfold Cir.stepOf
                  rw [take_succ hq, List.foldl_append]
                  rfl
                rw [st]
                rfl
              · rintro σ H' ⟨rfl, o4, o5, rfl⟩
                rw [List.length_map, h2, List.take_length]
                generalize Cir.stepOf p d fo' = stp at hin I2 lt ⊢
                refine ⟨_, rfl, fo, rfl, ⟨_, SqL.of h1⟩, for_list (K := K) (a := fo) (xs := ft.map V.ref)
                  (fun k σ H' => Fr [] H H' ∧ NearAt (fun r => r ≠ pl) H' ne n arcs ∧ H' fo = some (.lst (ft.map V.ref)) ∧ H' pl = some (.lst ((Cir.applyR p stp (fo'.take k)).map V.int)) ∧ (∀ (k : Nat) (t : Addr) (q : Nat × Int), ft[k]? = some t → fo'[k]? = some q → H' t = some (.tup [.int (q.1 : Int), .int q.2])) ∧
                    ∃ o4 o5 : Option V, σ = [some (.int (n : Int)), some (.ref a), some (.ref am), some (.int d), some (.ref pl), some (.ref ne), some (.int (i : Int)), some (.ref fo), some (.int stp), o4, o5, none])
                  ⟨e4', hN4, h1, hp4, h3, _, _, rfl⟩ (fun k σ H' _ ⟨_, _, z, _⟩ => SqL.of z) ?_ ?_⟩
                · rintro k y σ H5 hy ⟨e5, hN5, g1, g2, g3, o4, o5, rfl⟩
                  obtain ⟨t, q, rfl, hq, _, hql, hw⟩ := hft hy
                  obtain ⟨t', ht', et⟩ := get_mapf hy
                  cases et
                  have ht := g3 k t q ht' hq
                  refine ⟨_, _, rfl, SqT.of ht, rfl, _, _, rfl, _, _, rfl, rfl, ?_⟩
                  have hql2 : q.1 < (Cir.applyR p stp (fo'.take k)).length := by rw [Cir.applyR_len]; exact hql
                  refine ⟨_, rfl, _, rfl, _, _, _, _, rfl, rfl, SqL.of g2, at_part hql2, _, rfl, _, rfl, _, _, rfl, rfl, .inl ⟨by omega, by omega⟩, _, _, rfl, rfl, _, _, _, _, rfl, rfl, g2, ix_nat (by rw [List.length_map]; exact hql2), ?_⟩
                  refine ⟨e5.put (.inr npl), ?_, by rw [upd_ne nfo]; exact g1, ?_, fun k' t'' q' a b => ?_, _, _, rfl⟩
                  · obtain ⟨rs, b1, b2, b3, b4⟩ := hN5
                    refine ⟨rs, b1, by rw [upd_ne (Ne.symm npn)]; exact b2, fun v r hv => ?_, b4⟩
                    rw [upd_ne (b4 r (List.mem_of_getElem? hv))]
                    exact b3 v r hv
                  · rw [upd_same, take_succ hq]
                    unfold Cir.applyR
                    rw [List.foldl_append, List.foldl_cons, List.foldl_nil, List.map_set]
                  · rw [upd_ne (ne_of (g3 _ _ _ a b) g2 (by intro z; cases z))]
                    exact g3 _ _ _ a b
                · rintro σ H5 ⟨e5, hN5, g1, g2, g3, o4, o5, rfl⟩
                  rw [List.length_map, h2, List.take_length] at g2
                  exact ⟨_, lt, f, _, rfl, hin, I2, by omega, e5, hN5, g2, _, _, _, _, rfl⟩
          · have fr : Cir.frac p d i = false := decide_eq_false (fun z => z c)
            have done : Cir.inner n arcs d f p i = p := by
              cases f with
              | zero => rfl
              | succ f =>
                unfold Cir.inner
                rw [if_neg (by rw [fr]; decide)]
            rw [done] at hin
            rw [hin] at hp
            exact ⟨e, hN, hp, _, _, _, _, _, rfl⟩
        · rintro σ H' ⟨e, hN, hp, o1, o2, o3, o4, o5, rfl⟩
          rw [hlm] at hp
          refine ⟨_, rfl, pl, rfl, ⟨_, SqL.of hp⟩, fun D hD => lc_list (K := K) (a := pl) (xs := (Cir.outer n arcs d xs arcs.length).map V.int) (fun i H2 => H2 = upd H' D (.lst (((Cir.outer n arcs d xs arcs.length).take i).map fun x => V.int (x / d)))) rfl
            (fun i H2 _ z => by rw [z]; exact SqL.of (by rw [upd_ne (ne_of_none hp hD)]; exact hp)) ?_ ?_⟩
          · rintro i y H2 hy rfl
            obtain ⟨z, hz, rfl⟩ := get_map_int hy
            have il : i < (Cir.outer n arcs d xs arcs.length).length := (List.getElem?_eq_some_iff.mp hz).1
            have ol := (Cir.outer_ok hd hgood hlx hbal arcs.length (Nat.le_refl _)).1.len
            refine ⟨rfl, _, rfl, _, rfl, _, _, rfl, rfl, ⟨hd, hlog⟩, _, upd_same, ?_, ?_⟩
            · rw [List.length_map, List.length_take]
              exact len_lt (by omega)
            · rw [upd_upd, take_succ hz, List.map_append]
              rfl
          · rintro H2 rfl
            rw [List.length_map, List.take_length]
            refine kQ D _ (e.free hD) (e.new hD) ?_
            rw [upd_same]
            unfold Cir.roundedF
            rw [List.map_map]
            rfl
      · -- out of balance
        have ex : ∃ v, v < n ∧ Cir.net arcs xs (v : Int) ≠ 0 := Classical.byContradiction fun no => hz fun v hv => Classical.byContradiction fun c => no ⟨v, hv, c⟩
        obtain ⟨v, h1, h2, h3⟩ := least n ex
        refine ⟨_, rfl, _, rfl, _, rfl, n, a, am, arcs, xs, rfl, hA, hX, hlx, by omega, by omega, hgood, fun z => absurd z hz, fun u hu hb hlow dd H1 e1 hx => kU hgood u hu hb hlow dd H1 e1 hx⟩
    · -- a wrong arc
      refine ⟨_, rfl, _, rfl, n, a, arcs, rfl, hA, by omega, fun z => absurd z hgood, fun k hk hb hlow dd hdd => kA k hk hb hlow dd _ ((Fr.refl [] H).new hdd) upd_same⟩
end
/-! _check_parents(side, parents): slots 0 side 1 parents 2 k -/
abbrev s_check_parents : Stmt := top 16
abbrev n_check_parents : List Str := ["side", "parents", "k"]
theorem sc_check_parents : FnScope n_check_parents ["side", "parents"] (defScope s_check_parents) := ⟨rfl, rfl, rfl, by decide +kernel, rfl, by decide +kernel, by decide +kernel⟩
/-! _check_cells(first, second, cells): slots 0 first 1 second 2 cells 3 k 4 one 5 two -/
abbrev s_check_cells : Stmt := top 17
abbrev n_check_cells : List Str := ["first", "second", "cells", "k", "one", "two"]
theorem sc_check_cells : FnScope n_check_cells ["first", "second", "cells"] (defScope s_check_cells) := ⟨rfl, rfl, rfl, by decide +kernel, rfl, by decide +kernel, by decide +kernel⟩
/-! cell_totals(parents, places, amounts): slots 0 parents 1 places 2 amounts 3 totals 4 k -/
abbrev s_cell_totals : Stmt := top 18
abbrev n_cell_totals : List Str := ["parents", "places", "amounts", "totals", "k"]
theorem sc_cell_totals : FnScope n_cell_totals ["parents", "places", "amounts"] (defScope s_cell_totals) := ⟨rfl, rfl, rfl, by decide +kernel, rfl, by decide +kernel, by decide +kernel⟩
/-! _ends(first, second, cells): slots 0 first 1 second 2 cells 3 base 4 ends 5 k 6 cell -/
abbrev s_ends : Stmt := top 19
abbrev n_ends : List Str := ["first", "second", "cells", "base", "ends", "k", "cell"]
theorem sc_ends : FnScope n_ends ["first", "second", "cells"] (defScope s_ends) := ⟨rfl, rfl, rfl, by decide +kernel, rfl, by decide +kernel, by decide +kernel⟩
/-! rounded_cells(first, second, cells, amounts, divisor): slots 0 first 1 second 2 cells 3 amounts 4 divisor 5 parts 6 count 7 cell -/
abbrev s_rounded_cells : Stmt := top 20
abbrev n_rounded_cells : List Str := ["first", "second", "cells", "amounts", "divisor", "parts", "count", "cell"]
theorem sc_rounded_cells : FnScope n_rounded_cells ["first", "second", "cells", "amounts", "divisor"] (defScope s_rounded_cells) := ⟨rfl, rfl, rfl, by decide +kernel, rfl, by decide +kernel, by decide +kernel⟩
abbrev s_iL : Stmt := inClass (top 5) 0
abbrev s_iO : Stmt := inClass (top 6) 0
theorem S_BadLot : XS.ErrSyn "BadLot.__init__" s_iL "side" ["number"] where
  body := ⟨_, _, _, _, _, _, _, _, _, _, _, _, _, rfl, .cons .nil, by decide +kernel⟩
  ar := ⟨_, rfl, rfl⟩
  kind := rfl
  sup := rfl
  cls := rfl
  self := rfl
  loc := by decide +kernel
  cell := by decide +kernel
  co := rfl
  gen := rfl
  nd := by decide +kernel
  short := by decide
  bind := fun _ _ _ _ _ _ _ us hl s => match us, hl with | [_, _, _], _ => .of_eq rfl
theorem S_BadCell : XS.ErrSyn "BadCell.__init__" s_iO "number" [] where
  body := ⟨_, _, _, _, _, _, _, _, _, _, _, _, _, rfl, .nil, by decide +kernel⟩
  ar := ⟨_, rfl, rfl⟩
  kind := rfl
  sup := rfl
  cls := rfl
  self := rfl
  loc := by decide +kernel
  cell := by decide +kernel
  co := rfl
  gen := rfl
  nd := by decide +kernel
  short := by decide
  bind := fun _ _ _ _ _ _ _ us hl s => match us, hl with | [_, _], _ => .of_eq rfl
structure Txt6 (P : Program) (K : PySem.W.Frag) (mg : Str → Option Value) (CA CU CL CC : Addr) : Prop extends Txt P K mg CA CU where
  lot : ∃ fI, XS.ErrTxt P K mg "BadLot" "BadLot.__init__" s_iL ["side", "number"] CL fI
  cel : ∃ fI, XS.ErrTxt P K mg "BadCell" "BadCell.__init__" s_iO ["number"] CC fI
def okP (ps : List Int) (k : Nat) : Prop := -1 ≤ Cir.part ps k ∧ Cir.part ps k < k
def okC (n1 n2 : Nat) (cells : List Cir.Arc) (k : Nat) : Prop := (0 ≤ (Cir.arcOf cells k).1 ∧ (Cir.arcOf cells k).1 < n1) ∧ (0 ≤ (Cir.arcOf cells k).2 ∧ (Cir.arcOf cells k).2 < n2)
instance (ps : List Int) (k : Nat) : Decidable (okP ps k) := by unfold okP; infer_instance
instance (n1 n2 : Nat) (cells : List Cir.Arc) (k : Nat) : Decidable (okC n1 n2 cells k) := by unfold okC; infer_instance
theorem okCells {n1 n2 : Nat} {cells : List Cir.Arc} : Fam.OkCells n1 n2 cells ↔ ∀ k, k < cells.length → okC n1 n2 cells k := by
  constructor
  · intro h k hk
    have := h _ (List.mem_of_getElem? (Cir.get_arc hk))
    exact this
  · intro h c hc
    obtain ⟨k, hk⟩ := List.mem_iff_getElem?.mp hc
    have hl := (List.getElem?_eq_some_iff.mp hk).1
    have := h k hl
    unfold okC at this
    rw [Cir.arc_get hk] at this
    exact this
def spChkPar (K : PySem.W.Frag) (CL : Addr) : Sp := fun vs H Q E => ∃ (sd : Str) (a : Addr) (ps : List Int), vs = [.str sd, .ref a] ∧ SqL K H a (ps.map V.int) ∧ ps.length ≤ 10000 ∧ (Fam.OkPar ps → Q .non H) ∧
  ∀ k, k < ps.length → ¬ okP ps k → (∀ j, j < k → okP ps j) → ∀ d, H d = none → E (.ref CL) (some d) (upd H d (.xd [(("number" : Str), .int (k : Int)), (("side" : Str), .str sd)]))
def spChkCells (K : PySem.W.Frag) (CC : Addr) : Sp := fun vs H Q E => ∃ (n1 n2 : Nat) (a : Addr) (cells : List Cir.Arc), vs = [.int (n1 : Int), .int (n2 : Int), .ref a] ∧ ArcsAt K H a cells ∧ cells.length ≤ 10000 ∧ (Fam.OkCells n1 n2 cells → Q .non H) ∧
  ∀ k, k < cells.length → ¬ okC n1 n2 cells k → (∀ j, j < k → okC n1 n2 cells j) → ∀ d, H d = none → E (.ref CC) (some d) (upd H d (.xd [(("number" : Str), .int (k : Int))]))
def spTotals (K : PySem.W.Frag) : Sp := fun vs H Q _ => ∃ (a ap ax : Addr) (ps places xs : List Int), vs = [.ref a, .ref ap, .ref ax] ∧ SqL K H a (ps.map V.int) ∧ SqL K H ap (places.map V.int) ∧ SqL K H ax (xs.map V.int) ∧ Fam.OkPar ps ∧ places.length = xs.length ∧
  (∀ i, i < xs.length → 0 ≤ Cir.part places i ∧ Cir.part places i < ps.length) ∧ ps.length ≤ 10000 ∧ xs.length ≤ 10000 ∧ ∀ (p : Addr) (H' : Hp), H p = none → Fr [] H H' → H' p = some (.lst ((Fam.cellT ps places xs).map V.int)) → Q (.ref p) H'
/-- at p: a list of these pairs, each a tuple -/
def TupsAt (H : Hp) (p : Addr) (as : List Cir.Arc) : Prop := ∃ ts : List Addr, H p = some (.lst (ts.map V.ref)) ∧ ts.length = as.length ∧ ∀ (k : Nat) (t : Addr) (q : Cir.Arc), ts[k]? = some t → as[k]? = some q → H t = some (.tup [.int q.1, .int q.2])
theorem TupsAt.arcs {K : PySem.W.Frag} {H : Hp} {p : Addr} {as : List Cir.Arc} (h : TupsAt H p as) : ArcsAt K H p as := by
  obtain ⟨ts, h1, h2, h3⟩ := h
  exact ⟨ts, SqL.of h1, h2, fun k t p a b => SqT.of (h3 k t p a b)⟩
theorem TupsAt.fr {H H' : Hp} {p : Addr} {as : List Cir.Arc} (h : TupsAt H p as) (e : Fr [] H H') : TupsAt H' p as := by
  obtain ⟨ts, h1, h2, h3⟩ := h
  exact ⟨ts, e _ _ h1 (by simp), h2, fun k t p a b => e _ _ (h3 k t p a b) (by simp)⟩
theorem TupsAt.snoc {H : Hp} {p t0 : Addr} {as : List Cir.Arc} {e : Cir.Arc} (h : TupsAt H p as) (ht : H t0 = none) : ∃ ts : List Addr, H p = some (.lst (ts.map V.ref)) ∧ ts.length = as.length ∧ (upd H t0 (.tup [.int e.1, .int e.2])) p = some (.lst (ts.map V.ref)) ∧
    TupsAt (upd (upd H t0 (.tup [.int e.1, .int e.2])) p (.lst (ts.map V.ref ++ [.ref t0]))) p (as ++ [e]) := by
  obtain ⟨ts, h1, h2, h3⟩ := h
  have n0 : t0 ≠ p := (ne_of_none h1 ht).symm
  refine ⟨ts, h1, h2, by rw [upd_ne (Ne.symm n0)]; exact h1, ts ++ [t0], by rw [upd_same, List.map_append]; rfl, by simp [h2], fun k t q a b => ?_⟩
  rcases Cir.getElem?_snoc_last a with ⟨hl, a⟩ | ⟨hl, rfl⟩
  · rw [List.getElem?_append_left (by omega)] at b
    have z := h3 k t q a b
    rw [upd_ne (ne_of z h1 (by intro z; cases z)), upd_ne (ne_of_none z ht)]
    exact z
  · rw [hl, h2, List.getElem?_append_right (Nat.le_refl _), Nat.sub_self] at b
    cases Option.some.inj b
    rw [upd_ne n0]
    exact upd_same
def spEnds (K : PySem.W.Frag) : Sp := fun vs H Q _ => ∃ (af as ac : Addr) (first second : List Int) (cells : List Cir.Arc), vs = [.ref af, .ref as, .ref ac] ∧ SqL K H af (first.map V.int) ∧ SqL K H as (second.map V.int) ∧ ArcsAt K H ac cells ∧ first.length ≤ 3000 ∧ second.length ≤ 3000 ∧ cells.length ≤ 3000 ∧
  ∀ (p : Addr) (H' : Hp), H p = none → Fr [] H H' → TupsAt H' p (Fam.endsL first second cells) → Q (.ref p) H'
def spRC (K : PySem.W.Frag) (CL CC : Addr) : Sp := fun vs H Q E => ∃ (af as ac ax : Addr) (first second : List Int) (cells : List Cir.Arc) (xs : List Int) (d : Int), vs = [.ref af, .ref as, .ref ac, .ref ax, .int d] ∧ SqL K H af (first.map V.int) ∧ SqL K H as (second.map V.int) ∧ ArcsAt K H ac cells ∧ SqL K H ax (xs.map V.int) ∧
  first.length ≤ 3000 ∧ second.length ≤ 3000 ∧ cells.length ≤ 3000 ∧ xs.length = cells.length ∧ 0 < d ∧ d.natAbs.log2 < 9000 ∧
  (Fam.OkPar first → Fam.OkPar second → Fam.OkCells first.length second.length cells → ∀ (p : Addr) (H' : Hp), H p = none → Fr [] H H' → H' p = some (.lst ((Fam.roundC first second cells xs d).map V.int)) → Q (.ref p) H') ∧
  (∀ k, k < first.length → ¬ okP first k → (∀ j, j < k → okP first j) → ∀ (d : Addr) (H' : Hp), Fr [] H H' → H' d = some (.xd [(("number" : Str), .int (k : Int)), (("side" : Str), .str "first")]) → E (.ref CL) (some d) H') ∧
  (Fam.OkPar first → ∀ k, k < second.length → ¬ okP second k → (∀ j, j < k → okP second j) → ∀ (d : Addr) (H' : Hp), Fr [] H H' → H' d = some (.xd [(("number" : Str), .int (k : Int)), (("side" : Str), .str "second")]) → E (.ref CL) (some d) H') ∧
  (Fam.OkPar first → Fam.OkPar second → ∀ k, k < cells.length → ¬ okC first.length second.length cells k → (∀ j, j < k → okC first.length second.length cells j) → ∀ (d : Addr) (H' : Hp), Fr [] H H' → H' d = some (.xd [(("number" : Str), .int (k : Int))]) → E (.ref CC) (some d) H')
theorem cut_take_V (xs : List V) (i : Nat) : cutV xs none (some (i : Int)) = xs.take i := by
  unfold cutV
  have e1 : HT.sIx xs.length 0 none = 0 := rfl
  rw [e1, HT.sIx_nat]
  simp
/-- x if c else y, read as one number -/
theorem tIf_q {t : TT} {ta tb : TE} {σ : L2.St} {H : Hp} {Q : VK} (c : Bool) (x y : Int) (ht : ∀ R : Bool → Hp → Prop, R c H → t σ H R) (hx : ∀ R : VK, R (.int x) H → ta σ H R) (hy : ∀ R : VK, R (.int y) H → tb σ H R)
    (h : Q (.int (if c = true then x else y)) H) : tIf t ta tb σ H Q := by
  refine ht _ ?_
  cases c with
  | true => exact iteT (hx _ (by simpa using h))
  | false => exact iteF (hy _ (by simpa using h))
section
variable {P : Program} {w : World} {K : PySem.W.Frag} {mg : Str → Option Value} {base : Heap} {CA CU CL CC : Addr}
theorem ok_check_parents {f : Addr} {fd : FuncData} (F : Fun K "_check_parents" "_check_parents" s_check_parents f fd) (T : Txt6 P K mg CA CU CL CC) : FnOk P w K mg base (L2.CX P w) 2 f fd ["side", "parents"] (spChkPar K CL) := by
  refine F.okX sc_check_parents (fun vs H Q E h => ?_) (fun cdv A outer s H vs Q E hr h => ?_)
  · obtain ⟨sd, a, ps, rfl, _⟩ := h
    rfl
  · obtain ⟨sd, a, ps, rfl, hA, hl, kQ, kE⟩ := h
    obtain ⟨fI, TL⟩ := T.lot
    refine ⟨_, (pss_one (ps_for (passes_of rfl) rfl (pi_range1 (by rfl) T.m_range (pa_cons (pe_callB call_len_seq (by rfl) T.m_len (by decide +kernel) (pa_cons (pv 1) pa_nil)) pa_nil)) (pg_name (i := 2) sc_check_parents.nd rfl (Or.inl rfl))
      (pss_one (ps_if (pt_not (pt_chain op_le op_lt (pe_un un_neg pe_int) (pe_ix ix_list (pv 1) (pv 2) (fun _ _ => rfl)) (pv 2)))
        (pss_one (ps_raiseErr rfl TL S_BadLot hr (takes_of rfl rfl rfl rfl) (pa_cons (pv 0) (pa_cons (pv 2) pa_nil))))
        pss_nil)))), ?_⟩
    refine ⟨_, rfl, _, _, rfl, .inl hA, _, rfl, (rg_ok (by rw [List.length_map]; omega)).1, (rg_ok (by rw [List.length_map]; omega)).2, for_rng (n := (ps.map V.int).length) (fun i σ H' => H' = H ∧ (∀ j, j < i → okP ps j) ∧ ∃ o : Option V, σ = [some (.str sd), some (.ref a), o])
      ⟨rfl, fun j hj => by omega, _, rfl⟩ ?_ ?_⟩
    · rintro i σ H' hi ⟨rfl, hgood, o, rfl⟩
      rw [List.length_map] at hi
      have bad : ¬ okP ps i → tRaiseE CL [("side" : Str), "number"] (fun cls d _ H => E cls d H) (tCons (tVar 0) (tCons (tVar 2) tNil)) noEnds [some (.str sd), some (.ref a), some (.int (i : Int))] H' :=
        fun hb => ⟨_, rfl, _, rfl, rfl, fun d hd => kE i hi hb hgood d hd⟩
      refine ⟨_, rfl, _, rfl, _, rfl, _, _, _, _, rfl, rfl, hA, at_part hi, _, _, rfl, rfl, _, rfl, dec_iff (fun g1 => ⟨_, rfl, _, _, rfl, rfl, _, rfl, ?_⟩) fun b1 => ⟨_, rfl, iteT (bad (fun g => b1 g.1))⟩⟩
      refine bool_iff (fun b2 => bad (fun g => ?_)) fun g2 => ?_
      · have := g.2
        simp [this] at b2
      · refine ⟨rfl, fun j hj => ?_, _, rfl⟩
        by_cases c : j < i
        · exact hgood j c
        · have e : j = i := by omega
          subst e
          exact ⟨g1, by simpa using g2⟩
    · rintro σ H' ⟨rfl, hgood, o, rfl⟩
      refine kQ fun k hk => hgood k ?_
      rw [List.length_map]
      exact hk
theorem ok_check_cells {f : Addr} {fd : FuncData} (F : Fun K "_check_cells" "_check_cells" s_check_cells f fd) (T : Txt6 P K mg CA CU CL CC) : FnOk P w K mg base (L2.CX P w) 2 f fd ["first", "second", "cells"] (spChkCells K CC) := by
  refine F.okX sc_check_cells (fun vs H Q E h => ?_) (fun cdv A outer s H vs Q E hr h => ?_)
  · obtain ⟨n1, n2, a, cells, rfl, _⟩ := h
    rfl
  · obtain ⟨n1, n2, a, cells, rfl, hA, hl, kQ, kE⟩ := h
    obtain ⟨fI, TC⟩ := T.cel
    refine ⟨_, (pss_one (ps_for (passes_of rfl) rfl (pi_range1 (by rfl) T.m_range (pa_cons (pe_callB call_len_seq (by rfl) T.m_len (by decide +kernel) (pa_cons (pv 2) pa_nil)) pa_nil)) (pg_name (i := 3) sc_check_cells.nd rfl (Or.inl rfl))
      (pss_cons (ps_par (i := 4) (j := 5) rfl sc_check_cells.nd rfl rfl (by decide) rfl rfl (pa_cons (pe_ix ix_tup (pe_ix ix_list (pv 2) (pv 3) (fun _ _ => rfl)) pe_int (fun _ _ => rfl)) (pa_cons (pe_ix ix_tup (pe_ix ix_list (pv 2) (pv 3) (fun _ _ => rfl)) pe_int (fun _ _ => rfl)) pa_nil)) (by rfl))
      (pss_one (ps_if (PW.pt (pw_or (pt_not (pt_chain op_le op_lt pe_int (pv 4) (pv 0))) (pw_or1 (pt_not (pt_chain op_le op_lt pe_int (pv 5) (pv 1))))))
        (pss_one (ps_raiseErr rfl TC S_BadCell hr (takes_of rfl rfl rfl rfl) (pa_cons (pv 3) pa_nil)))
        pss_nil))))), ?_⟩
    obtain ⟨ts, hL, hn, hT⟩ := hA.at
    refine ⟨_, rfl, _, _, rfl, .inl hL, _, rfl, (rg_ok (by simp; omega)).1, (rg_ok (by simp; omega)).2, for_rng (n := (ts.map V.ref).length) (fun i σ H' => H' = H ∧ (∀ j, j < i → okC n1 n2 cells j) ∧ ∃ o1 o2 o3 : Option V, σ = [some (.int (n1 : Int)), some (.int (n2 : Int)), some (.ref a), o1, o2, o3])
      ⟨rfl, fun j hj => by omega, _, _, _, rfl⟩ ?_ ?_⟩
    · rintro i σ H' hi ⟨rfl, hgood, o1, o2, o3, rfl⟩
      rw [List.length_map, hn] at hi
      obtain ⟨t, e1, e2⟩ := hT i hi
      refine ⟨_, rfl, _, rfl, _, _, _, _, rfl, rfl, hL, e1, _, _, _, _, rfl, rfl, e2, rfl, ?_⟩
      refine ⟨_, rfl, _, rfl, _, _, _, _, rfl, rfl, hL, e1, _, _, _, _, rfl, rfl, e2, rfl, _, _, rfl, ?_⟩
      have bad : ¬ okC n1 n2 cells i → tRaiseE CC [("number" : Str)] (fun cls d _ H => E cls d H) (tCons (tVar 3) tNil) noEnds [some (.int (n1 : Int)), some (.int (n2 : Int)), some (.ref a), some (.int (i : Int)), some (.int (Cir.arcOf cells i).1), some (.int (Cir.arcOf cells i).2)] H' :=
        fun hb => ⟨_, rfl, rfl, fun d hd => kE i hi hb hgood d hd⟩
      refine ⟨_, rfl, _, _, rfl, rfl, _, rfl, dec_iff (fun g1 => ⟨_, rfl, _, _, rfl, rfl, _, rfl, ?_⟩) fun b1 => ⟨_, rfl, iteT (bad (fun g => b1 g.1.1))⟩⟩
      refine bool_iff (fun b2 => bad (fun g => ?_)) fun g2 => ?_
      · have := g.1.2
        simp [this] at b2
      refine ⟨_, rfl, _, _, rfl, rfl, _, rfl, dec_iff (fun g3 => ⟨_, rfl, _, _, rfl, rfl, _, rfl, ?_⟩) fun b1 => ⟨_, rfl, iteT (bad (fun g => b1 g.2.1))⟩⟩
      refine bool_iff (fun b2 => bad (fun g => ?_)) fun g4 => ?_
      · have := g.2.2
        simp [this] at b2
      · refine ⟨rfl, fun j hj => ?_, _, _, _, rfl⟩
        by_cases c : j < i
        · exact hgood j c
        · have e : j = i := by omega
          subst e
          exact ⟨⟨g1, by simpa using g2⟩, ⟨g3, by simpa using g4⟩⟩
    · rintro σ H' ⟨rfl, hgood, o1, o2, o3, rfl⟩
      refine kQ (okCells.mpr fun k hk => hgood k ?_)
      rw [List.length_map, hn]
      exact hk
theorem ok_cell_totals {f : Addr} {fd : FuncData} (F : Fun K "cell_totals" "cell_totals" s_cell_totals f fd) (T : Txt6 P K mg CA CU CL CC) : FnOk P w K mg base CX0 1 f fd ["parents", "places", "amounts"] (spTotals K) := by
  refine F.ok sc_cell_totals (fun vs H Q E h => ?_) (fun cdv A outer s H vs Q E hr h => ?_)
  · obtain ⟨a, ap, ax, ps, places, xs, rfl, _⟩ := h
    rfl
  · obtain ⟨a, ap, ax, ps, places, xs, rfl, hA, hP, hX, okp, hpx, hpl, hl, hlx, k⟩ := h
    refine ⟨_, (pss_cons (ps_set (i := 3) sc_cell_totals.nd rfl (Or.inl rfl) (pe_op op_rep (pe_lst (pa_cons pe_int pa_nil)) (pe_callB call_len_seq (by rfl) T.m_len (by decide +kernel) (pa_cons (pv 0) pa_nil))))
    (pss_cons (ps_for PassesOwn.never rfl (pi_range1 (by rfl) T.m_range (pa_cons (pe_callB call_len_seq (by rfl) T.m_len (by decide +kernel) (pa_cons (pv 1) pa_nil)) pa_nil)) (pg_name (i := 4) sc_cell_totals.nd rfl (Or.inl rfl))
      (pss_one (ps_augS (pv 3) (pe_ix ix_list (pv 1) (pv 4) (fun _ _ => rfl)) pget_list (pe_ix ix_list (pv 2) (pv 4) (fun _ _ => rfl)) ip_add set_list)))
    (pss_cons (ps_for PassesOwn.never rfl (pi_revR (by rfl) T.m_reversed (prg_1 (by rfl) T.m_range (pe_callB call_len_seq (by rfl) T.m_len (by decide +kernel) (pa_cons (pv 0) pa_nil)))) (pg_name (i := 4) sc_cell_totals.nd rfl (Or.inl rfl))
      (pss_one (ps_if (pt_cmpR op_ge (pe_ix ix_list (pv 0) (pv 4) (fun _ _ => rfl)) pe_int (nomark _))
        (pss_one (ps_asg (pe_op op_add (pe_ix ix_list (pv 3) (pe_ix ix_list (pv 0) (pv 4) (fun _ _ => rfl)) (fun _ _ => rfl)) (pe_ix ix_list (pv 3) (pv 4) (fun _ _ => rfl))) (pg_sub (pv 3) (pe_ix ix_list (pv 0) (pv 4) (fun _ _ => rfl)) set_list)))
        pss_nil)))
    (pss_one (ps_ret (pv 3)))))), ?_⟩
    refine ⟨by show 1 ≤ sizeLine; decide, fun l0 hl0 => ⟨_, rfl, _, _, rfl, .inl (((Fr.refl [] H).new hl0).l hA), l0, _, _, rfl, rfl, upd_same, by omega, by rw [List.length_map]; omega, ?_, fun p hp => ?_⟩⟩
    · show 1 * ((ps.map V.int).length : Int).toNat ≤ sizeLine
      rw [Nat.one_mul, List.length_map]
      exact len_line (by omega)
    have np : H p = none := ((Fr.refl [] H).new hl0).free hp
    have e0 : (List.replicate ((ps.map V.int).length : Int).toNat [V.int 0]).flatten = (Fam.ownL ps.length places xs 0).map V.int := by
      rw [Fam.ownL_zero, List.map_replicate, List.length_map, rep_one]
      rfl
    rw [e0]
    refine ⟨_, rfl, _, _, rfl, .inl ((((Fr.refl [] H).new hl0).new hp).l hP), _, rfl, (rg_ok (by rw [List.length_map]; omega)).1, (rg_ok (by rw [List.length_map]; omega)).2, for_rng (n := (places.map V.int).length)
      (fun i σ H' => Fr [] H H' ∧ H' p = some (.lst ((Fam.ownL ps.length places xs i).map V.int)) ∧ ∃ o : Option V, σ = [some (.ref a), some (.ref ap), some (.ref ax), some (.ref p), o])
      ⟨((Fr.refl [] H).new hl0).new hp, upd_same, _, rfl⟩ ?_ ?_⟩
    · rintro i σ H' hi ⟨e, h1, o, rfl⟩
      rw [List.length_map, hpx] at hi
      have pl := hpl i hi
      have i1 : (Cir.part places i).toNat < (Fam.ownL ps.length places xs i).length := by rw [Fam.ownL_len]; omega
      refine ⟨_, rfl, _, rfl, _, rfl, _, _, _, _, rfl, rfl, e.l hP, at_part (by omega), ?_⟩
      refine ⟨_, _, _, _, rfl, rfl, SqL.of h1, at_int pl.1 (by rw [List.getElem?_map, Cir.get_part i1]; rfl), ?_⟩
      refine ⟨_, rfl, _, rfl, _, _, _, _, rfl, rfl, e.l hX, at_part hi, _, _, rfl, rfl, _, _, _, _, rfl, rfl, h1, ix_int pl.1 (by rw [List.length_map, Fam.ownL_len]; exact pl.2), ?_⟩
      refine ⟨e.put (.inr np), ?_, _, rfl⟩
      rw [upd_same, Fam.ownL_succ (p := (Cir.part places i).toNat) (by omega) (by omega), List.map_set]
    · rintro σ H1 ⟨e1, h1, o, rfl⟩
      rw [List.length_map, hpx] at h1
      refine ⟨_, rfl, _, _, rfl, .inl (e1.l hA), _, rfl, ?_⟩
      rw [List.length_map]
      refine ⟨by omega, by omega, by omega, by omega, for_rev (n := ps.length)
        (fun i σ H' => Fr [] H H' ∧ H' p = some (.lst ((Fam.upTo ps (Fam.ownL ps.length places xs xs.length) i).map V.int)) ∧ ∃ o : Option V, σ = [some (.ref a), some (.ref ap), some (.ref ax), some (.ref p), o])
        ⟨e1, h1, _, rfl⟩ ?_ ?_⟩
      · rintro i σ H' hi ⟨e, h1, o, rfl⟩
        have hk : ps.length - 1 - i < ps.length := by omega
        have okk := okp _ hk
        have ul : (Fam.upTo ps (Fam.ownL ps.length places xs xs.length) i).length = ps.length := by rw [Fam.upTo_len, Fam.ownL_len]
        have st : Fam.upTo ps (Fam.ownL ps.length places xs xs.length) (i + 1) = Fam.addUp ps (Fam.upTo ps (Fam.ownL ps.length places xs xs.length) i) (ps.length - 1 - i) := rfl
        rw [st]
        unfold Fam.addUp
        generalize Fam.upTo ps (Fam.ownL ps.length places xs xs.length) i = u at h1 ul ⊢
        refine ⟨_, rfl, _, rfl, _, _, _, _, rfl, rfl, e.l hA, at_part hk, _, _, rfl, rfl, _, rfl, dec_iff (fun c => ?_) fun c => ?_⟩
        · rw [if_pos c]
          have i1 : (Cir.part ps (ps.length - 1 - i)).toNat < u.length := by omega
          refine ⟨_, rfl, _, rfl, _, rfl, _, _, _, _, rfl, rfl, e.l hA, at_part hk, _, _, _, _, rfl, rfl, SqL.of h1, at_int c (by rw [List.getElem?_map, Cir.get_part i1]; rfl), ?_⟩
          refine ⟨_, rfl, _, rfl, _, _, _, _, rfl, rfl, SqL.of h1, at_part (by omega), _, _, rfl, rfl, ?_⟩
          refine ⟨_, rfl, _, rfl, _, rfl, _, _, _, _, rfl, rfl, e.l hA, at_part hk, _, _, _, _, rfl, rfl, h1, ix_int c (by rw [List.length_map]; omega), ?_⟩
          refine ⟨e.put (.inr np), ?_, _, rfl⟩
          rw [upd_same, List.map_set]
        · rw [if_neg c]
          exact ⟨e, h1, _, rfl⟩
      · rintro σ H' ⟨e, h1, o, rfl⟩
        exact ⟨_, rfl, k p H' np e h1⟩
theorem ok_ends {f : Addr} {fd : FuncData} (F : Fun K "_ends" "_ends" s_ends f fd) (T : Txt6 P K mg CA CU CL CC) : FnOk P w K mg base CX0 1 f fd ["first", "second", "cells"] (spEnds K) := by
  refine F.ok sc_ends (fun vs H Q E h => ?_) (fun cdv A outer s H vs Q E hr h => ?_)
  · obtain ⟨af, as, ac, first, second, cells, rfl, _⟩ := h
    rfl
  · obtain ⟨af, as, ac, first, second, cells, rfl, h1, h2, hC, l1, l2, l3, k⟩ := h
    refine ⟨_, (pss_cons (ps_set (i := 3) sc_ends.nd rfl (Or.inr rfl) (pe_op op_add pe_int (pe_callB call_len_seq (by rfl) T.m_len (by decide +kernel) (pa_cons (pv 0) pa_nil))))
    (pss_cons (ps_setLc (i := 4) (own := [("cell", 6)]) rfl sc_ends.nd rfl rfl (sw_true rfl rfl rfl (by decide +kernel)) (pi_list (pv 2)) (blkOk_by (own := [("cell", 6)]) (N := n_ends) (sc := defScope s_ends) (by decide +kernel)) (fun _ _ _ _ _ => (pg_name (i := 6) sc_ends.nd rfl (Or.inl rfl))) (fun _ _ _ _ _ => pts_nil) (fun _ _ _ _ _ => (pe_tup (pa_cons (pe_op op_add pe_int (pe_ix (r := rIxT K) ix_tup (pv 6) pe_int (fun _ _ => rfl))) (pa_cons (pe_op op_add (pv 3) (pe_ix (r := rIxT K) ix_tup (pv 6) pe_int (fun _ _ => rfl))) pa_nil)))))
    (pss_cons (ps_for PassesOwn.never rfl (pi_range1 (by rfl) T.m_range (pa_cons (pe_callB call_len_seq (by rfl) T.m_len (by decide +kernel) (pa_cons (pv 0) pa_nil)) pa_nil)) (pg_name (i := 5) sc_ends.nd rfl (Or.inl rfl))
      (pss_one (ps_expr (pe_bm PySem.F.plainAttrs_list PySem.F.slot_list_append PySem.F.type_list_append mt_append (pv 4) (pa_cons (pe_tup (pa_cons (pe_op op_add pe_int (pe_ix ix_list (pv 0) (pv 5) (fun _ _ => rfl))) (pa_cons (pe_op op_add pe_int (pv 5)) pa_nil))) pa_nil)))))
    (pss_cons (ps_for PassesOwn.never rfl (pi_range1 (by rfl) T.m_range (pa_cons (pe_callB call_len_seq (by rfl) T.m_len (by decide +kernel) (pa_cons (pv 1) pa_nil)) pa_nil)) (pg_name (i := 5) sc_ends.nd rfl (Or.inl rfl))
      (pss_one (ps_expr (pe_bm PySem.F.plainAttrs_list PySem.F.slot_list_append PySem.F.type_list_append mt_append (pv 4) (pa_cons (pe_tup (pa_cons (pe_op op_add (pv 3) (pv 5)) (pa_cons (pe_ifExp (pt_cmpR op_ge (pe_ix ix_list (pv 1) (pv 5) (fun _ _ => rfl)) pe_int (nomark _)) (pe_op op_add (pv 3) (pe_ix ix_list (pv 1) (pv 5) (fun _ _ => rfl))) pe_int) pa_nil))) pa_nil)))))
    (pss_one (ps_ret (pv 4))))))), ?_⟩
    obtain ⟨ts, hL, hts, hT⟩ := id hC
    refine ⟨_, rfl, _, _, rfl, .inl h1, _, _, rfl, rfl, ?_⟩
    dsimp only
    rw [List.length_map]
    refine ⟨_, rfl, ac, rfl, ⟨_, hL⟩, fun p hp => lc_list (K := K) (a := ac) (xs := ts.map V.ref) (fun i H' => Fr [] H H' ∧ TupsAt H' p (Fam.cellArcs first.length (cells.take i))) ⟨(Fr.refl _ H).new hp, [], upd_same, rfl, fun k t q a => by simp at a⟩
      (fun i H' _ z => z.1.l hL) ?_ ?_⟩
    · rintro i y H' hy ⟨e, T1⟩
      obtain ⟨t, ht, rfl⟩ := get_mapf hy
      have hi : i < cells.length := by rw [← hts]; exact (List.getElem?_eq_some_iff.mp ht).1
      have q := e.t (hT i t _ ht (Cir.get_arc hi))
      refine ⟨rfl, _, rfl, _, _, _, _, rfl, rfl, q, rfl, _, _, rfl, rfl, _, rfl, _, rfl, _, _, _, _, rfl, rfl, q, rfl, _, _, rfl, rfl, by show 2 ≤ sizeLine; decide, fun t0 ht0 => ?_⟩
      obtain ⟨ts', k1, k2, k3, T2⟩ := T1.snoc (e := (1 + (Cir.arcOf cells i).1, 1 + (first.length : Int) + (Cir.arcOf cells i).2)) ht0
      refine ⟨_, k3, len_lt ?_, (e.new ht0).put (.inr hp), ?_⟩
      · rw [List.length_map, k2]
        simp [Fam.cellArcs]
        omega
      · rw [take_succ (Cir.get_arc hi)]
        unfold Fam.cellArcs at T2 ⊢
        rw [List.map_append]
        exact T2
    rintro H1 ⟨e1, T1⟩
    rw [List.length_map, hts, List.take_length] at T1
    have np : H p = none := hp
    refine ⟨_, rfl, _, _, rfl, .inl (e1.l h1), _, rfl, (rg_ok (by rw [List.length_map]; omega)).1, (rg_ok (by rw [List.length_map]; omega)).2, for_rng (n := (first.map V.int).length)
      (fun i σ H' => Fr [] H H' ∧ TupsAt H' p (Fam.cellArcs first.length cells ++ Fam.firstArcs first i) ∧ ∃ o : Option V, σ = [some (.ref af), some (.ref as), some (.ref ac), some (.int (1 + (first.length : Int))), some (.ref p), o, none])
      ⟨e1, by simpa [Fam.firstArcs] using T1, _, rfl⟩ ?_ ?_⟩
    · rintro i σ H' hi ⟨e, T2, o, rfl⟩
      rw [List.length_map] at hi
      obtain ⟨us, u1, _⟩ := id T2
      refine ⟨_, rfl, .inl ⟨rfl, _, SqL.of u1⟩, ?_⟩
      refine ⟨_, rfl, _, rfl, _, _, _, _, rfl, rfl, e.l h1, at_part hi, _, _, rfl, rfl, _, rfl, _, _, rfl, rfl, by show 2 ≤ sizeLine; decide, fun t0 ht0 => ?_⟩
      obtain ⟨ts', k1, k2, k3, T3⟩ := T2.snoc (e := (1 + Cir.part first i, 1 + (i : Int))) ht0
      refine ⟨_, _, _, rfl, rfl, k3, len_lt ?_, (e.new ht0).put (.inr np), ?_, _, rfl⟩
      · rw [List.length_map, k2]
        simp [Fam.cellArcs, Fam.firstArcs]
        omega
      · have : Fam.firstArcs first (i + 1) = Fam.firstArcs first i ++ [(1 + Cir.part first i, 1 + (i : Int))] := by
          unfold Fam.firstArcs
          rw [List.range_succ, List.map_append]
          rfl
        rw [this, ← List.append_assoc]
        exact T3
    rintro σ H2 ⟨e2, T2, o, rfl⟩
    rw [List.length_map] at T2
    refine ⟨_, rfl, _, _, rfl, .inl (e2.l h2), _, rfl, (rg_ok (by rw [List.length_map]; omega)).1, (rg_ok (by rw [List.length_map]; omega)).2, for_rng (n := (second.map V.int).length)
      (fun i σ H' => Fr [] H H' ∧ TupsAt H' p (Fam.cellArcs first.length cells ++ Fam.firstArcs first first.length ++ Fam.secondArcs first.length second i) ∧ ∃ o : Option V, σ = [some (.ref af), some (.ref as), some (.ref ac), some (.int (1 + (first.length : Int))), some (.ref p), o, none])
      ⟨e2, by simpa [Fam.secondArcs] using T2, _, rfl⟩ ?_ ?_⟩
    · clear T2 e2
      rintro i σ H' hi ⟨e, T2, o, rfl⟩
      rw [List.length_map] at hi
      obtain ⟨us, u1, _⟩ := id T2
      have a2 : atI (second.map V.int) (i : Int) = some (.int (Cir.part second i)) := at_part hi
      refine ⟨_, rfl, .inl ⟨rfl, _, SqL.of u1⟩, ?_⟩
      refine ⟨_, rfl, _, rfl, _, _, rfl, rfl, ?_⟩
      refine tIf_q (decide (Cir.part second i ≥ 0)) (1 + (first.length : Int) + Cir.part second i) 0 (fun R h => ⟨_, rfl, _, rfl, _, _, _, _, rfl, rfl, e.l h2, a2, _, _, rfl, rfl, _, rfl, h⟩) (fun R h => ⟨_, rfl, _, rfl, _, rfl, _, _, _, _, rfl, rfl, e.l h2, a2, _, _, rfl, rfl, h⟩) (fun R h => h) ?_
      refine ⟨by show 2 ≤ sizeLine; decide, fun t0 ht0 => ?_⟩
      obtain ⟨ts', k1, k2, k3, T3⟩ := T2.snoc (e := (1 + (first.length : Int) + (i : Int), if decide (Cir.part second i ≥ 0) = true then 1 + (first.length : Int) + Cir.part second i else 0)) ht0
      refine ⟨_, _, _, rfl, rfl, k3, len_lt ?_, (e.new ht0).put (.inr np), ?_, _, rfl⟩
      · rw [List.length_map, k2]
        simp [Fam.cellArcs, Fam.firstArcs, Fam.secondArcs]
        omega
      · have : Fam.secondArcs first.length second (i + 1) = Fam.secondArcs first.length second i ++ [(1 + (first.length : Int) + (i : Int), if decide (Cir.part second i ≥ 0) = true then 1 + (first.length : Int) + Cir.part second i else 0)] := by
          unfold Fam.secondArcs
          rw [List.range_succ, List.map_append]
          congr 1
          simp
        rw [this, ← List.append_assoc]
        exact T3
    · rintro σ H3 ⟨e3, T3, o, rfl⟩
      rw [List.length_map] at T3
      exact ⟨_, rfl, k p H3 np e3 T3⟩
theorem ok_rounded_cells {f : Addr} {fd : FuncData} (F : Fun K "rounded_cells" "rounded_cells" s_rounded_cells f fd) (T : Txt6 P K mg CA CU CL CC)
    (F_check_parents : FnB P w K mg base (L2.CX P w) 2 "_check_parents" ["side", "parents"] (spChkPar K CL)) (F_check_cells : FnB P w K mg base (L2.CX P w) 2 "_check_cells" ["first", "second", "cells"] (spChkCells K CC))
    (F_cell_totals : FnB P w K mg base CX0 1 "cell_totals" ["parents", "places", "amounts"] (spTotals K)) (F_ends : FnB P w K mg base CX0 1 "_ends" ["first", "second", "cells"] (spEnds K))
    (F_rounded : FnB P w K mg base (L2.CX P w) 4 "rounded" ["count", "arcs", "amounts", "divisor"] (spRounded K CA CU)) : FnOk P w K mg base (L2.CX P w) 5 f fd ["first", "second", "cells", "amounts", "divisor"] (spRC K CL CC) := by
  refine F.okX sc_rounded_cells (fun vs H Q E h => ?_) (fun cdv A outer s H vs Q E hr h => ?_)
  · obtain ⟨af, as, ac, ax, first, second, cells, xs, d, rfl, _⟩ := h
    rfl
  · obtain ⟨af, as, ac, ax, first, second, cells, xs, d, rfl, h1, h2, hC, hX, l1, l2, l3, hx, hd, hlog, kQ, kL1, kL2, kC⟩ := h
    refine ⟨_, (pss_cons (ps_expr (pe_callF F_check_parents (hr.mono (by decide)) rfl (passes_call (takes_of rfl rfl rfl rfl) fun _ _ _ _ z => z) (pa_cons pe_str (pa_cons (pv 0) pa_nil))))
    (pss_cons (ps_expr (pe_callF F_check_parents (hr.mono (by decide)) rfl (passes_call (takes_of rfl rfl rfl rfl) fun _ _ _ _ z => z) (pa_cons pe_str (pa_cons (pv 1) pa_nil))))
    (pss_cons (ps_expr (pe_callF F_check_cells (hr.mono (by decide)) rfl (passes_call (takes_of rfl rfl rfl rfl) fun _ _ _ _ z => z) (pa_cons (pe_callB call_len_seq (by rfl) T.m_len (by decide +kernel) (pa_cons (pv 0) pa_nil)) (pa_cons (pe_callB call_len_seq (by rfl) T.m_len (by decide +kernel) (pa_cons (pv 1) pa_nil)) (pa_cons (pv 2) pa_nil)))))
    (pss_cons (ps_set (i := 5) sc_rounded_cells.nd rfl (Or.inl rfl) (pe_callTy call_list_of (by rfl) T.m_list (by decide +kernel) (pa_cons (pv 3) pa_nil)))
    (pss_cons (ps_expr (pe_bm PySem.F.plainAttrs_list PySem.F.slot_list_extend PySem.F.type_list_extend mt_extend (pv 5) (pa_cons (pe_callF F_cell_totals (hr.mono (by decide)) rfl pass0 (pa_cons (pv 0) (pa_cons (pe_lc (own := [("cell", 7)]) rfl sc_rounded_cells.nd (pi_list (pv 2)) (blkOk_by (own := [("cell", 7)]) (N := n_rounded_cells) (sc := defScope s_rounded_cells) (by decide +kernel)) (fun _ _ _ _ _ => (pg_name (i := 7) sc_rounded_cells.nd rfl (Or.inl rfl))) (fun _ _ _ _ _ => pts_nil) (fun _ _ _ _ _ => (pe_ix (r := rIxT K) ix_tup (pv 7) pe_int (fun _ _ => rfl)))) (pa_cons (pv 3) pa_nil)))) pa_nil)))
    (pss_cons (ps_expr (pe_bm PySem.F.plainAttrs_list PySem.F.slot_list_extend PySem.F.type_list_extend mt_extend (pv 5) (pa_cons (pe_callF F_cell_totals (hr.mono (by decide)) rfl pass0 (pa_cons (pv 1) (pa_cons (pe_lc (own := [("cell", 7)]) rfl sc_rounded_cells.nd (pi_list (pv 2)) (blkOk_by (own := [("cell", 7)]) (N := n_rounded_cells) (sc := defScope s_rounded_cells) (by decide +kernel)) (fun _ _ _ _ _ => (pg_name (i := 7) sc_rounded_cells.nd rfl (Or.inl rfl))) (fun _ _ _ _ _ => pts_nil) (fun _ _ _ _ _ => (pe_ix (r := rIxT K) ix_tup (pv 7) pe_int (fun _ _ => rfl)))) (pa_cons (pv 3) pa_nil)))) pa_nil)))
    (pss_cons (ps_set (i := 6) sc_rounded_cells.nd rfl (Or.inl rfl) (pe_op op_add (pe_op op_add pe_int (pe_callB call_len_seq (by rfl) T.m_len (by decide +kernel) (pa_cons (pv 0) pa_nil))) (pe_callB call_len_seq (by rfl) T.m_len (by decide +kernel) (pa_cons (pv 1) pa_nil))))
    (pss_one (ps_ret (pe_slice sl_list (pe_callF F_rounded (hr.mono (by decide)) rfl (passes_call (takes_of rfl rfl rfl rfl) fun _ _ _ _ z => z) (pa_cons (pv 6) (pa_cons (pe_callF F_ends (hr.mono (by decide)) rfl pass0 (pa_cons (pv 0) (pa_cons (pv 1) (pa_cons (pv 2) pa_nil)))) (pa_cons (pv 5) (pa_cons (pv 4) pa_nil))))) po_none (po_some (pe_callB call_len_seq (by rfl) T.m_len (by decide +kernel) (pa_cons (pv 2) pa_nil))))))))))))), ?_⟩
    by_cases g1 : Fam.OkPar first
    rotate_left
    · refine ⟨_, rfl, "first", af, first, rfl, h1, by omega, fun z => absurd z g1, fun k hk hb hlow dd hdd => kL1 k hk hb hlow dd _ ((Fr.refl [] H).new hdd) upd_same⟩
    refine ⟨_, rfl, "first", af, first, rfl, h1, by omega, fun _ => ?_, fun k hk hb => absurd (g1 k hk) hb⟩
    by_cases g2 : Fam.OkPar second
    rotate_left
    · refine ⟨_, rfl, "second", as, second, rfl, h2, by omega, fun z => absurd z g2, fun k hk hb hlow dd hdd => kL2 g1 k hk hb hlow dd _ ((Fr.refl [] H).new hdd) upd_same⟩
    refine ⟨_, rfl, "second", as, second, rfl, h2, by omega, fun _ => ?_, fun k hk hb => absurd (g2 k hk) hb⟩
    refine ⟨_, rfl, _, _, rfl, .inl h1, _, rfl, _, _, rfl, .inl h2, _, rfl, ?_⟩
    rw [List.length_map, List.length_map]
    by_cases g3 : Fam.OkCells first.length second.length cells
    rotate_left
    · refine ⟨first.length, second.length, ac, cells, rfl, hC, by omega, fun z => absurd z g3, fun k hk hb hlow dd hdd => kC g1 g2 k hk hb hlow dd _ ((Fr.refl [] H).new hdd) upd_same⟩
    refine ⟨first.length, second.length, ac, cells, rfl, hC, by omega, fun _ => ?_, fun k hk hb => absurd (okCells.mp g3 k hk) hb⟩
    have kQ := kQ g1 g2 g3
    clear kL1 kL2 kC
    obtain ⟨ts, hL, hts, hT⟩ := id hC
    -- parts
    refine ⟨_, rfl, _, _, rfl, .inl hX, fun pp hpp => ?_⟩
    have e1 := (Fr.refl [] H).new (o := .lst (xs.map V.int)) hpp
    have p1 : (upd H pp (.lst (xs.map V.int))) pp = some (.lst (xs.map V.int)) := upd_same
    have np : H pp = none := hpp
    generalize upd H pp (.lst (xs.map V.int)) = H1 at e1 p1 ⊢
    refine ⟨_, rfl, .inl ⟨rfl, _, SqL.of p1⟩, ?_⟩
    refine ⟨_, rfl, _, rfl, ac, rfl, ⟨_, e1.l hL⟩, fun D hD => lc_list (K := K) (a := ac) (xs := ts.map V.ref) (fun i H' => H' = upd H1 D (.lst ((Fam.c1 (cells.take i)).map V.int))) rfl (fun i H' _ z => by rw [z]; exact (e1.new hD).l hL) ?_ ?_⟩
    · rintro i y H' hy rfl
      obtain ⟨t, ht, rfl⟩ := get_mapf hy
      have hi : i < cells.length := by rw [← hts]; exact (List.getElem?_eq_some_iff.mp ht).1
      have q := (e1.new (o := .lst ((Fam.c1 (cells.take i)).map V.int)) hD).t (hT i t _ ht (Cir.get_arc hi))
      refine ⟨rfl, _, rfl, _, _, _, _, rfl, rfl, q, rfl, _, upd_same, len_lt ?_, ?_⟩
      · rw [List.length_map]
        simp [Fam.c1]
        omega
      · rw [upd_upd, take_succ (Cir.get_arc hi)]
        unfold Fam.c1
        rw [List.map_append, List.map_append]
        rfl
    rintro H' rfl
    rw [List.length_map, hts, List.take_length]
    have e2a := e1.new (o := .lst ((Fam.c1 cells).map V.int)) hD
    have d2 : (upd H1 D (.lst ((Fam.c1 cells).map V.int))) D = some (.lst ((Fam.c1 cells).map V.int)) := upd_same
    have p2a : (upd H1 D (.lst ((Fam.c1 cells).map V.int))) pp = some (.lst ((xs).map V.int)) := by rw [upd_ne (ne_of_none p1 hD)]; exact p1
    clear hD
    generalize upd H1 D (.lst ((Fam.c1 cells).map V.int)) = G2 at e2a d2 p2a ⊢
    refine ⟨_, rfl, af, D, ax, first, Fam.c1 cells, xs, rfl, e2a.l h1, SqL.of d2, e2a.l hX, g1, by simp [Fam.c1, hx], fun i hi => (Fam.cell_ok g3 (by omega)).1, by omega, by omega, fun q J hq eq hq' => ?_⟩
    have p2b := eq _ _ p2a (by simp)
    refine ⟨_, _, _, _, rfl, rfl, p2b, hq', len_line (by rw [List.length_map, List.length_map, Fam.cellT_len]; simp [Fam.cellT_len, hx]; omega), ?_⟩
    have e2c := (e2a.trans eq).put (p := pp) (o := .lst ((xs).map V.int ++ (Fam.cellT first (Fam.c1 cells) xs).map V.int)) (.inr np)
    have p2c : (upd J pp (.lst ((xs).map V.int ++ (Fam.cellT first (Fam.c1 cells) xs).map V.int))) pp = some (.lst ((xs ++ Fam.cellT first (Fam.c1 cells) xs).map V.int)) := by rw [upd_same]; simp only [List.map_append]
    generalize upd J pp (.lst ((xs).map V.int ++ (Fam.cellT first (Fam.c1 cells) xs).map V.int)) = H2 at e2c p2c ⊢
    refine ⟨_, rfl, .inl ⟨rfl, _, SqL.of p2c⟩, ?_⟩
    refine ⟨_, rfl, _, rfl, ac, rfl, ⟨_, e2c.l hL⟩, fun D hD => lc_list (K := K) (a := ac) (xs := ts.map V.ref) (fun i H' => H' = upd H2 D (.lst ((Fam.c2 (cells.take i)).map V.int))) rfl (fun i H' _ z => by rw [z]; exact (e2c.new hD).l hL) ?_ ?_⟩
    · rintro i y H' hy rfl
      obtain ⟨t, ht, rfl⟩ := get_mapf hy
      have hi : i < cells.length := by rw [← hts]; exact (List.getElem?_eq_some_iff.mp ht).1
      have q := (e2c.new (o := .lst ((Fam.c2 (cells.take i)).map V.int)) hD).t (hT i t _ ht (Cir.get_arc hi))
      refine ⟨rfl, _, rfl, _, _, _, _, rfl, rfl, q, rfl, _, upd_same, len_lt ?_, ?_⟩
      · rw [List.length_map]
        simp [Fam.c2]
        omega
      · rw [upd_upd, take_succ (Cir.get_arc hi)]
        unfold Fam.c2
        rw [List.map_append, List.map_append]
        rfl
    rintro H' rfl
    rw [List.length_map, hts, List.take_length]
    have e3a := e2c.new (o := .lst ((Fam.c2 cells).map V.int)) hD
    have d3 : (upd H2 D (.lst ((Fam.c2 cells).map V.int))) D = some (.lst ((Fam.c2 cells).map V.int)) := upd_same
    have p3a : (upd H2 D (.lst ((Fam.c2 cells).map V.int))) pp = some (.lst ((xs ++ Fam.cellT first (Fam.c1 cells) xs).map V.int)) := by rw [upd_ne (ne_of_none p2c hD)]; exact p2c
    clear hD
    generalize upd H2 D (.lst ((Fam.c2 cells).map V.int)) = G3 at e3a d3 p3a ⊢
    refine ⟨_, rfl, as, D, ax, second, Fam.c2 cells, xs, rfl, e3a.l h2, SqL.of d3, e3a.l hX, g2, by simp [Fam.c2, hx], fun i hi => (Fam.cell_ok g3 (by omega)).2, by omega, by omega, fun q J hq eq hq' => ?_⟩
    have p3b := eq _ _ p3a (by simp)
    refine ⟨_, _, _, _, rfl, rfl, p3b, hq', len_line (by rw [List.length_map, List.length_map, Fam.cellT_len]; simp [Fam.cellT_len, hx]; omega), ?_⟩
    have e3c := (e3a.trans eq).put (p := pp) (o := .lst ((xs ++ Fam.cellT first (Fam.c1 cells) xs).map V.int ++ (Fam.cellT second (Fam.c2 cells) xs).map V.int)) (.inr np)
    have p3c : (upd J pp (.lst ((xs ++ Fam.cellT first (Fam.c1 cells) xs).map V.int ++ (Fam.cellT second (Fam.c2 cells) xs).map V.int))) pp = some (.lst ((xs ++ Fam.cellT first (Fam.c1 cells) xs ++ Fam.cellT second (Fam.c2 cells) xs).map V.int)) := by rw [upd_same]; simp only [List.map_append]
    generalize upd J pp (.lst ((xs ++ Fam.cellT first (Fam.c1 cells) xs).map V.int ++ (Fam.cellT second (Fam.c2 cells) xs).map V.int)) = H3 at e3c p3c ⊢
    refine ⟨_, rfl, _, _, rfl, .inl (e3c.l h1), _, _, rfl, rfl, _, rfl, _, _, rfl, .inl (e3c.l h2), _, _, rfl, rfl, ?_⟩
    have hcount : 1 + (first.length : Int) + (second.length : Int) = ((1 + first.length + second.length : Nat) : Int) := by omega
    dsimp only
    rw [List.length_map, List.length_map, hcount]
    refine ⟨_, rfl, _, rfl, _, rfl, _, rfl, af, as, ac, first, second, cells, rfl, e3c.l h1, e3c.l h2, hC.fr e3c, by omega, by omega, by omega, fun pe J hpe ee TE => ?_⟩
    have e4 := e3c.trans ee
    have pl : (Fam.partsOf first second cells xs).length = (Fam.endsL first second cells).length := by
      unfold Fam.partsOf
      rw [Fam.endsL_len]
      simp [Fam.cellT_len, hx]
      omega
    refine ⟨_, rfl, _, rfl, 1 + first.length + second.length, pe, pp, Fam.endsL first second cells, Fam.partsOf first second cells xs, d, rfl, TE.arcs, SqL.of (ee _ _ p3c (by simp)), pl.symm, by rw [Fam.endsL_len]; omega, by omega, hd, hlog, fun _ _ pr J2 hpr er hr2 => ?_, fun k hk hb => absurd (Fam.ends_good g1 g2 g3 k hk) hb, fun _ v hv hb => absurd (Fam.net_totals g1 g2 g3 hx v hv) hb⟩
    have e5 := e4.trans er
    refine ⟨_, rfl, _, _, rfl, .inl (e5.l hL), _, rfl, _, _, rfl, SqL.of hr2, fun r hr => ?_⟩
    rw [List.length_map, hts, cut_take_V]
    refine kQ r _ (e5.free hr) (e5.new hr) ?_
    rw [upd_same]
    unfold Fam.roundC
    rw [List.map_take]
end
/-! _law_bag(script): slots 0 script 1 seed 2 cell -/
abbrev s_law_bag : Stmt := top 22
abbrev n_law_bag : List Str := ["script", "seed", "cell"]
theorem sc_law_bag : FnScope n_law_bag ["script"] (defScope s_law_bag) := ⟨rfl, rfl, rfl, by decide +kernel, rfl, by decide +kernel, by decide +kernel⟩
/-! _law_take(bag, many): slots 0 bag 1 many 2 cell 3 told -/
abbrev s_law_take : Stmt := top 23
abbrev n_law_take : List Str := ["bag", "many", "cell", "told"]
theorem sc_law_take : FnScope n_law_take ["bag", "many"] (defScope s_law_take) := ⟨rfl, rfl, rfl, by decide +kernel, rfl, by decide +kernel, by decide +kernel⟩
theorem m31 : (0 : Int) < 2147483647 := by decide
section
variable {P : Program} {w : World} {K : PySem.W.Frag} {mg : Str → Option Value} {base : Heap}
theorem ok_law_take {f : Addr} {fd : FuncData} (F : Fun K "_law_take" "_law_take" s_law_take f fd) (T : Blt mg) : FnOk P w K mg base CX0 1 f fd ["bag", "many"] spTake := by
  refine F.ok sc_law_take (fun vs H Q E h => ?_) (fun cdv A outer s H vs Q E hr h => ?_)
  · obtain ⟨b, c, many, rfl, _⟩ := h
    rfl
  · obtain ⟨b, c, many, rfl, ⟨ns, i, v, sd, hB⟩, hm, hlog, k⟩ := h
    have hb := hB.1
    have hc := hB.2.1
    have hv : 0 ≤ v := hB.2.2.2.1
    have hi : 0 ≤ i := hB.2.2.1
    refine ⟨_, (Evl.pss_cut (ps_if (pt_cmpR op_lt (pe_ix ix_list (pv 0) pe_int (fun _ _ => rfl)) (pv 1) (nomark _))
      (pss_cons (ps_set (i := 2) sc_law_take.nd rfl (Or.inl rfl) (pe_ix ix_list (pv 0) pe_int (fun _ _ => rfl)))
      (Evl.pss_cut (ps_if (pt_cmpR op_lt (pe_ix ix_list (pv 0) pe_int (fun _ _ => rfl)) (pe_callB call_len_seq (by rfl) T.m_len (by decide +kernel) (pa_cons (pe_ix ix_list (pv 0) pe_int (fun _ _ => rfl)) pa_nil)) (nomark _))
        (pss_one (ps_set (i := 2) sc_law_take.nd rfl (Or.inl rfl) (pe_ix ix_list (pe_ix ix_list (pv 0) pe_int (fun _ _ => rfl)) (pe_ix ix_list (pv 0) pe_int (fun _ _ => rfl)) (fun _ _ => rfl))))
        pss_nil)
      (pss_cons (ps_asg (pe_op op_add (pe_ix ix_list (pv 0) pe_int (fun _ _ => rfl)) pe_int) (pg_sub (pv 0) pe_int set_list))
      (pss_cons (ps_asg (pe_op op_mod (pe_callTy call_int1 (by rfl) T.m_int (by decide +kernel) (pa_cons (pe_op op_add (pe_op op_add (pe_op op_mul (pe_ix ix_list (pv 0) pe_int (fun _ _ => rfl)) pe_int) pe_int) (pe_ix ix_list (pv 0) pe_int (fun _ _ => rfl))) pa_nil)) pe_int) (pg_sub (pv 0) pe_int set_list))
      (Evl.pss_cut (ps_if (pt_cmpR op_lt (pv 2) pe_int (nomark _))
        (pss_one (ps_set (i := 2) sc_law_take.nd rfl (Or.inl rfl) (pe_un un_neg (pv 2))))
        pss_nil)
      (Evl.pss_cut (ps_if (pt_cmpR op_lt (pv 2) (pe_op op_pow pe_int pe_int) (nomark _))
        (pss_cons (ps_set (i := 2) sc_law_take.nd rfl (Or.inl rfl) (pe_op op_mod (pe_callTy call_int1 (by rfl) T.m_int (by decide +kernel) (pa_cons (pe_op op_add (pe_op op_add (pe_op op_mul (pe_op op_add (pv 2) (pe_ix ix_list (pv 0) pe_int (fun _ _ => rfl))) pe_int) (pe_op op_mul (pe_ix ix_list (pv 0) pe_int (fun _ _ => rfl)) pe_int)) pe_int) pa_nil)) pe_int))
        (pss_one (ps_set (i := 2) sc_law_take.nd rfl (Or.inl rfl) (pe_op op_add (pe_op op_mod (pe_callTy call_int1 (by rfl) T.m_int (by decide +kernel) (pa_cons (pe_op op_add (pe_op op_mul (pv 2) pe_int) (pe_op op_mul pe_int (pe_ix ix_list (pv 0) pe_int (fun _ _ => rfl)))) pa_nil)) pe_int) pe_int))))
        pss_nil)
      (pss_one (ps_asg (pv 2) (pg_sub (pv 0) pe_int set_list)))))))))
      pss_nil)
    (pss_cons (ps_set (i := 3) sc_law_take.nd rfl (Or.inl rfl) (pe_op op_mod (pe_callTy call_int1 (by rfl) T.m_int (by decide +kernel) (pa_cons (pe_ix ix_list (pv 0) pe_int (fun _ _ => rfl)) pa_nil)) (pv 1)))
    (pss_cons (ps_asg (pe_op op_fdivW (pe_ix ix_list (pv 0) pe_int (fun _ _ => rfl)) (pv 1)) (pg_sub (pv 0) pe_int set_list))
    (pss_one (ps_ret (pv 3)))))), ?_⟩
    -- behind the if: the bag, whatever is in it
    refine ⟨fun σ' H1 => ∃ (o : Option V) (i1 v1 s1 : Int), σ' = [some (.ref b), some (.int many), o, none] ∧ Fr [b] H H1 ∧ BagAt H1 b c ns i1 v1 s1, ?_, ?_⟩
    · refine ⟨_, rfl, _, _, _, _, rfl, rfl, SqL.of hb, rfl, _, rfl, _, _, rfl, rfl, _, rfl, dec_iff (fun hlt => ?_) fun hge => ⟨_, _, _, _, rfl, Fr.refl _ _, hB⟩⟩
      -- cell = bag[3]; if bag[1] < len(bag[0]): cell = bag[0][bag[1]]
      refine ⟨_, rfl, _, _, _, _, rfl, rfl, SqL.of hb, rfl, ?_⟩
      refine ⟨fun σ' H1 => H1 = H ∧ ∃ cell : Int, σ' = [some (.ref b), some (.int many), some (.int cell), none], ?_, ?_⟩
      · refine ⟨_, rfl, _, _, _, _, rfl, rfl, SqL.of hb, rfl, _, rfl, _, _, _, _, rfl, rfl, SqL.of hb, rfl, _, _, rfl, .inl (SqL.of hc), _, _, rfl, rfl, _, rfl, dec_iff (fun hin => ?_) fun hout => ⟨rfl, _, rfl⟩⟩
        have hlt2 : i.toNat < ns.length := by
          rw [List.length_map] at hin
          omega
        exact ⟨_, rfl, _, _, _, _, rfl, rfl, SqL.of hb, rfl, _, rfl, _, _, _, _, rfl, rfl, SqL.of hb, rfl, _, _, _, _, rfl, rfl, SqL.of hc, at_int hi (by rw [List.getElem?_map, List.getElem?_eq_getElem hlt2]; rfl), rfl, _, rfl⟩
      rintro σ' H1 ⟨rfl, cell, rfl⟩
      -- bag[1] = bag[1] + 1; bag[3] = int(..) % ..
      refine ⟨_, rfl, _, _, _, _, rfl, rfl, SqL.of hb, rfl, _, _, rfl, rfl, _, rfl, _, _, _, _, rfl, rfl, hb, rfl, ?_⟩
      refine ⟨_, rfl, _, _, _, _, rfl, rfl, SqL.of upd_same, rfl, _, _, rfl, rfl, .inr (by decide), _, _, rfl, rfl, _, rfl, _, _, _, _, rfl, rfl, SqL.of upd_same, rfl, _, _, rfl, rfl, .inl ⟨_, rfl, _, _, rfl, rfl, m31, ?_⟩⟩
      refine ⟨_, rfl, _, _, _, _, rfl, rfl, upd_same, rfl, ?_⟩
      rw [upd_upd]
      show Evl.tCut _ _ _ _ (upd H1 b (.lst [.ref c, .int (i + 1), .int v, .int ((sd * 69621 + 12345 + (i + 1)) % 2147483647)]))
      have B2 : ∀ z : Int, 0 ≤ z → BagAt (upd H1 b (.lst [.ref c, .int (i + 1), .int v, .int z])) b c ns (i + 1) v z := fun z hz => hB.put (by omega) hv hz
      have hz0 : 0 ≤ (sd * 69621 + 12345 + (i + 1)) % 2147483647 := Int.emod_nonneg _ (by decide)
      have B3 := B2 _ hz0
      have h3 := B3.1
      have e3 : Fr [b] H1 (upd H1 b (.lst [.ref c, .int (i + 1), .int v, .int ((sd * 69621 + 12345 + (i + 1)) % 2147483647)])) := (Fr.refl _ _).put (.inl (by simp))
      revert B3 h3 e3
      generalize upd H1 b (.lst [.ref c, .int (i + 1), .int v, .int ((sd * 69621 + 12345 + (i + 1)) % 2147483647)]) = H2
      intro B3 h3 e3
      -- if cell < 0: cell = -cell
      refine ⟨fun σ' H' => H' = H2 ∧ ∃ cell : Int, 0 ≤ cell ∧ σ' = [some (.ref b), some (.int many), some (.int cell), none], ?_, ?_⟩
      · refine ⟨_, rfl, _, _, rfl, rfl, _, rfl, dec_iff (fun hneg => ?_) fun hpos => ⟨rfl, cell, by omega, rfl⟩⟩
        exact ⟨_, rfl, _, rfl, rfl, -cell, by omega, rfl⟩
      rintro σ' H' ⟨rfl, cell, hcell, rfl⟩
      -- if cell < 10 ** 18: cell = ..
      refine ⟨fun σ' H2 => H2 = H' ∧ ∃ cell : Int, 0 ≤ cell ∧ σ' = [some (.ref b), some (.int many), some (.int cell), none], ?_, ?_⟩
      · refine ⟨_, rfl, _, _, rfl, rfl, ⟨by decide, by decide, by decide⟩, _, _, rfl, rfl, _, rfl, dec_iff (fun hlow => ?_) fun hhigh => ⟨rfl, cell, hcell, rfl⟩⟩
        refine ⟨_, rfl, _, rfl, _, _, _, _, rfl, rfl, SqL.of h3, rfl, _, _, rfl, rfl, _, _, rfl, rfl, .inr (by decide), _, rfl, _, _, _, _, rfl, rfl, SqL.of h3, rfl, _, _, rfl, rfl, .inr (by decide), _, _, rfl, rfl, _, _, rfl, rfl, .inl ⟨_, rfl, _, _, rfl, rfl, m31, ?_⟩⟩
        refine ⟨_, rfl, _, _, rfl, rfl, .inr (by decide), _, rfl, _, _, _, _, rfl, rfl, SqL.of h3, rfl, _, _, rfl, rfl, .inl (by decide), _, _, rfl, rfl, .inl ⟨_, rfl, _, _, rfl, rfl, m31, _, _, rfl, rfl, ?_⟩⟩
        refine ⟨rfl, _, ?_, rfl⟩
        have := Int.emod_nonneg (((cell + (i + 1)) * 48271 + (i + 1) * 40692 + 3) % 2147483647 * 69621 + 7919 * (i + 1)) (b := 2147483647) (by decide)
        omega
      rintro σ' H2 ⟨rfl, cell, hcell, rfl⟩
      -- bag[2] = cell
      refine ⟨_, rfl, _, rfl, _, _, _, _, rfl, rfl, h3, rfl, ?_⟩
      exact ⟨_, _, _, _, rfl, e3.put (.inl (by simp)), B3.put B3.2.2.1 hcell B3.2.2.2.2⟩
    rintro σ' H1 ⟨o, i1, v1, s1, rfl, e1, B1⟩
    have h1 := B1.1
    refine ⟨_, rfl, _, _, _, _, rfl, rfl, SqL.of h1, rfl, .inl ⟨_, rfl, _, rfl, _, _, rfl, rfl, hm, ?_⟩⟩
    refine ⟨_, rfl, _, _, _, _, rfl, rfl, SqL.of h1, rfl, _, rfl, _, _, rfl, rfl, ⟨hm, hlog⟩, ?_⟩
    refine ⟨_, rfl, _, _, _, _, rfl, rfl, h1, rfl, _, rfl, ?_⟩
    refine k _ _ (Int.emod_nonneg _ (by omega)) (Int.emod_lt_of_pos _ hm) (e1.put (.inl (by simp))) ⟨ns, i1, v1 / many, s1, ?_⟩
    exact B1.put B1.2.2.1 (Int.ediv_nonneg B1.2.2.2.1 (by omega)) B1.2.2.2.2
end
section
variable {P : Program} {w : World} {K : PySem.W.Frag} {mg : Str → Option Value} {base : Heap}
theorem ok_law_bag {f : Addr} {fd : FuncData} (F : Fun K "_law_bag" "_law_bag" s_law_bag f fd) (T : Blt mg) : FnOk P w K mg base CX0 1 f fd ["script"] (spBag K) := by
  refine F.ok sc_law_bag (fun vs H Q E h => ?_) (fun cdv A outer s H vs Q E hr h => ?_)
  · obtain ⟨a, ns, rfl, _⟩ := h
    rfl
  · obtain ⟨a, ns, rfl, hS, hlen, k⟩ := h
    refine ⟨_, (pss_cons (ps_set (i := 1) sc_law_bag.nd rfl (Or.inl rfl) pe_int)
    (pss_cons (ps_for PassesOwn.never rfl (pi_list (pv 0)) (pg_name (i := 2) sc_law_bag.nd rfl (Or.inl rfl))
      (pss_one (ps_set (i := 1) sc_law_bag.nd rfl (Or.inl rfl) (pe_op op_mod (pe_callTy call_int1 (by rfl) T.m_int (by decide +kernel) (pa_cons (pe_op op_add (pe_op op_add (pe_op op_mul (pv 1) pe_int) (pe_op op_mod (pe_callTy call_int1 (by rfl) T.m_int (by decide +kernel) (pa_cons (pv 2) pa_nil)) pe_int)) pe_int) pa_nil)) pe_int))))
    (pss_one (ps_ret (pe_lst (pa_cons (pe_lc (own := [("cell", 2)]) rfl sc_law_bag.nd (pi_list (pv 0)) (blkOk_by (own := [("cell", 2)]) (N := n_law_bag) (sc := defScope s_law_bag) (by decide +kernel)) (fun _ _ _ _ _ => (pg_name (i := 2) sc_law_bag.nd rfl (Or.inl rfl))) (fun _ _ _ _ _ => pts_nil) (fun _ _ _ _ _ => (pe_callTy call_int1 (by rfl) T.m_int (by decide +kernel) (pa_cons (pv 2) pa_nil)))) (pa_cons pe_int (pa_cons pe_int (pa_cons (pv 1) pa_nil))))))))), ?_⟩
    refine ⟨_, rfl, a, rfl, ⟨_, hS⟩, for_list (K := K) (a := a) (xs := ns.map V.int) (fun i σ H' => H' = H ∧ ∃ (seed : Int) (o : Option V), 0 ≤ seed ∧ σ = [some (.ref a), some (.int seed), o])
      ⟨rfl, 7, none, by decide, rfl⟩ (fun i σ H' _ ⟨e, _⟩ => by rw [e]; exact hS) ?_ ?_⟩
    · rintro i y σ H' hi ⟨rfl, seed, o, hs, rfl⟩
      obtain ⟨z, hz, rfl⟩ := get_map_int hi
      refine ⟨_, rfl, _, _, rfl, rfl, .inr (by decide), _, rfl, .inl ⟨_, rfl, _, _, rfl, rfl, by show (0 : Int) < 1000003; decide, _, _, rfl, rfl, _, _, rfl, rfl, .inl ⟨_, rfl, _, _, rfl, rfl, m31, ?_⟩⟩⟩
      exact ⟨rfl, _, _, Int.emod_nonneg _ (by decide), rfl⟩
    · rintro σ H' ⟨rfl, seed, o, hs, rfl⟩
      refine ⟨_, rfl, a, rfl, ⟨_, hS⟩, fun D hD => lc_list (K := K) (a := a) (xs := ns.map V.int) (fun i H2 => H2 = upd H' D (.lst ((ns.take i).map V.int))) rfl
        (fun i H2 _ e => by rw [e]; exact ((Fr.refl [] H').new hD).l hS) ?_ ?_⟩
      · rintro i y H2 hi rfl
        obtain ⟨z, hz, rfl⟩ := get_map_int hi
        refine ⟨rfl, _, rfl, .inl ⟨_, rfl, _, upd_same, ?_, ?_⟩⟩
        · rw [List.length_map, List.length_take]
          exact Nat.lt_of_le_of_lt (Nat.le_trans (Nat.min_le_right _ _) hlen) (by decide)
        · rw [upd_upd, take_succ hz, List.map_append]
          rfl
      · rintro H2 rfl
        rw [List.length_map, List.take_length]
        refine ⟨_, rfl, by show 4 ≤ sizeLine; decide, fun l hl => ?_⟩
        have hlD : D ≠ l := ne_of_none upd_same hl
        refine k l D _ ?_ hD (((Fr.refl [] H').new hD).new hl) ⟨ns, 0, 0, seed, upd_same, by rw [upd_ne hlD]; exact upd_same, by decide, by decide, hs⟩
        exact ((Fr.refl [] H').new hD).free hl
end
/-! _law_parents(bag, most): slots 0 bag 1 most 2 parents 3 size 4 kind 5 k 6 parent -/
abbrev s_law_parents : Stmt := top 24
abbrev n_law_parents : List Str := ["bag", "most", "parents", "size", "kind", "k", "parent"]
theorem sc_law_parents : FnScope n_law_parents ["bag", "most"] (defScope s_law_parents) := ⟨rfl, rfl, rfl, by decide +kernel, rfl, by decide +kernel, by decide +kernel⟩
/-! _law_part(bag, divisor): slots 0 bag 1 divisor 2 part -/
abbrev s_law_part : Stmt := top 25
abbrev n_law_part : List Str := ["bag", "divisor", "part"]
theorem sc_law_part : FnScope n_law_part ["bag", "divisor"] (defScope s_law_part) := ⟨rfl, rfl, rfl, by decide +kernel, rfl, by decide +kernel, by decide +kernel⟩
/-! _law_totals(parents, places, amounts): slots 0 parents 1 places 2 amounts 3 totals 4 k 5 at 6 turn 7 parent -/
abbrev s_law_totals : Stmt := top 26
abbrev n_law_totals : List Str := ["parents", "places", "amounts", "totals", "k", "at", "turn", "parent"]
theorem sc_law_totals : FnScope n_law_totals ["parents", "places", "amounts"] (defScope s_law_totals) := ⟨rfl, rfl, rfl, by decide +kernel, rfl, by decide +kernel, by decide +kernel⟩
/-! _law_integers(told, size): slots 0 told 1 size 2 part -/
abbrev s_law_integers : Stmt := top 27
abbrev n_law_integers : List Str := ["told", "size", "part"]
theorem sc_law_integers : FnScope n_law_integers ["told", "size"] (defScope s_law_integers) := ⟨rfl, rfl, rfl, by decide +kernel, rfl, by decide +kernel, by decide +kernel⟩
/-! _law_between(told, amounts, divisor): slots 0 told 1 amounts 2 divisor 3 k -/
abbrev s_law_between : Stmt := top 28
abbrev n_law_between : List Str := ["told", "amounts", "divisor", "k"]
theorem sc_law_between : FnScope n_law_between ["told", "amounts", "divisor"] (defScope s_law_between) := ⟨rfl, rfl, rfl, by decide +kernel, rfl, by decide +kernel, by decide +kernel⟩
/-! _law_same(left, right): slots 0 left 1 right -/
abbrev s_law_same : Stmt := top 31
abbrev n_law_same : List Str := ["left", "right"]
theorem sc_law_same : FnScope n_law_same ["left", "right"] (defScope s_law_same) := ⟨rfl, rfl, rfl, by decide +kernel, rfl, by decide +kernel, by decide +kernel⟩
def spParents : Sp := fun vs H Q _ => ∃ (b c : Addr) (most : Nat), vs = [.ref b, .int (most : Int)] ∧ BagC H b c ∧ 0 < most ∧ most ≤ 40 ∧ ∀ (ps : List Int) (p : Addr) (H' : Hp), Fam.OkPar ps → ps.length ≤ 40 → Fr [b] H H' → BagC H' b c → H p = none → H' p = some (.lst (ps.map V.int)) → Q (.ref p) H'
def spPart : Sp := fun vs H Q _ => ∃ (b c : Addr) (d : Int), vs = [.ref b, .int d] ∧ BagC H b c ∧ 0 < d ∧ d < 2 ^ 101 ∧ ∀ (t : Int) (H' : Hp), -d ≤ t → t ≤ 4 * d → Fr [b] H H' → BagC H' b c → Q (.int t) H'
def spIntegers (K : PySem.W.Frag) : Sp := fun vs H Q _ => ∃ (p : Addr) (xs : List Int), vs = [.ref p, .int (xs.length : Int)] ∧ H p = some (.lst (xs.map V.int)) ∧ Q (.bl true) H
def spBetween (K : PySem.W.Frag) : Sp := fun vs H Q _ => ∃ (pt pa : Addr) (ts xs : List Int) (d : Int), vs = [.ref pt, .ref pa, .int d] ∧ SqL K H pt (ts.map V.int) ∧ SqL K H pa (xs.map V.int) ∧ ts.length = xs.length ∧ xs.length ≤ 10000 ∧ d.natAbs < 2 ^ 200 ∧
  (∀ k, k < xs.length → (Cir.part ts k).natAbs < 2 ^ 200 ∧ Cir.part xs k - d < Cir.part ts k * d ∧ Cir.part ts k * d < Cir.part xs k + d) ∧ Q (.bl true) H
section
variable {P : Program} {w : World} {K : PySem.W.Frag} {mg : Str → Option Value} {base : Heap} {CA CU CL CC : Addr}
theorem ok_law_same {f : Addr} {fd : FuncData} (F : Fun K "_law_same" "_law_same" s_law_same f fd) (T : Blt mg) : FnG P w K mg base CX0 1 f fd ["left", "right"] (spSameX K) := by
  refine F.okG sc_law_same (fun vs H Q E h => ?_) (fun cdv A outer s H vs Q E hr hgu h => ?_)
  · obtain ⟨x, y, d, rfl, _⟩ := h
    rfl
  · obtain ⟨x, y, d, rfl, h1, h2, h3, h4, h5, k⟩ := h
    have hu66 : (A.deeper (envOfC "_law_same" (defScope s_law_same) s.heap.objs.size f cdv)).units + 66 < cLine := by have := hr.un; omega
    refine ⟨_, (pss_one (ps_ret (pe_cmpR op_eq (pe_callB (cr_reprX hgu hu66) (by rfl) T.m_repr (by decide +kernel) (pa_cons (pv 0) pa_nil)) (pe_callB (cr_reprX hgu hu66) (by rfl) T.m_repr (by decide +kernel) (pa_cons (pv 1) pa_nil)) (nomark _)))), ?_⟩
    refine ⟨_, rfl, x, d, rfl, h1, h3, h4, h5, _, rfl, y, d, rfl, h2, h3, h4, h5, rfl, ?_⟩
    rw [decide_eq_true rfl]
    exact k
theorem ok_law_parents {f : Addr} {fd : FuncData} (F : Fun K "_law_parents" "_law_parents" s_law_parents f fd) (T : Blt mg) (F_law_take : FnB P w K mg base CX0 1 "_law_take" ["bag", "many"] spTake) : FnOk P w K mg base CX0 2 f fd ["bag", "most"] spParents := by
  refine F.ok sc_law_parents (fun vs H Q E h => ?_) (fun cdv A outer s H vs Q E hr h => ?_)
  · obtain ⟨b, c, most, rfl, _⟩ := h
    rfl
  · obtain ⟨b, c, most, rfl, hB, h0, h40, k⟩ := h
    refine ⟨_, (pss_cons (ps_set (i := 2) sc_law_parents.nd rfl (Or.inl rfl) (pe_lst pa_nil))
    (pss_cons (ps_set (i := 3) sc_law_parents.nd rfl (Or.inl rfl) (pe_op op_add pe_int (pe_callF F_law_take (hr.mono (by decide)) rfl pass0 (pa_cons (pv 0) (pa_cons (pv 1) pa_nil)))))
    (Evl.pss_cut (ps_if (pt_cmpR op_eq (pe_callF F_law_take (hr.mono (by decide)) rfl pass0 (pa_cons (pv 0) (pa_cons pe_int pa_nil))) pe_int (nomark _))
      (pss_one (ps_set (i := 3) sc_law_parents.nd rfl (Or.inl rfl) pe_int))
      pss_nil)
    (pss_cons (ps_set (i := 4) sc_law_parents.nd rfl (Or.inl rfl) (pe_callF F_law_take (hr.mono (by decide)) rfl pass0 (pa_cons (pv 0) (pa_cons pe_int pa_nil))))
    (pss_cons (ps_for PassesOwn.never rfl (pi_range1 (by rfl) T.m_range (pa_cons (pv 3) pa_nil)) (pg_name (i := 5) sc_law_parents.nd rfl (Or.inl rfl))
      (pss_cons (ps_set (i := 6) sc_law_parents.nd rfl (Or.inl rfl) (pe_un un_neg pe_int))
      (Evl.pss_cut (ps_if (pt_cmpR op_eq (pv 4) pe_int (nomark _))
        (pss_one (ps_set (i := 6) sc_law_parents.nd rfl (Or.inl rfl) (pe_op op_sub (pv 5) pe_int)))
        pss_nil)
      (Evl.pss_cut (ps_if (pt_cmpR op_gt (pv 4) pe_int (nomark _))
        (pss_one (ps_set (i := 6) sc_law_parents.nd rfl (Or.inl rfl) (pe_op op_sub (pe_callF F_law_take (hr.mono (by decide)) rfl pass0 (pa_cons (pv 0) (pa_cons (pe_op op_add (pv 5) pe_int) pa_nil))) pe_int)))
        pss_nil)
      (pss_one (ps_expr (pe_bm PySem.F.plainAttrs_list PySem.F.slot_list_append PySem.F.type_list_append mt_append (pv 2) (pa_cons (pv 6) pa_nil))))))))
    (pss_one (ps_ret (pv 2)))))))), ?_⟩
    refine ⟨by show 0 ≤ sizeLine; exact Nat.zero_le _, fun p hp => ?_⟩
    have B1 := hB.new (o := .lst []) hp
    have e1 : Fr [b] H (upd H p (.lst [])) := (Fr.refl _ H).new hp
    have p1 : (upd H p (.lst [])) p = some (.lst []) := upd_same
    have npb : p ≠ b := hB.neb hp
    have npc : p ≠ c := hB.nec hp
    generalize upd H p (.lst []) = H1 at B1 e1 p1 ⊢
    refine ⟨_, rfl, _, rfl, b, c, _, rfl, B1, by omega, log_ok (Nat.lt_of_le_of_lt (m := 100) (by omega) (by decide)), fun t H2 t0 t1 e2 B2 => ⟨_, _, rfl, rfl, ?_⟩⟩
    obtain ⟨n, hn, hn40⟩ : ∃ n : Nat, 1 + t = (n : Int) ∧ n ≤ 40 := ⟨(1 + t).toNat, by omega, by omega⟩
    dsimp only
    rw [hn]
    have p2 := e2 _ _ p1 (by simpa using npb)
    refine ⟨fun σ' H' => ∃ n : Nat, n ≤ 40 ∧ Fr [b] H H' ∧ BagC H' b c ∧ H' p = some (.lst []) ∧ σ' = [some (.ref b), some (.int (most : Int)), some (.ref p), some (.int (n : Int)), none, none, none], ?_, ?_⟩
    · refine ⟨_, rfl, b, c, 12, rfl, B2, by decide, by decide, fun z H3 z0 z1 e3 B3 => ⟨rfl, _, rfl, ?_⟩⟩
      have p3 := e3 _ _ p2 (by simpa using npb)
      refine eq_if (fun _ => ⟨0, by decide, (e1.trans e2).trans e3, B3, p3, rfl⟩) fun _ => ⟨n, hn40, (e1.trans e2).trans e3, B3, p3, rfl⟩
    clear B1 e1 p1 e2 B2 p2 hn hn40 t0 t1 n
    rintro σ' H2 ⟨n, hn, e2, B2, p2, rfl⟩
    refine ⟨_, rfl, b, c, 4, rfl, B2, by decide, by decide, fun kd H3 k0 k1 e3 B3 => ?_⟩
    have p3 := e3 _ _ p2 (by simpa using npb)
    refine ⟨_, rfl, _, rfl, (rg_ok (by omega)).1, (rg_ok (by omega)).2, for_rng (n := n)
      (fun i σ H' => ∃ ps : List Int, ps.length = i ∧ Fam.OkPar ps ∧ Fr [b] H H' ∧ BagC H' b c ∧ H' p = some (.lst (ps.map V.int)) ∧ ∃ o5 o6 : Option V, σ = [some (.ref b), some (.int (most : Int)), some (.ref p), some (.int (n : Int)), some (.int kd), o5, o6])
      ⟨[], rfl, fun k hk => by simp at hk, e2.trans e3, B3, p3, _, _, rfl⟩ ?_ ?_⟩
    · rintro i σ H4 hi ⟨ps, hl, ok, e4, B4, p4, o5, o6, rfl⟩
      refine ⟨_, rfl, ?_⟩
      refine ⟨fun σ' H' => ∃ z : Int, (-1 ≤ z ∧ z < i) ∧ H' = H4 ∧ σ' = [some (.ref b), some (.int (most : Int)), some (.ref p), some (.int (n : Int)), some (.int kd), some (.int (i : Int)), some (.int z)], ?_, ?_⟩
      · refine ⟨_, rfl, rfl, _, rfl, eq_if (fun _ => ⟨_, rfl, _, _, rfl, rfl, (i : Int) - 1, by omega, rfl, rfl⟩) fun _ => ⟨-1, by omega, rfl, rfl⟩⟩
      rintro σ' H5 ⟨z, hz, rfl, rfl⟩
      refine ⟨fun σ' H' => ∃ z : Int, (-1 ≤ z ∧ z < i) ∧ Fr [b] H H' ∧ BagC H' b c ∧ H' p = some (.lst (ps.map V.int)) ∧ σ' = [some (.ref b), some (.int (most : Int)), some (.ref p), some (.int (n : Int)), some (.int kd), some (.int (i : Int)), some (.int z)], ?_, ?_⟩
      · refine ⟨_, rfl, _, _, rfl, rfl, _, rfl, dec_iff (fun _ => ?_) fun _ => ⟨z, hz, e4, B4, p4, rfl⟩⟩
        refine ⟨_, rfl, _, rfl, _, _, rfl, rfl, b, c, _, rfl, B4, by omega, log_ok (Nat.lt_of_le_of_lt (m := 100) (by omega) (by decide)), fun t H6 t0 t1 e6 B6 => ⟨_, _, rfl, rfl, ?_⟩⟩
        exact ⟨t - 1, by omega, e4.trans e6, B6, e6 _ _ p4 (by simpa using npb), rfl⟩
      clear e4 B4 p4 hz z
      rintro σ' H6 ⟨z, hz, e6, B6, p6, rfl⟩
      refine ⟨_, rfl, .inl ⟨rfl, _, SqL.of p6⟩, _, rfl, _, _, _, rfl, rfl, p6, len_lt (by rw [List.length_map]; omega), ?_⟩
      refine ⟨ps ++ [z], by simp [hl], fun k hk => ?_, e6.put (.inr hp), B6.put npb npc, by rw [upd_same, List.map_append]; rfl, _, _, rfl⟩
      by_cases c : k < ps.length
      · rw [Cir.part_snoc_lt c]
        exact ok k c
      · have : k = ps.length := by
          rw [List.length_append, List.length_singleton] at hk
          omega
        rw [this, Cir.part_snoc]
        omega
    · rintro σ H4 ⟨ps, hl, ok, e4, B4, p4, o5, o6, rfl⟩
      exact ⟨_, rfl, k ps p H4 ok (by omega) e4 B4 hp p4⟩
theorem ok_law_part {f : Addr} {fd : FuncData} (F : Fun K "_law_part" "_law_part" s_law_part f fd) (T : Blt mg) (F_law_take : FnB P w K mg base CX0 1 "_law_take" ["bag", "many"] spTake) : FnOk P w K mg base CX0 2 f fd ["bag", "divisor"] spPart := by
  refine F.ok sc_law_part (fun vs H Q E h => ?_) (fun cdv A outer s H vs Q E hr h => ?_)
  · obtain ⟨b, c, d, rfl, _⟩ := h
    rfl
  · obtain ⟨b, c, d, rfl, hB, hd, hdl, k⟩ := h
    have dl : d.natAbs < 2 ^ 250 := by
      have : (2 : Int) ^ 101 < 2 ^ 250 := by decide
      omega
    refine ⟨_, (pss_cons (ps_set (i := 2) sc_law_part.nd rfl (Or.inl rfl) (pe_op op_mul (pe_op op_sub (pe_callF F_law_take (hr.mono (by decide)) rfl pass0 (pa_cons (pv 0) (pa_cons pe_int pa_nil))) pe_int) (pv 1)))
    (Evl.pss_cut (ps_if (pt_cmpR op_gt (pe_callF F_law_take (hr.mono (by decide)) rfl pass0 (pa_cons (pv 0) (pa_cons pe_int pa_nil))) pe_int (nomark _))
      (pss_cons (ps_set (i := 2) sc_law_part.nd rfl (Or.inl rfl) (pe_op op_add (pv 2) (pe_callF F_law_take (hr.mono (by decide)) rfl pass0 (pa_cons (pv 0) (pa_cons (pv 1) pa_nil)))))
      (pss_one (ps_if (pt_cmpR op_gt (pv 1) pe_int (nomark _))
        (pss_one (ps_set (i := 2) sc_law_part.nd rfl (Or.inl rfl) (pe_op op_add (pv 2) (pe_op op_mul (pe_callF F_law_take (hr.mono (by decide)) rfl pass0 (pa_cons (pv 0) (pa_cons pe_int pa_nil))) (pe_op op_fdivW (pv 1) pe_int)))))
        pss_nil)))
      pss_nil)
    (pss_one (ps_ret (pv 2))))), ?_⟩
    refine ⟨_, rfl, b, c, 4, rfl, hB, by decide, by decide, fun t H1 t0 t1 e1 B1 => ⟨_, _, rfl, rfl, _, rfl, _, _, rfl, rfl, .inl ⟨by omega, by omega⟩, ?_⟩⟩
    dsimp only
    have w0 : -d ≤ (t - 1) * d ∧ (t - 1) * d ≤ 2 * d := by
      have : t = 0 ∨ t = 1 ∨ t = 2 ∨ t = 3 := by omega
      rcases this with rfl | rfl | rfl | rfl <;> omega
    generalize (t - 1) * d = w at w0 ⊢
    refine ⟨fun σ' H' => ∃ w : Int, -d ≤ w ∧ w ≤ 4 * d ∧ Fr [b] H H' ∧ BagC H' b c ∧ σ' = [some (.ref b), some (.int d), some (.int w)], ?_, ?_⟩
    · refine ⟨_, rfl, b, c, 4, rfl, B1, by decide, by decide, fun z H2 z0 z1 e2 B2 => ⟨_, _, rfl, rfl, _, rfl, dec_iff (fun _ => ?_) fun _ => ⟨w, by omega, by omega, e1.trans e2, B2, rfl⟩⟩⟩
      refine ⟨_, rfl, _, rfl, _, rfl, b, c, d, rfl, B2, hd, log_ok dl, fun u H3 u0 u1 e3 B3 => ⟨_, _, rfl, rfl, ?_⟩⟩
      refine ⟨_, rfl, _, _, rfl, rfl, _, rfl, dec_iff (fun _ => ?_) fun _ => ⟨w + u, by omega, by omega, (e1.trans e2).trans e3, B3, rfl⟩⟩
      refine ⟨_, rfl, _, rfl, b, c, 60, rfl, B3, by decide, by decide, fun x H4 x0 x1 e4 B4 => ?_⟩
      refine ⟨_, rfl, _, _, rfl, rfl, ⟨by decide, by decide⟩, _, _, rfl, rfl, .inl ⟨by omega, by omega⟩, _, _, rfl, rfl, ?_⟩
      have q0 : 0 ≤ d / 60 := Int.ediv_nonneg (by omega) (by decide)
      have q1 : d / 60 * 60 ≤ d := Int.ediv_mul_le d (by decide)
      have q2 : x * (d / 60) ≤ 60 * (d / 60) := Int.mul_le_mul_of_nonneg_right (by omega) q0
      have q3 : 0 ≤ x * (d / 60) := Int.mul_nonneg x0 q0
      exact ⟨w + u + x * (d / 60), by omega, by omega, ((e1.trans e2).trans e3).trans e4, B4, rfl⟩
    rintro σ' H2 ⟨w, w1, w2, e2, B2, rfl⟩
    exact ⟨_, rfl, k w H2 w1 w2 e2 B2⟩
theorem ok_law_totals {f : Addr} {fd : FuncData} (F : Fun K "_law_totals" "_law_totals" s_law_totals f fd) (T : Blt mg) : FnOk P w K mg base CX0 1 f fd ["parents", "places", "amounts"] (spTotals K) := by
  refine F.ok sc_law_totals (fun vs H Q E h => ?_) (fun cdv A outer s H vs Q E hr h => ?_)
  · obtain ⟨a, ap, ax, ps, places, xs, rfl, _⟩ := h
    rfl
  · obtain ⟨a, ap, ax, ps, places, xs, rfl, hA, hP, hX, okp, hpx, hpl, hl, hlx, k⟩ := h
    refine ⟨_, (pss_cons (ps_setLc (i := 3) (own := [("parent", 7)]) rfl sc_law_totals.nd rfl rfl (sw_true rfl rfl rfl (by decide +kernel)) (pi_list (pv 0)) (blkOk_by (own := [("parent", 7)]) (N := n_law_totals) (sc := defScope s_law_totals) (by decide +kernel)) (fun _ _ _ _ _ => (pg_name (i := 7) sc_law_totals.nd rfl (Or.inl rfl))) (fun _ _ _ _ _ => pts_nil) (fun _ _ _ _ _ => pe_int))
    (pss_cons (ps_for PassesOwn.never rfl (pi_range1 (by rfl) T.m_range (pa_cons (pe_callB call_len_seq (by rfl) T.m_len (by decide +kernel) (pa_cons (pv 1) pa_nil)) pa_nil)) (pg_name (i := 4) sc_law_totals.nd rfl (Or.inl rfl))
      (pss_cons (ps_set (i := 5) sc_law_totals.nd rfl (Or.inl rfl) (pe_ix ix_list (pv 1) (pv 4) (fun _ _ => rfl)))
      (pss_one (ps_for PassesOwn.never rfl (pi_range1 (by rfl) T.m_range (pa_cons (pe_callB call_len_seq (by rfl) T.m_len (by decide +kernel) (pa_cons (pv 0) pa_nil)) pa_nil)) (pg_name (i := 6) sc_law_totals.nd rfl (Or.inl rfl))
        (pss_cons (ps_if (pt_cmpR op_lt (pv 5) pe_int (nomark _))
          (pss_one ps_break)
          pss_nil)
        (pss_cons (ps_asg (pe_op op_add (pe_ix ix_list (pv 3) (pv 5) (fun _ _ => rfl)) (pe_ix ix_list (pv 2) (pv 4) (fun _ _ => rfl))) (pg_sub (pv 3) (pv 5) set_list))
        (pss_one (ps_set (i := 5) sc_law_totals.nd rfl (Or.inl rfl) (pe_ix ix_list (pv 0) (pv 5) (fun _ _ => rfl))))))))))
    (pss_one (ps_ret (pv 3))))), ?_⟩
    refine ⟨_, rfl, a, rfl, ⟨_, hA⟩, fun p hp => lc_list (K := K) (a := a) (xs := ps.map V.int) (fun i H' => H' = upd H p (.lst (List.replicate i (V.int 0)))) rfl (fun i H' _ z => by rw [z]; exact ((Fr.refl [] H).new hp).l hA) ?_ ?_⟩
    · rintro i y H' hy rfl
      have hi : i < ps.length := by
        have := (List.getElem?_eq_some_iff.mp hy).1
        simpa using this
      refine ⟨rfl, _, upd_same, ?_, ?_⟩
      · rw [List.length_replicate]
        exact len_lt (by omega)
      · rw [upd_upd, List.replicate_succ']
    rintro H' rfl
    have np : H p = none := hp
    have e0 : List.replicate (ps.map V.int).length (V.int 0) = (Fam.lawT ps places xs 0).map V.int := by
      rw [Fam.lawT_zero, List.map_replicate, List.length_map]
    rw [e0]
    refine ⟨_, rfl, _, _, rfl, .inl (((Fr.refl [] H).new hp).l hP), _, rfl, (rg_ok (by rw [List.length_map]; omega)).1, (rg_ok (by rw [List.length_map]; omega)).2, for_rng (n := (places.map V.int).length)
      (fun i σ H' => Fr [] H H' ∧ H' p = some (.lst ((Fam.lawT ps places xs i).map V.int)) ∧ ∃ o4 o5 o6 : Option V, σ = [some (.ref a), some (.ref ap), some (.ref ax), some (.ref p), o4, o5, o6, none])
      ⟨(Fr.refl [] H).new hp, upd_same, _, _, _, rfl⟩ ?_ ?_⟩
    · rintro i σ H1 hi ⟨e1, h1, o4, o5, o6, rfl⟩
      rw [List.length_map, hpx] at hi
      have pl := hpl i hi
      have st := Fam.lawT_succ (places := places) (xs := xs) okp pl.2
      have ul := Fam.lawT_len ps places xs i
      rw [st]
      generalize Fam.lawT ps places xs i = u at h1 ul ⊢
      refine ⟨_, rfl, _, rfl, _, _, _, _, rfl, rfl, e1.l hP, at_part (by omega), ?_⟩
      generalize Cir.part places i = at0 at pl ⊢
      refine ⟨_, rfl, _, _, rfl, .inl (e1.l hA), _, rfl, (rg_ok (by rw [List.length_map]; omega)).1, (rg_ok (by rw [List.length_map]; omega)).2, for_rng (n := (ps.map V.int).length)
        (fun j σ H' => ∃ (u' : List Int) (at_ : Int), Fr [] H H' ∧ H' p = some (.lst (u'.map V.int)) ∧ u'.length = ps.length ∧ at_ < ps.length ∧ Fam.stepUp ps (Cir.part xs i) (ps.length - j) at_ u' = Fam.stepUp ps (Cir.part xs i) ps.length at0 u ∧ ∃ o6 : Option V,
          σ = [some (.ref a), some (.ref ap), some (.ref ax), some (.ref p), some (.int (i : Int)), some (.int at_), o6, none])
        ⟨u, at0, e1, h1, ul, pl.2, rfl, _, rfl⟩ ?_ ?_⟩
      · clear h1 ul e1
        rintro j σ H2 hj ⟨u', at_, e2, h2, ul, hat, hs, o6, rfl⟩
        rw [List.length_map] at hj
        have ej : ps.length - j = (ps.length - (j + 1)) + 1 := by omega
        rw [ej] at hs
        have un : Fam.stepUp ps (Cir.part xs i) ((ps.length - (j + 1)) + 1) at_ u' = if at_ < 0 then u' else Fam.stepUp ps (Cir.part xs i) (ps.length - (j + 1)) (Cir.part ps at_.toNat) (u'.set at_.toNat (Cir.part u' at_.toNat + Cir.part xs i)) := rfl
        rw [un] at hs
        refine ⟨_, rfl, _, _, rfl, rfl, _, rfl, dec_iff (fun c => ?_) fun c => ?_⟩
        · rw [if_pos c] at hs
          exact ⟨e2, by rw [← hs]; exact h2, _, _, _, rfl⟩
        · rw [if_neg c] at hs
          have i1 : at_.toNat < u'.length := by omega
          have hq := okp at_.toNat (by omega)
          refine ⟨_, rfl, _, rfl, _, _, _, _, rfl, rfl, SqL.of h2, at_int (by omega) (by rw [List.getElem?_map, Cir.get_part i1]; rfl), ?_⟩
          refine ⟨_, rfl, _, rfl, _, _, _, _, rfl, rfl, e2.l hX, at_part hi, _, _, rfl, rfl, _, rfl, _, rfl, _, _, _, _, rfl, rfl, h2, ix_int (by omega) (by rw [List.length_map]; omega), ?_⟩
          have e3 := e2.put (p := p) (o := .lst ((u'.map V.int).set at_.toNat (.int (Cir.part u' at_.toNat + Cir.part xs i)))) (.inr np)
          refine ⟨_, rfl, _, rfl, _, _, _, _, rfl, rfl, e3.l hA, at_int (by omega) (by rw [List.getElem?_map, Cir.get_part (by omega)]; rfl), ?_⟩
          exact ⟨_, _, e3, by rw [upd_same, List.map_set], by rw [List.length_set, ul], by omega, hs, _, rfl⟩
      · rintro σ H2 ⟨u', at_, e2, h2, ul, hat, hs, o6, rfl⟩
        rw [List.length_map, Nat.sub_self] at hs
        have : u' = Fam.stepUp ps (Cir.part xs i) ps.length at0 u := hs
        rw [← this]
        exact ⟨e2, h2, _, _, _, rfl⟩
    · rintro σ H1 ⟨e1, h1, o4, o5, o6, rfl⟩
      rw [List.length_map, hpx, Fam.lawT_cellT okp fun i hi => (hpl i hi).2] at h1
      exact ⟨_, rfl, k p H1 np e1 h1⟩
theorem ok_law_integers {f : Addr} {fd : FuncData} (F : Fun K "_law_integers" "_law_integers" s_law_integers f fd) (T : Blt mg) : FnOk P w K mg base CX0 1 f fd ["told", "size"] (spIntegers K) := by
  refine F.ok sc_law_integers (fun vs H Q E h => ?_) (fun cdv A outer s H vs Q E hr h => ?_)
  · obtain ⟨p, xs, rfl, _⟩ := h
    rfl
  · obtain ⟨p, xs, rfl, h1, k⟩ := h
    refine ⟨_, (pss_cons (ps_if (PW.pt (pw_or (pt_not (pt_val (pe_callB call_isi (by rfl) T.m_isinstance (by decide +kernel) (pa_cons (pv 0) (pa_cons (pe_bltn (v := .ty "list") (by rfl) T.m_list (by decide +kernel) rfl) pa_nil))))) (pw_or1 (pt_cmpR op_ne (pe_callB call_len_seq (by rfl) T.m_len (by decide +kernel) (pa_cons (pv 0) pa_nil)) (pv 1) (nomark _)))))
      (pss_one (ps_ret pe_bl))
      pss_nil)
    (pss_cons (ps_for PassesOwn.never rfl (pi_list (pv 0)) (pg_name (i := 2) sc_law_integers.nd rfl (Or.inl rfl))
      (pss_one (ps_if (PW.pt (pw_or (pt_not (pt_val (pe_callB call_isi (by rfl) T.m_isinstance (by decide +kernel) (pa_cons (pv 2) (pa_cons (pe_bltn (v := .ty "int") (by rfl) T.m_int (by decide +kernel) rfl) pa_nil))))) (pw_or1 (pt_val (pe_callB call_isi (by rfl) T.m_isinstance (by decide +kernel) (pa_cons (pv 2) (pa_cons (pe_bltn (v := .ty "bool") (by rfl) T.m_bool (by decide +kernel) rfl) pa_nil)))))))
        (pss_one (ps_ret pe_bl))
        pss_nil)))
    (pss_one (ps_ret pe_bl)))), ?_⟩
    refine ⟨_, rfl, _, _, _, _, true, rfl, .ty _, .base (.lst h1), kit_ty (by decide +kernel), _, rfl, ?_⟩
    refine ⟨_, rfl, _, _, rfl, .inl (SqL.of h1), _, rfl, rfl, _, rfl, ne_if (fun c => absurd (by rw [List.length_map]) c) fun _ => ?_⟩
    refine ⟨_, rfl, p, rfl, ⟨_, SqL.of h1⟩, for_list (K := K) (a := p) (xs := xs.map V.int) (fun i σ H' => H' = H ∧ ∃ o : Option V, σ = [some (.ref p), some (.int (xs.length : Int)), o])
      ⟨rfl, _, rfl⟩ (fun i σ H' _ ⟨z, _⟩ => by rw [z]; exact SqL.of h1) ?_ ?_⟩
    · rintro j z σ H' hz ⟨rfl, o, rfl⟩
      obtain ⟨x, _, rfl⟩ := get_map_int hz
      refine ⟨_, rfl, _, _, _, _, true, rfl, .ty _, .base (.int _), kit_ty (by decide +kernel), _, rfl, ?_⟩
      refine ⟨_, rfl, _, _, _, _, false, rfl, .ty _, .base (.int _), kit_ty (by decide +kernel), _, rfl, ?_⟩
      exact ⟨rfl, _, rfl⟩
    · rintro σ H' ⟨rfl, o, rfl⟩
      exact k
theorem ok_law_between {f : Addr} {fd : FuncData} (F : Fun K "_law_between" "_law_between" s_law_between f fd) (T : Blt mg) : FnOk P w K mg base CX0 1 f fd ["told", "amounts", "divisor"] (spBetween K) := by
  refine F.ok sc_law_between (fun vs H Q E h => ?_) (fun cdv A outer s H vs Q E hr h => ?_)
  · obtain ⟨pt, pa, ts, xs, d, rfl, _⟩ := h
    rfl
  · obtain ⟨pt, pa, ts, xs, d, rfl, hT, hX, hl, hlx, hd, hb, k⟩ := h
    refine ⟨_, (pss_cons (ps_for PassesOwn.never rfl (pi_range1 (by rfl) T.m_range (pa_cons (pe_callB call_len_seq (by rfl) T.m_len (by decide +kernel) (pa_cons (pv 1) pa_nil)) pa_nil)) (pg_name (i := 3) sc_law_between.nd rfl (Or.inl rfl))
      (pss_one (ps_if (PW.pt (pw_or (pt_cmpR op_le (pe_op op_mulW (pe_ix ix_list (pv 0) (pv 3) (fun _ _ => rfl)) (pv 2)) (pe_op op_sub (pe_ix ix_list (pv 1) (pv 3) (fun _ _ => rfl)) (pv 2)) (nomark _)) (pw_or1 (pt_cmpR op_ge (pe_op op_mulW (pe_ix ix_list (pv 0) (pv 3) (fun _ _ => rfl)) (pv 2)) (pe_op op_add (pe_ix ix_list (pv 1) (pv 3) (fun _ _ => rfl)) (pv 2)) (nomark _)))))
        (pss_one (ps_ret pe_bl))
        pss_nil)))
    (pss_one (ps_ret pe_bl))), ?_⟩
    refine ⟨_, rfl, _, _, rfl, .inl hX, _, rfl, (rg_ok (by rw [List.length_map]; omega)).1, (rg_ok (by rw [List.length_map]; omega)).2, for_rng (n := (xs.map V.int).length)
      (fun i σ H' => H' = H ∧ ∃ o : Option V, σ = [some (.ref pt), some (.ref pa), some (.int d), o]) ⟨rfl, _, rfl⟩ ?_ ?_⟩
    · rintro i σ H' hi ⟨rfl, o, rfl⟩
      rw [List.length_map] at hi
      obtain ⟨b0, b1, b2⟩ := hb i hi
      have cm : CMulW (Cir.part ts i) d := wide_mul b0 hd (by decide) (by decide) (by decide)
      refine ⟨_, rfl, _, rfl, _, _, _, _, rfl, rfl, hT, at_part (by omega), _, rfl, _, _, rfl, rfl, cm, ?_⟩
      refine ⟨_, rfl, _, rfl, _, _, _, _, rfl, rfl, hX, at_part hi, _, rfl, _, _, rfl, rfl, _, _, rfl, rfl, _, rfl, ?_⟩
      refine dec_iff (fun z => by omega) fun _ => ?_
      refine ⟨_, rfl, _, rfl, _, _, _, _, rfl, rfl, hT, at_part (by omega), _, rfl, _, _, rfl, rfl, cm, ?_⟩
      refine ⟨_, rfl, _, rfl, _, _, _, _, rfl, rfl, hX, at_part hi, _, rfl, _, _, rfl, rfl, _, _, rfl, rfl, _, rfl, ?_⟩
      refine dec_iff (fun z => by omega) fun _ => ?_
      exact ⟨rfl, _, rfl⟩
    · rintro σ H' ⟨rfl, o, rfl⟩
      exact k
end
/-! _law_totaled(first, second, cells, amounts): slots 0 first 1 second 2 cells 3 amounts 4 side 5 parents 6 places 7 due 8 passed 9 told 10 cell -/
abbrev s_law_totaled : Stmt := top 29
abbrev n_law_totaled : List Str := ["first", "second", "cells", "amounts", "side", "parents", "places", "due", "passed", "told", "cell"]
theorem sc_law_totaled : FnScope n_law_totaled ["first", "second", "cells", "amounts"] (defScope s_law_totaled) := ⟨rfl, rfl, rfl, by decide +kernel, rfl, by decide +kernel, by decide +kernel⟩
/-! _law_right(first, second, cells, amounts, divisor, told): slots 0 first 1 second 2 cells 3 amounts 4 divisor 5 told 6 side 7 parents 8 places 9 totals 10 cell -/
abbrev s_law_right : Stmt := top 30
abbrev n_law_right : List Str := ["first", "second", "cells", "amounts", "divisor", "told", "side", "parents", "places", "totals", "cell"]
theorem sc_law_right : FnScope n_law_right ["first", "second", "cells", "amounts", "divisor", "told"] (defScope s_law_right) := ⟨rfl, rfl, rfl, by decide +kernel, rfl, by decide +kernel, by decide +kernel⟩
/-! _law_fault(first, second, cells): slots 0 first 1 second 2 cells 3 k 4 one 5 two -/
abbrev s_law_fault : Stmt := top 32
abbrev n_law_fault : List Str := ["first", "second", "cells", "k", "one", "two"]
theorem sc_law_fault : FnScope n_law_fault ["first", "second", "cells"] (defScope s_law_fault) := ⟨rfl, rfl, rfl, by decide +kernel, rfl, by decide +kernel, by decide +kernel⟩
/-! _law_outcome(first, second, cells, amounts, divisor): slots 0 first 1 second 2 cells 3 amounts 4 divisor 5 told 6 e -/
abbrev s_law_outcome : Stmt := top 33
abbrev n_law_outcome : List Str := ["first", "second", "cells", "amounts", "divisor", "told", "e"]
theorem sc_law_outcome : FnScope n_law_outcome ["first", "second", "cells", "amounts", "divisor"] (defScope s_law_outcome) := ⟨rfl, rfl, rfl, by decide +kernel, rfl, by decide +kernel, by decide +kernel⟩
/-- what the classes of errors answer -/
structure IsX (K : PySem.W.Frag) (C : Addr) : Prop where
  c : PySem.W.findIn K (.ref C) "__class__" = some (some (.builtin "object.__class__"))
  m : PySem.W.mroIn K C (.type "object") = some true
structure TxtM (P : Program) (K : PySem.W.Frag) (mg : Str → Option Value) (CD CA CU CL CC CB : Addr) : Prop extends Txt6 P K mg CA CU CL CC where
  h1 : PySem.W.specialIn K (.builtin "object.__class__") "__get__" = some (some (.builtin "getset_descriptor.__get__"))
  h2 : PySem.W.takesIn K (.builtin "object.__class__") = some true
  g_DealError : mg "DealError" = some (.ref CD)
  g_BadNumber : mg "BadNumber" = some (.ref CB)
  iL : IsX K CL
  iC : IsX K CC
  kLD : PySem.W.kitOne K (.ref CL) (.ref CD) = some true
  kCD : PySem.W.kitOne K (.ref CC) (.ref CD) = some true
  kLC : PySem.W.kitOne K (.ref CL) (.ref CC) = some false
  kCL : PySem.W.kitOne K (.ref CC) (.ref CL) = some false
  kLB : PySem.W.kitOne K (.ref CL) (.ref CB) = some false
  kCB : PySem.W.kitOne K (.ref CC) (.ref CB) = some false
  eCL : PySem.W.exmOne K (.ref CC) (.ref CL) = some false
theorem least_uniq {P : Nat → Prop} {a b : Nat} (h1 : P a) (h2 : ∀ j, j < a → ¬ P j) (h3 : P b) (h4 : ∀ j, j < b → ¬ P j) : a = b := by
  by_cases c : a < b
  · exact absurd h1 (h4 a c)
  · by_cases d : b < a
    · exact absurd h3 (h2 b d)
    · omega
/-- a list of these flat values is this data -/
def FlatL (vs : List V) (d : PyData) : Prop := ∀ (K : PySem.W.Frag) (H : Hp) (p : Addr), H p = some (.lst vs) → Dp K H (.ref p) d
def dLot (s : Str) (k : Nat) : PyData := .list [.str "lot", .str s, .int (k : Int), .bool true, .bool false]
def dCell (k : Nat) : PyData := .list [.str "cell", .int (k : Int), .bool true, .bool false]
def dTold : PyData := .list [.str "told", .bool true]
theorem flat_told : FlatL [.str "told", .bl true] dTold := fun _ _ _ h => .lst (SqL.of h) (.cons (.str _) (.cons (.bl _) .nil))
theorem flat_lot (s : Str) (i : Nat) : FlatL [.str "lot", .str s, .int (i : Int), .bl true, .bl false] (dLot s i) := fun _ _ _ h => .lst (SqL.of h) (.cons (.str _) (.cons (.str _) (.cons (.int _) (.cons (.bl _) (.cons (.bl _) .nil)))))
theorem flat_cell (i : Nat) : FlatL [.str "cell", .int (i : Int), .bl true, .bl false] (dCell i) := fun _ _ _ h => .lst (SqL.of h) (.cons (.str _) (.cons (.int _) (.cons (.bl _) (.cons (.bl _) .nil))))
def ResE (first second : List Int) (cells : List Cir.Arc) (d : PyData) : Prop :=
  (d = dTold ∧ Fam.OkPar first ∧ Fam.OkPar second ∧ Fam.OkCells first.length second.length cells) ∨
  (∃ k : Nat, d = dLot "first" k ∧ k < first.length ∧ ¬ okP first k ∧ ∀ j, j < k → okP first j) ∨
  (∃ k : Nat, d = dLot "second" k ∧ Fam.OkPar first ∧ k < second.length ∧ ¬ okP second k ∧ ∀ j, j < k → okP second j) ∨
  (∃ k : Nat, d = dCell k ∧ Fam.OkPar first ∧ Fam.OkPar second ∧ k < cells.length ∧ ¬ okC first.length second.length cells k ∧ ∀ j, j < k → okC first.length second.length cells j)
theorem ResE.uniq {first second : List Int} {cells : List Cir.Arc} {d d' : PyData} (h : ResE first second cells d) (h' : ResE first second cells d') : d = d' := by
  rcases h with ⟨rfl, g1, g2, g3⟩ | ⟨k, rfl, k1, k2, k3⟩ | ⟨k, rfl, g1, k1, k2, k3⟩ | ⟨k, rfl, g1, g2, k1, k2, k3⟩ <;>
  rcases h' with ⟨rfl, f1, f2, f3⟩ | ⟨m, rfl, m1, m2, m3⟩ | ⟨m, rfl, f1, m1, m2, m3⟩ | ⟨m, rfl, f1, f2, m1, m2, m3⟩
  · rfl
  · exact absurd (g1 m m1) m2
  · exact absurd (g2 m m1) m2
  · exact absurd (okCells.mp g3 m m1) m2
  · exact absurd (f1 k k1) k2
  · rw [least_uniq (P := fun k => ¬ okP first k) k2 (fun j hj h => h (k3 j hj)) m2 fun j hj h => h (m3 j hj)]
  · exact absurd (f1 k k1) k2
  · exact absurd (f1 k k1) k2
  · exact absurd (f2 k k1) k2
  · exact absurd (g1 m m1) m2
  · rw [least_uniq (P := fun k => ¬ okP second k) k2 (fun j hj h => h (k3 j hj)) m2 fun j hj h => h (m3 j hj)]
  · exact absurd (f2 k k1) k2
  · exact absurd (okCells.mp f3 k k1) k2
  · exact absurd (g1 m m1) m2
  · exact absurd (g2 m m1) m2
  · rw [least_uniq (P := fun k => ¬ okC first.length second.length cells k) k2 (fun j hj h => h (k3 j hj)) m2 fun j hj h => h (m3 j hj)]
theorem lits6 : TxS 6 "lot" ∧ TxS 6 "cell" ∧ TxS 6 "told" ∧ TxS 6 "first" ∧ TxS 6 "second" := ⟨TxS.lit (by decide) (by decide), TxS.lit (by decide) (by decide), TxS.lit (by decide) (by decide), TxS.lit (by decide) (by decide), TxS.lit (by decide) (by decide)⟩
theorem ResE.ok {first second : List Int} {cells : List Cir.Arc} {d : PyData} (h : ResE first second cells d) (l1 : first.length ≤ 10000) (l2 : second.length ≤ 10000) (l3 : cells.length ≤ 10000) : OkD 1 500 d := by
  have flat : ∀ ds : List PyData, ds.length ≤ 5 → (∀ d ∈ ds, OkD 0 70 d) → OkD 1 500 (.list ds) := fun ds hl h => (OkD.list (n := 5) h hl).more (by decide) (by decide)
  have st : ∀ {s : Str}, TxS 6 s → OkD 0 70 (.str s) := fun h => (OkD.str h).more (by decide) (by decide)
  have it : ∀ {k : Nat}, k ≤ 10000 → OkD 0 70 (.int (k : Int)) := fun h => (OkD.int (k := 5) (by decide) (by decide) (by omega)).more (by decide) (by decide)
  have bo : ∀ b, OkD 0 70 (.bool b) := fun b => (OkD.bool b).more (by decide) (by decide)
  have lot : ∀ {s : Str} {k : Nat}, TxS 6 s → k ≤ 10000 → OkD 1 500 (dLot s k) := fun {s k} hs hk => by
    refine flat _ (by simp) fun d hd => ?_
    simp only [List.mem_cons, List.not_mem_nil, or_false] at hd
    rcases hd with rfl | rfl | rfl | rfl | rfl
    · exact st lits6.1
    · exact st hs
    · exact it hk
    · exact bo _
    · exact bo _
  rcases h with ⟨rfl, _⟩ | ⟨k, rfl, k1, _⟩ | ⟨k, rfl, _, k1, _⟩ | ⟨k, rfl, _, _, k1, _⟩
  · refine flat _ (by simp) fun d hd => ?_
    simp only [List.mem_cons, List.not_mem_nil, or_false] at hd
    rcases hd with rfl | rfl
    · exact st lits6.2.2.1
    · exact bo _
  · exact lot lits6.2.2.2.1 (by omega)
  · exact lot lits6.2.2.2.2 (by omega)
  · refine flat _ (by simp) fun d hd => ?_
    simp only [List.mem_cons, List.not_mem_nil, or_false] at hd
    rcases hd with rfl | rfl | rfl | rfl
    · exact st lits6.2.1
    · exact it (by omega)
    · exact bo _
    · exact bo _
def spTotaled (K : PySem.W.Frag) : Sp := fun vs H Q _ => ∃ (af as ac ax : Addr) (first second : List Int) (cells : List Cir.Arc) (xs : List Int), vs = [.ref af, .ref as, .ref ac, .ref ax] ∧ SqL K H af (first.map V.int) ∧ SqL K H as (second.map V.int) ∧ ArcsAt K H ac cells ∧ SqL K H ax (xs.map V.int) ∧
  first.length ≤ 40 ∧ second.length ≤ 40 ∧ cells.length ≤ 300 ∧ xs.length = cells.length ∧ Fam.OkPar first ∧ Fam.OkPar second ∧ Fam.OkCells first.length second.length cells ∧ (∀ i, i < xs.length → -(10 ^ 34) ≤ Cir.part xs i ∧ Cir.part xs i ≤ 10 ^ 34) ∧ ∀ H', Fr [] H H' → Q (.bl true) H'
def spRight (K : PySem.W.Frag) : Sp := fun vs H Q _ => ∃ (af as ac ax pt : Addr) (first second : List Int) (cells : List Cir.Arc) (xs : List Int) (d : Int), vs = [.ref af, .ref as, .ref ac, .ref ax, .int d, .ref pt] ∧ SqL K H af (first.map V.int) ∧ SqL K H as (second.map V.int) ∧ ArcsAt K H ac cells ∧ SqL K H ax (xs.map V.int) ∧
  H pt = some (.lst ((Fam.roundC first second cells xs d).map V.int)) ∧ first.length ≤ 40 ∧ second.length ≤ 40 ∧ cells.length ≤ 300 ∧ xs.length = cells.length ∧ 0 < d ∧ d < 2 ^ 101 ∧ Fam.OkPar first ∧ Fam.OkPar second ∧ Fam.OkCells first.length second.length cells ∧ (∀ i, i < xs.length → -(10 ^ 34) ≤ Cir.part xs i ∧ Cir.part xs i ≤ 10 ^ 34) ∧ ∀ H', Fr [] H H' → Q (.bl true) H'
def spFault (K : PySem.W.Frag) : Sp := fun vs H Q _ => ∃ (af as ac : Addr) (first second : List Int) (cells : List Cir.Arc), vs = [.ref af, .ref as, .ref ac] ∧ SqL K H af (first.map V.int) ∧ SqL K H as (second.map V.int) ∧ ArcsAt K H ac cells ∧ first.length ≤ 3000 ∧ second.length ≤ 3000 ∧ cells.length ≤ 3000 ∧
  ∀ (d : PyData) (p : Addr) (H' : Hp), ResE first second cells d → Fr [] H H' → Dp K H' (.ref p) d → Q (.ref p) H'
def spOutcome (K : PySem.W.Frag) : Sp := fun vs H Q _ => ∃ (af as ac ax : Addr) (first second : List Int) (cells : List Cir.Arc) (xs : List Int) (d : Int), vs = [.ref af, .ref as, .ref ac, .ref ax, .int d] ∧ SqL K H af (first.map V.int) ∧ SqL K H as (second.map V.int) ∧ ArcsAt K H ac cells ∧ SqL K H ax (xs.map V.int) ∧
  first.length ≤ 3000 ∧ second.length ≤ 3000 ∧ cells.length ≤ 3000 ∧ xs.length = cells.length ∧ 0 < d ∧ d.natAbs.log2 < 9000 ∧ ∀ (r : PyData) (p : Addr) (H' : Hp), ResE first second cells r → Fr [] H H' → Dp K H' (.ref p) r → Q (.ref p) H'
/-- one of the two families, by its side -/
structure Side (K : PySem.W.Frag) (H : Hp) (af as : Addr) (first second : List Int) (cells : List Cir.Arc) (i : Nat) (q : Addr) (ps cc : List Int) : Prop where
  at_ : atI [V.ref af, .ref as] (i : Int) = some (.ref q)
  sq : SqL K H q (ps.map V.int)
  ok : Fam.OkPar ps
  len : cc.length = cells.length
  el : ∀ k, k < cells.length → atI [V.int (Cir.arcOf cells k).1, .int (Cir.arcOf cells k).2] (i : Int) = some (.int (Cir.part cc k))
  pl : ∀ k, k < cells.length → 0 ≤ Cir.part cc k ∧ Cir.part cc k < ps.length
  short : ps.length ≤ 40
  rnd : ∀ xs d, xs.length = cells.length → 0 < d → ∀ j, j < ps.length → Cir.part (Fam.cellT ps cc xs) j - d < Cir.part (Fam.cellT ps cc (Fam.roundC first second cells xs d)) j * d ∧ Cir.part (Fam.cellT ps cc (Fam.roundC first second cells xs d)) j * d < Cir.part (Fam.cellT ps cc xs) j + d
theorem side_of {K : PySem.W.Frag} {H : Hp} {af as : Addr} {first second : List Int} {cells : List Cir.Arc} (h1 : SqL K H af (first.map V.int)) (h2 : SqL K H as (second.map V.int)) (l1 : first.length ≤ 40) (l2 : second.length ≤ 40) (g1 : Fam.OkPar first) (g2 : Fam.OkPar second) (g3 : Fam.OkCells first.length second.length cells) {i : Nat} (hi : i < 2) :
    ∃ q ps cc, Side K H af as first second cells i q ps cc := by
  have h01 : i = 0 ∨ i = 1 := by omega
  rcases h01 with rfl | rfl
  · refine ⟨af, first, Fam.c1 cells, rfl, h1, g1, by simp [Fam.c1], fun k hk => ?_, fun k hk => (Fam.cell_ok g3 hk).1, l1, fun xs d hx hd => (Fam.roundC_ok g1 g2 g3 hx hd).2.2.1⟩
    have : Cir.part (Fam.c1 cells) k = (Cir.arcOf cells k).1 := Cir.part_get (by unfold Fam.c1; rw [List.getElem?_map, Cir.get_arc hk]; rfl)
    rw [this]
    rfl
  · refine ⟨as, second, Fam.c2 cells, rfl, h2, g2, by simp [Fam.c2], fun k hk => ?_, fun k hk => (Fam.cell_ok g3 hk).2, l2, fun xs d hx hd => (Fam.roundC_ok g1 g2 g3 hx hd).2.2.2⟩
    have : Cir.part (Fam.c2 cells) k = (Cir.arcOf cells k).2 := Cir.part_get (by unfold Fam.c2; rw [List.getElem?_map, Cir.get_arc hk]; rfl)
    rw [this]
    rfl
theorem ints40 {xs : List Int} {M : Int} (h : ∀ i, i < xs.length → -M ≤ Cir.part xs i ∧ Cir.part xs i ≤ M) (hM : M ≤ 10 ^ 38) (hl : xs.length ≤ 300) : OkD 1 13000 (dInts xs) := by
  refine (OkD.ints (k := 39) (n := 300) (by decide) (by decide) (fun x hx => ?_) hl).more (by decide) (by decide)
  obtain ⟨k, hk⟩ := List.mem_iff_getElem?.mp hx
  have hkl := (List.getElem?_eq_some_iff.mp hk).1
  have := h k hkl
  rw [Cir.part_get hk] at this
  have e1 : (10 : Int) ^ 38 = 100000000000000000000000000000000000000 := by decide
  have e2 : (10 : Nat) ^ 39 = 1000000000000000000000000000000000000000 := by decide
  rw [e1] at hM
  rw [e2]
  omega
section
variable {P : Program} {w : World} {K : PySem.W.Frag} {mg : Str → Option Value} {base : Heap} {CD CA CU CL CC CB : Addr}
theorem ok_law_fault {f : Addr} {fd : FuncData} (F : Fun K "_law_fault" "_law_fault" s_law_fault f fd) (T : Blt mg) : FnOk P w K mg base CX0 1 f fd ["first", "second", "cells"] (spFault K) := by
  refine F.ok sc_law_fault (fun vs H Q E h => ?_) (fun cdv A outer s H vs Q E hr h => ?_)
  · obtain ⟨af, as, ac, first, second, cells, rfl, _⟩ := h
    rfl
  · obtain ⟨af, as, ac, first, second, cells, rfl, h1, h2, hC, l1, l2, l3, k⟩ := h
    refine ⟨_, (pss_cons (ps_for PassesOwn.never rfl (pi_range1 (by rfl) T.m_range (pa_cons (pe_callB call_len_seq (by rfl) T.m_len (by decide +kernel) (pa_cons (pv 0) pa_nil)) pa_nil)) (pg_name (i := 3) sc_law_fault.nd rfl (Or.inl rfl))
      (pss_one (ps_if (PW.pt (pw_or (pt_cmpR op_lt (pe_ix ix_list (pv 0) (pv 3) (fun _ _ => rfl)) (pe_un un_neg pe_int) (nomark _)) (pw_or1 (pt_cmpR op_ge (pe_ix ix_list (pv 0) (pv 3) (fun _ _ => rfl)) (pv 3) (nomark _)))))
        (pss_one (ps_ret (pe_lst (pa_cons pe_str (pa_cons pe_str (pa_cons (pv 3) (pa_cons pe_bl (pa_cons pe_bl pa_nil))))))))
        pss_nil)))
    (pss_cons (ps_for PassesOwn.never rfl (pi_range1 (by rfl) T.m_range (pa_cons (pe_callB call_len_seq (by rfl) T.m_len (by decide +kernel) (pa_cons (pv 1) pa_nil)) pa_nil)) (pg_name (i := 3) sc_law_fault.nd rfl (Or.inl rfl))
      (pss_one (ps_if (PW.pt (pw_or (pt_cmpR op_lt (pe_ix ix_list (pv 1) (pv 3) (fun _ _ => rfl)) (pe_un un_neg pe_int) (nomark _)) (pw_or1 (pt_cmpR op_ge (pe_ix ix_list (pv 1) (pv 3) (fun _ _ => rfl)) (pv 3) (nomark _)))))
        (pss_one (ps_ret (pe_lst (pa_cons pe_str (pa_cons pe_str (pa_cons (pv 3) (pa_cons pe_bl (pa_cons pe_bl pa_nil))))))))
        pss_nil)))
    (pss_cons (ps_for PassesOwn.never rfl (pi_range1 (by rfl) T.m_range (pa_cons (pe_callB call_len_seq (by rfl) T.m_len (by decide +kernel) (pa_cons (pv 2) pa_nil)) pa_nil)) (pg_name (i := 3) sc_law_fault.nd rfl (Or.inl rfl))
      (pss_cons (ps_asg (pe_ix ix_list (pv 2) (pv 3) (fun _ _ => rfl)) (pg_tup rfl (pgs_cons (pg_name (i := 4) sc_law_fault.nd rfl (Or.inl rfl)) (pgs_cons (pg_name (i := 5) sc_law_fault.nd rfl (Or.inl rfl)) pgs_nil))))
      (pss_one (ps_if (PW.pt (pw_or (pt_cmpR op_lt (pv 4) pe_int (nomark _)) (pw_or (pt_cmpR op_ge (pv 4) (pe_callB call_len_seq (by rfl) T.m_len (by decide +kernel) (pa_cons (pv 0) pa_nil)) (nomark _)) (pw_or (pt_cmpR op_lt (pv 5) pe_int (nomark _)) (pw_or1 (pt_cmpR op_ge (pv 5) (pe_callB call_len_seq (by rfl) T.m_len (by decide +kernel) (pa_cons (pv 1) pa_nil)) (nomark _)))))))
        (pss_one (ps_ret (pe_lst (pa_cons pe_str (pa_cons (pv 3) (pa_cons pe_bl (pa_cons pe_bl pa_nil)))))))
        pss_nil))))
    (pss_one (ps_ret (pe_lst (pa_cons pe_str (pa_cons pe_bl pa_nil)))))))), ?_⟩
    obtain ⟨ts, hL, hts, hT⟩ := hC.at
    have nP : ∀ {ps : List Int} {i : Nat}, ¬ okP ps i ↔ (Cir.part ps i < -1 ∨ (i : Int) ≤ Cir.part ps i) := fun {ps i} => by
      unfold okP
      omega
    refine ⟨_, rfl, _, _, rfl, .inl h1, _, rfl, (rg_ok (by rw [List.length_map]; omega)).1, (rg_ok (by rw [List.length_map]; omega)).2, for_rng (n := (first.map V.int).length)
      (fun i σ H' => H' = H ∧ (∀ j, j < i → okP first j) ∧ ∃ o : Option V, σ = [some (.ref af), some (.ref as), some (.ref ac), o, none, none]) ⟨rfl, fun j hj => by omega, _, rfl⟩ ?_ ?_⟩
    · rintro i σ H' hi ⟨rfl, hg, o, rfl⟩
      rw [List.length_map] at hi
      dsimp only [gName]
      refine tOr_p (p := Cir.part first i < -1) (q := (i : Int) ≤ Cir.part first i) (fun R h => ⟨_, rfl, _, rfl, _, _, _, _, rfl, rfl, h1, at_part hi, _, rfl, _, _, rfl, rfl, _, rfl, h⟩) (fun R h => ⟨_, rfl, _, rfl, _, _, _, _, rfl, rfl, h1, at_part hi, _, rfl, _, _, rfl, rfl, _, rfl, h⟩) ?_
      refine dec_iff (fun c => ?_) fun c => ?_
      · refine ⟨_, rfl, by show 5 ≤ sizeLine; decide, fun p hp => ?_⟩
        exact k _ p _ (.inr (.inl ⟨i, rfl, hi, nP.mpr c, hg⟩)) ((Fr.refl [] _).new hp) (flat_lot _ _ K _ _ upd_same)
      · refine ⟨rfl, fun j hj => ?_, _, rfl⟩
        by_cases z : j < i
        · exact hg j z
        · have : j = i := by omega
          rw [this]
          exact Decidable.byContradiction fun z => c (nP.mp z)
    rintro σ H1 ⟨rfl, hg, o, rfl⟩
    rw [List.length_map] at hg
    refine ⟨_, rfl, _, _, rfl, .inl h2, _, rfl, (rg_ok (by rw [List.length_map]; omega)).1, (rg_ok (by rw [List.length_map]; omega)).2, for_rng (n := (second.map V.int).length)
      (fun i σ H' => H' = H1 ∧ (∀ j, j < i → okP second j) ∧ ∃ o : Option V, σ = [some (.ref af), some (.ref as), some (.ref ac), o, none, none]) ⟨rfl, fun j hj => by omega, _, rfl⟩ ?_ ?_⟩
    · rintro i σ H' hi ⟨rfl, hg2, o, rfl⟩
      rw [List.length_map] at hi
      dsimp only [gName]
      refine tOr_p (p := Cir.part second i < -1) (q := (i : Int) ≤ Cir.part second i) (fun R h => ⟨_, rfl, _, rfl, _, _, _, _, rfl, rfl, h2, at_part hi, _, rfl, _, _, rfl, rfl, _, rfl, h⟩) (fun R h => ⟨_, rfl, _, rfl, _, _, _, _, rfl, rfl, h2, at_part hi, _, rfl, _, _, rfl, rfl, _, rfl, h⟩) ?_
      refine dec_iff (fun c => ?_) fun c => ?_
      · refine ⟨_, rfl, by show 5 ≤ sizeLine; decide, fun p hp => ?_⟩
        exact k _ p _ (.inr (.inr (.inl ⟨i, rfl, hg, hi, nP.mpr c, hg2⟩))) ((Fr.refl [] _).new hp) (flat_lot _ _ K _ _ upd_same)
      · refine ⟨rfl, fun j hj => ?_, _, rfl⟩
        by_cases z : j < i
        · exact hg2 j z
        · have : j = i := by omega
          rw [this]
          exact Decidable.byContradiction fun z => c (nP.mp z)
    rintro σ H2 ⟨rfl, hg2, o, rfl⟩
    rw [List.length_map] at hg2
    refine ⟨_, rfl, _, _, rfl, .inl hL, _, rfl, (rg_ok (by rw [List.length_map]; omega)).1, (rg_ok (by rw [List.length_map]; omega)).2, for_rng (n := (ts.map V.ref).length)
      (fun i σ H' => H' = H2 ∧ (∀ j, j < i → okC first.length second.length cells j) ∧ ∃ o3 o4 o5 : Option V, σ = [some (.ref af), some (.ref as), some (.ref ac), o3, o4, o5]) ⟨rfl, fun j hj => by omega, _, _, _, rfl⟩ ?_ ?_⟩
    · rintro i σ H' hi ⟨rfl, hg3, o3, o4, o5, rfl⟩
      rw [List.length_map, hts] at hi
      obtain ⟨t, e1, e2⟩ := hT i hi
      refine ⟨_, rfl, _, rfl, _, _, _, _, rfl, rfl, hL, e1, _, _, rfl, e2, rfl, _, _, rfl, _, _, rfl, rfl, ?_⟩
      have bad : ¬ okC first.length second.length cells i → ∀ p, H' p = none → Q (.ref p) (upd H' p (.lst [.str "cell", .int (i : Int), .bl true, .bl false])) := fun hb p hp =>
        k _ p _ (.inr (.inr (.inr ⟨i, rfl, hg, hg2, hi, hb, hg3⟩))) ((Fr.refl [] _).new hp) (flat_cell _ K _ _ upd_same)
      refine ⟨_, rfl, _, _, rfl, rfl, _, rfl, dec_iff (fun c => ?_) fun c1 => ?_⟩
      · exact ⟨_, rfl, by show 4 ≤ sizeLine; decide, bad fun g => by have := g.1.1; omega⟩
      refine ⟨_, rfl, _, rfl, _, _, rfl, .inl h1, _, _, rfl, rfl, _, rfl, dec_iff (fun c => ?_) fun c2 => ?_⟩
      · rw [List.length_map] at c
        exact ⟨_, rfl, by show 4 ≤ sizeLine; decide, bad fun g => by have := g.1.2; omega⟩
      refine ⟨_, rfl, _, _, rfl, rfl, _, rfl, dec_iff (fun c => ?_) fun c3 => ?_⟩
      · exact ⟨_, rfl, by show 4 ≤ sizeLine; decide, bad fun g => by have := g.2.1; omega⟩
      refine ⟨_, rfl, _, rfl, _, _, rfl, .inl h2, _, _, rfl, rfl, _, rfl, dec_iff (fun c => ?_) fun c4 => ?_⟩
      · rw [List.length_map] at c
        exact ⟨_, rfl, by show 4 ≤ sizeLine; decide, bad fun g => by have := g.2.2; omega⟩
      rw [List.length_map] at c2 c4
      refine ⟨rfl, fun j hj => ?_, _, _, _, rfl⟩
      by_cases z : j < i
      · exact hg3 j z
      · have : j = i := by omega
        rw [this]
        exact ⟨⟨by omega, by omega⟩, by omega, by omega⟩
    · rintro σ H3 ⟨rfl, hg3, o3, o4, o5, rfl⟩
      rw [List.length_map, hts] at hg3
      refine ⟨by show 2 ≤ sizeLine; decide, fun p hp => ?_⟩
      exact k _ p _ (.inl ⟨rfl, hg, hg2, okCells.mpr hg3⟩) ((Fr.refl [] _).new hp) (flat_told K _ _ upd_same)
end
section
variable {P : Program} {w : World} {K : PySem.W.Frag} {mg : Str → Option Value} {base : Heap} {CD CA CU CL CC CB : Addr}
theorem ok_law_outcome {f : Addr} {fd : FuncData} (F : Fun K "_law_outcome" "_law_outcome" s_law_outcome f fd) (T : TxtM P K mg CD CA CU CL CC CB) (F_rounded_cells : FnB P w K mg base (L2.CX P w) 5 "rounded_cells" ["first", "second", "cells", "amounts", "divisor"] (spRC K CL CC)) :
    FnOk P w K mg base CX0 6 f fd ["first", "second", "cells", "amounts", "divisor"] (spOutcome K) := by
  refine F.ok sc_law_outcome (fun vs H Q E h => ?_) (fun cdv A outer s H vs Q E hr h => ?_)
  · obtain ⟨af, as, ac, ax, first, second, cells, xs, d, rfl, _⟩ := h
    rfl
  · obtain ⟨af, as, ac, ax, first, second, cells, xs, d, rfl, h1, h2, hC, hX, l1, l2, l3, hx, hd, hlog, k⟩ := h
    obtain ⟨fL, TL⟩ := T.lot
    obtain ⟨fC, TC⟩ := T.cel
    have TXL := xfB_ok TL.xf
    have TXC := xfB_ok TC.xf
    have TNL0 := TL.noF "side" (by simp)
    have TNL1 := TL.noF "number" (by simp)
    have TNC0 := TC.noF "number" (by simp)
    refine ⟨_, (Evl.pss_cut (ps_try_gen rfl rfl sc_law_outcome.nd takes0
      (fun W pn xe tk po => (pss_one (ps_set (i := 5) sc_law_outcome.nd rfl (Or.inl rfl) (pe_callFS F_rounded_cells (hr.mono (by decide)) rfl (fun σ => passAt tk σ) (pa_cons (pv 0) (pa_cons (pv 1) (pa_cons (pv 2) (pa_cons (pv 3) (pa_cons (pv 4) pa_nil)))))))))
      (HdsG.named (i := 6) ⟨rfl, by decide, .inl TL.gC⟩ rfl rfl (fun a oe cls d pn hz hf => (pss_one (ps_ret (pe_lst (pa_cons pe_str (pa_cons (pe_xf TXL TNL0 hz hf (pv 6)) (pa_cons (pe_xf TXL TNL1 hz hf (pv 6)) (pa_cons (pe_callB (call_isX T.h1 T.h2 hz hf) (by rfl) T.m_isinstance (by decide +kernel) (pa_cons (pv 6) (pa_cons (pe_glob (v := .ref _) rfl T.g_DealError rfl) pa_nil))) (pa_cons (pe_or (pe_callB (call_isX T.h1 T.h2 hz hf) (by rfl) T.m_isinstance (by decide +kernel) (pa_cons (pv 6) (pa_cons (pe_glob (v := .ref _) rfl TC.gC rfl) pa_nil))) (pe_one (pe_callB (call_isX T.h1 T.h2 hz hf) (by rfl) T.m_isinstance (by decide +kernel) (pa_cons (pv 6) (pa_cons (pe_glob (v := .ref _) rfl T.g_BadNumber rfl) pa_nil))))) pa_nil))))))))) (HdsG.named (i := 6) ⟨rfl, by decide, .inl TC.gC⟩ rfl rfl (fun a oe cls d pn hz hf => (pss_one (ps_ret (pe_lst (pa_cons pe_str (pa_cons (pe_xf TXC TNC0 hz hf (pv 6)) (pa_cons (pe_callB (call_isX T.h1 T.h2 hz hf) (by rfl) T.m_isinstance (by decide +kernel) (pa_cons (pv 6) (pa_cons (pe_glob (v := .ref _) rfl T.g_DealError rfl) pa_nil))) (pa_cons (pe_or (pe_callB (call_isX T.h1 T.h2 hz hf) (by rfl) T.m_isinstance (by decide +kernel) (pa_cons (pv 6) (pa_cons (pe_glob (v := .ref _) rfl TL.gC rfl) pa_nil))) (pe_one (pe_callB (call_isX T.h1 T.h2 hz hf) (by rfl) T.m_isinstance (by decide +kernel) (pa_cons (pv 6) (pa_cons (pe_glob (v := .ref _) rfl T.g_BadNumber rfl) pa_nil))))) pa_nil)))))))) (HdsG.plain ⟨rfl, by decide, .inl T.g_DealError⟩ (fun a oe cls d pn hz hf => (pss_one (ps_ret (pe_lst (pa_cons pe_str pa_nil))))) HdsG.nil))))
    (pss_one (ps_ret (pe_lst (pa_cons pe_str (pa_cons (pe_callB call_isi (by rfl) T.m_isinstance (by decide +kernel) (pa_cons (pv 5) (pa_cons (pe_bltn (v := .ty "list") (by rfl) T.m_list (by decide +kernel) rfl) pa_nil))) pa_nil)))))), ?_⟩
    refine ⟨fun σ' H' => ∃ (p : Addr) (zs : List Int), Fr [] H H' ∧ ResE first second cells dTold ∧ H' p = some (.lst (zs.map V.int)) ∧ σ' = [some (.ref af), some (.ref as), some (.ref ac), some (.ref ax), some (.int d), some (.ref p), none], ?_, ?_⟩
    · have lot : ∀ (sd : Str) (i : Nat) (dd : Addr) (H1 : Hp), ResE first second cells (dLot sd i) → Fr [] H H1 → ∀ p, H1 p = none → Q (.ref p) (upd H1 p (.lst [.str "lot", .str sd, .int (i : Int), .bl true, .bl false])) := fun sd i dd H1 ho e1 p hp =>
        k _ p _ ho (e1.new hp) (flat_lot _ _ K _ _ upd_same)
      refine ⟨_, rfl, _, rfl, _, rfl, _, rfl, _, rfl, af, as, ac, ax, first, second, cells, xs, d, rfl, h1, h2, hC, hX, l1, l2, l3, hx, hd, hlog, fun g1 g2 g3 p H1 np e1 hp => ⟨p, _, e1, .inl ⟨rfl, g1, g2, g3⟩, hp, rfl⟩, fun i hi hb hlow dd H1 e1 hx => ?_, fun g1 i hi hb hlow dd H1 e1 hx => ?_, fun g1 g2 i hi hb hlow dd H1 e1 hx => ?_⟩
      · refine ⟨true, TL.te, fun _ e0 he0 => ?_, fun z => by cases z⟩
        refine ⟨_, rfl, rfl, rfl, dd, _, _, rfl, hx, rfl, ?_⟩
        refine ⟨_, rfl, rfl, rfl, dd, _, _, rfl, hx, rfl, ?_⟩
        refine ⟨_, rfl, CL, dd, _, _, .ref CD, true, rfl, rfl, rfl, (fun u h => h), T.kLD, hx, ⟨T.iL.c, T.iL.m, TL.xf⟩, ?_⟩
        refine ⟨_, rfl, CL, dd, _, _, .ref CC, false, rfl, rfl, rfl, (fun u h => h), T.kLC, hx, ⟨T.iL.c, T.iL.m, TL.xf⟩, ?_⟩
        refine ⟨_, rfl, iteF ⟨_, rfl, CL, dd, _, _, .ref CB, false, rfl, rfl, rfl, (fun u h => h), T.kLB, hx, ⟨T.iL.c, T.iL.m, TL.xf⟩, ?_⟩⟩
        exact ⟨by show 5 ≤ sizeLine; decide, fun p hp => lot "first" i dd H1 (.inr (.inl ⟨i, rfl, hi, hb, hlow⟩)) e1 p hp⟩
      · refine ⟨true, TL.te, fun _ e0 he0 => ?_, fun z => by cases z⟩
        refine ⟨_, rfl, rfl, rfl, dd, _, _, rfl, hx, rfl, ?_⟩
        refine ⟨_, rfl, rfl, rfl, dd, _, _, rfl, hx, rfl, ?_⟩
        refine ⟨_, rfl, CL, dd, _, _, .ref CD, true, rfl, rfl, rfl, (fun u h => h), T.kLD, hx, ⟨T.iL.c, T.iL.m, TL.xf⟩, ?_⟩
        refine ⟨_, rfl, CL, dd, _, _, .ref CC, false, rfl, rfl, rfl, (fun u h => h), T.kLC, hx, ⟨T.iL.c, T.iL.m, TL.xf⟩, ?_⟩
        refine ⟨_, rfl, iteF ⟨_, rfl, CL, dd, _, _, .ref CB, false, rfl, rfl, rfl, (fun u h => h), T.kLB, hx, ⟨T.iL.c, T.iL.m, TL.xf⟩, ?_⟩⟩
        exact ⟨by show 5 ≤ sizeLine; decide, fun p hp => lot "second" i dd H1 (.inr (.inr (.inl ⟨i, rfl, g1, hi, hb, hlow⟩))) e1 p hp⟩
      · refine ⟨false, T.eCL, (fun z => by cases z), fun _ => ⟨true, TC.te, fun _ e0 he0 => ?_, fun z => by cases z⟩⟩
        refine ⟨_, rfl, rfl, rfl, dd, _, _, rfl, hx, rfl, ?_⟩
        refine ⟨_, rfl, CC, dd, _, _, .ref CD, true, rfl, rfl, rfl, (fun u h => h), T.kCD, hx, ⟨T.iC.c, T.iC.m, TC.xf⟩, ?_⟩
        refine ⟨_, rfl, CC, dd, _, _, .ref CL, false, rfl, rfl, rfl, (fun u h => h), T.kCL, hx, ⟨T.iC.c, T.iC.m, TC.xf⟩, ?_⟩
        refine ⟨_, rfl, iteF ⟨_, rfl, CC, dd, _, _, .ref CB, false, rfl, rfl, rfl, (fun u h => h), T.kCB, hx, ⟨T.iC.c, T.iC.m, TC.xf⟩, ?_⟩⟩
        exact ⟨by show 4 ≤ sizeLine; decide, fun p hp => k _ p _ (.inr (.inr (.inr ⟨i, rfl, g1, g2, hi, hb, hlow⟩))) (e1.new hp) (flat_cell _ K _ _ upd_same)⟩
    · rintro σ' H' ⟨p, zs, e1, ho, hp, rfl⟩
      refine ⟨_, rfl, _, _, _, _, true, rfl, .ty _, .base (.lst hp), kit_ty (by decide +kernel), ?_⟩
      refine ⟨by show 2 ≤ sizeLine; decide, fun q hq => ?_⟩
      exact k _ q _ ho (e1.new hq) (flat_told K _ _ upd_same)
theorem ok_law_totaled {f : Addr} {fd : FuncData} (F : Fun K "_law_totaled" "_law_totaled" s_law_totaled f fd) (T : Blt mg) (F_law_totals : FnB P w K mg base CX0 1 "_law_totals" ["parents", "places", "amounts"] (spTotals K))
    (F_cell_totals : FnB P w K mg base CX0 1 "cell_totals" ["parents", "places", "amounts"] (spTotals K)) (F_law_same : FnGB P w K mg base CX0 1 "_law_same" ["left", "right"] (spSameX K)) : FnG P w K mg base CX0 2 f fd ["first", "second", "cells", "amounts"] (spTotaled K) := by
  refine F.okG sc_law_totaled (fun vs H Q E h => ?_) (fun cdv A outer s H vs Q E hr hgu h => ?_)
  · obtain ⟨af, as, ac, ax, first, second, cells, xs, rfl, _⟩ := h
    rfl
  · obtain ⟨af, as, ac, ax, first, second, cells, xs, rfl, h1, h2, hC, hX, l1, l2, l3, hx, g1, g2, g3, hM, k⟩ := h
    refine ⟨_, (pss_cons (ps_for PassesOwn.never rfl (pi_range1 (by rfl) T.m_range (pa_cons pe_int pa_nil)) (pg_name (i := 4) sc_law_totaled.nd rfl (Or.inr rfl))
      (pss_cons (ps_set (i := 5) sc_law_totaled.nd rfl (Or.inl rfl) (pe_ix ix_list (pe_lst (pa_cons (pv 0) (pa_cons (pv 1) pa_nil))) (pv 4) (fun _ _ => rfl)))
      (pss_cons (ps_setLc (i := 6) (own := [("cell", 10)]) rfl sc_law_totaled.nd rfl rfl (sw_true rfl rfl rfl (by decide +kernel)) (pi_list (pv 2)) (blkOk_by (own := [("cell", 10)]) (N := n_law_totaled) (sc := defScope s_law_totaled) (by decide +kernel)) (fun _ _ _ _ _ => (pg_name (i := 10) sc_law_totaled.nd rfl (Or.inl rfl))) (fun _ _ _ _ _ => pts_nil) (fun _ _ _ _ _ => (pe_ix (r := rIxT K) ix_tup (pv 10) (pv 4) (fun _ _ => rfl))))
      (pss_cons (ps_set (i := 7) sc_law_totaled.nd rfl (Or.inl rfl) (pe_callF F_law_totals (hr.mono (by decide)) rfl pass0 (pa_cons (pv 5) (pa_cons (pv 6) (pa_cons (pv 3) pa_nil)))))
      (pss_cons (ps_set (i := 8) sc_law_totaled.nd rfl (Or.inl rfl) (pe_lst (pa_cons (pe_callTy call_list_of (by rfl) T.m_list (by decide +kernel) (pa_cons (pv 5) pa_nil)) (pa_cons (pe_callTy call_list_of (by rfl) T.m_list (by decide +kernel) (pa_cons (pv 6) pa_nil)) (pa_cons (pe_callTy call_list_of (by rfl) T.m_list (by decide +kernel) (pa_cons (pv 3) pa_nil)) pa_nil)))))
      (pss_cons (ps_set (i := 9) sc_law_totaled.nd rfl (Or.inl rfl) (pe_callF F_cell_totals (hr.mono (by decide)) rfl pass0 (pa_cons (pe_ix ix_list (pv 8) pe_int (fun _ _ => rfl)) (pa_cons (pe_ix ix_list (pv 8) pe_int (fun _ _ => rfl)) (pa_cons (pe_ix ix_list (pv 8) pe_int (fun _ _ => rfl)) pa_nil)))))
      (pss_cons (ps_if (PW.pt (pw_or (pt_not (pt_val (pe_callG F_law_same (hr.mono (by decide)) hgu rfl pass0 (pa_cons (pv 9) (pa_cons (pv 7) pa_nil))))) (pw_or1 (pt_cmpR (op_neD hr.units) (pv 8) (pe_lst (pa_cons (pv 5) (pa_cons (pv 6) (pa_cons (pv 3) pa_nil)))) (nomark _)))))
        (pss_one (ps_ret pe_bl))
        pss_nil)
      (pss_cons (ps_expr (pe_bm PySem.F.plainAttrs_list PySem.F.slot_list_append PySem.F.type_list_append mt_append (pv 9) (pa_cons pe_int pa_nil)))
      (pss_one (ps_if (pt_not (pt_val (pe_callG F_law_same (hr.mono (by decide)) hgu rfl pass0 (pa_cons (pe_callF F_cell_totals (hr.mono (by decide)) rfl pass0 (pa_cons (pe_callTy call_list_of (by rfl) T.m_list (by decide +kernel) (pa_cons (pv 5) pa_nil)) (pa_cons (pe_callTy call_list_of (by rfl) T.m_list (by decide +kernel) (pa_cons (pv 6) pa_nil)) (pa_cons (pe_callTy call_list_of (by rfl) T.m_list (by decide +kernel) (pa_cons (pv 3) pa_nil)) pa_nil)))) (pa_cons (pv 7) pa_nil)))))
        (pss_one (ps_ret pe_bl))
        pss_nil))))))))))
    (pss_one (ps_ret pe_bl))), ?_⟩
    obtain ⟨ts, hL, hts, hT⟩ := id hC
    refine ⟨2, rfl, by decide, by decide, for_rng (n := 2) (fun i σ H' => Fr [] H H' ∧ ∃ o4 o5 o6 o7 o8 o9 : Option V, σ = [some (.ref af), some (.ref as), some (.ref ac), some (.ref ax), o4, o5, o6, o7, o8, o9, none])
      ⟨Fr.refl _ _, _, _, _, _, _, _, rfl⟩ ?_ ?_⟩
    · rintro i σ H1 hi ⟨e1, o4, o5, o6, o7, o8, o9, rfl⟩
      obtain ⟨q, ps, cc, S⟩ := side_of h1 h2 l1 l2 g1 g2 g3 hi
      refine ⟨_, rfl, _, rfl, by show 2 ≤ sizeLine; decide, fun pz hpz => ?_⟩
      have e2 := e1.new (o := .lst [.ref af, .ref as]) hpz
      refine ⟨_, rfl, _, _, _, _, rfl, rfl, SqL.of upd_same, S.at_, ?_⟩
      generalize upd H1 pz (.lst [.ref af, .ref as]) = H2 at e2 ⊢
      clear hpz
      -- places
      refine ⟨_, rfl, ac, rfl, ⟨_, e2.l hL⟩, fun D hD => lc_list (K := K) (a := ac) (xs := ts.map V.ref) (fun j H' => H' = upd H2 D (.lst ((cc.take j).map V.int))) rfl (fun j H' _ z => by rw [z]; exact (e2.new hD).l hL) ?_ ?_⟩
      · rintro j y H' hy rfl
        obtain ⟨t, ht, rfl⟩ := get_mapf hy
        have hj : j < cells.length := by rw [← hts]; exact (List.getElem?_eq_some_iff.mp ht).1
        have qq := (e2.new (o := .lst ((cc.take j).map V.int)) hD).t (hT j t _ ht (Cir.get_arc hj))
        refine ⟨rfl, _, rfl, _, rfl, _, _, _, _, rfl, rfl, qq, S.el j hj, _, upd_same, len_lt ?_, ?_⟩
        · rw [List.length_map, List.length_take]
          omega
        · rw [upd_upd, take_succ (Cir.get_part (by rw [S.len]; exact hj)), List.map_append]
          rfl
      rintro H' rfl
      have hcl : (cc.take (ts.map V.ref).length) = cc := by rw [List.length_map, hts, ← S.len, List.take_length]
      rw [hcl]
      have e3 := e2.new (o := .lst (cc.map V.int)) hD
      have d3 : (upd H2 D (.lst (cc.map V.int))) D = some (.lst (cc.map V.int)) := upd_same
      generalize upd H2 D (.lst (cc.map V.int)) = H3 at e3 d3 ⊢
      clear hD
      -- due
      refine ⟨_, rfl, _, rfl, _, rfl, q, D, ax, ps, cc, xs, rfl, e3.l S.sq, SqL.of d3, e3.l hX, S.ok, by rw [S.len, hx], fun j hj => S.pl j (by omega), by have := S.short; omega, by omega, fun pd H4 hpd e34 hd4 => ?_⟩
      have e4 := e3.trans e34
      have d4 := e34 _ _ d3 (by simp)
      -- passed
      refine ⟨_, rfl, _, _, rfl, .inl (e4.l S.sq), fun q1 hq1 => ?_⟩
      have f5 := (Fr.refl [] H4).new (o := .lst (ps.map V.int)) hq1
      have a1 : (upd H4 q1 (.lst (ps.map V.int))) q1 = some (.lst (ps.map V.int)) := upd_same
      have e5 := e4.trans f5
      have d5 := f5 _ _ d4 (by simp)
      have hd5 := f5 _ _ hd4 (by simp)
      generalize upd H4 q1 (.lst (ps.map V.int)) = H5 at f5 a1 e5 d5 hd5 ⊢
      refine ⟨_, rfl, _, _, rfl, .inl (SqL.of d5), fun q2 hq2 => ?_⟩
      have f6 := (Fr.refl [] H5).new (o := .lst (cc.map V.int)) hq2
      have b1 : (upd H5 q2 (.lst (cc.map V.int))) q2 = some (.lst (cc.map V.int)) := upd_same
      have e6 := e5.trans f6
      have d6 := f6 _ _ d5 (by simp)
      have hd6 := f6 _ _ hd5 (by simp)
      have a1 := f6 _ _ a1 (by simp)
      generalize upd H5 q2 (.lst (cc.map V.int)) = H6 at f6 a1 b1 e6 d6 hd6 ⊢
      refine ⟨_, rfl, _, _, rfl, .inl (e6.l hX), fun q3 hq3 => ?_⟩
      have f7 := (Fr.refl [] H6).new (o := .lst (xs.map V.int)) hq3
      have c1 : (upd H6 q3 (.lst (xs.map V.int))) q3 = some (.lst (xs.map V.int)) := upd_same
      have e7 := e6.trans f7
      have d7 := f7 _ _ d6 (by simp)
      have hd7 := f7 _ _ hd6 (by simp)
      have a1 := f7 _ _ a1 (by simp)
      have b1 := f7 _ _ b1 (by simp)
      generalize upd H6 q3 (.lst (xs.map V.int)) = H7 at f7 a1 b1 c1 e7 d7 hd7 ⊢
      refine ⟨by show 3 ≤ sizeLine; decide, fun qp hqp => ?_⟩
      have f8 := (Fr.refl [] H7).new (o := .lst [.ref q1, .ref q2, .ref q3]) hqp
      have p1 : (upd H7 qp (.lst [.ref q1, .ref q2, .ref q3])) qp = some (.lst [.ref q1, .ref q2, .ref q3]) := upd_same
      have e8 := e7.trans f8
      have d8 := f8 _ _ d7 (by simp)
      have hd8 := f8 _ _ hd7 (by simp)
      have a1 := f8 _ _ a1 (by simp)
      have b1 := f8 _ _ b1 (by simp)
      have c1 := f8 _ _ c1 (by simp)
      generalize upd H7 qp (.lst [.ref q1, .ref q2, .ref q3]) = H8 at f8 a1 b1 c1 p1 e8 d8 hd8 ⊢
      clear f5 f6 f7 f8 hq1 hq2 hq3 hqp d3 d4 d5 d6 d7 hd4 hd5 hd6 hd7 e2 e3 e34 e4 e5 e6 e7 hpd
      -- told
      refine ⟨_, rfl, _, _, _, _, rfl, rfl, SqL.of p1, rfl, _, rfl, _, _, _, _, rfl, rfl, SqL.of p1, rfl, _, rfl, _, _, _, _, rfl, rfl, SqL.of p1, rfl, ?_⟩
      refine ⟨q1, q2, q3, ps, cc, xs, rfl, SqL.of a1, SqL.of b1, SqL.of c1, S.ok, by rw [S.len, hx], fun j hj => S.pl j (by omega), by have := S.short; omega, by omega, fun pt H9 hpt e89 ht9 => ?_⟩
      have e9 := e8.trans e89
      have hd9 := e89 _ _ hd8 (by simp)
      have d9 := e89 _ _ d8 (by simp)
      have tb : OkD 1 13000 (dInts (Fam.cellT ps cc xs)) := ints40 (M := 10 ^ 38) (fun j hj => by
        rw [Fam.cellT_len] at hj
        have hb := Fam.cellT_abs S.ok (places := cc) (xs := xs) (fun j hj => (S.pl j (by omega)).2) (by decide) hM hj
        have h300 : (10 : Int) ^ 34 * xs.length ≤ 10 ^ 34 * 300 := Int.mul_le_mul_of_nonneg_left (by omega) (by decide)
        have e38 : (10 : Int) ^ 38 = 100000000000000000000000000000000000000 := by decide
        have e34 : (10 : Int) ^ 34 * 300 = 3000000000000000000000000000000000000 := by decide
        rw [e34] at h300
        rw [e38]
        omega) (Int.le_refl _) (by rw [Fam.cellT_len]; have := S.short; omega)
      refine ⟨_, rfl, _, rfl, _, _, dInts (Fam.cellT ps cc xs), rfl, dp_ints (SqL.of ht9), dp_ints (SqL.of hd9), tb.shaped, tb.show_, tb.line, ⟨_, rfl, iteN rfl ?_⟩⟩
      -- as they were
      have op : OkD 1 13000 (dInts ps) := ints40 (M := 40) (fun j hj => by
        have := S.ok j hj
        have := S.short
        omega) (by decide) (by have := S.short; omega)
      have oc : OkD 1 13000 (dInts cc) := ints40 (M := 40) (fun j hj => by
        have := S.pl j (by rw [← S.len]; exact hj)
        have := S.short
        omega) (by decide) (by rw [S.len]; omega)
      have ox : OkD 1 13000 (dInts xs) := ints40 hM (by decide) (by omega)
      have oa : OkD 2 (3 * (13000 + 2) + 3) (.list [dInts ps, dInts cc, dInts xs]) := OkD.list (fun d hd => by
        simp only [List.mem_cons, List.not_mem_nil, or_false] at hd
        rcases hd with rfl | rfl | rfl
        · exact op
        · exact oc
        · exact ox) (by simp)
      refine ⟨_, rfl, _, rfl, _, rfl, _, rfl, by show 3 ≤ sizeLine; decide, fun pz hpz => ?_⟩
      have f10 := (Fr.refl [] H9).new (o := .lst [.ref q, .ref D, .ref ax]) hpz
      have z10 : (upd H9 pz (.lst [.ref q, .ref D, .ref ax])) pz = some (.lst [.ref q, .ref D, .ref ax]) := upd_same
      have e10 := e9.trans f10
      generalize upd H9 pz (.lst [.ref q, .ref D, .ref ax]) = H10 at f10 z10 e10 ⊢
      refine ⟨.list [dInts ps, dInts cc, dInts xs], .list [dInts ps, dInts cc, dInts xs], .lst (SqL.of (f10 _ _ (e89 _ _ p1 (by simp)) (by simp))) (.cons (dp_ints (SqL.of (f10 _ _ (e89 _ _ a1 (by simp)) (by simp)))) (.cons (dp_ints (SqL.of (f10 _ _ (e89 _ _ b1 (by simp)) (by simp)))) (.cons (dp_ints (SqL.of (f10 _ _ (e89 _ _ c1 (by simp)) (by simp)))) .nil))),
        .lst (SqL.of z10) (.cons (dp_ints (e10.l S.sq)) (.cons (dp_ints (SqL.of (f10 _ _ d9 (by simp)))) (.cons (dp_ints (e10.l hX)) .nil))), oa.shaped, oa.shaped, ?_⟩
      rw [oa.refl]
      refine ⟨_, rfl, iteN rfl ?_⟩
      have ht10 := f10 _ _ ht9 (by simp)
      have hd10 := f10 _ _ hd9 (by simp)
      have d10 := f10 _ _ d9 (by simp)
      have npt : H pt = none := e8.free hpt
      have nD : pt ≠ D := fun z => by rw [z] at hpt; rw [d8] at hpt; cases hpt
      have npd : pt ≠ pd := fun z => by rw [z] at hpt; rw [hd8] at hpt; cases hpt
      refine ⟨_, rfl, .inl ⟨rfl, _, SqL.of ht10⟩, _, _, _, rfl, rfl, ht10, len_lt (by rw [List.length_map, Fam.cellT_len]; have := S.short; omega), ?_⟩
      have e11 := e10.put (p := pt) (o := .lst ((Fam.cellT ps cc xs).map V.int ++ [.int 1])) (.inr npt)
      have d11 : (upd H10 pt (.lst ((Fam.cellT ps cc xs).map V.int ++ [.int 1]))) D = some (.lst (cc.map V.int)) := by rw [upd_ne (Ne.symm nD)]; exact d10
      have hd11 : (upd H10 pt (.lst ((Fam.cellT ps cc xs).map V.int ++ [.int 1]))) pd = some (.lst ((Fam.cellT ps cc xs).map V.int)) := by rw [upd_ne (Ne.symm npd)]; exact hd10
      generalize upd H10 pt (.lst ((Fam.cellT ps cc xs).map V.int ++ [.int 1])) = H11 at e11 d11 hd11 ⊢
      clear e89 a1 b1 c1 p1 d8 hd8 e8 e9 hd9 d9 ht9 f10 z10 e10 ht10 hd10 d10 hpz
      -- again
      refine ⟨_, rfl, _, _, rfl, .inl (e11.l S.sq), fun q1 hq1 => ?_⟩
      have f12 := (Fr.refl [] H11).new (o := .lst (ps.map V.int)) hq1
      have a1 : (upd H11 q1 (.lst (ps.map V.int))) q1 = some (.lst (ps.map V.int)) := upd_same
      generalize upd H11 q1 (.lst (ps.map V.int)) = H12 at f12 a1 ⊢
      refine ⟨_, rfl, _, _, rfl, .inl (SqL.of (f12 _ _ d11 (by simp))), fun q2 hq2 => ?_⟩
      have f13 := (Fr.refl [] H12).new (o := .lst (cc.map V.int)) hq2
      have b1 : (upd H12 q2 (.lst (cc.map V.int))) q2 = some (.lst (cc.map V.int)) := upd_same
      generalize upd H12 q2 (.lst (cc.map V.int)) = H13 at f13 b1 ⊢
      refine ⟨_, rfl, _, _, rfl, .inl (((e11.trans f12).trans f13).l hX), fun q3 hq3 => ?_⟩
      have f14 := (Fr.refl [] H13).new (o := .lst (xs.map V.int)) hq3
      have c1 : (upd H13 q3 (.lst (xs.map V.int))) q3 = some (.lst (xs.map V.int)) := upd_same
      generalize upd H13 q3 (.lst (xs.map V.int)) = H14 at f14 c1 ⊢
      refine ⟨q1, q2, q3, ps, cc, xs, rfl, SqL.of (f14 _ _ (f13 _ _ a1 (by simp)) (by simp)), SqL.of (f14 _ _ b1 (by simp)), SqL.of c1, S.ok, by rw [S.len, hx], fun j hj => S.pl j (by omega), by have := S.short; omega, by omega, fun pt2 H15 hpt2 e15 ht15 => ?_⟩
      have f15 := ((f12.trans f13).trans f14).trans e15
      refine ⟨_, rfl, _, _, dInts (Fam.cellT ps cc xs), rfl, dp_ints (SqL.of ht15), dp_ints (SqL.of (f15 _ _ hd11 (by simp))), tb.shaped, tb.show_, tb.line, ⟨_, rfl, iteN rfl ?_⟩⟩
      exact ⟨e11.trans f15, _, _, _, _, _, _, rfl⟩
    · rintro σ H1 ⟨e1, o4, o5, o6, o7, o8, o9, rfl⟩
      exact k _ e1
theorem ok_law_right {f : Addr} {fd : FuncData} (F : Fun K "_law_right" "_law_right" s_law_right f fd) (T : Blt mg) (F_law_integers : FnB P w K mg base CX0 1 "_law_integers" ["told", "size"] (spIntegers K)) (F_law_between : FnB P w K mg base CX0 1 "_law_between" ["told", "amounts", "divisor"] (spBetween K))
    (F_law_totals : FnB P w K mg base CX0 1 "_law_totals" ["parents", "places", "amounts"] (spTotals K)) : FnOk P w K mg base CX0 2 f fd ["first", "second", "cells", "amounts", "divisor", "told"] (spRight K) := by
  refine F.ok sc_law_right (fun vs H Q E h => ?_) (fun cdv A outer s H vs Q E hr h => ?_)
  · obtain ⟨af, as, ac, ax, pt, first, second, cells, xs, d, rfl, _⟩ := h
    rfl
  · obtain ⟨af, as, ac, ax, pt, first, second, cells, xs, d, rfl, h1, h2, hC, hX, hT0, l1, l2, l3, hx, hd, hdl, g1, g2, g3, hM, k⟩ := h
    refine ⟨_, (pss_cons (ps_if (PW.pt (pw_or (pt_not (pt_val (pe_callF F_law_integers (hr.mono (by decide)) rfl pass0 (pa_cons (pv 5) (pa_cons (pe_callB call_len_seq (by rfl) T.m_len (by decide +kernel) (pa_cons (pv 2) pa_nil)) pa_nil))))) (pw_or1 (pt_not (pt_val (pe_callF F_law_between (hr.mono (by decide)) rfl pass0 (pa_cons (pv 5) (pa_cons (pv 3) (pa_cons (pv 4) pa_nil)))))))))
      (pss_one (ps_ret pe_bl))
      pss_nil)
    (pss_cons (ps_for PassesOwn.never rfl (pi_range1 (by rfl) T.m_range (pa_cons pe_int pa_nil)) (pg_name (i := 6) sc_law_right.nd rfl (Or.inr rfl))
      (pss_cons (ps_set (i := 7) sc_law_right.nd rfl (Or.inl rfl) (pe_ix ix_list (pe_lst (pa_cons (pv 0) (pa_cons (pv 1) pa_nil))) (pv 6) (fun _ _ => rfl)))
      (pss_cons (ps_setLc (i := 8) (own := [("cell", 10)]) rfl sc_law_right.nd rfl rfl (sw_true rfl rfl rfl (by decide +kernel)) (pi_list (pv 2)) (blkOk_by (own := [("cell", 10)]) (N := n_law_right) (sc := defScope s_law_right) (by decide +kernel)) (fun _ _ _ _ _ => (pg_name (i := 10) sc_law_right.nd rfl (Or.inl rfl))) (fun _ _ _ _ _ => pts_nil) (fun _ _ _ _ _ => (pe_ix (r := rIxT K) ix_tup (pv 10) (pv 6) (fun _ _ => rfl))))
      (pss_cons (ps_set (i := 9) sc_law_right.nd rfl (Or.inl rfl) (pe_callF F_law_totals (hr.mono (by decide)) rfl pass0 (pa_cons (pv 7) (pa_cons (pv 8) (pa_cons (pv 3) pa_nil)))))
      (pss_one (ps_if (pt_not (pt_val (pe_callF F_law_between (hr.mono (by decide)) rfl pass0 (pa_cons (pe_callF F_law_totals (hr.mono (by decide)) rfl pass0 (pa_cons (pv 7) (pa_cons (pv 8) (pa_cons (pv 5) pa_nil)))) (pa_cons (pv 9) (pa_cons (pv 4) pa_nil))))))
        (pss_one (ps_ret pe_bl))
        pss_nil))))))
    (pss_one (ps_ret pe_bl)))), ?_⟩
    obtain ⟨ts, hL, hts, hT⟩ := id hC
    obtain ⟨R1, R2, _⟩ := Fam.roundC_ok g1 g2 g3 hx hd
    have dd : d.natAbs < 2 ^ 200 := by
      have : (2 : Int) ^ 101 < 2 ^ 200 := by decide
      omega
    -- a number whose product lies near is not greater
    have small : ∀ {t x M : Int}, x - d < t * d → t * d < x + d → -M ≤ x → x ≤ M → M ≤ 10 ^ 38 → t.natAbs < 2 ^ 200 := fun {t x M} h1 h2 h3 h4 h5 => by
      have e38 : (10 : Int) ^ 38 = 100000000000000000000000000000000000000 := by decide
      have e101 : (2 : Int) ^ 101 = 2535301200456458802993406410752 := by decide
      have e200 : (2 : Nat) ^ 200 = 1606938044258990275541962092341162602522202993782792835301376 := by decide
      have b1 : t * d < 100000000000000000000000000000000000000 * d + d := by
        have : (100000000000000000000000000000000000000 : Int) * 1 ≤ 100000000000000000000000000000000000000 * d := Int.mul_le_mul_of_nonneg_left (by omega) (by decide)
        omega
      have b2 : -100000000000000000000000000000000000000 * d - d < t * d := by
        have : (100000000000000000000000000000000000000 : Int) * 1 ≤ 100000000000000000000000000000000000000 * d := Int.mul_le_mul_of_nonneg_left (by omega) (by decide)
        omega
      have c1 : t * d < 100000000000000000000000000000000000001 * d := by omega
      have c2 : -100000000000000000000000000000000000001 * d < t * d := by omega
      have d1 := Int.lt_of_mul_lt_mul_right c1 (by omega)
      have d2 := Int.lt_of_mul_lt_mul_right c2 (by omega)
      rw [e200]
      omega
    generalize hr' : Fam.roundC first second cells xs d = rs at hT0 R1 R2
    refine ⟨_, rfl, _, rfl, _, _, rfl, .inl hL, pt, rs, ?_, hT0, ⟨_, rfl, iteN rfl ?_⟩⟩
    · rw [List.length_map, hts, R1]
      rfl
    refine ⟨_, rfl, _, rfl, _, rfl, pt, ax, rs, xs, d, rfl, SqL.of hT0, hX, by rw [R1, hx], by omega, dd, fun j hj => ?_, ⟨_, rfl, iteN rfl ?_⟩⟩
    · have r := R2 j (by omega)
      have m := hM j hj
      exact ⟨small r.1 r.2 m.1 m.2 (by decide), r.1, r.2⟩
    refine ⟨2, rfl, by decide, by decide, for_rng (n := 2) (fun i σ H' => Fr [] H H' ∧ ∃ o6 o7 o8 o9 : Option V, σ = [some (.ref af), some (.ref as), some (.ref ac), some (.ref ax), some (.int d), some (.ref pt), o6, o7, o8, o9, none])
      ⟨Fr.refl _ _, _, _, _, _, rfl⟩ ?_ ?_⟩
    · rintro i σ H1 hi ⟨e1, o6, o7, o8, o9, rfl⟩
      obtain ⟨q, ps, cc, S⟩ := side_of h1 h2 l1 l2 g1 g2 g3 hi
      refine ⟨_, rfl, _, rfl, by show 2 ≤ sizeLine; decide, fun pz hpz => ?_⟩
      have e2 := e1.new (o := .lst [.ref af, .ref as]) hpz
      refine ⟨_, rfl, _, _, _, _, rfl, rfl, SqL.of upd_same, S.at_, ?_⟩
      generalize upd H1 pz (.lst [.ref af, .ref as]) = H2 at e2 ⊢
      clear hpz
      refine ⟨_, rfl, ac, rfl, ⟨_, e2.l hL⟩, fun D hD => lc_list (K := K) (a := ac) (xs := ts.map V.ref) (fun j H' => H' = upd H2 D (.lst ((cc.take j).map V.int))) rfl (fun j H' _ z => by rw [z]; exact (e2.new hD).l hL) ?_ ?_⟩
      · rintro j y H' hy rfl
        obtain ⟨t, ht, rfl⟩ := get_mapf hy
        have hj : j < cells.length := by rw [← hts]; exact (List.getElem?_eq_some_iff.mp ht).1
        have qq := (e2.new (o := .lst ((cc.take j).map V.int)) hD).t (hT j t _ ht (Cir.get_arc hj))
        refine ⟨rfl, _, rfl, _, rfl, _, _, _, _, rfl, rfl, qq, S.el j hj, _, upd_same, len_lt ?_, ?_⟩
        · rw [List.length_map, List.length_take]
          omega
        · rw [upd_upd, take_succ (Cir.get_part (by rw [S.len]; exact hj)), List.map_append]
          rfl
      rintro H' rfl
      have hcl : (cc.take (ts.map V.ref).length) = cc := by rw [List.length_map, hts, ← S.len, List.take_length]
      rw [hcl]
      have e3 := e2.new (o := .lst (cc.map V.int)) hD
      have d3 : (upd H2 D (.lst (cc.map V.int))) D = some (.lst (cc.map V.int)) := upd_same
      generalize upd H2 D (.lst (cc.map V.int)) = H3 at e3 d3 ⊢
      clear hD
      refine ⟨_, rfl, _, rfl, _, rfl, q, D, ax, ps, cc, xs, rfl, e3.l S.sq, SqL.of d3, e3.l hX, S.ok, by rw [S.len, hx], fun j hj => S.pl j (by omega), by have := S.short; omega, by omega, fun pd H4 hpd e34 hd4 => ?_⟩
      have e4 := e3.trans e34
      have d4 := e34 _ _ d3 (by simp)
      refine ⟨_, rfl, _, rfl, _, rfl, q, D, pt, ps, cc, rs, rfl, e4.l S.sq, SqL.of d4, e4.l (SqL.of hT0), S.ok, by rw [S.len, R1], fun j hj => S.pl j (by omega), by have := S.short; omega, by omega, fun pu H5 hpu e45 hu5 => ?_⟩
      have hd5 := e45 _ _ hd4 (by simp)
      refine ⟨_, rfl, _, rfl, pu, pd, Fam.cellT ps cc rs, Fam.cellT ps cc xs, d, rfl, SqL.of hu5, SqL.of hd5, by rw [Fam.cellT_len, Fam.cellT_len], by rw [Fam.cellT_len]; have := S.short; omega, dd, fun j hj => ?_, ⟨_, rfl, iteN rfl ?_⟩⟩
      · rw [Fam.cellT_len] at hj
        have r := S.rnd xs d hx hd j hj
        rw [hr'] at r
        have hb := Fam.cellT_abs S.ok (places := cc) (xs := xs) (fun j hj => (S.pl j (by omega)).2) (by decide) hM hj
        have h300 : (10 : Int) ^ 34 * xs.length ≤ 10 ^ 34 * 300 := Int.mul_le_mul_of_nonneg_left (by omega) (by decide)
        exact ⟨small r.1 r.2 hb.1 hb.2 (Int.le_trans h300 (by decide)), r.1, r.2⟩
      · exact ⟨e4.trans e45, _, _, _, _, rfl⟩
    · rintro σ H1 ⟨e1, o6, o7, o8, o9, rfl⟩
      exact k _ e1
end
/-! _law_refused(bag, first, second, cells, amounts, divisor): slots 0 bag 1 first 2 second 3 cells 4 amounts 5 divisor 6 sides 7 spoilt 8 parts 9 side 10 row 11 turn 12 at 13 due -/
abbrev s_law_refused : Stmt := top 34
abbrev n_law_refused : List Str := ["bag", "first", "second", "cells", "amounts", "divisor", "sides", "spoilt", "parts", "side", "row", "turn", "at", "due"]
theorem sc_law_refused : FnScope n_law_refused ["bag", "first", "second", "cells", "amounts", "divisor"] (defScope s_law_refused) := ⟨rfl, rfl, rfl, by decide +kernel, rfl, by decide +kernel, by decide +kernel⟩
/-! law(script): slots 0 script 1 bag 2 first 3 second 4 large 5 divisor 6 cells 7 amounts 8 k 9 passed 10 told 11 kept 12 turn -/
abbrev s_law : Stmt := top 35
abbrev n_law : List Str := ["script", "bag", "first", "second", "large", "divisor", "cells", "amounts", "k", "passed", "told", "kept", "turn"]
theorem sc_law : FnScope n_law ["script"] (defScope s_law) := ⟨rfl, rfl, rfl, by decide +kernel, rfl, by decide +kernel, by decide +kernel⟩
/-- two families, the cells and their amounts, and the bag -/
structure FS (b c pf ps pc px : Addr) (H : Hp) (first second : List Int) (ts : List Addr) (cells : List Cir.Arc) (xs : List Int) : Prop where
  bag : BagC H b c
  lf : H pf = some (.lst (first.map V.int))
  ls : H ps = some (.lst (second.map V.int))
  lc : H pc = some (.lst (ts.map V.ref))
  lx : H px = some (.lst (xs.map V.int))
  ln : ts.length = cells.length
  tup : ∀ (k : Nat) (t : Addr) (p : Cir.Arc), ts[k]? = some t → cells[k]? = some p → H t = some (.tup [.int p.1, .int p.2])
  nf : pf ≠ b
  ns : ps ≠ b
  nc : pc ≠ b
  nx : px ≠ b
section
variable {b c pf ps pc px q : Addr} {H H1 H2 : Hp} {ts : List Addr} {cells : List Cir.Arc} {first second xs : List Int} {o : HO}
theorem FS.tb (h : FS b c pf ps pc px H1 first second ts cells xs) : ∀ t ∈ ts, t ≠ b := fun t ht => by
  obtain ⟨k, hk⟩ := List.mem_iff_getElem?.mp ht
  have hl : k < cells.length := by
    rw [← h.ln]
    exact (List.getElem?_eq_some_iff.mp hk).1
  obtain ⟨i, v, s, hb⟩ := h.bag.b
  exact ne_of (h.tup k t _ hk (Cir.get_arc hl)) hb (by intro z; cases z)
theorem FS.bagS (h : FS b c pf ps pc px H1 first second ts cells xs) (e : Fr [b] H1 H2) (hB : BagC H2 b c) : FS b c pf ps pc px H2 first second ts cells xs :=
  ⟨hB, e _ _ h.lf (by simpa using h.nf), e _ _ h.ls (by simpa using h.ns), e _ _ h.lc (by simpa using h.nc), e _ _ h.lx (by simpa using h.nx), h.ln, fun k t p ht hp => e _ _ (h.tup k t p ht hp) (by simpa using h.tb t (List.mem_of_getElem? ht)), h.nf, h.ns, h.nc, h.nx⟩
theorem FS.fr (h : FS b c pf ps pc px H1 first second ts cells xs) (e : Fr [] H1 H2) : FS b c pf ps pc px H2 first second ts cells xs := h.bagS e.nil (h.bag.fr e (by simp) (by simp))
theorem FS.new (h : FS b c pf ps pc px H1 first second ts cells xs) (hq : H1 q = none) : FS b c pf ps pc px (upd H1 q o) first second ts cells xs := h.fr ((Fr.refl [] H1).new hq)
theorem FS.arcs {K : PySem.W.Frag} (h : FS b c pf ps pc px H1 first second ts cells xs) : ArcsAt K H1 pc cells := ⟨ts, SqL.of h.lc, h.ln, fun k t p a b => SqT.of (h.tup k t p a b)⟩
end
theorem fr_free {b q : Addr} {H H1 : Hp} (h : Fr [b] H H1) (hb : q ≠ b) (h1 : H1 q = none) : H q = none := by
  cases z : H q with
  | none => rfl
  | some u =>
    rw [h q u z (by simpa using hb)] at h1
    cases h1
theorem ins_get {α : Type} {l : List α} {k : Nat} {x y : α} {i : Nat} (hk : k ≤ l.length) (h : (l.take k ++ [x] ++ l.drop k)[i]? = some y) : (i < k ∧ l[i]? = some y) ∨ (i = k ∧ y = x) ∨ (k < i ∧ l[i - 1]? = some y) := by
  have ht : (l.take k).length = k := by rw [List.length_take]; omega
  rw [List.append_assoc] at h
  by_cases c : i < k
  · rw [List.getElem?_append_left (by omega), List.getElem?_take_of_lt c] at h
    exact .inl ⟨c, h⟩
  · rw [List.getElem?_append_right (by omega), ht] at h
    by_cases d : i = k
    · subst d
      rw [Nat.sub_self] at h
      exact .inr (.inl ⟨rfl, (Option.some.inj h).symm⟩)
    · obtain ⟨m, hm⟩ : ∃ m, i - k = m + 1 := ⟨i - k - 1, by omega⟩
      rw [hm] at h
      have h : (l.drop k)[m]? = some y := h
      rw [List.getElem?_drop] at h
      refine .inr (.inr ⟨by omega, ?_⟩)
      rw [show i - 1 = k + m by omega]
      exact h
def spRefused (K : PySem.W.Frag) : Sp := fun vs H Q _ => ∃ (b c pf ps pc px : Addr) (first second : List Int) (ts : List Addr) (cells : List Cir.Arc) (xs : List Int) (d : Int), vs = [.ref b, .ref pf, .ref ps, .ref pc, .ref px, .int d] ∧ FS b c pf ps pc px H first second ts cells xs ∧
  first.length ≤ 40 ∧ second.length ≤ 40 ∧ cells.length ≤ 300 ∧ xs.length = cells.length ∧ 0 < d ∧ d < 2 ^ 101 ∧ ∀ H', Fr [b] H H' → BagC H' b c → Q (.bl true) H'
def spLaw (K : PySem.W.Frag) : Sp := fun vs H Q _ => ∃ (a : Addr) (ns : List Int), vs = [.ref a] ∧ SqL K H a (ns.map V.int) ∧ ns.length ≤ 63 ∧ ∀ H', Q (.bl true) H'
def dAll (fs ss : List Int) (cells : List Cir.Arc) (xs : List Int) : PyData := .list [dInts fs, dInts ss, dPrs cells, dInts xs]
theorem dAll_ok (fs ss : List Int) (cells : List Cir.Arc) (xs : List Int) : SeqAt.shaped (dAll fs ss cells xs) = true ∧ PyData.eqv (dAll fs ss cells xs) (dAll fs ss cells xs) = true := by
  have l1 : (dPrs cells).canLay0 = true := by simp only [dPrs, PyData.canLay0]; exact prs_lay cells
  have l2 : ∀ zs, (dInts zs).canLay0 = true := fun zs => by simp only [dInts, PyData.canLay0]; exact ints_lay zs
  have lay : (dAll fs ss cells xs).canLay0 = true := by simp [dAll, PyData.canLay0, PyData.canLayAll0, l1, l2]
  refine ⟨shaped_of lay ?_, SeqAt.eqv_refl _ lay⟩
  have d1 := prs_depth cells
  have d2 := ints_depth xs
  have d3 := ints_depth fs
  have d4 := ints_depth ss
  simp only [dAll, PyData.depth, PyData.depthAll, dPrs, dInts]
  omega
theorem dp_all {K : PySem.W.Frag} {H : Hp} {p p1 p2 p3 p4 : Addr} {ts : List Addr} {fs ss : List Int} {cells : List Cir.Arc} {xs : List Int} (h : H p = some (.lst [.ref p1, .ref p2, .ref p3, .ref p4])) (h1 : H p1 = some (.lst (fs.map V.int))) (h2 : H p2 = some (.lst (ss.map V.int))) (h3 : H p3 = some (.lst (ts.map V.ref))) (hl : ts.length = cells.length)
    (ht : ∀ (k : Nat) (t : Addr) (p : Cir.Arc), ts[k]? = some t → cells[k]? = some p → H t = some (.tup [.int p.1, .int p.2])) (h4 : H p4 = some (.lst (xs.map V.int))) : Dp K H (.ref p) (dAll fs ss cells xs) :=
  .lst (SqL.of h) (.cons (dp_ints (SqL.of h1)) (.cons (dp_ints (SqL.of h2)) (.cons (.lst (SqL.of h3) (dpa_prs ts cells hl fun k t p a b => SqT.of (ht k t p a b))) (.cons (dp_ints (SqL.of h4)) .nil))))
section
variable {P : Program} {w : World} {K : PySem.W.Frag} {mg : Str → Option Value} {base : Heap} {CD CA CU CL CC CB : Addr}
theorem ok_law_refused {f : Addr} {fd : FuncData} (F : Fun K "_law_refused" "_law_refused" s_law_refused f fd) (T : Blt mg) (F_law_take : FnB P w K mg base CX0 1 "_law_take" ["bag", "many"] spTake) (F_law_part : FnB P w K mg base CX0 2 "_law_part" ["bag", "divisor"] spPart)
    (F_law_fault : FnB P w K mg base CX0 1 "_law_fault" ["first", "second", "cells"] (spFault K)) (F_law_same : FnGB P w K mg base CX0 1 "_law_same" ["left", "right"] (spSameX K))
    (F_law_outcome : FnB P w K mg base CX0 6 "_law_outcome" ["first", "second", "cells", "amounts", "divisor"] (spOutcome K)) : FnG P w K mg base CX0 7 f fd ["bag", "first", "second", "cells", "amounts", "divisor"] (spRefused K) := by
  refine F.okG sc_law_refused (fun vs H Q E h => ?_) (fun cdv A outer s H vs Q E hr hgu h => ?_)
  · obtain ⟨b, c, pf, ps, pc, px, first, second, ts, cells, xs, d, rfl, _⟩ := h
    rfl
  · obtain ⟨b, c, pf, ps, pc, px, first, second, ts, cells, xs, d, rfl, N, l1, l2, l3, hx, hd, hdl, k⟩ := h
    have dl : d.natAbs < 2 ^ 250 := by
      have : (2 : Int) ^ 101 < 2 ^ 250 := by decide
      omega
    refine ⟨_, (pss_cons (ps_set (i := 6) sc_law_refused.nd rfl (Or.inl rfl) (pe_lst (pa_cons (pe_callTy call_list_of (by rfl) T.m_list (by decide +kernel) (pa_cons (pv 1) pa_nil)) (pa_cons (pe_callTy call_list_of (by rfl) T.m_list (by decide +kernel) (pa_cons (pv 2) pa_nil)) pa_nil))))
    (pss_cons (ps_set (i := 7) sc_law_refused.nd rfl (Or.inl rfl) (pe_callTy call_list_of (by rfl) T.m_list (by decide +kernel) (pa_cons (pv 3) pa_nil)))
    (pss_cons (ps_set (i := 8) sc_law_refused.nd rfl (Or.inl rfl) (pe_callTy call_list_of (by rfl) T.m_list (by decide +kernel) (pa_cons (pv 4) pa_nil)))
    (pss_cons (ps_for PassesOwn.never rfl (pi_range1 (by rfl) T.m_range (pa_cons pe_int pa_nil)) (pg_name (i := 9) sc_law_refused.nd rfl (Or.inl rfl))
      (pss_cons (ps_set (i := 10) sc_law_refused.nd rfl (Or.inl rfl) (pe_ix ix_list (pv 6) (pv 9) (fun _ _ => rfl)))
      (pss_one (ps_for PassesOwn.never rfl (pi_range1 (by rfl) T.m_range (pa_cons (pe_callF F_law_take (hr.mono (by decide)) rfl pass0 (pa_cons (pv 0) (pa_cons pe_int pa_nil))) pa_nil)) (pg_name (i := 11) sc_law_refused.nd rfl (Or.inl rfl))
        (pss_one (ps_if (pt_cmpR op_gt (pe_callB call_len_seq (by rfl) T.m_len (by decide +kernel) (pa_cons (pv 10) pa_nil)) pe_int (nomark _))
          (pss_cons (ps_set (i := 12) sc_law_refused.nd rfl (Or.inl rfl) (pe_callF F_law_take (hr.mono (by decide)) rfl pass0 (pa_cons (pv 0) (pa_cons (pe_callB call_len_seq (by rfl) T.m_len (by decide +kernel) (pa_cons (pv 10) pa_nil)) pa_nil))))
          (pss_one (ps_asg (pe_ix ix_list (pe_lst (pa_cons (pv 12) (pa_cons (pe_op op_add (pv 12) pe_int) (pa_cons (pe_un un_neg pe_int) (pa_cons (pe_callB call_len_seq (by rfl) T.m_len (by decide +kernel) (pa_cons (pv 10) pa_nil)) (pa_cons (pe_un un_neg pe_int) pa_nil)))))) (pe_callF F_law_take (hr.mono (by decide)) rfl pass0 (pa_cons (pv 0) (pa_cons pe_int pa_nil))) (fun _ _ => rfl)) (pg_sub (pv 10) (pv 12) set_list))))
          pss_nil))))))
    (Evl.pss_cut (ps_if (pt_cmpR op_eq (pe_callF F_law_take (hr.mono (by decide)) rfl pass0 (pa_cons (pv 0) (pa_cons pe_int pa_nil))) pe_int (nomark _))
      (pss_cons (ps_set (i := 12) sc_law_refused.nd rfl (Or.inl rfl) (pe_callF F_law_take (hr.mono (by decide)) rfl pass0 (pa_cons (pv 0) (pa_cons (pe_op op_add (pe_callB call_len_seq (by rfl) T.m_len (by decide +kernel) (pa_cons (pv 7) pa_nil)) pe_int) pa_nil))))
      (pss_cons (ps_expr (pe_bm PySem.F.plainAttrs_list PySem.F.slot_list_insert PySem.F.type_list_insert mt_insert (pv 7) (pa_cons (pv 12) (pa_cons (pe_tup (pa_cons (pe_op op_sub (pe_callF F_law_take (hr.mono (by decide)) rfl pass0 (pa_cons (pv 0) (pa_cons (pe_op op_add (pe_callB call_len_seq (by rfl) T.m_len (by decide +kernel) (pa_cons (pv 1) pa_nil)) pe_int) pa_nil))) pe_int) (pa_cons (pe_op op_sub (pe_callF F_law_take (hr.mono (by decide)) rfl pass0 (pa_cons (pv 0) (pa_cons (pe_op op_add (pe_callB call_len_seq (by rfl) T.m_len (by decide +kernel) (pa_cons (pv 2) pa_nil)) pe_int) pa_nil))) pe_int) pa_nil))) pa_nil))))
      (pss_one (ps_expr (pe_bm PySem.F.plainAttrs_list PySem.F.slot_list_insert PySem.F.type_list_insert mt_insert (pv 8) (pa_cons (pv 12) (pa_cons (pe_callF F_law_part (hr.mono (by decide)) rfl pass0 (pa_cons (pv 0) (pa_cons (pv 5) pa_nil))) pa_nil)))))))
      pss_nil)
    (pss_cons (ps_set (i := 13) sc_law_refused.nd rfl (Or.inl rfl) (pe_callF F_law_fault (hr.mono (by decide)) rfl pass0 (pa_cons (pe_ix ix_list (pv 6) pe_int (fun _ _ => rfl)) (pa_cons (pe_ix ix_list (pv 6) pe_int (fun _ _ => rfl)) (pa_cons (pv 7) pa_nil)))))
    (pss_one (ps_ret (pe_callG F_law_same (hr.mono (by decide)) hgu rfl pass0 (pa_cons (pe_callF F_law_outcome (hr.mono (by decide)) rfl pass0 (pa_cons (pe_ix ix_list (pv 6) pe_int (fun _ _ => rfl)) (pa_cons (pe_ix ix_list (pv 6) pe_int (fun _ _ => rfl)) (pa_cons (pv 7) (pa_cons (pv 8) (pa_cons (pv 5) pa_nil)))))) (pa_cons (pv 13) pa_nil))))))))))), ?_⟩
    -- sides, spoilt, parts
    refine ⟨_, rfl, _, _, rfl, .inl (SqL.of N.lf), fun qf hqf => ?_⟩
    have e1 := (Fr.refl [] H).new (o := .lst (first.map V.int)) hqf
    have a1 : (upd H qf (.lst (first.map V.int))) qf = some (.lst (first.map V.int)) := upd_same
    have zf : H qf = none := hqf
    generalize upd H qf (.lst (first.map V.int)) = H1 at e1 a1 ⊢
    refine ⟨_, rfl, _, _, rfl, .inl (SqL.of (e1 _ _ N.ls (by simp))), fun qs hqs => ?_⟩
    have f2 := (Fr.refl [] H1).new (o := .lst (second.map V.int)) hqs
    have e2 := e1.trans f2
    have s1 : (upd H1 qs (.lst (second.map V.int))) qs = some (.lst (second.map V.int)) := upd_same
    have zs : H qs = none := e1.free hqs
    have nfs : qf ≠ qs := ne_of_none a1 hqs
    have a1 := f2 _ _ a1 (by simp)
    generalize upd H1 qs (.lst (second.map V.int)) = H2 at f2 e2 a1 s1 ⊢
    refine ⟨by show 2 ≤ sizeLine; decide, fun qd hqd => ?_⟩
    have f3 := (Fr.refl [] H2).new (o := .lst [.ref qf, .ref qs]) hqd
    have e3 := e2.trans f3
    have d1 : (upd H2 qd (.lst [.ref qf, .ref qs])) qd = some (.lst [.ref qf, .ref qs]) := upd_same
    have ndf : qd ≠ qf := (ne_of_none a1 hqd).symm
    have nds : qd ≠ qs := (ne_of_none s1 hqd).symm
    have zd : H qd = none := e2.free hqd
    have a1 := f3 _ _ a1 (by simp)
    have s1 := f3 _ _ s1 (by simp)
    generalize upd H2 qd (.lst [.ref qf, .ref qs]) = H3 at f3 e3 a1 s1 d1 ⊢
    refine ⟨_, rfl, _, _, rfl, .inl (SqL.of (e3 _ _ N.lc (by simp))), fun qc hqc => ?_⟩
    have f4 := (Fr.refl [] H3).new (o := .lst (ts.map V.ref)) hqc
    have e4 := e3.trans f4
    have c1 : (upd H3 qc (.lst (ts.map V.ref))) qc = some (.lst (ts.map V.ref)) := upd_same
    have ncf : qc ≠ qf := (ne_of_none a1 hqc).symm
    have ncs : qc ≠ qs := (ne_of_none s1 hqc).symm
    have ncd : qc ≠ qd := (ne_of_none d1 hqc).symm
    have zc : H qc = none := e3.free hqc
    have a1 := f4 _ _ a1 (by simp)
    have s1 := f4 _ _ s1 (by simp)
    have d1 := f4 _ _ d1 (by simp)
    generalize upd H3 qc (.lst (ts.map V.ref)) = H4 at f4 e4 a1 s1 d1 c1 ⊢
    refine ⟨_, rfl, _, _, rfl, .inl (SqL.of (e4 _ _ N.lx (by simp))), fun qx hqx => ?_⟩
    have f5 := (Fr.refl [] H4).new (o := .lst (xs.map V.int)) hqx
    have e5 := e4.trans f5
    have x1 : (upd H4 qx (.lst (xs.map V.int))) qx = some (.lst (xs.map V.int)) := upd_same
    have nxf : qx ≠ qf := (ne_of_none a1 hqx).symm
    have nxs : qx ≠ qs := (ne_of_none s1 hqx).symm
    have nxd : qx ≠ qd := (ne_of_none d1 hqx).symm
    have nxc : qx ≠ qc := (ne_of_none c1 hqx).symm
    have zx : H qx = none := e4.free hqx
    have a1 := f5 _ _ a1 (by simp)
    have s1 := f5 _ _ s1 (by simp)
    have d1 := f5 _ _ d1 (by simp)
    have c1 := f5 _ _ c1 (by simp)
    generalize upd H4 qx (.lst (xs.map V.int)) = H5 at f5 e5 a1 s1 d1 c1 x1 ⊢
    clear f2 f3 f4 f5 e1 e2 e3 e4 hqf hqs hqd hqc hqx
    have nb : ∀ {q : Addr}, H q = none → q ≠ b := fun h => N.bag.neb h
    have nc : ∀ {q : Addr}, H q = none → q ≠ c := fun h => N.bag.nec h
    refine ⟨2, rfl, by decide, by decide, for_rng (n := 2)
      (fun i σ H' => ∃ f' s' : List Int, Fr [b] H H' ∧ BagC H' b c ∧ H' qf = some (.lst (f'.map V.int)) ∧ H' qs = some (.lst (s'.map V.int)) ∧ f'.length = first.length ∧ s'.length = second.length ∧ H' qd = some (.lst [.ref qf, .ref qs]) ∧ H' qc = some (.lst (ts.map V.ref)) ∧ H' qx = some (.lst (xs.map V.int)) ∧ ∃ o9 o10 o11 o12 : Option V,
        σ = [some (.ref b), some (.ref pf), some (.ref ps), some (.ref pc), some (.ref px), some (.int d), some (.ref qd), some (.ref qc), some (.ref qx), o9, o10, o11, o12, none])
      ⟨first, second, e5.nil, N.bag.fr e5 (by simp) (by simp), a1, s1, rfl, rfl, d1, c1, x1, _, _, _, _, rfl⟩ ?_ ?_⟩
    · clear a1 s1 d1 c1 x1 e5
      rintro i σ H6 hi ⟨f', s', e6, B6, a6, s6, lf, ls, d6, c6, x6, o9, o10, o11, o12, rfl⟩
      have hside : ∃ (q : Addr) (zs' : List Int), atI [V.ref qf, .ref qs] (i : Int) = some (.ref q) ∧ H6 q = some (.lst (zs'.map V.int)) ∧ zs'.length ≤ 40 ∧ H q = none ∧ qd ≠ q ∧ qc ≠ q ∧ qx ≠ q ∧ ((q = qf ∧ zs' = f') ∨ (q = qs ∧ zs' = s')) := by
        have h01 : i = 0 ∨ i = 1 := by omega
        rcases h01 with rfl | rfl
        · exact ⟨qf, f', rfl, a6, by omega, zf, ndf, ncf, nxf, .inl ⟨rfl, rfl⟩⟩
        · exact ⟨qs, s', rfl, s6, by omega, zs, nds, ncs, nxs, .inr ⟨rfl, rfl⟩⟩
      obtain ⟨q, zs', hat, q6, zl, zq, ndq, ncq, nxq, hqi⟩ := hside
      refine ⟨_, rfl, _, rfl, _, _, _, _, rfl, rfl, SqL.of d6, hat, ?_⟩
      refine ⟨_, rfl, b, c, 3, rfl, B6, by decide, by decide, fun tz H7 z0 z1 e67 B7 => ?_⟩
      obtain ⟨tn, rfl⟩ : ∃ tn : Nat, tz = (tn : Int) := ⟨tz.toNat, by omega⟩
      refine ⟨_, rfl, (rg_ok (by omega)).1, (rg_ok (by omega)).2, for_rng (n := tn)
        (fun j σ H' => ∃ ys' : List Int, Fr [b, q] H6 H' ∧ BagC H' b c ∧ H' q = some (.lst (ys'.map V.int)) ∧ ys'.length = zs'.length ∧ ∃ o11 o12 : Option V,
          σ = [some (.ref b), some (.ref pf), some (.ref ps), some (.ref pc), some (.ref px), some (.int d), some (.ref qd), some (.ref qc), some (.ref qx), some (.int (i : Int)), some (.ref q), o11, o12, none])
        ⟨zs', e67.sub (by simp), B7, e67 _ _ q6 (by simpa using nb zq), rfl, _, _, rfl⟩ ?_ ?_⟩
      · clear e67 B7
        rintro j σ H8 hj ⟨ys', e8, B8, q8, yl, o11, o12, rfl⟩
        refine ⟨_, rfl, _, _, rfl, .inl (SqL.of q8), _, _, rfl, rfl, _, rfl, dec_iff (fun pos => ?_) fun _ => ⟨ys', e8, B8, q8, yl, _, _, rfl⟩⟩
        rw [List.length_map] at pos
        refine ⟨_, rfl, _, rfl, _, _, rfl, .inl (SqL.of q8), b, c, _, rfl, B8, by rw [List.length_map]; omega, by rw [List.length_map]; exact log_ok (Nat.lt_of_le_of_lt (m := 100) (by omega) (by decide)), fun at_ H9 w0 w1 e89 B9 => ?_⟩
        rw [List.length_map] at w1
        obtain ⟨at_, rfl⟩ : ∃ q : Nat, at_ = (q : Int) := ⟨at_.toNat, by omega⟩
        have q9 := e89 _ _ q8 (by simpa using nb zq)
        have e9 : Fr [b, q] H6 H9 := e8.trans (e89.sub (by simp))
        -- the list of five
        refine ⟨_, rfl, _, rfl, _, _, rfl, rfl, _, rfl, _, rfl, _, _, rfl, .inl (SqL.of q9), _, rfl, by show 5 ≤ sizeLine; decide, fun pz hpz => ?_⟩
        dsimp only
        generalize hL5 : HO.lst [V.int (at_ : Int), V.int ((at_ : Int) + 1), V.int (-2), V.int ((ys'.map V.int).length : Int), V.int (-1)] = L5
        have e10 : Fr [b, q] H6 (upd H9 pz L5) := e9.new hpz
        have q10 : (upd H9 pz L5) q = some (.lst (ys'.map V.int)) := by rw [upd_ne (ne_of_none q9 hpz)]; exact q9
        have B10 := B9.new (o := L5) hpz
        have z10 : (upd H9 pz L5) pz = some L5 := upd_same
        have npb : pz ≠ b := B9.neb hpz
        have npq : pz ≠ q := (ne_of_none q9 hpz).symm
        generalize upd H9 pz L5 = H10 at e10 q10 B10 z10 ⊢
        refine ⟨_, rfl, b, c, 5, rfl, B10, by decide, by decide, fun z H11 v0 v1 e11 B11 => ?_⟩
        have q11 := e11 _ _ q10 (by simpa using nb zq)
        have z11 := e11 _ _ z10 (by simpa using npb)
        rw [← hL5] at z11
        obtain ⟨y, hy⟩ : ∃ y : Int, atI [V.int (at_ : Int), V.int ((at_ : Int) + 1), V.int (-2), V.int ((ys'.map V.int).length : Int), V.int (-1)] z = some (.int y) := by
          have hz : z = 0 ∨ z = 1 ∨ z = 2 ∨ z = 3 ∨ z = 4 := by omega
          rcases hz with rfl | rfl | rfl | rfl | rfl <;> exact ⟨_, rfl⟩
        refine ⟨_, _, _, _, rfl, rfl, SqL.of z11, hy, _, rfl, _, rfl, _, _, _, _, rfl, rfl, q11, ix_nat (by rw [List.length_map]; omega), ?_⟩
        exact ⟨ys'.set at_ y, (e10.trans (e11.sub (by simp))).put (.inl (by simp)), B11.put (nb zq) (nc zq), by rw [upd_same, List.map_set], by rw [List.length_set, yl], _, _, rfl⟩
      · clear e67 B7
        rintro σ H8 ⟨ys', e8, B8, q8, yl, o11, o12, rfl⟩
        have fr8 : Fr [b] H H8 := fun x o hx hn => e8 x o (e6 x o hx hn) (by
          have h1 := ne_of_none hx zq
          simp only [List.mem_cons, List.not_mem_nil, or_false] at hn ⊢
          simp [hn, h1])
        have d8 := e8 _ _ d6 (by simp [nb zd, ndq])
        have c8 := e8 _ _ c6 (by simp [nb zc, ncq])
        have x8 := e8 _ _ x6 (by simp [nb zx, nxq])
        rcases hqi with ⟨rfl, rfl⟩ | ⟨rfl, rfl⟩
        · exact ⟨ys', s', fr8, B8, q8, e8 _ _ s6 (by simp [nb zs, nfs.symm]), by rw [yl, lf], ls, d8, c8, x8, _, _, _, _, rfl⟩
        · exact ⟨f', ys', fr8, B8, e8 _ _ a6 (by simp [nb zf, nfs]), q8, lf, by rw [yl, ls], d8, c8, x8, _, _, _, _, rfl⟩
    clear a1 s1 d1 c1 x1 e5
    rintro σ H6 ⟨f', s', e6, B6, a6, s6, lf, ls, d6, c6, x6, o9, o10, o11, o12, rfl⟩
    have tup6 : ∀ (k : Nat) (t : Addr) (p : Cir.Arc), ts[k]? = some t → cells[k]? = some p → H6 t = some (.tup [.int p.1, .int p.2]) := fun k t p a b' => e6 _ _ (N.tup k t p a b') (by simpa using N.tb t (List.mem_of_getElem? a))
    -- a cell put in
    refine ⟨fun σ' H' => ∃ (ts2 : List Addr) (cells2 : List Cir.Arc) (xs2 : List Int) (o12 : Option V), Fr [b] H H' ∧ BagC H' b c ∧ H' qf = some (.lst (f'.map V.int)) ∧ H' qs = some (.lst (s'.map V.int)) ∧ H' qd = some (.lst [.ref qf, .ref qs]) ∧ H' qc = some (.lst (ts2.map V.ref)) ∧ H' qx = some (.lst (xs2.map V.int)) ∧
      ts2.length = cells2.length ∧ (∀ (k : Nat) (t : Addr) (p : Cir.Arc), ts2[k]? = some t → cells2[k]? = some p → H' t = some (.tup [.int p.1, .int p.2])) ∧ xs2.length = cells2.length ∧ cells2.length ≤ 301 ∧
      σ' = [some (.ref b), some (.ref pf), some (.ref ps), some (.ref pc), some (.ref px), some (.int d), some (.ref qd), some (.ref qc), some (.ref qx), o9, o10, o11, o12, none], ?_, ?_⟩
    · refine ⟨_, rfl, b, c, 2, rfl, B6, by decide, by decide, fun z H7 z0 z1 e67 B7 => ⟨rfl, _, rfl, ?_⟩⟩
      have e7 := e6.trans e67
      have a7 := e67 _ _ a6 (by simpa using nb zf)
      have s7 := e67 _ _ s6 (by simpa using nb zs)
      have d7 := e67 _ _ d6 (by simpa using nb zd)
      have c7 := e67 _ _ c6 (by simpa using nb zc)
      have x7 := e67 _ _ x6 (by simpa using nb zx)
      have tup7 : ∀ (k : Nat) (t : Addr) (p : Cir.Arc), ts[k]? = some t → cells[k]? = some p → H7 t = some (.tup [.int p.1, .int p.2]) := fun k t p a b' => e7 _ _ (N.tup k t p a b') (by simpa using N.tb t (List.mem_of_getElem? a))
      refine eq_if (fun _ => ?_) fun _ => ⟨ts, cells, xs, _, e7, B7, a7, s7, d7, c7, x7, N.ln, tup7, hx, by omega, rfl⟩
      have tl : (ts.map V.ref).length = cells.length := by rw [List.length_map, N.ln]
      refine ⟨_, rfl, _, rfl, _, _, rfl, .inl (SqL.of c7), _, _, rfl, rfl, b, c, _, rfl, B7, by omega, by rw [tl]; exact log_ok (Nat.lt_of_le_of_lt (m := 400) (by omega) (by decide)), fun at_ H8 w0 w1 e78 B8 => ?_⟩
      rw [tl] at w1
      obtain ⟨at_, rfl⟩ : ∃ q : Nat, at_ = (q : Int) := ⟨at_.toNat, by omega⟩
      have c8 := e78 _ _ c7 (by simpa using nb zc)
      have e8 := e7.trans e78
      refine ⟨_, rfl, .inl ⟨rfl, _, SqL.of c8⟩, _, rfl, ?_⟩
      have N8 := N.bagS e8 B8
      refine ⟨_, rfl, _, rfl, _, _, rfl, .inl (SqL.of N8.lf), _, _, rfl, rfl, b, c, _, rfl, B8, by omega, by rw [List.length_map]; exact log_ok (Nat.lt_of_le_of_lt (m := 400) (by omega) (by decide)), fun u1 H9 _ _ e89 B9 => ⟨_, _, rfl, rfl, ?_⟩⟩
      have e9 := e8.trans e89
      have N9 := N.bagS e9 B9
      refine ⟨_, rfl, _, rfl, _, _, rfl, .inl (SqL.of N9.ls), _, _, rfl, rfl, b, c, _, rfl, B9, by omega, by rw [List.length_map]; exact log_ok (Nat.lt_of_le_of_lt (m := 400) (by omega) (by decide)), fun u2 H10 _ _ e910 B10 => ⟨_, _, rfl, rfl, ?_⟩⟩
      have e10 := e9.trans e910
      have c10 := e910 _ _ (e89 _ _ c8 (by simpa using nb zc)) (by simpa using nb zc)
      refine ⟨by show 2 ≤ sizeLine; decide, fun t0 ht0 => ?_⟩
      dsimp only
      have g1 := (Fr.refl [] H10).new (o := .tup [.int (u1 - 1), .int (u2 - 1)]) ht0
      have t1 : (upd H10 t0 (.tup [.int (u1 - 1), .int (u2 - 1)])) t0 = some (.tup [.int (u1 - 1), .int (u2 - 1)]) := upd_same
      have e11 := e10.trans g1.nil
      have B11 := B10.new (o := .tup [.int (u1 - 1), .int (u2 - 1)]) ht0
      have c11 := g1 _ _ c10 (by simp)
      have nt0 : t0 ≠ qc := (ne_of_none c10 ht0).symm
      have x10 := e910 _ _ (e89 _ _ (e78 _ _ x7 (by simpa using nb zx)) (by simpa using nb zx)) (by simpa using nb zx)
      have s10 := e910 _ _ (e89 _ _ (e78 _ _ s7 (by simpa using nb zs)) (by simpa using nb zs)) (by simpa using nb zs)
      have a10 := e910 _ _ (e89 _ _ (e78 _ _ a7 (by simpa using nb zf)) (by simpa using nb zf)) (by simpa using nb zf)
      have d10 := e910 _ _ (e89 _ _ (e78 _ _ d7 (by simpa using nb zd)) (by simpa using nb zd)) (by simpa using nb zd)
      have x11 := g1 _ _ x10 (by simp)
      have s11 := g1 _ _ s10 (by simp)
      have a11 := g1 _ _ a10 (by simp)
      have d11 := g1 _ _ d10 (by simp)
      have tup11 : ∀ (k : Nat) (t : Addr) (p : Cir.Arc), ts[k]? = some t → cells[k]? = some p → (upd H10 t0 (.tup [.int (u1 - 1), .int (u2 - 1)])) t = some (.tup [.int p.1, .int p.2]) := fun k t p a b' => e11 _ _ (N.tup k t p a b') (by simpa using N.tb t (List.mem_of_getElem? a))
      generalize upd H10 t0 (.tup [.int (u1 - 1), .int (u2 - 1)]) = H11 at g1 t1 e11 B11 c11 x11 s11 a11 d11 tup11 ⊢
      refine ⟨_, _, _, _, rfl, rfl, c11, by rw [tl]; exact len_lt (by omega), by omega, by omega, ?_⟩
      rw [Int.toNat_natCast]
      have e12 := e11.put (p := qc) (o := .lst ((ts.map V.ref).take at_ ++ [.ref t0] ++ (ts.map V.ref).drop at_)) (.inr zc)
      have B12 := B11.put (o := .lst ((ts.map V.ref).take at_ ++ [.ref t0] ++ (ts.map V.ref).drop at_)) (nb zc) (nc zc)
      have c12 : (upd H11 qc (.lst ((ts.map V.ref).take at_ ++ [.ref t0] ++ (ts.map V.ref).drop at_))) qc = some (.lst ((ts.take at_ ++ [t0] ++ ts.drop at_).map V.ref)) := by
        rw [upd_same, List.map_append, List.map_append, List.map_take, List.map_drop]
        rfl
      have tup12 : ∀ (k : Nat) (t : Addr) (p : Cir.Arc), (ts.take at_ ++ [t0] ++ ts.drop at_)[k]? = some t → (cells.take at_ ++ [(u1 - 1, u2 - 1)] ++ cells.drop at_)[k]? = some p →
          (upd H11 qc (.lst ((ts.map V.ref).take at_ ++ [.ref t0] ++ (ts.map V.ref).drop at_))) t = some (.tup [.int p.1, .int p.2]) := fun k t p a b' => by
        have old : ∀ {k : Nat} {t : Addr} {p : Cir.Arc}, ts[k]? = some t → cells[k]? = some p → (upd H11 qc (.lst ((ts.map V.ref).take at_ ++ [.ref t0] ++ (ts.map V.ref).drop at_))) t = some (.tup [.int p.1, .int p.2]) := fun {k t p} a b' => by
          rw [upd_ne (ne_of (tup11 k t p a b') c11 (by intro z; cases z))]
          exact tup11 k t p a b'
        rcases ins_get (by rw [N.ln]; omega) a with ⟨i1, a⟩ | ⟨i1, rfl⟩ | ⟨i1, a⟩ <;> rcases ins_get (by omega) b' with ⟨i2, b'⟩ | ⟨i2, rfl⟩ | ⟨i2, b'⟩ <;> first | omega | skip
        · exact old a b'
        · rw [upd_ne nt0]
          exact t1
        · exact old a b'
      have x12 : (upd H11 qc (.lst ((ts.map V.ref).take at_ ++ [.ref t0] ++ (ts.map V.ref).drop at_))) qx = some (.lst (xs.map V.int)) := by rw [upd_ne nxc]; exact x11
      have s12 : (upd H11 qc (.lst ((ts.map V.ref).take at_ ++ [.ref t0] ++ (ts.map V.ref).drop at_))) qs = some (.lst (s'.map V.int)) := by rw [upd_ne ncs.symm]; exact s11
      have a12 : (upd H11 qc (.lst ((ts.map V.ref).take at_ ++ [.ref t0] ++ (ts.map V.ref).drop at_))) qf = some (.lst (f'.map V.int)) := by rw [upd_ne ncf.symm]; exact a11
      have d12 : (upd H11 qc (.lst ((ts.map V.ref).take at_ ++ [.ref t0] ++ (ts.map V.ref).drop at_))) qd = some (.lst [.ref qf, .ref qs]) := by rw [upd_ne ncd.symm]; exact d11
      generalize upd H11 qc (.lst ((ts.map V.ref).take at_ ++ [.ref t0] ++ (ts.map V.ref).drop at_)) = H12 at e12 B12 c12 tup12 x12 s12 a12 d12 ⊢
      refine ⟨_, rfl, .inl ⟨rfl, _, SqL.of x12⟩, _, rfl, ?_⟩
      refine ⟨_, rfl, _, rfl, b, c, d, rfl, B12, hd, hdl, fun y H13 y0 y1 e1213 B13 => ?_⟩
      have x13 := e1213 _ _ x12 (by simpa using nb zx)
      refine ⟨_, _, _, _, rfl, rfl, x13, by rw [List.length_map]; exact len_lt (by omega), by omega, by omega, ?_⟩
      rw [Int.toNat_natCast]
      have tb12 : ∀ {t : Addr} {l : List V}, H12 t = some (.tup l) → t ≠ b := fun h => by
        obtain ⟨i, v, s, hb⟩ := B12.b
        exact ne_of h hb (by intro z; cases z)
      refine ⟨ts.take at_ ++ [t0] ++ ts.drop at_, cells.take at_ ++ [(u1 - 1, u2 - 1)] ++ cells.drop at_, xs.take at_ ++ [y] ++ xs.drop at_, _, (e12.trans e1213).put (.inr zx), B13.put (nb zx) (nc zx), by rw [upd_ne nxf.symm]; exact e1213 _ _ a12 (by simpa using nb zf), by rw [upd_ne nxs.symm]; exact e1213 _ _ s12 (by simpa using nb zs),
        by rw [upd_ne nxd.symm]; exact e1213 _ _ d12 (by simpa using nb zd), by rw [upd_ne nxc.symm]; exact e1213 _ _ c12 (by simpa using nb zc), ?_, ?_, fun k t p a b' => ?_, ?_, ?_, rfl⟩
      · rw [upd_same, List.map_append, List.map_append, List.map_take, List.map_drop]
        rfl
      · simp [N.ln]
      · have h := tup12 k t p a b'
        have h2 := e1213 _ _ h (by simpa using tb12 h)
        rw [upd_ne (ne_of h2 x13 (by intro z; cases z))]
        exact h2
      · simp [hx]
      · simp
        omega
    clear e6 B6 a6 s6 d6 c6 x6 tup6
    rintro σ' H7 ⟨ts2, cells2, xs2, o12, e7, B7, a7, s7, d7, c7, x7, ln2, tup7, hx2, l7, rfl⟩
    have A7 : ArcsAt K H7 qc cells2 := ⟨ts2, SqL.of c7, ln2, fun k t p a b' => SqT.of (tup7 k t p a b')⟩
    refine ⟨_, rfl, _, _, _, _, rfl, rfl, SqL.of d7, rfl, _, rfl, _, _, _, _, rfl, rfl, SqL.of d7, rfl, _, rfl, ?_⟩
    refine ⟨qf, qs, qc, f', s', cells2, rfl, SqL.of a7, SqL.of s7, A7, by omega, by omega, by omega, fun r pr H8 ho1 e78 hd1 => ?_⟩
    refine ⟨_, rfl, _, _, _, _, rfl, rfl, SqL.of (e78 _ _ d7 (by simp)), rfl, _, rfl, _, _, _, _, rfl, rfl, SqL.of (e78 _ _ d7 (by simp)), rfl, _, rfl, _, rfl, _, rfl, ?_⟩
    refine ⟨qf, qs, qc, qx, f', s', cells2, xs2, d, rfl, SqL.of (e78 _ _ a7 (by simp)), SqL.of (e78 _ _ s7 (by simp)), A7.fr e78, SqL.of (e78 _ _ x7 (by simp)), by omega, by omega, by omega, hx2, hd, log_ok dl, fun r2 p2 H9 ho2 e89 hd2 => ?_⟩
    have er := ho2.uniq ho1
    subst er
    have ok := ho2.ok (by omega) (by omega) (by omega)
    refine ⟨_, rfl, _, _, r2, rfl, hd2, dp_fr e89 _ _ hd1, ok.shaped, ok.show_, ok.line, ?_⟩
    exact k _ ((e7.trans e78.nil).trans e89.nil) ((B7.fr e78 (by simp) (by simp)).fr e89 (by simp) (by simp))
end
section
variable {P : Program} {w : World} {K : PySem.W.Frag} {mg : Str → Option Value} {base : Heap} {CD CA CU CL CC CB : Addr}
theorem ok_law {f : Addr} {fd : FuncData} (F : Fun K "law" "law" s_law f fd) (T : Blt mg) (F_law_bag : FnB P w K mg base CX0 1 "_law_bag" ["script"] (spBag K)) (F_law_take : FnB P w K mg base CX0 1 "_law_take" ["bag", "many"] spTake)
    (F_law_parents : FnB P w K mg base CX0 2 "_law_parents" ["bag", "most"] spParents) (F_law_part : FnB P w K mg base CX0 2 "_law_part" ["bag", "divisor"] spPart) (F_law_totaled : FnGB P w K mg base CX0 2 "_law_totaled" ["first", "second", "cells", "amounts"] (spTotaled K))
    (F_rounded_cells : FnB P w K mg base (L2.CX P w) 5 "rounded_cells" ["first", "second", "cells", "amounts", "divisor"] (spRC K CL CC)) (F_law_right : FnB P w K mg base CX0 2 "_law_right" ["first", "second", "cells", "amounts", "divisor", "told"] (spRight K))
    (F_law_same : FnGB P w K mg base CX0 1 "_law_same" ["left", "right"] (spSameX K)) (F_law_refused : FnGB P w K mg base CX0 7 "_law_refused" ["bag", "first", "second", "cells", "amounts", "divisor"] (spRefused K)) : FnG P w K mg base CX0 8 f fd ["script"] (spLaw K) := by
  refine F.okG sc_law (fun vs H Q E h => ?_) (fun cdv A outer s H vs Q E hr hgu h => ?_)
  · obtain ⟨a, ns, rfl, _⟩ := h
    rfl
  · obtain ⟨a, ns, rfl, hS, hlen, k⟩ := h
    refine ⟨_, (pss_cons (ps_set (i := 1) sc_law.nd rfl (Or.inl rfl) (pe_callF F_law_bag (hr.mono (by decide)) rfl pass0 (pa_cons (pv 0) pa_nil)))
    (pss_cons (ps_set (i := 2) sc_law.nd rfl (Or.inl rfl) (pe_callF F_law_parents (hr.mono (by decide)) rfl pass0 (pa_cons (pv 1) (pa_cons pe_int pa_nil))))
    (pss_cons (ps_set (i := 3) sc_law.nd rfl (Or.inl rfl) (pe_callF F_law_parents (hr.mono (by decide)) rfl pass0 (pa_cons (pv 1) (pa_cons pe_int pa_nil))))
    (pss_cons (ps_set (i := 4) sc_law.nd rfl (Or.inl rfl) (pe_cmpR op_eq (pe_callF F_law_take (hr.mono (by decide)) rfl pass0 (pa_cons (pv 1) (pa_cons pe_int pa_nil))) pe_int (nomark _)))
    (Evl.pss_cut (ps_if (pt_val (pv 4))
      (pss_cons (ps_set (i := 2) sc_law.nd rfl (Or.inl rfl) (pe_callF F_law_parents (hr.mono (by decide)) rfl pass0 (pa_cons (pv 1) (pa_cons pe_int pa_nil))))
      (pss_one (ps_set (i := 3) sc_law.nd rfl (Or.inl rfl) (pe_callF F_law_parents (hr.mono (by decide)) rfl pass0 (pa_cons (pv 1) (pa_cons pe_int pa_nil))))))
      pss_nil)
    (pss_cons (ps_set (i := 5) sc_law.nd rfl (Or.inl rfl) (pe_op op_add pe_int (pe_callF F_law_take (hr.mono (by decide)) rfl pass0 (pa_cons (pv 1) (pa_cons pe_int pa_nil)))))
    (Evl.pss_cut (ps_if (pt_cmpR op_eq (pe_callF F_law_take (hr.mono (by decide)) rfl pass0 (pa_cons (pv 1) (pa_cons pe_int pa_nil))) pe_int (nomark _))
      (pss_one (ps_set (i := 5) sc_law.nd rfl (Or.inl rfl) (pe_op op_add (pe_op op_pow pe_int pe_int) (pe_callF F_law_take (hr.mono (by decide)) rfl pass0 (pa_cons (pv 1) (pa_cons pe_int pa_nil))))))
      pss_nil)
    (pss_cons (ps_set (i := 6) sc_law.nd rfl (Or.inl rfl) (pe_lst pa_nil))
    (pss_cons (ps_set (i := 7) sc_law.nd rfl (Or.inl rfl) (pe_lst pa_nil))
    (Evl.pss_cut (ps_if (PW.pt (pw_and (pt_cmpR op_gt (pe_callB call_len_seq (by rfl) T.m_len (by decide +kernel) (pa_cons (pv 2) pa_nil)) pe_int (nomark _)) (pw_and1 (pt_cmpR op_gt (pe_callB call_len_seq (by rfl) T.m_len (by decide +kernel) (pa_cons (pv 3) pa_nil)) pe_int (nomark _)))))
      (pss_one (ps_for PassesOwn.never rfl (pi_range1 (by rfl) T.m_range (pa_cons (pe_op op_add pe_int (pe_callF F_law_take (hr.mono (by decide)) rfl pass0 (pa_cons (pv 1) (pa_cons (pe_ifExp (pt_val (pv 4)) pe_int pe_int) pa_nil)))) pa_nil)) (pg_name (i := 8) sc_law.nd rfl (Or.inl rfl))
        (pss_cons (ps_expr (pe_bm PySem.F.plainAttrs_list PySem.F.slot_list_append PySem.F.type_list_append mt_append (pv 6) (pa_cons (pe_tup (pa_cons (pe_callF F_law_take (hr.mono (by decide)) rfl pass0 (pa_cons (pv 1) (pa_cons (pe_callB call_len_seq (by rfl) T.m_len (by decide +kernel) (pa_cons (pv 2) pa_nil)) pa_nil))) (pa_cons (pe_callF F_law_take (hr.mono (by decide)) rfl pass0 (pa_cons (pv 1) (pa_cons (pe_callB call_len_seq (by rfl) T.m_len (by decide +kernel) (pa_cons (pv 3) pa_nil)) pa_nil))) pa_nil))) pa_nil)))
        (pss_one (ps_expr (pe_bm PySem.F.plainAttrs_list PySem.F.slot_list_append PySem.F.type_list_append mt_append (pv 7) (pa_cons (pe_callF F_law_part (hr.mono (by decide)) rfl pass0 (pa_cons (pv 1) (pa_cons (pv 5) pa_nil))) pa_nil)))))))
      pss_nil)
    (pss_cons (ps_if (pt_not (pt_val (pe_callG F_law_totaled (hr.mono (by decide)) hgu rfl pass0 (pa_cons (pv 2) (pa_cons (pv 3) (pa_cons (pv 6) (pa_cons (pv 7) pa_nil)))))))
      (pss_one (ps_ret pe_bl))
      pss_nil)
    (pss_cons (ps_set (i := 9) sc_law.nd rfl (Or.inl rfl) (pe_lst (pa_cons (pe_callTy call_list_of (by rfl) T.m_list (by decide +kernel) (pa_cons (pv 2) pa_nil)) (pa_cons (pe_callTy call_list_of (by rfl) T.m_list (by decide +kernel) (pa_cons (pv 3) pa_nil)) (pa_cons (pe_callTy call_list_of (by rfl) T.m_list (by decide +kernel) (pa_cons (pv 6) pa_nil)) (pa_cons (pe_callTy call_list_of (by rfl) T.m_list (by decide +kernel) (pa_cons (pv 7) pa_nil)) pa_nil))))))
    (pss_cons (ps_set (i := 10) sc_law.nd rfl (Or.inl rfl) (pe_callF F_rounded_cells (hr.mono (by decide)) rfl passN (pa_cons (pe_ix ix_list (pv 9) pe_int (fun _ _ => rfl)) (pa_cons (pe_ix ix_list (pv 9) pe_int (fun _ _ => rfl)) (pa_cons (pe_ix ix_list (pv 9) pe_int (fun _ _ => rfl)) (pa_cons (pe_ix ix_list (pv 9) pe_int (fun _ _ => rfl)) (pa_cons (pv 5) pa_nil)))))))
    (pss_cons (ps_if (pt_cmpR (op_neD hr.units) (pv 9) (pe_lst (pa_cons (pv 2) (pa_cons (pv 3) (pa_cons (pv 6) (pa_cons (pv 7) pa_nil))))) (nomark _))
      (pss_one (ps_ret pe_bl))
      pss_nil)
    (pss_cons (ps_if (pt_not (pt_val (pe_callF F_law_right (hr.mono (by decide)) rfl pass0 (pa_cons (pv 2) (pa_cons (pv 3) (pa_cons (pv 6) (pa_cons (pv 7) (pa_cons (pv 5) (pa_cons (pv 10) pa_nil)))))))))
      (pss_one (ps_ret pe_bl))
      pss_nil)
    (pss_cons (ps_set (i := 11) sc_law.nd rfl (Or.inl rfl) (pe_callTy call_list_of (by rfl) T.m_list (by decide +kernel) (pa_cons (pv 10) pa_nil)))
    (pss_cons (ps_expr (pe_bm PySem.F.plainAttrs_list PySem.F.slot_list_append PySem.F.type_list_append mt_append (pv 10) (pa_cons pe_int pa_nil)))
    (pss_cons (ps_asg (pe_op op_add (pe_ix ix_list (pv 10) pe_int (fun _ _ => rfl)) pe_int) (pg_sub (pv 10) pe_int set_list))
    (pss_cons (ps_if (pt_not (pt_val (pe_callG F_law_same (hr.mono (by decide)) hgu rfl pass0 (pa_cons (pe_callF F_rounded_cells (hr.mono (by decide)) rfl passN (pa_cons (pe_callTy call_list_of (by rfl) T.m_list (by decide +kernel) (pa_cons (pv 2) pa_nil)) (pa_cons (pe_callTy call_list_of (by rfl) T.m_list (by decide +kernel) (pa_cons (pv 3) pa_nil)) (pa_cons (pe_callTy call_list_of (by rfl) T.m_list (by decide +kernel) (pa_cons (pv 6) pa_nil)) (pa_cons (pe_callTy call_list_of (by rfl) T.m_list (by decide +kernel) (pa_cons (pv 7) pa_nil)) (pa_cons (pv 5) pa_nil)))))) (pa_cons (pv 11) pa_nil)))))
      (pss_one (ps_ret pe_bl))
      pss_nil)
    (pss_cons (ps_for PassesOwn.never rfl (pi_range1 (by rfl) T.m_range (pa_cons pe_int pa_nil)) (pg_name (i := 12) sc_law.nd rfl (Or.inl rfl))
      (pss_one (ps_if (pt_not (pt_val (pe_callG F_law_refused (hr.mono (by decide)) hgu rfl pass0 (pa_cons (pv 1) (pa_cons (pv 2) (pa_cons (pv 3) (pa_cons (pv 6) (pa_cons (pv 7) (pa_cons (pv 5) pa_nil)))))))))
        (pss_one (ps_ret pe_bl))
        pss_nil)))
    (pss_one (ps_ret pe_bl)))))))))))))))))))))), ?_⟩
    refine ⟨_, rfl, a, ns, rfl, hS, by omega, fun b c H1 hb hc e1 B1 => ?_⟩
    clear e1 hb hc
    refine ⟨_, rfl, b, c, 12, rfl, B1, by decide, by decide, fun first pf H2 okf lf e2 B2 npf hpf => ?_⟩
    have nf : pf ≠ b := B1.neb npf
    refine ⟨_, rfl, b, c, 12, rfl, B2, by decide, by decide, fun second ps H3 oks ls e3 B3 nps hps => ?_⟩
    have ns' : ps ≠ b := B2.neb nps
    have hpf := e3 _ _ hpf (by simpa using nf)
    refine ⟨_, rfl, b, c, 30, rfl, B3, by decide, by decide, fun t H4 t0 t1 e4 B4 => ⟨rfl, ?_⟩⟩
    have hpf := e4 _ _ hpf (by simpa using nf)
    have hps := e4 _ _ hps (by simpa using ns')
    dsimp only
    generalize decide (V.int t = V.int 0) = lb
    refine ⟨fun σ' H' => ∃ (pf ps : Addr) (first second : List Int), pf ≠ b ∧ ps ≠ b ∧ H' pf = some (.lst (first.map V.int)) ∧ H' ps = some (.lst (second.map V.int)) ∧ BagC H' b c ∧ Fam.OkPar first ∧ Fam.OkPar second ∧ first.length ≤ 40 ∧ second.length ≤ 40 ∧
      σ' = [some (.ref a), some (.ref b), some (.ref pf), some (.ref ps), some (.bl lb), none, none, none, none, none, none, none, none], ?_, ?_⟩
    · refine ⟨_, rfl, _, rfl, bool_iff (fun _ => ?_) fun _ => ⟨pf, ps, first, second, nf, ns', hpf, hps, B4, okf, oks, lf, ls, rfl⟩⟩
      refine ⟨_, rfl, b, c, 40, rfl, B4, by decide, by decide, fun first pf H5 okf lf e5 B5 npf hpf => ?_⟩
      have nf : pf ≠ b := B4.neb npf
      refine ⟨_, rfl, b, c, 40, rfl, B5, by decide, by decide, fun second ps H6 oks ls e6 B6 nps hps => ?_⟩
      exact ⟨pf, ps, first, second, nf, B5.neb nps, e6 _ _ hpf (by simpa using nf), hps, B6, okf, oks, lf, ls, rfl⟩
    clear hpf hps B1 B2 B3 B4 e2 e3 e4 nf ns' npf nps okf oks lf ls t0 t1
    rintro σ' H4 ⟨pf, ps, first, second, nf, ns', hpf, hps, B4, okf, oks, lf, ls, rfl⟩
    -- divisor
    refine ⟨_, rfl, b, c, 60, rfl, B4, by decide, by decide, fun t H5 t0 t1 e5 B5 => ⟨_, _, rfl, rfl, ?_⟩⟩
    have hpf := e5 _ _ hpf (by simpa using nf)
    have hps := e5 _ _ hps (by simpa using ns')
    refine ⟨fun σ' H' => ∃ d : Int, 0 < d ∧ d < 2 ^ 101 ∧ BagC H' b c ∧ H' pf = some (.lst (first.map V.int)) ∧ H' ps = some (.lst (second.map V.int)) ∧ σ' = [some (.ref a), some (.ref b), some (.ref pf), some (.ref ps), some (.bl lb), some (.int d), none, none, none, none, none, none, none], ?_, ?_⟩
    · refine ⟨_, rfl, b, c, 8, rfl, B5, by decide, by decide, fun z H6 z0 z1 e6 B6 => ⟨rfl, _, rfl, ?_⟩⟩
      have hpf := e6 _ _ hpf (by simpa using nf)
      have hps := e6 _ _ hps (by simpa using ns')
      refine eq_if (fun _ => ?_) fun _ => ⟨1 + t, by omega, by
        have : (61 : Int) < 2 ^ 101 := by decide
        omega, B6, hpf, hps, rfl⟩
      refine ⟨_, _, rfl, rfl, ⟨by decide, by decide, by decide⟩, _, rfl, b, c, 1000000, rfl, B6, by decide, by decide, fun z2 H7 z3 z4 e7 B7 => ⟨_, _, rfl, rfl, ?_⟩⟩
      have e30 : (10 : Int) ^ (30 : Int).toNat = 1000000000000000000000000000000 := by decide
      have e101 : (2 : Int) ^ 101 = 2535301200456458802993406410752 := by decide
      exact ⟨10 ^ (30 : Int).toNat + z2, by rw [e30]; omega, by rw [e30, e101]; omega, B7, e7 _ _ hpf (by simpa using nf), e7 _ _ hps (by simpa using ns'), rfl⟩
    clear hpf hps B4 B5 e5 t0 t1
    rintro σ' H5 ⟨d, hd, hdl, B5, hpf, hps, rfl⟩
    have dl : d.natAbs < 2 ^ 250 := by
      have : (2 : Int) ^ 101 < 2 ^ 250 := by decide
      omega
    -- cells, amounts
    refine ⟨by show 0 ≤ sizeLine; exact Nat.zero_le _, fun pc hpc => ⟨by show 0 ≤ sizeLine; exact Nat.zero_le _, fun px hpx => ?_⟩⟩
    have N0 : FS b c pf ps pc px (upd (upd H5 pc (.lst [])) px (.lst [])) first second [] [] [] := by
      have e := ((Fr.refl [] H5).new (o := .lst []) hpc).new (o := .lst []) hpx
      exact ⟨B5.fr e (by simp) (by simp), e _ _ hpf (by simp), e _ _ hps (by simp), by rw [upd_ne (ne_of_none upd_same hpx)]; exact upd_same, upd_same, rfl, fun k t p a => by simp at a, nf, ns', B5.neb hpc, (B5.new hpc).neb hpx⟩
    have nfc : pf ≠ pc := ne_of_none hpf hpc
    have nsc : ps ≠ pc := ne_of_none hps hpc
    have ncx : pc ≠ px := ne_of_none upd_same hpx
    have nfx : pf ≠ px := ne_of_none (o := .lst (first.map V.int)) (by rw [upd_ne nfc]; exact hpf) hpx
    have nsx : ps ≠ px := ne_of_none (o := .lst (second.map V.int)) (by rw [upd_ne nsc]; exact hps) hpx
    have ncb : pc ≠ c := B5.nec hpc
    have nxc : px ≠ c := (B5.new (o := .lst []) hpc).nec hpx
    generalize upd (upd H5 pc (.lst [])) px (.lst []) = H6 at N0 ⊢
    clear hpf hps hpc hpx B5
    refine ⟨fun σ' H' => ∃ (ts : List Addr) (cells : List Cir.Arc) (xs : List Int) (o8 : Option V), FS b c pf ps pc px H' first second ts cells xs ∧ cells.length ≤ 300 ∧ xs.length = cells.length ∧ Fam.OkCells first.length second.length cells ∧ (∀ i, i < xs.length → -(10 ^ 34) ≤ Cir.part xs i ∧ Cir.part xs i ≤ 10 ^ 34) ∧
      σ' = [some (.ref a), some (.ref b), some (.ref pf), some (.ref ps), some (.bl lb), some (.int d), some (.ref pc), some (.ref px), o8, none, none, none, none], ?_, ?_⟩
    · have stop : ∃ (ts : List Addr) (cells : List Cir.Arc) (xs : List Int) (o8 : Option V), FS b c pf ps pc px H6 first second ts cells xs ∧ cells.length ≤ 300 ∧ xs.length = cells.length ∧ Fam.OkCells first.length second.length cells ∧ (∀ i, i < xs.length → -(10 ^ 34) ≤ Cir.part xs i ∧ Cir.part xs i ≤ 10 ^ 34) ∧
          [some (V.ref a), some (.ref b), some (.ref pf), some (.ref ps), some (.bl lb), some (.int d), some (.ref pc), some (.ref px), none, none, none, none, none] = [some (.ref a), some (.ref b), some (.ref pf), some (.ref ps), some (.bl lb), some (.int d), some (.ref pc), some (.ref px), o8, none, none, none, none] :=
        ⟨[], [], [], none, N0, by simp, rfl, fun _ h => by simp at h, fun i h => by simp at h, rfl⟩
      refine ⟨_, rfl, _, _, rfl, .inl (SqL.of N0.lf), _, _, rfl, rfl, _, rfl, dec_iff (fun pos1 => ?_) fun _ => iteF stop⟩
      refine ⟨_, rfl, _, _, rfl, .inl (SqL.of N0.ls), _, _, rfl, rfl, _, rfl, dec_iff (fun pos2 => ?_) fun _ => stop⟩
      rw [List.length_map] at pos1 pos2
      refine ⟨_, rfl, ?_⟩
      refine tIf_q lb 198 13 (fun R h => ⟨_, rfl, _, rfl, h⟩) (fun R h => h) (fun R h => h) ?_
      have m1 : 0 < (if lb = true then (198 : Int) else 13) ∧ (if lb = true then (198 : Int) else 13) ≤ 198 := by cases lb <;> decide
      refine ⟨b, c, _, rfl, N0.bag, m1.1, log_ok (Nat.lt_of_le_of_lt (m := 1000) (by omega) (by decide)), fun t H7 t0 t1 e7 B7 => ⟨_, _, rfl, rfl, ?_⟩⟩
      obtain ⟨tn, rfl⟩ : ∃ tn : Nat, t = (tn : Int) := ⟨t.toNat, by omega⟩
      refine ⟨((2 + tn : Nat) : Int), congrArg (fun z => [V.int z]) (by omega), (rg_ok (by omega)).1, (rg_ok (by omega)).2, for_rng (n := 2 + tn)
        (fun i σ H' => ∃ (ts : List Addr) (cells : List Cir.Arc) (xs : List Int) (o8 : Option V), FS b c pf ps pc px H' first second ts cells xs ∧ cells.length = i ∧ xs.length = i ∧ Fam.OkCells first.length second.length cells ∧ (∀ i, i < xs.length → -(10 ^ 34) ≤ Cir.part xs i ∧ Cir.part xs i ≤ 10 ^ 34) ∧
          σ = [some (.ref a), some (.ref b), some (.ref pf), some (.ref ps), some (.bl lb), some (.int d), some (.ref pc), some (.ref px), o8, none, none, none, none])
        ⟨[], [], [], _, N0.bagS e7 B7, rfl, rfl, fun _ h => by simp at h, fun i h => by simp at h, rfl⟩ ?_ ?_⟩
      · clear N0 stop e7 B7 t0
        rintro i σ H8 hi ⟨ts, cells, xs, o8, N8, lc, lx, okc, bx, rfl⟩
        refine ⟨_, rfl, .inl ⟨rfl, _, SqL.of N8.lc⟩, ?_⟩
        refine ⟨_, rfl, _, rfl, _, _, rfl, .inl (SqL.of N8.lf), b, c, _, rfl, N8.bag, by rw [List.length_map]; omega, by rw [List.length_map]; exact log_ok (Nat.lt_of_le_of_lt (m := 400) (by omega) (by decide)), fun u1 H9 u10 u11 e9 B9 => ?_⟩
        have N9 := N8.bagS e9 B9
        refine ⟨_, rfl, _, rfl, _, _, rfl, .inl (SqL.of N9.ls), b, c, _, rfl, N9.bag, by rw [List.length_map]; omega, by rw [List.length_map]; exact log_ok (Nat.lt_of_le_of_lt (m := 400) (by omega) (by decide)), fun u2 H10 u20 u21 e10 B10 => ?_⟩
        have N10 := N9.bagS e10 B10
        rw [List.length_map] at u11 u21
        refine ⟨by show 2 ≤ sizeLine; decide, fun t0' ht0 => ?_⟩
        have N11 := N10.new (o := .tup [.int u1, .int u2]) ht0
        have t11 : (upd H10 t0' (.tup [.int u1, .int u2])) t0' = some (.tup [.int u1, .int u2]) := upd_same
        generalize upd H10 t0' (.tup [.int u1, .int u2]) = H11 at N11 t11 ⊢
        refine ⟨_, _, _, rfl, rfl, N11.lc, len_lt (by rw [List.length_map, N11.ln]; omega), ?_⟩
        have nt : ∀ {t : Addr} {l : List V}, H11 t = some (.tup l) → t ≠ pc := fun h => ne_of h N11.lc (by intro z; cases z)
        have N12 : FS b c pf ps pc px (upd H11 pc (.lst (ts.map V.ref ++ [.ref t0']))) first second (ts ++ [t0']) (cells ++ [(u1, u2)]) xs := by
          refine ⟨N11.bag.put N11.nc ncb, by rw [upd_ne nfc]; exact N11.lf, by rw [upd_ne nsc]; exact N11.ls, by rw [upd_same, List.map_append]; rfl, by rw [upd_ne ncx.symm]; exact N11.lx, by simp [N11.ln], fun k t p a b' => ?_, N11.nf, N11.ns, N11.nc, N11.nx⟩
          rcases Cir.getElem?_snoc_last a with ⟨hl, a⟩ | ⟨hl, rfl⟩
          · rw [List.getElem?_append_left (by rw [← N11.ln]; exact hl)] at b'
            have h := N11.tup k t p a b'
            rw [upd_ne (nt h)]
            exact h
          · rw [hl, N11.ln, List.getElem?_append_right (Nat.le_refl _), Nat.sub_self] at b'
            cases Option.some.inj b'
            rw [upd_ne (nt t11)]
            exact t11
        generalize upd H11 pc (.lst (ts.map V.ref ++ [.ref t0'])) = H12 at N12 ⊢
        refine ⟨_, rfl, .inl ⟨rfl, _, SqL.of N12.lx⟩, ?_⟩
        refine ⟨_, rfl, _, rfl, b, c, d, rfl, N12.bag, hd, hdl, fun y H13 y0 y1 e13 B13 => ?_⟩
        have N13 := N12.bagS e13 B13
        refine ⟨_, _, _, rfl, rfl, N13.lx, len_lt (by rw [List.length_map]; omega), ?_⟩
        have nt2 : ∀ {t : Addr} {l : List V}, H13 t = some (.tup l) → t ≠ px := fun h => ne_of h N13.lx (by intro z; cases z)
        refine ⟨ts ++ [t0'], cells ++ [(u1, u2)], xs ++ [y], _, ⟨N13.bag.put N13.nx nxc, by rw [upd_ne nfx]; exact N13.lf, by rw [upd_ne nsx]; exact N13.ls, by rw [upd_ne ncx]; exact N13.lc, by rw [upd_same, List.map_append]; rfl, N13.ln, fun k t p a b' => ?_, N13.nf, N13.ns, N13.nc, N13.nx⟩, by simp [lc], by simp [lx], fun q hq => ?_, fun j hj => ?_, rfl⟩
        · have h := N13.tup k t p a b'
          rw [upd_ne (nt2 h)]
          exact h
        · rcases List.mem_append.mp hq with hq | hq
          · exact okc q hq
          · rw [List.mem_singleton] at hq
            rw [hq]
            exact ⟨⟨u10, u11⟩, u20, u21⟩
        · by_cases cj : j < xs.length
          · rw [Cir.part_snoc_lt cj]
            exact bx j cj
          · have : j = xs.length := by
              rw [List.length_append, List.length_singleton] at hj
              omega
            rw [this, Cir.part_snoc]
            have e101 : (2 : Int) ^ 101 = 2535301200456458802993406410752 := by decide
            have e34 : (10 : Int) ^ 34 = 10000000000000000000000000000000000 := by decide
            rw [e101] at hdl
            rw [e34]
            omega
      · rintro σ H8 ⟨ts, cells, xs, o8, N8, lc, lx, okc, bx, rfl⟩
        exact ⟨ts, cells, xs, _, N8, by omega, by omega, okc, bx, rfl⟩
    clear N0
    rintro σ' H7 ⟨ts, cells, xs, o8, N7, l3, hx, okc, bx, rfl⟩
    -- totaled
    refine ⟨_, rfl, _, rfl, _, rfl, _, rfl, pf, ps, pc, px, first, second, cells, xs, rfl, SqL.of N7.lf, SqL.of N7.ls, N7.arcs, SqL.of N7.lx, lf, ls, l3, hx, okf, oks, okc, bx, fun H8 e8 => ⟨_, rfl, iteN rfl ?_⟩⟩
    have N8 := N7.fr e8
    clear N7 e8
    -- passed
    refine ⟨_, rfl, _, _, rfl, .inl (SqL.of N8.lf), fun q1 hq1 => ?_⟩
    have f1 := (Fr.refl [] H8).new (o := .lst (first.map V.int)) hq1
    have a1 : (upd H8 q1 (.lst (first.map V.int))) q1 = some (.lst (first.map V.int)) := upd_same
    have N9 := N8.fr f1
    generalize upd H8 q1 (.lst (first.map V.int)) = H9 at f1 a1 N9 ⊢
    refine ⟨_, rfl, _, _, rfl, .inl (SqL.of N9.ls), fun q2 hq2 => ?_⟩
    have f2 := (Fr.refl [] H9).new (o := .lst (second.map V.int)) hq2
    have s1 : (upd H9 q2 (.lst (second.map V.int))) q2 = some (.lst (second.map V.int)) := upd_same
    have a1 := f2 _ _ a1 (by simp)
    have N10 := N9.fr f2
    generalize upd H9 q2 (.lst (second.map V.int)) = H10 at f2 a1 s1 N10 ⊢
    refine ⟨_, rfl, _, _, rfl, .inl (SqL.of N10.lc), fun q3 hq3 => ?_⟩
    have f3 := (Fr.refl [] H10).new (o := .lst (ts.map V.ref)) hq3
    have c1 : (upd H10 q3 (.lst (ts.map V.ref))) q3 = some (.lst (ts.map V.ref)) := upd_same
    have a1 := f3 _ _ a1 (by simp)
    have s1 := f3 _ _ s1 (by simp)
    have N11 := N10.fr f3
    generalize upd H10 q3 (.lst (ts.map V.ref)) = H11 at f3 a1 s1 c1 N11 ⊢
    refine ⟨_, rfl, _, _, rfl, .inl (SqL.of N11.lx), fun q4 hq4 => ?_⟩
    have f4 := (Fr.refl [] H11).new (o := .lst (xs.map V.int)) hq4
    have x1 : (upd H11 q4 (.lst (xs.map V.int))) q4 = some (.lst (xs.map V.int)) := upd_same
    have a1 := f4 _ _ a1 (by simp)
    have s1 := f4 _ _ s1 (by simp)
    have c1 := f4 _ _ c1 (by simp)
    have N12 := N11.fr f4
    generalize upd H11 q4 (.lst (xs.map V.int)) = H12 at f4 a1 s1 c1 x1 N12 ⊢
    refine ⟨by show 4 ≤ sizeLine; decide, fun qp hqp => ?_⟩
    have f5 := (Fr.refl [] H12).new (o := .lst [.ref q1, .ref q2, .ref q3, .ref q4]) hqp
    have p1 : (upd H12 qp (.lst [.ref q1, .ref q2, .ref q3, .ref q4])) qp = some (.lst [.ref q1, .ref q2, .ref q3, .ref q4]) := upd_same
    have a1 := f5 _ _ a1 (by simp)
    have s1 := f5 _ _ s1 (by simp)
    have c1 := f5 _ _ c1 (by simp)
    have x1 := f5 _ _ x1 (by simp)
    have N13 := N12.fr f5
    generalize upd H12 qp (.lst [.ref q1, .ref q2, .ref q3, .ref q4]) = H13 at f5 a1 s1 c1 x1 p1 N13 ⊢
    clear N8 N9 N10 N11 N12 f1 f2 f3 f4 f5 hq1 hq2 hq3 hq4 hqp
    -- told
    have A13 : ArcsAt K H13 q3 cells := ⟨ts, SqL.of c1, N13.ln, fun k t p a b' => SqT.of (N13.tup k t p a b')⟩
    refine ⟨_, rfl, _, _, _, _, rfl, rfl, SqL.of p1, rfl, _, rfl, _, _, _, _, rfl, rfl, SqL.of p1, rfl, _, rfl, _, _, _, _, rfl, rfl, SqL.of p1, rfl, _, rfl, _, _, _, _, rfl, rfl, SqL.of p1, rfl, _, rfl, ?_⟩
    have nok : ∀ {k : Nat} {ps : List Int}, Fam.OkPar ps → k < ps.length → okP ps k := fun h hk => h _ hk
    refine ⟨q1, q2, q3, q4, first, second, cells, xs, d, rfl, SqL.of a1, SqL.of s1, A13, SqL.of x1, by omega, by omega, by omega, hx, hd, log_ok dl, fun _ _ _ pt H14 hpt e14 hr14 => ?_, fun k hk hb => absurd (nok okf hk) hb, fun _ k hk hb => absurd (nok oks hk) hb, fun _ _ k hk hb => absurd (okCells.mp okc k hk) hb⟩
    obtain ⟨R1, R2, _⟩ := Fam.roundC_ok okf oks okc hx hd
    have N14 := N13.fr e14
    have fresh : ∀ {x : Addr} {o : HO}, H13 x = some o → x ≠ pt := fun h => ne_of_none h hpt
    have a1 := e14 _ _ a1 (by simp)
    have s1 := e14 _ _ s1 (by simp)
    have c1 := e14 _ _ c1 (by simp)
    have x1 := e14 _ _ x1 (by simp)
    have p1 := e14 _ _ p1 (by simp)
    -- as they were
    refine ⟨_, rfl, _, rfl, _, rfl, _, rfl, _, rfl, by show 4 ≤ sizeLine; decide, fun pz hpz => ?_⟩
    have f6 := (Fr.refl [] H14).new (o := .lst [.ref pf, .ref ps, .ref pc, .ref px]) hpz
    have z6 : (upd H14 pz (.lst [.ref pf, .ref ps, .ref pc, .ref px])) pz = some (.lst [.ref pf, .ref ps, .ref pc, .ref px]) := upd_same
    have N15 := N14.fr f6
    have hr15 := f6 _ _ hr14 (by simp)
    generalize upd H14 pz (.lst [.ref pf, .ref ps, .ref pc, .ref px]) = H15 at f6 z6 N15 hr15 ⊢
    have ok := dAll_ok first second cells xs
    refine ⟨dAll first second cells xs, dAll first second cells xs, dp_all (f6 _ _ p1 (by simp)) (f6 _ _ a1 (by simp)) (f6 _ _ s1 (by simp)) (f6 _ _ c1 (by simp)) N15.ln N15.tup (f6 _ _ x1 (by simp)), dp_all z6 N15.lf N15.ls N15.lc N15.ln N15.tup N15.lx, ok.1, ok.1, ?_⟩
    rw [ok.2]
    refine ⟨_, rfl, iteN rfl ?_⟩
    -- right
    refine ⟨_, rfl, _, rfl, _, rfl, _, rfl, _, rfl, _, rfl, pf, ps, pc, px, pt, first, second, cells, xs, d, rfl, SqL.of N15.lf, SqL.of N15.ls, N15.arcs, SqL.of N15.lx, hr15, lf, ls, l3, hx, hd, hdl, okf, oks, okc, bx, fun H16 e16 => ⟨_, rfl, iteN rfl ?_⟩⟩
    have N16 := N15.fr e16
    have hr16 := e16 _ _ hr15 (by simp)
    clear a1 s1 c1 x1 p1 f6 z6 N15 hr15 hr14 N14 hpz ok e16 A13
    -- bounds of what is told
    have tb : OkD 1 13000 (dInts (Fam.roundC first second cells xs d)) := ints40 (M := 10 ^ 36) (fun j hj => by
      rw [R1] at hj
      have r := R2 j hj
      have m := bx j (by omega)
      have e34 : (10 : Int) ^ 34 = 10000000000000000000000000000000000 := by decide
      have e36 : (10 : Int) ^ 36 = 1000000000000000000000000000000000000 := by decide
      rw [e34] at m
      rw [e36]
      have b0 : (10000000000000000000000000000000000 : Int) * 1 ≤ 10000000000000000000000000000000000 * d := Int.mul_le_mul_of_nonneg_left (by omega) (by decide)
      have c1 : Cir.part (Fam.roundC first second cells xs d) j * d < 10000000000000000000000000000000001 * d := by omega
      have c2 : -10000000000000000000000000000000001 * d < Cir.part (Fam.roundC first second cells xs d) j * d := by omega
      have d1 := Int.lt_of_mul_lt_mul_right c1 (by omega)
      have d2 := Int.lt_of_mul_lt_mul_right c2 (by omega)
      omega) (by decide) (by omega)
    generalize hrs : Fam.roundC first second cells xs d = rs at hr16 R1 tb
    -- kept, told.append(1), told[0] = ..
    refine ⟨_, rfl, _, _, rfl, .inl (SqL.of hr16), fun pk hpk => ?_⟩
    have f7 := (Fr.refl [] H16).new (o := .lst (rs.map V.int)) hpk
    have k17 : (upd H16 pk (.lst (rs.map V.int))) pk = some (.lst (rs.map V.int)) := upd_same
    have N17 := N16.fr f7
    have hr17 := f7 _ _ hr16 (by simp)
    have npk : pk ≠ pt := (ne_of_none hr16 hpk).symm
    generalize upd H16 pk (.lst (rs.map V.int)) = H17 at f7 k17 N17 hr17 ⊢
    refine ⟨_, rfl, .inl ⟨rfl, _, SqL.of hr17⟩, _, _, _, rfl, rfl, hr17, len_lt (by rw [List.length_map]; omega), ?_⟩
    have r18 : (upd H17 pt (.lst (rs.map V.int ++ [.int 1]))) pt = some (.lst ((rs ++ [1]).map V.int)) := by rw [upd_same, List.map_append]; rfl
    have fr18 : Fr [pt] H17 (upd H17 pt (.lst (rs.map V.int ++ [.int 1]))) := (Fr.refl _ _).put (.inl (by simp))
    generalize upd H17 pt (.lst (rs.map V.int ++ [.int 1])) = H18 at r18 fr18 ⊢
    have l18 : 0 < (rs ++ [1]).length := by simp
    refine ⟨_, rfl, _, _, _, _, rfl, rfl, SqL.of r18, at_part (k := 0) l18, _, _, rfl, rfl, _, rfl, _, _, _, _, rfl, rfl, r18, ix_nat (j := 0) (by rw [List.length_map]; exact l18), ?_⟩
    have fr19 : Fr [pt] H17 (upd H18 pt (.lst (((rs ++ [1]).map V.int).set 0 (.int (Cir.part (rs ++ [1]) 0 + 1))))) := fr18.put (.inl (by simp))
    generalize upd H18 pt (.lst (((rs ++ [1]).map V.int).set 0 (.int (Cir.part (rs ++ [1]) 0 + 1)))) = H19 at fr19 ⊢
    have k19 := fr19 _ _ k17 (by simpa using npk)
    have N19 : FS b c pf ps pc px H19 first second ts cells xs := by
      obtain ⟨i, v, s, hb⟩ := N13.bag.b
      have hbp := fresh hb
      have hcp : c ≠ pt := by
        obtain ⟨ns, i, v, s, hB⟩ := N13.bag
        exact fresh hB.2.1
      refine ⟨N17.bag.fr fr19 (by simpa using hbp) (by simpa using hcp), fr19 _ _ N17.lf (by simpa using fresh N13.lf), fr19 _ _ N17.ls (by simpa using fresh N13.ls), fr19 _ _ N17.lc (by simpa using fresh N13.lc), fr19 _ _ N17.lx (by simpa using fresh N13.lx), N17.ln, fun k t p a b' => fr19 _ _ (N17.tup k t p a b') (by simpa using fresh (N13.tup k t p a b')), N17.nf, N17.ns, N17.nc, N17.nx⟩
    clear fr18 fr19 r18 hr17 N17 k17 f7 hpk npk N16 hr16 fresh N13 hpt e14
    -- again
    refine ⟨_, rfl, _, _, rfl, .inl (SqL.of N19.lf), fun q1 hq1 => ?_⟩
    have f1 := (Fr.refl [] H19).new (o := .lst (first.map V.int)) hq1
    have a1 : (upd H19 q1 (.lst (first.map V.int))) q1 = some (.lst (first.map V.int)) := upd_same
    have N20 := N19.fr f1
    have k20 := f1 _ _ k19 (by simp)
    generalize upd H19 q1 (.lst (first.map V.int)) = H20 at f1 a1 N20 k20 ⊢
    refine ⟨_, rfl, _, _, rfl, .inl (SqL.of N20.ls), fun q2 hq2 => ?_⟩
    have f2 := (Fr.refl [] H20).new (o := .lst (second.map V.int)) hq2
    have s1 : (upd H20 q2 (.lst (second.map V.int))) q2 = some (.lst (second.map V.int)) := upd_same
    have a1 := f2 _ _ a1 (by simp)
    have N21 := N20.fr f2
    have k21 := f2 _ _ k20 (by simp)
    generalize upd H20 q2 (.lst (second.map V.int)) = H21 at f2 a1 s1 N21 k21 ⊢
    refine ⟨_, rfl, _, _, rfl, .inl (SqL.of N21.lc), fun q3 hq3 => ?_⟩
    have f3 := (Fr.refl [] H21).new (o := .lst (ts.map V.ref)) hq3
    have c1 : (upd H21 q3 (.lst (ts.map V.ref))) q3 = some (.lst (ts.map V.ref)) := upd_same
    have a1 := f3 _ _ a1 (by simp)
    have s1 := f3 _ _ s1 (by simp)
    have N22 := N21.fr f3
    have k22 := f3 _ _ k21 (by simp)
    generalize upd H21 q3 (.lst (ts.map V.ref)) = H22 at f3 a1 s1 c1 N22 k22 ⊢
    refine ⟨_, rfl, _, _, rfl, .inl (SqL.of N22.lx), fun q4 hq4 => ?_⟩
    have f4 := (Fr.refl [] H22).new (o := .lst (xs.map V.int)) hq4
    have x1 : (upd H22 q4 (.lst (xs.map V.int))) q4 = some (.lst (xs.map V.int)) := upd_same
    have a1 := f4 _ _ a1 (by simp)
    have s1 := f4 _ _ s1 (by simp)
    have c1 := f4 _ _ c1 (by simp)
    have N23 := N22.fr f4
    have k23 := f4 _ _ k22 (by simp)
    generalize upd H22 q4 (.lst (xs.map V.int)) = H23 at f4 a1 s1 c1 x1 N23 k23 ⊢
    have A23 : ArcsAt K H23 q3 cells := ⟨ts, SqL.of c1, N23.ln, fun k t p a b' => SqT.of (N23.tup k t p a b')⟩
    refine ⟨_, rfl, q1, q2, q3, q4, first, second, cells, xs, d, rfl, SqL.of a1, SqL.of s1, A23, SqL.of x1, by omega, by omega, by omega, hx, hd, log_ok dl, fun _ _ _ pt2 H24 hpt2 e24 hr24 => ?_, fun k hk hb => absurd (nok okf hk) hb, fun _ k hk hb => absurd (nok oks hk) hb, fun _ _ k hk hb => absurd (okCells.mp okc k hk) hb⟩
    rw [hrs] at hr24
    refine ⟨_, rfl, _, _, dInts rs, rfl, dp_ints (SqL.of hr24), dp_ints (SqL.of (e24 _ _ k23 (by simp))), tb.shaped, tb.show_, tb.line, ⟨_, rfl, iteN rfl ?_⟩⟩
    have N24 := N23.fr e24
    clear N19 N20 N21 N22 N23 f1 f2 f3 f4 a1 s1 c1 x1 k19 k20 k21 k22 k23 A23 hr24 e24 hpt2 hq1 hq2 hq3 hq4
    refine ⟨3, rfl, by decide, by decide, for_rng (n := 3)
      (fun i σ H' => FS b c pf ps pc px H' first second ts cells xs ∧ ∃ o12 : Option V, σ = [some (.ref a), some (.ref b), some (.ref pf), some (.ref ps), some (.bl lb), some (.int d), some (.ref pc), some (.ref px), o8, some (.ref qp), some (.ref pt), some (.ref pk), o12])
      ⟨N24, _, rfl⟩ ?_ ?_⟩
    · rintro i σ H25 hi ⟨N25, o12, rfl⟩
      refine ⟨_, rfl, _, rfl, _, rfl, _, rfl, _, rfl, _, rfl, b, c, pf, ps, pc, px, first, second, ts, cells, xs, d, rfl, N25, lf, ls, l3, hx, hd, hdl, fun H26 e26 B26 => ⟨_, rfl, iteN rfl ⟨N25.bagS e26 B26, _, rfl⟩⟩⟩
    · rintro σ H25 ⟨N25, o12, rfl⟩
      exact k _
end

/-! ### what the top has written, and the law -/
theorem all_mk {P : Program} {w : World} {K : PySem.W.Frag} {h : Heap} {mg : Str → Option Value} {fa CA CU CL CO CD CB f1 f2 f3 f4 f5 f6 f7 f8 f9 f10 f11 f12 f13 f14 f15 f16 f17 f18 f19 f20 f21 f22 f23 f24 f25 f26 : Addr} (X : K.In h) (G : h.Ns mainGlobals mg) (hfa : mg "law" = some (.ref fa))
    {od1 an1 : Option Addr} {sl1 : Array (Option Value)} {oc1 kV1 dc1 pm1 cd1 ct1 : Value}
    {od2 an2 : Option Addr} {sl2 : Array (Option Value)} {oc2 kV2 dc2 pm2 cd2 ct2 : Value}
    {od3 an3 : Option Addr} {sl3 : Array (Option Value)} {oc3 kV3 dc3 pm3 cd3 ct3 : Value}
    {od4 an4 : Option Addr} {sl4 : Array (Option Value)} {oc4 kV4 dc4 pm4 cd4 ct4 : Value}
    {od5 an5 : Option Addr} {sl5 : Array (Option Value)} {oc5 kV5 dc5 pm5 cd5 ct5 : Value}
    {od6 an6 : Option Addr} {sl6 : Array (Option Value)} {oc6 kV6 dc6 pm6 cd6 ct6 : Value}
    {od7 an7 : Option Addr} {sl7 : Array (Option Value)} {oc7 kV7 dc7 pm7 cd7 ct7 : Value}
    {od8 an8 : Option Addr} {sl8 : Array (Option Value)} {oc8 kV8 dc8 pm8 cd8 ct8 : Value}
    {od9 an9 : Option Addr} {sl9 : Array (Option Value)} {oc9 kV9 dc9 pm9 cd9 ct9 : Value}
    {od10 an10 : Option Addr} {sl10 : Array (Option Value)} {oc10 kV10 dc10 pm10 cd10 ct10 : Value}
    {od11 an11 : Option Addr} {sl11 : Array (Option Value)} {oc11 kV11 dc11 pm11 cd11 ct11 : Value}
    {od12 an12 : Option Addr} {sl12 : Array (Option Value)} {oc12 kV12 dc12 pm12 cd12 ct12 : Value}
    {od13 an13 : Option Addr} {sl13 : Array (Option Value)} {oc13 kV13 dc13 pm13 cd13 ct13 : Value}
    {od14 an14 : Option Addr} {sl14 : Array (Option Value)} {oc14 kV14 dc14 pm14 cd14 ct14 : Value}
    {od15 an15 : Option Addr} {sl15 : Array (Option Value)} {oc15 kV15 dc15 pm15 cd15 ct15 : Value}
    {od16 an16 : Option Addr} {sl16 : Array (Option Value)} {oc16 kV16 dc16 pm16 cd16 ct16 : Value}
    {od17 an17 : Option Addr} {sl17 : Array (Option Value)} {oc17 kV17 dc17 pm17 cd17 ct17 : Value}
    {od18 an18 : Option Addr} {sl18 : Array (Option Value)} {oc18 kV18 dc18 pm18 cd18 ct18 : Value}
    {od19 an19 : Option Addr} {sl19 : Array (Option Value)} {oc19 kV19 dc19 pm19 cd19 ct19 : Value}
    {od20 an20 : Option Addr} {sl20 : Array (Option Value)} {oc20 kV20 dc20 pm20 cd20 ct20 : Value}
    {od21 an21 : Option Addr} {sl21 : Array (Option Value)} {oc21 kV21 dc21 pm21 cd21 ct21 : Value}
    {od22 an22 : Option Addr} {sl22 : Array (Option Value)} {oc22 kV22 dc22 pm22 cd22 ct22 : Value}
    {od23 an23 : Option Addr} {sl23 : Array (Option Value)} {oc23 kV23 dc23 pm23 cd23 ct23 : Value}
    {od24 an24 : Option Addr} {sl24 : Array (Option Value)} {oc24 kV24 dc24 pm24 cd24 ct24 : Value}
    {od25 an25 : Option Addr} {sl25 : Array (Option Value)} {oc25 kV25 dc25 pm25 cd25 ct25 : Value}
    {od26 an26 : Option Addr} {sl26 : Array (Option Value)} {oc26 kV26 dc26 pm26 cd26 ct26 : Value}
    (gA : PySem.W.nsIn K mainGlobals "BadArc" = some (some (.ref CA)))
    (TA : ∃ fI, XS.ErrTxt P K mg "BadArc" "BadArc.__init__" s_iA ["arc"] CA fI)
    (gU : PySem.W.nsIn K mainGlobals "Unbalanced" = some (some (.ref CU)))
    (TU : ∃ fI, XS.ErrTxt P K mg "Unbalanced" "Unbalanced.__init__" s_iU ["node"] CU fI)
    (gL : PySem.W.nsIn K mainGlobals "BadLot" = some (some (.ref CL)))
    (TL : ∃ fI, XS.ErrTxt P K mg "BadLot" "BadLot.__init__" s_iL ["side", "number"] CL fI)
    (gO : PySem.W.nsIn K mainGlobals "BadCell" = some (some (.ref CO)))
    (TO : ∃ fI, XS.ErrTxt P K mg "BadCell" "BadCell.__init__" s_iO ["number"] CO fI)
    (a1 : PySem.W.nsIn K mainGlobals "_check_ends" = some (some (.ref f1)))
    (l1 : K.lookup f1 = some ⟨oc1, od1, .func (PySem.W.fnOf "_check_ends" "_check_ends" (defArgs s_check_ends) (defBody s_check_ends) (defScope s_check_ends) .none kV1 dc1 pm1 an1 cd1 ct1), sl1⟩)
    (c1 : PySem.W.codeIn K cd1 "_check_ends" = true) (k1 : PySem.W.keepIn K (.ref f1) = true)
    (a2 : PySem.W.nsIn K mainGlobals "_spare" = some (some (.ref f2)))
    (l2 : K.lookup f2 = some ⟨oc2, od2, .func (PySem.W.fnOf "_spare" "_spare" (defArgs s_spare) (defBody s_spare) (defScope s_spare) .none kV2 dc2 pm2 an2 cd2 ct2), sl2⟩)
    (c2 : PySem.W.codeIn K cd2 "_spare" = true) (k2 : PySem.W.keepIn K (.ref f2) = true)
    (a3 : PySem.W.nsIn K mainGlobals "_check_balance" = some (some (.ref f3)))
    (l3 : K.lookup f3 = some ⟨oc3, od3, .func (PySem.W.fnOf "_check_balance" "_check_balance" (defArgs s_check_balance) (defBody s_check_balance) (defScope s_check_balance) .none kV3 dc3 pm3 an3 cd3 ct3), sl3⟩)
    (c3 : PySem.W.codeIn K cd3 "_check_balance" = true) (k3 : PySem.W.keepIn K (.ref f3) = true)
    (a4 : PySem.W.nsIn K mainGlobals "_near" = some (some (.ref f4)))
    (l4 : K.lookup f4 = some ⟨oc4, od4, .func (PySem.W.fnOf "_near" "_near" (defArgs s_near) (defBody s_near) (defScope s_near) .none kV4 dc4 pm4 an4 cd4 ct4), sl4⟩)
    (c4 : PySem.W.codeIn K cd4 "_near" = true) (k4 : PySem.W.keepIn K (.ref f4) = true)
    (a5 : PySem.W.nsIn K mainGlobals "_other_arc" = some (some (.ref f5)))
    (l5 : K.lookup f5 = some ⟨oc5, od5, .func (PySem.W.fnOf "_other_arc" "_other_arc" (defArgs s_other_arc) (defBody s_other_arc) (defScope s_other_arc) .none kV5 dc5 pm5 an5 cd5 ct5), sl5⟩)
    (c5 : PySem.W.codeIn K cd5 "_other_arc" = true) (k5 : PySem.W.keepIn K (.ref f5) = true)
    (a6 : PySem.W.nsIn K mainGlobals "_fraction_round" = some (some (.ref f6)))
    (l6 : K.lookup f6 = some ⟨oc6, od6, .func (PySem.W.fnOf "_fraction_round" "_fraction_round" (defArgs s_fraction_round) (defBody s_fraction_round) (defScope s_fraction_round) .none kV6 dc6 pm6 an6 cd6 ct6), sl6⟩)
    (c6 : PySem.W.codeIn K cd6 "_fraction_round" = true) (k6 : PySem.W.keepIn K (.ref f6) = true)
    (a7 : PySem.W.nsIn K mainGlobals "rounded" = some (some (.ref f7)))
    (l7 : K.lookup f7 = some ⟨oc7, od7, .func (PySem.W.fnOf "rounded" "rounded" (defArgs s_rounded) (defBody s_rounded) (defScope s_rounded) .none kV7 dc7 pm7 an7 cd7 ct7), sl7⟩)
    (c7 : PySem.W.codeIn K cd7 "rounded" = true) (k7 : PySem.W.keepIn K (.ref f7) = true)
    (a8 : PySem.W.nsIn K mainGlobals "_check_parents" = some (some (.ref f8)))
    (l8 : K.lookup f8 = some ⟨oc8, od8, .func (PySem.W.fnOf "_check_parents" "_check_parents" (defArgs s_check_parents) (defBody s_check_parents) (defScope s_check_parents) .none kV8 dc8 pm8 an8 cd8 ct8), sl8⟩)
    (c8 : PySem.W.codeIn K cd8 "_check_parents" = true) (k8 : PySem.W.keepIn K (.ref f8) = true)
    (a9 : PySem.W.nsIn K mainGlobals "_check_cells" = some (some (.ref f9)))
    (l9 : K.lookup f9 = some ⟨oc9, od9, .func (PySem.W.fnOf "_check_cells" "_check_cells" (defArgs s_check_cells) (defBody s_check_cells) (defScope s_check_cells) .none kV9 dc9 pm9 an9 cd9 ct9), sl9⟩)
    (c9 : PySem.W.codeIn K cd9 "_check_cells" = true) (k9 : PySem.W.keepIn K (.ref f9) = true)
    (a10 : PySem.W.nsIn K mainGlobals "cell_totals" = some (some (.ref f10)))
    (l10 : K.lookup f10 = some ⟨oc10, od10, .func (PySem.W.fnOf "cell_totals" "cell_totals" (defArgs s_cell_totals) (defBody s_cell_totals) (defScope s_cell_totals) .none kV10 dc10 pm10 an10 cd10 ct10), sl10⟩)
    (c10 : PySem.W.codeIn K cd10 "cell_totals" = true) (k10 : PySem.W.keepIn K (.ref f10) = true)
    (a11 : PySem.W.nsIn K mainGlobals "_ends" = some (some (.ref f11)))
    (l11 : K.lookup f11 = some ⟨oc11, od11, .func (PySem.W.fnOf "_ends" "_ends" (defArgs s_ends) (defBody s_ends) (defScope s_ends) .none kV11 dc11 pm11 an11 cd11 ct11), sl11⟩)
    (c11 : PySem.W.codeIn K cd11 "_ends" = true) (k11 : PySem.W.keepIn K (.ref f11) = true)
    (a12 : PySem.W.nsIn K mainGlobals "rounded_cells" = some (some (.ref f12)))
    (l12 : K.lookup f12 = some ⟨oc12, od12, .func (PySem.W.fnOf "rounded_cells" "rounded_cells" (defArgs s_rounded_cells) (defBody s_rounded_cells) (defScope s_rounded_cells) .none kV12 dc12 pm12 an12 cd12 ct12), sl12⟩)
    (c12 : PySem.W.codeIn K cd12 "rounded_cells" = true) (k12 : PySem.W.keepIn K (.ref f12) = true)
    (a13 : PySem.W.nsIn K mainGlobals "_law_bag" = some (some (.ref f13)))
    (l13 : K.lookup f13 = some ⟨oc13, od13, .func (PySem.W.fnOf "_law_bag" "_law_bag" (defArgs s_law_bag) (defBody s_law_bag) (defScope s_law_bag) .none kV13 dc13 pm13 an13 cd13 ct13), sl13⟩)
    (c13 : PySem.W.codeIn K cd13 "_law_bag" = true) (k13 : PySem.W.keepIn K (.ref f13) = true)
    (a14 : PySem.W.nsIn K mainGlobals "_law_take" = some (some (.ref f14)))
    (l14 : K.lookup f14 = some ⟨oc14, od14, .func (PySem.W.fnOf "_law_take" "_law_take" (defArgs s_law_take) (defBody s_law_take) (defScope s_law_take) .none kV14 dc14 pm14 an14 cd14 ct14), sl14⟩)
    (c14 : PySem.W.codeIn K cd14 "_law_take" = true) (k14 : PySem.W.keepIn K (.ref f14) = true)
    (a15 : PySem.W.nsIn K mainGlobals "_law_parents" = some (some (.ref f15)))
    (l15 : K.lookup f15 = some ⟨oc15, od15, .func (PySem.W.fnOf "_law_parents" "_law_parents" (defArgs s_law_parents) (defBody s_law_parents) (defScope s_law_parents) .none kV15 dc15 pm15 an15 cd15 ct15), sl15⟩)
    (c15 : PySem.W.codeIn K cd15 "_law_parents" = true) (k15 : PySem.W.keepIn K (.ref f15) = true)
    (a16 : PySem.W.nsIn K mainGlobals "_law_part" = some (some (.ref f16)))
    (l16 : K.lookup f16 = some ⟨oc16, od16, .func (PySem.W.fnOf "_law_part" "_law_part" (defArgs s_law_part) (defBody s_law_part) (defScope s_law_part) .none kV16 dc16 pm16 an16 cd16 ct16), sl16⟩)
    (c16 : PySem.W.codeIn K cd16 "_law_part" = true) (k16 : PySem.W.keepIn K (.ref f16) = true)
    (a17 : PySem.W.nsIn K mainGlobals "_law_totals" = some (some (.ref f17)))
    (l17 : K.lookup f17 = some ⟨oc17, od17, .func (PySem.W.fnOf "_law_totals" "_law_totals" (defArgs s_law_totals) (defBody s_law_totals) (defScope s_law_totals) .none kV17 dc17 pm17 an17 cd17 ct17), sl17⟩)
    (c17 : PySem.W.codeIn K cd17 "_law_totals" = true) (k17 : PySem.W.keepIn K (.ref f17) = true)
    (a18 : PySem.W.nsIn K mainGlobals "_law_integers" = some (some (.ref f18)))
    (l18 : K.lookup f18 = some ⟨oc18, od18, .func (PySem.W.fnOf "_law_integers" "_law_integers" (defArgs s_law_integers) (defBody s_law_integers) (defScope s_law_integers) .none kV18 dc18 pm18 an18 cd18 ct18), sl18⟩)
    (c18 : PySem.W.codeIn K cd18 "_law_integers" = true) (k18 : PySem.W.keepIn K (.ref f18) = true)
    (a19 : PySem.W.nsIn K mainGlobals "_law_between" = some (some (.ref f19)))
    (l19 : K.lookup f19 = some ⟨oc19, od19, .func (PySem.W.fnOf "_law_between" "_law_between" (defArgs s_law_between) (defBody s_law_between) (defScope s_law_between) .none kV19 dc19 pm19 an19 cd19 ct19), sl19⟩)
    (c19 : PySem.W.codeIn K cd19 "_law_between" = true) (k19 : PySem.W.keepIn K (.ref f19) = true)
    (a20 : PySem.W.nsIn K mainGlobals "_law_same" = some (some (.ref f20)))
    (l20 : K.lookup f20 = some ⟨oc20, od20, .func (PySem.W.fnOf "_law_same" "_law_same" (defArgs s_law_same) (defBody s_law_same) (defScope s_law_same) .none kV20 dc20 pm20 an20 cd20 ct20), sl20⟩)
    (c20 : PySem.W.codeIn K cd20 "_law_same" = true) (k20 : PySem.W.keepIn K (.ref f20) = true)
    (a21 : PySem.W.nsIn K mainGlobals "_law_totaled" = some (some (.ref f21)))
    (l21 : K.lookup f21 = some ⟨oc21, od21, .func (PySem.W.fnOf "_law_totaled" "_law_totaled" (defArgs s_law_totaled) (defBody s_law_totaled) (defScope s_law_totaled) .none kV21 dc21 pm21 an21 cd21 ct21), sl21⟩)
    (c21 : PySem.W.codeIn K cd21 "_law_totaled" = true) (k21 : PySem.W.keepIn K (.ref f21) = true)
    (a22 : PySem.W.nsIn K mainGlobals "_law_right" = some (some (.ref f22)))
    (l22 : K.lookup f22 = some ⟨oc22, od22, .func (PySem.W.fnOf "_law_right" "_law_right" (defArgs s_law_right) (defBody s_law_right) (defScope s_law_right) .none kV22 dc22 pm22 an22 cd22 ct22), sl22⟩)
    (c22 : PySem.W.codeIn K cd22 "_law_right" = true) (k22 : PySem.W.keepIn K (.ref f22) = true)
    (a23 : PySem.W.nsIn K mainGlobals "_law_fault" = some (some (.ref f23)))
    (l23 : K.lookup f23 = some ⟨oc23, od23, .func (PySem.W.fnOf "_law_fault" "_law_fault" (defArgs s_law_fault) (defBody s_law_fault) (defScope s_law_fault) .none kV23 dc23 pm23 an23 cd23 ct23), sl23⟩)
    (c23 : PySem.W.codeIn K cd23 "_law_fault" = true) (k23 : PySem.W.keepIn K (.ref f23) = true)
    (a24 : PySem.W.nsIn K mainGlobals "_law_outcome" = some (some (.ref f24)))
    (l24 : K.lookup f24 = some ⟨oc24, od24, .func (PySem.W.fnOf "_law_outcome" "_law_outcome" (defArgs s_law_outcome) (defBody s_law_outcome) (defScope s_law_outcome) .none kV24 dc24 pm24 an24 cd24 ct24), sl24⟩)
    (c24 : PySem.W.codeIn K cd24 "_law_outcome" = true) (k24 : PySem.W.keepIn K (.ref f24) = true)
    (a25 : PySem.W.nsIn K mainGlobals "_law_refused" = some (some (.ref f25)))
    (l25 : K.lookup f25 = some ⟨oc25, od25, .func (PySem.W.fnOf "_law_refused" "_law_refused" (defArgs s_law_refused) (defBody s_law_refused) (defScope s_law_refused) .none kV25 dc25 pm25 an25 cd25 ct25), sl25⟩)
    (c25 : PySem.W.codeIn K cd25 "_law_refused" = true) (k25 : PySem.W.keepIn K (.ref f25) = true)
    (a26 : PySem.W.nsIn K mainGlobals "law" = some (some (.ref f26)))
    (l26 : K.lookup f26 = some ⟨oc26, od26, .func (PySem.W.fnOf "law" "law" (defArgs s_law) (defBody s_law) (defScope s_law) .none kV26 dc26 pm26 an26 cd26 ct26), sl26⟩)
    (c26 : PySem.W.codeIn K cd26 "law" = true) (k26 : PySem.W.keepIn K (.ref f26) = true)
    (z_len : PySem.W.nsIn K mainGlobals "len" = some none)
    (z_int : PySem.W.nsIn K mainGlobals "int" = some none)
    (z_range : PySem.W.nsIn K mainGlobals "range" = some none)
    (z_list : PySem.W.nsIn K mainGlobals "list" = some none)
    (z_min : PySem.W.nsIn K mainGlobals "min" = some none)
    (z_max : PySem.W.nsIn K mainGlobals "max" = some none)
    (z_abs : PySem.W.nsIn K mainGlobals "abs" = some none)
    (z_isinstance : PySem.W.nsIn K mainGlobals "isinstance" = some none)
    (z_bool : PySem.W.nsIn K mainGlobals "bool" = some none)
    (z_str : PySem.W.nsIn K mainGlobals "str" = some none)
    (z_tuple : PySem.W.nsIn K mainGlobals "tuple" = some none)
    (z_dict : PySem.W.nsIn K mainGlobals "dict" = some none)
    (z_sorted : PySem.W.nsIn K mainGlobals "sorted" = some none)
    (z_sum : PySem.W.nsIn K mainGlobals "sum" = some none)
    (z_repr : PySem.W.nsIn K mainGlobals "repr" = some none)
    (z_zip : PySem.W.nsIn K mainGlobals "zip" = some none)
    (z_enumerate : PySem.W.nsIn K mainGlobals "enumerate" = some none)
    (z_reversed : PySem.W.nsIn K mainGlobals "reversed" = some none)
    (gD : PySem.W.nsIn K mainGlobals "DealError" = some (some (.ref CD)))
    (gB : PySem.W.nsIn K mainGlobals "BadNumber" = some (some (.ref CB)))
    (h1 : PySem.W.specialIn K (.builtin "object.__class__") "__get__" = some (some (.builtin "getset_descriptor.__get__")))
    (h2 : PySem.W.takesIn K (.builtin "object.__class__") = some true)
    (iLc : PySem.W.findIn K (.ref CL) "__class__" = some (some (.builtin "object.__class__")))
    (iLm : PySem.W.mroIn K CL (.type "object") = some true)
    (iOc : PySem.W.findIn K (.ref CO) "__class__" = some (some (.builtin "object.__class__")))
    (iOm : PySem.W.mroIn K CO (.type "object") = some true)
    (kLD : PySem.W.kitOne K (.ref CL) (.ref CD) = some true)
    (kOD : PySem.W.kitOne K (.ref CO) (.ref CD) = some true)
    (kLO : PySem.W.kitOne K (.ref CL) (.ref CO) = some false)
    (kOL : PySem.W.kitOne K (.ref CO) (.ref CL) = some false)
    (kLB : PySem.W.kitOne K (.ref CL) (.ref CB) = some false)
    (kOB : PySem.W.kitOne K (.ref CO) (.ref CB) = some false)
    (eOL : PySem.W.exmOne K (.ref CO) (.ref CL) = some false)
    : ∃ fd : FuncData, (∀ (s : Shared) (v : Value), BindsTo s fd ⟨[v], []⟩ [("script", v)]) ∧ ∀ base : Heap, K.In base → base.Ns mainGlobals mg → FnG P w K mg base CX0 8 fa fd ["script"] (spLaw K) := by
  have e := hfa.symm.trans (PySem.W.mg_of X G a26)
  cases e
  have B : Blt mg := { m_len := PySem.W.mg_none_of X G z_len, m_int := PySem.W.mg_none_of X G z_int, m_range := PySem.W.mg_none_of X G z_range, m_list := PySem.W.mg_none_of X G z_list, m_min := PySem.W.mg_none_of X G z_min, m_max := PySem.W.mg_none_of X G z_max, m_abs := PySem.W.mg_none_of X G z_abs, m_isinstance := PySem.W.mg_none_of X G z_isinstance, m_bool := PySem.W.mg_none_of X G z_bool, m_str := PySem.W.mg_none_of X G z_str, m_tuple := PySem.W.mg_none_of X G z_tuple, m_dict := PySem.W.mg_none_of X G z_dict, m_sorted := PySem.W.mg_none_of X G z_sorted, m_sum := PySem.W.mg_none_of X G z_sum, m_repr := PySem.W.mg_none_of X G z_repr, m_zip := PySem.W.mg_none_of X G z_zip, m_enumerate := PySem.W.mg_none_of X G z_enumerate, m_reversed := PySem.W.mg_none_of X G z_reversed }
  have T0 : Txt P K mg CA CU := { B with arc := TA, unb := TU }
  have T6 : Txt6 P K mg CA CU CL CO := { T0 with lot := TL, cel := TO }
  have T : TxtM P K mg CD CA CU CL CO CB := { T6 with h1 := h1, h2 := h2, g_DealError := PySem.W.mg_of X G gD, g_BadNumber := PySem.W.mg_of X G gB, iL := ⟨iLc, iLm⟩, iC := ⟨iOc, iOm⟩, kLD := kLD, kCD := kOD, kLC := kLO, kCL := kOL, kLB := kLB, kCB := kOB, eCL := eOL }
  have F1 := fun_mk (st := s_check_ends) l1 c1 k1
  have b1 := F1.binds (ps := ["count", "arcs"]) fun _ _ _ _ _ _ us hl => match us, hl with | [_, _], _ => rfl
  have F2 := fun_mk (st := s_spare) l2 c2 k2
  have b2 := F2.binds (ps := ["count", "arcs", "amounts"]) fun _ _ _ _ _ _ us hl => match us, hl with | [_, _, _], _ => rfl
  have F3 := fun_mk (st := s_check_balance) l3 c3 k3
  have b3 := F3.binds (ps := ["count", "arcs", "amounts"]) fun _ _ _ _ _ _ us hl => match us, hl with | [_, _, _], _ => rfl
  have F4 := fun_mk (st := s_near) l4 c4 k4
  have b4 := F4.binds (ps := ["count", "arcs"]) fun _ _ _ _ _ _ us hl => match us, hl with | [_, _], _ => rfl
  have F5 := fun_mk (st := s_other_arc) l5 c5 k5
  have b5 := F5.binds (ps := ["row", "parts", "divisor", "came"]) fun _ _ _ _ _ _ us hl => match us, hl with | [_, _, _, _], _ => rfl
  have F6 := fun_mk (st := s_fraction_round) l6 c6 k6
  have b6 := F6.binds (ps := ["arcs", "near", "parts", "divisor", "start"]) fun _ _ _ _ _ _ us hl => match us, hl with | [_, _, _, _, _], _ => rfl
  have F7 := fun_mk (st := s_rounded) l7 c7 k7
  have b7 := F7.binds (ps := ["count", "arcs", "amounts", "divisor"]) fun _ _ _ _ _ _ us hl => match us, hl with | [_, _, _, _], _ => rfl
  have F8 := fun_mk (st := s_check_parents) l8 c8 k8
  have b8 := F8.binds (ps := ["side", "parents"]) fun _ _ _ _ _ _ us hl => match us, hl with | [_, _], _ => rfl
  have F9 := fun_mk (st := s_check_cells) l9 c9 k9
  have b9 := F9.binds (ps := ["first", "second", "cells"]) fun _ _ _ _ _ _ us hl => match us, hl with | [_, _, _], _ => rfl
  have F10 := fun_mk (st := s_cell_totals) l10 c10 k10
  have b10 := F10.binds (ps := ["parents", "places", "amounts"]) fun _ _ _ _ _ _ us hl => match us, hl with | [_, _, _], _ => rfl
  have F11 := fun_mk (st := s_ends) l11 c11 k11
  have b11 := F11.binds (ps := ["first", "second", "cells"]) fun _ _ _ _ _ _ us hl => match us, hl with | [_, _, _], _ => rfl
  have F12 := fun_mk (st := s_rounded_cells) l12 c12 k12
  have b12 := F12.binds (ps := ["first", "second", "cells", "amounts", "divisor"]) fun _ _ _ _ _ _ us hl => match us, hl with | [_, _, _, _, _], _ => rfl
  have F13 := fun_mk (st := s_law_bag) l13 c13 k13
  have b13 := F13.binds (ps := ["script"]) fun _ _ _ _ _ _ us hl => match us, hl with | [_], _ => rfl
  have F14 := fun_mk (st := s_law_take) l14 c14 k14
  have b14 := F14.binds (ps := ["bag", "many"]) fun _ _ _ _ _ _ us hl => match us, hl with | [_, _], _ => rfl
  have F15 := fun_mk (st := s_law_parents) l15 c15 k15
  have b15 := F15.binds (ps := ["bag", "most"]) fun _ _ _ _ _ _ us hl => match us, hl with | [_, _], _ => rfl
  have F16 := fun_mk (st := s_law_part) l16 c16 k16
  have b16 := F16.binds (ps := ["bag", "divisor"]) fun _ _ _ _ _ _ us hl => match us, hl with | [_, _], _ => rfl
  have F17 := fun_mk (st := s_law_totals) l17 c17 k17
  have b17 := F17.binds (ps := ["parents", "places", "amounts"]) fun _ _ _ _ _ _ us hl => match us, hl with | [_, _, _], _ => rfl
  have F18 := fun_mk (st := s_law_integers) l18 c18 k18
  have b18 := F18.binds (ps := ["told", "size"]) fun _ _ _ _ _ _ us hl => match us, hl with | [_, _], _ => rfl
  have F19 := fun_mk (st := s_law_between) l19 c19 k19
  have b19 := F19.binds (ps := ["told", "amounts", "divisor"]) fun _ _ _ _ _ _ us hl => match us, hl with | [_, _, _], _ => rfl
  have F20 := fun_mk (st := s_law_same) l20 c20 k20
  have b20 := F20.binds (ps := ["left", "right"]) fun _ _ _ _ _ _ us hl => match us, hl with | [_, _], _ => rfl
  have F21 := fun_mk (st := s_law_totaled) l21 c21 k21
  have b21 := F21.binds (ps := ["first", "second", "cells", "amounts"]) fun _ _ _ _ _ _ us hl => match us, hl with | [_, _, _, _], _ => rfl
  have F22 := fun_mk (st := s_law_right) l22 c22 k22
  have b22 := F22.binds (ps := ["first", "second", "cells", "amounts", "divisor", "told"]) fun _ _ _ _ _ _ us hl => match us, hl with | [_, _, _, _, _, _], _ => rfl
  have F23 := fun_mk (st := s_law_fault) l23 c23 k23
  have b23 := F23.binds (ps := ["first", "second", "cells"]) fun _ _ _ _ _ _ us hl => match us, hl with | [_, _, _], _ => rfl
  have F24 := fun_mk (st := s_law_outcome) l24 c24 k24
  have b24 := F24.binds (ps := ["first", "second", "cells", "amounts", "divisor"]) fun _ _ _ _ _ _ us hl => match us, hl with | [_, _, _, _, _], _ => rfl
  have F25 := fun_mk (st := s_law_refused) l25 c25 k25
  have b25 := F25.binds (ps := ["bag", "first", "second", "cells", "amounts", "divisor"]) fun _ _ _ _ _ _ us hl => match us, hl with | [_, _, _, _, _, _], _ => rfl
  have F26 := fun_mk (st := s_law) l26 c26 k26
  have b26 := F26.binds (ps := ["script"]) fun _ _ _ _ _ _ us hl => match us, hl with | [_], _ => rfl
  refine ⟨PySem.W.fnOf "law" "law" (defArgs s_law) (defBody s_law) (defScope s_law) .none kV26 dc26 pm26 an26 cd26 ct26, fun s v => .of_eq rfl, fun base _ _ => ?_⟩
  have G_check_ends : FnB P w K mg base (L2.CX P w) 2 "_check_ends" ["count", "arcs"] (spCheckEnds K CA) := ⟨f1, _, ok_check_ends F1 T0, PySem.W.mg_of X G a1, k1, b1⟩
  have G_spare : FnB P w K mg base CX0 1 "_spare" ["count", "arcs", "amounts"] (spSpare K) := ⟨f2, _, ok_spare F2 T0, PySem.W.mg_of X G a2, k2, b2⟩
  have G_check_balance : FnB P w K mg base (L2.CX P w) 3 "_check_balance" ["count", "arcs", "amounts"] (spCheckBal K CU) := ⟨f3, _, ok_check_balance F3 T0 G_spare, PySem.W.mg_of X G a3, k3, b3⟩
  have G_near : FnB P w K mg base CX0 1 "_near" ["count", "arcs"] (spNear K) := ⟨f4, _, ok_near F4 T0, PySem.W.mg_of X G a4, k4, b4⟩
  have G_other_arc : FnB P w K mg base CX0 1 "_other_arc" ["row", "parts", "divisor", "came"] (spOther K) := ⟨f5, _, ok_other_arc F5 T0, PySem.W.mg_of X G a5, k5, b5⟩
  have G_fraction_round : FnB P w K mg base CX0 2 "_fraction_round" ["arcs", "near", "parts", "divisor", "start"] (spRound K) := ⟨f6, _, ok_fraction_round F6 T0 G_other_arc, PySem.W.mg_of X G a6, k6, b6⟩
  have G_rounded : FnB P w K mg base (L2.CX P w) 4 "rounded" ["count", "arcs", "amounts", "divisor"] (spRounded K CA CU) := ⟨f7, _, ok_rounded F7 T0 G_check_ends G_check_balance G_near G_fraction_round, PySem.W.mg_of X G a7, k7, b7⟩
  have G_check_parents : FnB P w K mg base (L2.CX P w) 2 "_check_parents" ["side", "parents"] (spChkPar K CL) := ⟨f8, _, ok_check_parents F8 T6, PySem.W.mg_of X G a8, k8, b8⟩
  have G_check_cells : FnB P w K mg base (L2.CX P w) 2 "_check_cells" ["first", "second", "cells"] (spChkCells K CO) := ⟨f9, _, ok_check_cells F9 T6, PySem.W.mg_of X G a9, k9, b9⟩
  have G_cell_totals : FnB P w K mg base CX0 1 "cell_totals" ["parents", "places", "amounts"] (spTotals K) := ⟨f10, _, ok_cell_totals F10 T6, PySem.W.mg_of X G a10, k10, b10⟩
  have G_ends : FnB P w K mg base CX0 1 "_ends" ["first", "second", "cells"] (spEnds K) := ⟨f11, _, ok_ends F11 T6, PySem.W.mg_of X G a11, k11, b11⟩
  have G_rounded_cells : FnB P w K mg base (L2.CX P w) 5 "rounded_cells" ["first", "second", "cells", "amounts", "divisor"] (spRC K CL CO) := ⟨f12, _, ok_rounded_cells F12 T6 G_check_parents G_check_cells G_cell_totals G_ends G_rounded, PySem.W.mg_of X G a12, k12, b12⟩
  have G_law_bag : FnB P w K mg base CX0 1 "_law_bag" ["script"] (spBag K) := ⟨f13, _, ok_law_bag F13 B, PySem.W.mg_of X G a13, k13, b13⟩
  have G_law_take : FnB P w K mg base CX0 1 "_law_take" ["bag", "many"] (spTake) := ⟨f14, _, ok_law_take F14 B, PySem.W.mg_of X G a14, k14, b14⟩
  have G_law_parents : FnB P w K mg base CX0 2 "_law_parents" ["bag", "most"] (spParents) := ⟨f15, _, ok_law_parents F15 B G_law_take, PySem.W.mg_of X G a15, k15, b15⟩
  have G_law_part : FnB P w K mg base CX0 2 "_law_part" ["bag", "divisor"] (spPart) := ⟨f16, _, ok_law_part F16 B G_law_take, PySem.W.mg_of X G a16, k16, b16⟩
  have G_law_totals : FnB P w K mg base CX0 1 "_law_totals" ["parents", "places", "amounts"] (spTotals K) := ⟨f17, _, ok_law_totals F17 B, PySem.W.mg_of X G a17, k17, b17⟩
  have G_law_integers : FnB P w K mg base CX0 1 "_law_integers" ["told", "size"] (spIntegers K) := ⟨f18, _, ok_law_integers F18 B, PySem.W.mg_of X G a18, k18, b18⟩
  have G_law_between : FnB P w K mg base CX0 1 "_law_between" ["told", "amounts", "divisor"] (spBetween K) := ⟨f19, _, ok_law_between F19 B, PySem.W.mg_of X G a19, k19, b19⟩
  have G_law_same : FnGB P w K mg base CX0 1 "_law_same" ["left", "right"] (spSameX K) := ⟨f20, _, ok_law_same F20 B, PySem.W.mg_of X G a20, k20, b20⟩
  have G_law_totaled : FnGB P w K mg base CX0 2 "_law_totaled" ["first", "second", "cells", "amounts"] (spTotaled K) := ⟨f21, _, ok_law_totaled F21 B G_law_totals G_cell_totals G_law_same, PySem.W.mg_of X G a21, k21, b21⟩
  have G_law_right : FnB P w K mg base CX0 2 "_law_right" ["first", "second", "cells", "amounts", "divisor", "told"] (spRight K) := ⟨f22, _, ok_law_right F22 B G_law_integers G_law_between G_law_totals, PySem.W.mg_of X G a22, k22, b22⟩
  have G_law_fault : FnB P w K mg base CX0 1 "_law_fault" ["first", "second", "cells"] (spFault K) := ⟨f23, _, ok_law_fault F23 B, PySem.W.mg_of X G a23, k23, b23⟩
  have G_law_outcome : FnB P w K mg base CX0 6 "_law_outcome" ["first", "second", "cells", "amounts", "divisor"] (spOutcome K) := ⟨f24, _, ok_law_outcome F24 T G_rounded_cells, PySem.W.mg_of X G a24, k24, b24⟩
  have G_law_refused : FnGB P w K mg base CX0 7 "_law_refused" ["bag", "first", "second", "cells", "amounts", "divisor"] (spRefused K) := ⟨f25, _, ok_law_refused F25 B G_law_take G_law_part G_law_fault G_law_same G_law_outcome, PySem.W.mg_of X G a25, k25, b25⟩
  exact ok_law F26 B G_law_bag G_law_take G_law_parents G_law_part G_law_totaled G_rounded_cells G_law_right G_law_same G_law_refused
theorem walk {l : PySem.W.OpenLaw} {q : Program} {loose : List Str} {XP : (Str → Option Value) → Heap → Prop} {YP : World → Heap → Prop} {d : DefRec} {K : Params → PySem.W.Frag} (hn : l.most = some 63) (hdf : d.params.defaults = [])
    (hY : ∀ (w : World) (h : Heap), YP w h → (K w.params).In h)
    (F : ∀ (w : World) (mg : Str → Option Value) (fa : Addr) (h : Heap), (K w.params).In h → h.Ns mainGlobals mg → mg d.name = some (.ref fa) →
      ∃ fd : FuncData, (∀ (s : Shared) (u : Value), BindsTo s fd ⟨[u], []⟩ [("script", u)]) ∧ ∀ base : Heap, (K w.params).In base → base.Ns mainGlobals mg → FnG l.prog w (K w.params) mg base CX0 8 fa fd ["script"] (spLaw (K w.params))) :
    PySem.W.WalkO q loose XP YP l.row.toRowW d [] (fun f vs => PySem.call f vs) :=
  L2.walk_ofG (n := 63) (k := 8) (x := "script") (sp := spLaw) hn (by decide) hdf ⟨rfl, by decide, by decide⟩ hY F fun _ _ a ns hl hS => ⟨a, ns, rfl, hS, hl, fun _ => rfl⟩
end K16
open PySem PySem.W PyProof.Rows
set_option maxRecDepth 100000 in
set_option maxHeartbeats 0 in
theorem PySem.Challenge.cw_eachfloweachlink_k16_two_families_rounde_holds : PySem.Challenge.rw_eachfloweachlink_k16_two_families_rounde.Holds := by
  w_on; o_law; k_head; (case hw => w_witness2)
  k_fill
  refine K16.walk (l := PySem.Challenge.rw_eachfloweachlink_k16_two_families_rounde) rfl rfl (fun w h Y => PySem.W.kIn_of Y) ?F
  case F =>
    intro w mg fa h KX G hmg
    refine' K16.all_mk KX G hmg ?gA ?TA ?gU ?TU ?gL ?TL ?gO ?TO ?a1 ?l1 ?c1 ?k1 ?a2 ?l2 ?c2 ?k2 ?a3 ?l3 ?c3 ?k3 ?a4 ?l4 ?c4 ?k4 ?a5 ?l5 ?c5 ?k5 ?a6 ?l6 ?c6 ?k6 ?a7 ?l7 ?c7 ?k7 ?a8 ?l8 ?c8 ?k8 ?a9 ?l9 ?c9 ?k9 ?a10 ?l10 ?c10 ?k10 ?a11 ?l11 ?c11 ?k11 ?a12 ?l12 ?c12 ?k12 ?a13 ?l13 ?c13 ?k13 ?a14 ?l14 ?c14 ?k14 ?a15 ?l15 ?c15 ?k15 ?a16 ?l16 ?c16 ?k16 ?a17 ?l17 ?c17 ?k17 ?a18 ?l18 ?c18 ?k18 ?a19 ?l19 ?c19 ?k19 ?a20 ?l20 ?c20 ?k20 ?a21 ?l21 ?c21 ?k21 ?a22 ?l22 ?c22 ?k22 ?a23 ?l23 ?c23 ?k23 ?a24 ?l24 ?c24 ?k24 ?a25 ?l25 ?c25 ?k25 ?a26 ?l26 ?c26 ?k26 ?z_len ?z_int ?z_range ?z_list ?z_min ?z_max ?z_abs ?z_isinstance ?z_bool ?z_str ?z_tuple ?z_dict ?z_sorted ?z_sum ?z_repr ?z_zip ?z_enumerate ?z_reversed ?gD ?gB ?h1 ?h2 ?iLc ?iLm ?iOc ?iOm ?kLD ?kOD ?kLO ?kOL ?kLB ?kOB ?eOL
    (case gA => k_is)
    case TA =>
      refine' ⟨_, PySem.XS.errTxt_mk KX G ?gC ?xL ?hbm ?sup ?stc ?sa ?ga ?gg ?eC ?hC ?noF ?iC ?tI ?kC ?mC ?vC ?tC ?isC ?sC ?mgS ?l ?c ?lc ?ld ?hv ?hf ?top⟩
      (case gC => k_is)
      (case xL => k_is)
      (case hbm => decide +kernel)
      (case sup => ks_is)
      (case stc => k_is)
      (case sa => k_is)
      (case ga => k_is)
      (case gg => k_is)
      (case eC => k_is)
      (case hC => k_is)
      (case noF => (intro f hf; cases List.mem_singleton.mp hf; k_is))
      (case iC => k_is)
      (case tI => k_is)
      (case kC => k_is)
      (case mC => k_is)
      (case vC => k_is)
      (case tC => k_is)
      (case isC => k_is)
      (case sC => first | rfl | k_is)
      (case mgS => k_is)
      (case l => k_is)
      (case c => k_is)
      (case lc => k_is)
      (case ld => k_is)
      (case hv => rfl)
      (case hf => decide +kernel)
      (case top => decide +kernel)
    (case gU => k_is)
    case TU =>
      refine' ⟨_, PySem.XS.errTxt_mk KX G ?gC ?xL ?hbm ?sup ?stc ?sa ?ga ?gg ?eC ?hC ?noF ?iC ?tI ?kC ?mC ?vC ?tC ?isC ?sC ?mgS ?l ?c ?lc ?ld ?hv ?hf ?top⟩
      (case gC => k_is)
      (case xL => k_is)
      (case hbm => decide +kernel)
      (case sup => ks_is)
      (case stc => k_is)
      (case sa => k_is)
      (case ga => k_is)
      (case gg => k_is)
      (case eC => k_is)
      (case hC => k_is)
      (case noF => (intro f hf; cases List.mem_singleton.mp hf; k_is))
      (case iC => k_is)
      (case tI => k_is)
      (case kC => k_is)
      (case mC => k_is)
      (case vC => k_is)
      (case tC => k_is)
      (case isC => k_is)
      (case sC => first | rfl | k_is)
      (case mgS => k_is)
      (case l => k_is)
      (case c => k_is)
      (case lc => k_is)
      (case ld => k_is)
      (case hv => rfl)
      (case hf => decide +kernel)
      (case top => decide +kernel)
    (case gL => k_is)
    case TL =>
      refine' ⟨_, PySem.XS.errTxt_mk KX G ?gC ?xL ?hbm ?sup ?stc ?sa ?ga ?gg ?eC ?hC ?noF ?iC ?tI ?kC ?mC ?vC ?tC ?isC ?sC ?mgS ?l ?c ?lc ?ld ?hv ?hf ?top⟩
      (case gC => k_is)
      (case xL => k_is)
      (case hbm => decide +kernel)
      (case sup => ks_is)
      (case stc => k_is)
      (case sa => k_is)
      (case ga => k_is)
      (case gg => k_is)
      (case eC => k_is)
      (case hC => k_is)
      (case noF => (intro f hf; rcases List.mem_cons.mp hf with rfl | hf; (· k_is); (· cases List.mem_singleton.mp hf; k_is)))
      (case iC => k_is)
      (case tI => k_is)
      (case kC => k_is)
      (case mC => k_is)
      (case vC => k_is)
      (case tC => k_is)
      (case isC => k_is)
      (case sC => first | rfl | k_is)
      (case mgS => k_is)
      (case l => k_is)
      (case c => k_is)
      (case lc => k_is)
      (case ld => k_is)
      (case hv => rfl)
      (case hf => decide +kernel)
      (case top => decide +kernel)
    (case gO => k_is)
    case TO =>
      refine' ⟨_, PySem.XS.errTxt_mk KX G ?gC ?xL ?hbm ?sup ?stc ?sa ?ga ?gg ?eC ?hC ?noF ?iC ?tI ?kC ?mC ?vC ?tC ?isC ?sC ?mgS ?l ?c ?lc ?ld ?hv ?hf ?top⟩
      (case gC => k_is)
      (case xL => k_is)
      (case hbm => decide +kernel)
      (case sup => ks_is)
      (case stc => k_is)
      (case sa => k_is)
      (case ga => k_is)
      (case gg => k_is)
      (case eC => k_is)
      (case hC => k_is)
      (case noF => (intro f hf; cases List.mem_singleton.mp hf; k_is))
      (case iC => k_is)
      (case tI => k_is)
      (case kC => k_is)
      (case mC => k_is)
      (case vC => k_is)
      (case tC => k_is)
      (case isC => k_is)
      (case sC => first | rfl | k_is)
      (case mgS => k_is)
      (case l => k_is)
      (case c => k_is)
      (case lc => k_is)
      (case ld => k_is)
      (case hv => rfl)
      (case hf => decide +kernel)
      (case top => decide +kernel)
    (case a1 => k_is)
    (case l1 => k_is)
    (case c1 => k_is)
    (case k1 => k_is)
    (case a2 => k_is)
    (case l2 => k_is)
    (case c2 => k_is)
    (case k2 => k_is)
    (case a3 => k_is)
    (case l3 => k_is)
    (case c3 => k_is)
    (case k3 => k_is)
    (case a4 => k_is)
    (case l4 => k_is)
    (case c4 => k_is)
    (case k4 => k_is)
    (case a5 => k_is)
    (case l5 => k_is)
    (case c5 => k_is)
    (case k5 => k_is)
    (case a6 => k_is)
    (case l6 => k_is)
    (case c6 => k_is)
    (case k6 => k_is)
    (case a7 => k_is)
    (case l7 => k_is)
    (case c7 => k_is)
    (case k7 => k_is)
    (case a8 => k_is)
    (case l8 => k_is)
    (case c8 => k_is)
    (case k8 => k_is)
    (case a9 => k_is)
    (case l9 => k_is)
    (case c9 => k_is)
    (case k9 => k_is)
    (case a10 => k_is)
    (case l10 => k_is)
    (case c10 => k_is)
    (case k10 => k_is)
    (case a11 => k_is)
    (case l11 => k_is)
    (case c11 => k_is)
    (case k11 => k_is)
    (case a12 => k_is)
    (case l12 => k_is)
    (case c12 => k_is)
    (case k12 => k_is)
    (case a13 => k_is)
    (case l13 => k_is)
    (case c13 => k_is)
    (case k13 => k_is)
    (case a14 => k_is)
    (case l14 => k_is)
    (case c14 => k_is)
    (case k14 => k_is)
    (case a15 => k_is)
    (case l15 => k_is)
    (case c15 => k_is)
    (case k15 => k_is)
    (case a16 => k_is)
    (case l16 => k_is)
    (case c16 => k_is)
    (case k16 => k_is)
    (case a17 => k_is)
    (case l17 => k_is)
    (case c17 => k_is)
    (case k17 => k_is)
    (case a18 => k_is)
    (case l18 => k_is)
    (case c18 => k_is)
    (case k18 => k_is)
    (case a19 => k_is)
    (case l19 => k_is)
    (case c19 => k_is)
    (case k19 => k_is)
    (case a20 => k_is)
    (case l20 => k_is)
    (case c20 => k_is)
    (case k20 => k_is)
    (case a21 => k_is)
    (case l21 => k_is)
    (case c21 => k_is)
    (case k21 => k_is)
    (case a22 => k_is)
    (case l22 => k_is)
    (case c22 => k_is)
    (case k22 => k_is)
    (case a23 => k_is)
    (case l23 => k_is)
    (case c23 => k_is)
    (case k23 => k_is)
    (case a24 => k_is)
    (case l24 => k_is)
    (case c24 => k_is)
    (case k24 => k_is)
    (case a25 => k_is)
    (case l25 => k_is)
    (case c25 => k_is)
    (case k25 => k_is)
    (case a26 => k_is)
    (case l26 => k_is)
    (case c26 => k_is)
    (case k26 => k_is)
    (case z_len => k_is)
    (case z_int => k_is)
    (case z_range => k_is)
    (case z_list => k_is)
    (case z_min => k_is)
    (case z_max => k_is)
    (case z_abs => k_is)
    (case z_isinstance => k_is)
    (case z_bool => k_is)
    (case z_str => k_is)
    (case z_tuple => k_is)
    (case z_dict => k_is)
    (case z_sorted => k_is)
    (case z_sum => k_is)
    (case z_repr => k_is)
    (case z_zip => k_is)
    (case z_enumerate => k_is)
    (case z_reversed => k_is)
    (case gD => k_is)
    (case gB => k_is)
    (case h1 => k_is)
    (case h2 => k_is)
    (case iLc => k_is)
    (case iLm => k_is)
    (case iOc => k_is)
    (case iOm => k_is)
    (case kLD => kit_is)
    (case kOD => kit_is)
    (case kLO => kit_is)
    (case kOL => kit_is)
    (case kLB => kit_is)
    (case kOB => kit_is)
    (case eOL => kts_exm)
