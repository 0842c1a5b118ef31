import PyProof.Rows.All
import Wide.All
import OpenK.AllK
import Wide.FinOn
import KE.KExcSuper
import HandS.ForExc
import HandS.ExcSuper
import HandS.ExcInit
import HandS.ExcValue
import HandS.HeadHook1
import HandS.HeadHook2
import HandS.IsInst
import HandS.ExcIs
import HandS.ExcField
import HandS.HeadEnd
import PyProof.ReprRoads
import HandS.ForMost
import PyProof.CallFns
import HandS.Wide
import HandS.Iter
import HandS.Dict
import HandS.DictComp
import HandS.Exc
import HandS.TryMany
import KE.KDictDisplayH
import HandS.Head0
import HandS.Head1
import HandS.Head2
import HandS.Defaults
import HandS.TupAny
import HandS.Words
import HandS.WordsExc
import PySem.Challenge.RW_wholeclasses_k00_errors_of_the_package

section
set_option Elab.async false
set_option linter.all false
set_option maxRecDepth 100000
set_option maxHeartbeats 4000000

namespace PySem
namespace ErrX
open PySem.W PySem.Calls PyProof.Rows PySem.HandSPX

section
variable {prog : Program} {w : World} {A : Around} {E : Value → Shared → Prop} {R : Result → Shared → Prop} {h : Heap} {g : Array GenState} {d : Drawn} {t : Nat} {os : OsState}
variable {nm q : Str} {C N : Addr} {bs bm : List Value} {hdct : Bool} {sn : List Str} {sub : List Value} {ab : Bool} {col : Option Bool} {dd : Option Addr} {k0 k1 k2 k3 k5 : Option Value}

/-- super().__init__(..), called: the bound built-in __init__ of ValueError over an own exception -/
theorem call_bw {u e t0 : Addr} {rest : List Value} {Q : Value → Shared → Prop}
    (hC : h.get? C = some (excClassObj nm q C N bs bm hdct sn sub ab col dd k0 k1 k2 k3 k5 "ValueError.__new__")) (he : h.get? e = some (excO C t0)) (hu : h.get? u = some (kxs_mw "ValueError.__init__" e)) (hrest : rest.length ≤ sizeLine)
    (hq : ∀ h' t1, (∀ b o, b ≠ e → h.get? b = some o → h'.get? b = some o) → h'.get? e = some (excO C t1) → Q .none ⟨h', g, d, t, os⟩) :
    wpAny (model prog w) A (call (.ref u) rest) Q E ⟨h, g, d, t, os⟩ := by
  refine wpAny_call (codeAny_of_tree ?_)
  show wpAny _ A.in1 (callAny (.ref u) ⟨rest, []⟩) _ _ _
  simp only [callAny]
  refine wpAny_bind (wpAny_load hu ?_)
  simp only [kxs_mw, show (Value.type "method-wrapper" == Value.type "method" || Value.type "method-wrapper" == Value.type "builtin_function_or_method" || Value.type "method-wrapper" == Value.type "method-wrapper") = true by decide, if_true]
  refine KFB.if_so (by decide) ?_
  refine wpAny_bind (ESX.check_bound F.excBase_ValueError hC he rfl ?_)
  refine wpAny_bind (wpAny_pure (wpAny_pure ?_))
  refine ⟨plainId_quiet F.excBase_ValueError.init.plain _, codeAny_builtin F.excBase_ValueError.initEntry ?_⟩
  exact exc_init_tree (cls := .ref C) (t0 := t0) (dv := none) (c2 := .none) (c3 := .none) (b4 := .bool false) he hrest fun h' k e' _ => hq h' _ k e'
end

/-- what the written part says of an own class under ValueError, at C -/
structure ErrK (K : Frag) (C : Addr) : Prop where
  cls : ∃ nm q N bs bm sn sub ab col dd k0 k1 k2 k3 k5, K.lookup C = some (excClassObj nm q C N bs bm true sn sub ab col dd k0 k1 k2 k3 k5 "ValueError.__new__") ∧ refsVE bm = true
  sa : findIn K (.ref C) "__setattr__" = some (some (.builtin "object.__setattr__"))
  ga : findIn K (.ref C) "__getattribute__" = some (some (.builtin "BaseException.__getattribute__"))
  gg : findIn K (.ref C) "__getattr__" = some none
  tC : typeIn K (.ref C) = some (.type "type")
  kC : keepIn K (.ref C) = true
  exC : subIn K (.ref C) (.type "BaseException") = some true
  veC : subIn K (.ref C) (.type "ValueError") = some true
  hdC : hasDictIn K C = true
  slf : mroIn K C (.ref C) = some true
  obj : mroIn K C (.type "object") = some true
  cla : findIn K (.ref C) "__class__" = some (some (.builtin "object.__class__"))

/-- what the written part says of the class's own __init__, at fI: its closure holds the class's cell cc, its code is at cda -/
structure ErrI (prog : Program) (K : Frag) (C fI : Addr) (ps : List Str) (body : List Stmt) : Prop where
  iC : findIn K (.ref C) "__init__" = some (some (.ref fI))
  tI : typeIn K (.ref fI) = some (.type "function")
  sup : ks_superIn K C C "__init__" = some (some (.builtin "ValueError.__init__"))
  tp : nsIn K cStatics "thirdparty.any" = some none
  top : (prog.main.scope.names.lookup ("super" : Str)).isSome = false
  fn : ∃ (oc ccl cl : Value) (od cdd cld : Option Addr) (osl ccs csl : Array (Option Value)) (qual : Str) (params : Arguments) (sc : Scope) (doc pm ct : Value) (an : Option Addr) (cc cda : Addr) (vs : Array Value) (file : Str) (tf : Tok),
    K.lookup fI = some ⟨oc, od, .func (ksFn "__init__" qual params body sc .none .none doc pm an (.ref cda) ct cc), osl⟩ ∧ codeIn K (.ref cda) qual = true ∧
    K.lookup cda = some ⟨ccl, cdd, .fields vs, ccs⟩ ∧ vs[2]? = some (.str file tf) ∧ ((prog.main.file : Str) == file) = true ∧
    K.lookup cc = some ⟨cl, cld, .cell (some (.ref C)), csl⟩ ∧
    (∃ ar, (params.posonlyargs ++ params.args).head? = some ar ∧ ar.arg = "self") ∧
    (∀ (s : Shared) (us : List Value), us.length = ps.length → BindsTo s (ksFn "__init__" qual params body sc .none .none doc pm an (.ref cda) ct cc) ⟨us, []⟩ (ps.zip us)) ∧
    (∀ p ∈ ps, sc.names.lookup p = some .local) ∧ (∀ y ∈ sc.names, y.2 ≠ .cell) ∧ sc.isCoroutine = false ∧ sc.isGenerator = false ∧ sc.kind = .function ∧
    sc.names.lookup ("super" : Str) = some .globalImplicit ∧ sc.names.lookup ("__class__" : Str) = some .free

/-- super().__init__(args) at the head of such an __init__ -/
theorem clsOf {K : Frag} {C : Addr} (T : ErrK K C) : ∃ cd, clsIn K C = some cd ∧ refsVE cd.mro = true ∧ cd.hasDict = true := by
  obtain ⟨nm, q, N, bs, bm, sn, sub, ab, col, dd, k0, k1, k2, k3, k5, hC, hbm⟩ := T.cls
  exact ⟨{ name := nm, bases := bs, mro := .ref C :: bm, ns := N, qualname := q, hasDict := true, slotNames := sn, subclasses := sub, abstract := ab, collection := col, hasDel := false }, by unfold clsIn; rw [hC] <;> rfl, hbm, rfl⟩

/-- what an __init__ leaves of a fresh exception at x -/
structure End0 (h h' : Heap) (x C t1 : Addr) : Prop where
  keep : ∀ b o, b ≠ x → h.get? b = some o → h'.get? b = some o
  obj : h'.get? x = some (excO C t1)
structure End1 (h h' : Heap) (x C dx t1 : Addr) (fld : Str) (v : Value) : Prop where
  keep : ∀ b o, b ≠ x → h.get? b = some o → h'.get? b = some o
  obj : h'.get? x = some { cls := .ref C, dict := some dx, data := .fields #[.ref t1, .none, .none, .none, .bool false, .none] }
  dbig : h.objs.size ≤ dx
  dne : dx ≠ x
  ns : h'.Ns1 dx (fun y => if y = fld then some v else none)

section
variable {prog : Program} {w : World} {A : Around} {E : Value → Shared → Prop} {R : Result → Shared → Prop} {s : Shared} {K : Frag} {C fI cc cda : Addr}

/-- the statement super().__init__(e, ..) -/
theorem super_stmt {body : List Stmt} {qual : Str} {sc : Scope} {q1 q2 q3 q5 q6 : Pos} {es : List Expr} {t0 : Addr} {oc ccl cl : Value} {od cdd cld : Option Addr} {osl ccs csl : Array (Option Value)} {params : Arguments} {doc pm ct : Value} {an : Option Addr} {vs : Array Value} {file : Str} {tf : Tok} {ar : Arg} {x : Addr} {m mg mb : Str → Option Value} {Q : Flow → Shared → Prop} {L : Addr} {us : List Value}
    (T : ErrK K C) (X : K.In s.heap) (hsup : ks_superIn K C C "__init__" = some (some (.builtin "ValueError.__init__"))) (htp : nsIn K cStatics "thirdparty.any" = some none)
    (ho : K.lookup fI = some ⟨oc, od, .func (ksFn "__init__" qual params body sc .none .none doc pm an (.ref cda) ct cc), osl⟩)
    (hcode : K.lookup cda = some ⟨ccl, cdd, .fields vs, ccs⟩) (hvs : vs[2]? = some (.str file tf)) (hfile : ((prog.main.file : Str) == file) = true)
    (hcell : K.lookup cc = some ⟨cl, cld, .cell (some (.ref C)), csl⟩)
    (hp : (params.posonlyargs ++ params.args).head? = some ar) (har : ar.arg = "self")
    (hks : sc.names.lookup ("super" : Str) = some .globalImplicit) (hkc : sc.names.lookup ("__class__" : Str) = some .free) (hka : sc.names.lookup ("self" : Str) = some .local) (hk : sc.kind = .function)
    (htop : (prog.main.scope.names.lookup ("super" : Str)).isSome = false)
    (G : s.heap.Ns mainGlobals mg) (hmg : mg "super" = none) (B : s.heap.Ns builtinsNs mb) (hmb : mb "super" = some (.type "super"))
    (hn : s.heap.Ns L m) (hv : m "self" = some (.ref x)) (hx : s.heap.get? x = some (excO C t0))
    (hz : us.length ≤ sizeLine)
    (hargs : ∀ (u : Addr) (s₁ : Shared) (P : Args → Shared → Prop), s₁.heap.Ns L m → P ⟨us, []⟩ s₁ → wpAny (model prog w) A (evalArgs (.ref u) true (backTo q5 (starEach es (ksEnv qual sc L fI (.ref cda) cc))) []) P E s₁)
    {pl : Sem Bool} (hcall : eval (.Call (.Attribute (.Call (.Name "super" q1) [] [] q2) "__init__" q3) es [] q5) (ksEnv qual sc L fI (.ref cda) cc) = (do
      let ov ← attributeBase (.Call (.Name "super" q1) [] [] q2) "__init__" (ksEnv qual sc L fI (.ref cda) cc) (eval (.Call (.Name "super" q1) [] [] q2) (ksEnv qual sc L fI (.ref cda) cc))
      standAt q3.atName
      let (f, first) ← holding [ov] (getMethod ov "__init__" pl)
      callWith q5 f first (backTo q5 (starEach es (ksEnv qual sc L fI (.ref cda) cc))) []))
    (hsw : swapsWith (.Call (.Attribute (.Call (.Name "super" q1) [] [] q2) "__init__" q3) es [] q5) none q6.line (ksEnv qual sc L fI (.ref cda) cc) = pure false)
    (hpl : (backTo q5 (starEach es (ksEnv qual sc L fI (.ref cda) cc))).any (·.1) = false)
    (hq : ∀ h' t1 tk, (∀ b o, b ≠ x → s.heap.get? b = some o → h'.get? b = some o) → h'.get? x = some (excO C t1) → Q .next { s with heap := h', toks := tk }) :
    _root_.PySem.wpAt (model prog w) A (.func body (ksEnv qual sc L fI (.ref cda) cc)) (exec (.Expr (.Call (.Attribute (.Call (.Name "super" q1) [] [] q2) "__init__" q3) es [] q5) q6) (ksEnv qual sc L fI (.ref cda) cc)) Q E s := by
  obtain ⟨cd, hcd, hmro, hdict⟩ := clsOf T
  obtain ⟨nm, q, N, bs, bm, sn, sub, ab, col, dd, k0, k1, k2, k3, k5, hC, hbm⟩ := T.cls
  obtain ⟨oD, hD1, hD2⟩ : ∃ oD, s.heap.get? C = some oD ∧ oD.data = .cls cd := by
    unfold clsIn at hcd
    split at hcd
    · rename_i c d cd' sl ho
      cases hcd
      exact ⟨_, X _ _ ho, rfl⟩
    · cases hcd
  have I : InstAt s.heap x (excO C t0) C none := ⟨hx, rfl, rfl, trivial⟩
  have hxC : x ≠ C := ks_ne X I hcd
  refine ks_wpAt_Expr_any (ks_wpAt_MethodCall (pl := pl) ?_ hcall) ?_ hsw
  · refine ks_wpAt_super_base (env := ksEnv qual sc L fI (.ref cda) cc) hks hkc (by decide +kernel) rfl (X _ _ ho) rfl hp rfl (X _ _ hcode) rfl hvs hfile htop ?_
    refine ks_loadName_global hk hks (loadGlobal_builtin (env := ksEnv qual sc L fI (.ref cda) cc) G hmg B hmb ⟨rfl, ?_⟩)
    refine wpAny_loadName_free hk hkc rfl ⟨_, X _ _ hcell, rfl⟩ ?_
    rw [har]
    refine wpAny_loadName_local hk hka hn hv ?_
    refine ks_wpAny_isType_cls hD1 hD2 ⟨rfl, ?_⟩
    obtain ⟨hh, g, d, t, os⟩ := s
    refine ks_wpAny_call_super hD1 hD2 hx rfl (fun c e => by cases e) (looks_mroIn X T.slf) (fun h1 e1 kk1 => ?_)
    have X1 : K.In h1 := X.keeps kk1
    have hx1 := kk1 _ _ hx
    have sup' : alongIn K "__init__" ((cd.mro.dropWhile (· != .ref C)).drop 1) = some (some (.builtin "ValueError.__init__")) := by
      unfold ks_superIn at hsup
      rw [hcd] at hsup
      exact hsup
    have I1 : InstAt h1 x (excO C t0) C none := ⟨hx1, rfl, rfl, trivial⟩
    refine kxs_getMethod kxs_ValueError e1 (looks_opaque X1 htp) (l₀ := cd.mro) ?_ rfl X1 sup' ?_ hxC (by decide +kernel) ?_
    · exact fun A Q E s k q => wpAny_bind ((looks_clsIn X1 hcd) A _ E s k (wpAny_pure q))
    · exact I1.type.andThen (looks_subIn X1 T.veC)
    · have k2' : ∀ b o, h1.get? b = some o → (h1.push (kxs_mw "ValueError.__init__" x)).get? b = some o := fun b o e => Heap.get?_push_of_some _ e
      have kk2 : ∀ b o, hh.get? b = some o → (h1.push (kxs_mw "ValueError.__init__" x)).get? b = some o := fun b o e => k2' b o (kk1 b o e)
      have hu : (h1.push (kxs_mw "ValueError.__init__" x)).get? h1.objs.size = some (kxs_mw "ValueError.__init__" x) := Heap.get?_push_size _ rfl
      refine kxs_callWith (i := "ValueError.__init__") (x := x) hpl ?_
      refine hargs _ _ _ (hn.keeps kk2) ⟨hu, ?_⟩
      refine call_bw (kk2 _ _ (X _ _ hC)) (kk2 _ _ hx) hu hz (fun h' t1 k e' => ?_)
      exact hq h' t1 _ (fun b o hb e => k b o hb (kk2 b o e)) e'
  · show interactive _ = false
    simp [interactive, hk]

theorem call_line {o : Expr} {name : Str} {q3 q5 : Pos} {es : List Expr} {env : Env} (hline : (q3.endLine == q5.line) = true) (hform : methodCallForm (es.length + 0) (backTo q5 (starEach es env)) [] = true) :
    eval (.Call (.Attribute o name q3) es [] q5) env = (do
      let ov ← attributeBase o name env (eval o env)
      standAt q3.atName
      let (f, first) ← holding [ov] (getMethod ov name (do return (← importBound o env).getD true))
      callWith q5 f first (backTo q5 (starEach es env)) []) := by
  show (do
      let ov ← attributeBase o name env (eval o env)
      standAt q3.atName
      methodCall o name q3 q5 env ov (es.length + 0) (backTo q5 (starEach es env)) []) = _
  have e : ∀ ov, methodCall o name q3 q5 env ov (es.length + 0) (backTo q5 (starEach es env)) [] = (do
      let (f, first) ← holding [ov] (getMethod ov name (do return (← importBound o env).getD true))
      callWith q5 f first (backTo q5 (starEach es env)) []) := fun ov => by
    unfold methodCall calleeOf methodCallPos
    rw [hform, hline]
    rfl
  simp only [e]

abbrev binds2 (x : Addr) (fld : Str) (v : Value) : List (Str × Value) := [(("self" : Str), Value.ref x), (fld, v)]
abbrev bSup (q1 q2 q3 q5 q6 : Pos) (es : List Expr) : Stmt := .Expr (.Call (.Attribute (.Call (.Name "super" q1) [] [] q2) "__init__" q3) es [] q5) q6
abbrev bSet (fld : Str) (q7 q8 q9 q10 : Pos) : Stmt := .Assign [.Attribute (.Name "self" q7) fld q8] (.Name fld q9) q10

/-- self = x: super().__init__() -/
theorem init0 {q1 q2 q3 q5 q6 : Pos} {t0 x : Addr} {mg mb : Str → Option Value} (hline : (q3.endLine == q5.line) = true) (T : ErrK K C) (I : ErrI prog K C fI ["self"] [bSup q1 q2 q3 q5 q6 []]) (X : K.In s.heap) (hlim : s.heap.NoLimit) (hroom : A.depth < recursionLimit)
    (G : s.heap.Ns mainGlobals mg) (hmg : mg "super" = none) (B : s.heap.Ns builtinsNs mb) (hmb : mb "super" = some (.type "super")) (hx : s.heap.get? x = some (excO C t0))
    (hq : ∀ h' t1 tk, End0 s.heap h' x C t1 → R (.ok (.ret .none)) { s with heap := h', toks := tk }) :
    codeAny (model prog w) A (.call (.ref fI) ⟨[.ref x], []⟩) R s := by
  obtain ⟨oc, ccl, cl, od, cdd, cld, osl, ccs, csl, qual, params, sc, doc, pm, ct, an, cc, cda, vs, file, tf, ho, hcd, hcode, hvs, hfile, hcell, ⟨ar, hp, har⟩, hb, hl, hnc, hco, hgen, hk, hks, hkc⟩ := I.fn
  refine ks_codeAny_call_defAt (fd := ksFn "__init__" qual params _ sc .none .none doc pm an (.ref cda) ct cc) (binds := [("self", .ref x)]) hroom (X _ _ ho) rfl hlim (codeRec_of X hcd) rfl (hb s [.ref x] rfl) hnc (fun y hy => ?_) (fun h₁ hn k => ?_) hco hgen hk
  · rcases List.mem_cons.mp hy with rfl | hy
    · exact hl _ (by simp)
    · cases hy
  · have hxL : x ≠ s.heap.objs.size := Nat.ne_of_lt (Heap.lt_size hx)
    refine ks_wpAt_execs_cons (super_stmt (us := []) T (X.keeps k) I.sup I.tp ho hcode hvs hfile hcell hp har hks hkc (hl _ (by simp)) hk I.top (G.keeps k) hmg (B.keeps k) hmb hn (by rfl) (k _ _ hx) (Nat.zero_le _) (fun u s₁ P _ hP => evalArgs_empty hP) (call_line hline (by rfl)) (by rfl) (by rfl) (fun h' t1 tk k' e' => ?_))
    · refine wpAt_of_wpAny (wpAny_execs_nil (hq h' t1 tk ⟨fun b o hb e => k' b o hb (k b o e), e'⟩))

/-- self = x, fld = v: super().__init__(fld); self.fld = fld -/
theorem init1 {q1 q2 q3 q4 q5 q6 q7 q8 q9 q10 : Pos} {t0 x : Addr} {fld : Str} {v : Value} {mg mb : Str → Option Value} (hline : (q3.endLine == q5.line) = true) (T : ErrK K C) (I : ErrI prog K C fI ["self", fld] [bSup q1 q2 q3 q5 q6 [.Name fld q4], bSet fld q7 q8 q9 q10]) (X : K.In s.heap) (hlim : s.heap.NoLimit) (hroom : A.depth < recursionLimit)
    (hnx : K.lookup x = none) (hno : findIn K (.ref C) fld = some none) (hfs : (fld == ("self" : Str)) = false) (hfd : (fld == ("__debug__" : Str)) = false)
    (G : s.heap.Ns mainGlobals mg) (hmg : mg "super" = none) (B : s.heap.Ns builtinsNs mb) (hmb : mb "super" = some (.type "super")) (hx : s.heap.get? x = some (excO C t0))
    (hq : ∀ h' dx t1 tk, End1 s.heap h' x C dx t1 fld v → R (.ok (.ret .none)) { s with heap := h', toks := tk }) :
    codeAny (model prog w) A (.call (.ref fI) ⟨[.ref x, v], []⟩) R s := by
  obtain ⟨oc, ccl, cl, od, cdd, cld, osl, ccs, csl, qual, params, sc, doc, pm, ct, an, cc, cda, vs, file, tf, ho, hcd, hcode, hvs, hfile, hcell, ⟨ar, hp, har⟩, hb, hl, hnc, hco, hgen, hk, hks, hkc⟩ := I.fn
  have hsf : ("self" == fld) = false := by
    rw [Bool.eq_false_iff] at hfs ⊢
    intro z
    exact hfs (by rw [beq_iff_eq] at z ⊢; exact z.symm)
  have m1 : List.lookup ("self" : Str) (binds2 x fld v).reverse = some (.ref x) := by
    simp [binds2, List.lookup, hsf]
  have m2 : List.lookup fld (binds2 x fld v).reverse = some v := by
    simp [binds2, List.lookup]
  refine ks_codeAny_call_defAt (fd := ksFn "__init__" qual params _ sc .none .none doc pm an (.ref cda) ct cc) (binds := [("self", .ref x), (fld, v)]) hroom (X _ _ ho) rfl hlim (codeRec_of X hcd) rfl (hb s [.ref x, v] rfl) hnc (fun y hy => ?_) (fun h₁ hn k => ?_) hco hgen hk
  · rcases List.mem_cons.mp hy with rfl | hy
    · exact hl _ (by simp)
    rcases List.mem_cons.mp hy with rfl | hy
    · exact hl _ (by simp)
    · cases hy
  · have hxL : s.heap.objs.size ≠ x := Nat.ne_of_gt (Heap.lt_size hx)
    have hfl : sc.names.lookup fld = some .local := hl _ (by simp)
    have hsl : sc.names.lookup ("self" : Str) = some .local := hl _ (by simp)
    have ld : ∀ {M : Model} {A' : Around} {E' : Value → Shared → Prop} {s' : Shared} {y : Str} {u : Value} {pos : Pos} {Q' : Value → Shared → Prop}, s'.heap.Ns s.heap.objs.size (fun y => List.lookup y (binds2 x fld v).reverse) →
        sc.names.lookup y = some .local → List.lookup y (binds2 x fld v).reverse = some u → (y == ("__debug__" : Str)) = false → Q' u s' → wpAny M A' (eval (.Name y pos) (ksEnv qual sc s.heap.objs.size fI (.ref cda) cc)) Q' E' s' := fun hn' hl' hv' hd' q' =>
      wpAny_Name (wpAny_loadName_local hk hl' hn' hv' q') hd'
    refine ks_wpAt_execs_cons (super_stmt (us := [v]) T (X.keeps k) I.sup I.tp ho hcode hvs hfile hcell hp har hks hkc hsl hk I.top (G.keeps k) hmg (B.keeps k) hmb hn m1 (k _ _ hx) (by show 1 ≤ sizeLine; rw [sizeLine_eq]; omega)
      (fun u s₁ P hn' hP => ?_) (call_line hline (by rfl)) (by rfl) (by rfl) (fun h' t1 tk k' e' => ?_))
    · show wpAny _ _ (evalArgs (.ref u) true ((false, eval (.Name fld q4) (ksEnv qual sc s.heap.objs.size fI (.ref cda) cc)) :: backTo q5 (starEach [] (ksEnv qual sc s.heap.objs.size fI (.ref cda) cc))) []) _ _ _
      exact evalArgs_plain (spliced_cons (ld hn' hfl m2 hfd (spliced_nil hP)))
    · -- self.fld = fld
      have kk : ∀ b o, b ≠ x → s.heap.get? b = some o → h'.get? b = some o := fun b o hb e => k' b o hb (k b o e)
      have X' : K.In h' := fun a o e => kk a o (fun z => by rw [z, hnx] at e; cases e) (X a o e)
      have hn'' : h'.Ns s.heap.objs.size (fun y => List.lookup y (binds2 x fld v).reverse) := by
        obtain ⟨o, es, ep, e, r⟩ := hn
        exact ⟨o, es, ep, k' _ _ hxL e, r⟩
      obtain ⟨cd, hcd', hmro, hdict⟩ := clsOf T
      refine wpAt_of_wpAny ?_
      refine wpAny_execs_cons (plainObj_wpAny_Assign_Attribute ?_ (by rfl))
      refine ld hn'' hfl m2 hfd (ld hn'' hsl m1 (by decide +kernel) ?_)
      refine set_plain X' (ox := excO C t1) (od := none) ⟨e', rfl, rfl, trivial⟩ T.sa ?_
      refine exc_osa X' e' hcd' hmro hdict hno (fun h₃ tk₃ dx k₃ dn dne hx₃ hn₃ => ?_)
      have z : s.heap.objs.size < h'.objs.size := hn''.lt
      exact wpAny_execs_nil (hq h₃ dx t1 tk₃ ⟨fun b o hb e => k₃ b o hb (kk b o hb e), hx₃, Nat.le_of_lt (Nat.lt_of_lt_of_le z dn), dne, hn₃⟩)
end
end ErrX
end PySem
end

section
set_option Elab.async false
set_option linter.all false
set_option maxRecDepth 100000
set_option maxHeartbeats 4000000

namespace PySem
namespace ErrX
open PySem.W PySem.Calls PyProof.Rows PySem.HandSPX
/-- a made error: no field | one field -/
structure Made0 (h h' : Heap) (e C t1 : Addr) : Prop where
  keep : ∀ b o, h.get? b = some o → h'.get? b = some o
  new : h.objs.size ≤ e
  obj : h'.get? e = some (excO C t1)
structure Made1 (h h' : Heap) (e C d t1 : Addr) (fld : Str) (v : Value) : Prop where
  keep : ∀ b o, h.get? b = some o → h'.get? b = some o
  new : h.objs.size ≤ e
  obj : h'.get? e = some { cls := .ref C, dict := some d, data := .fields #[.ref t1, .none, .none, .none, .bool false, .none] }
  dbig : h.objs.size ≤ d
  dne : d ≠ e
  ns : h'.Ns1 d (fun y => if y = fld then some v else none)
section
variable {prog : Program} {w : World} {A : Around} {E : Value → Shared → Prop} {R : Result → Shared → Prop} {s : Shared} {K : Frag} {C fI : Addr}
theorem fresh_no {K : Frag} {h : Heap} (X : K.In h) : K.lookup (h.objs.size + 1) = none := by
  cases e : K.lookup (h.objs.size + 1) with
  | none => rfl
  | some o =>
    have z : h.get? (h.objs.size + 1) = some o := X _ _ e
    exact absurd (Nat.lt_of_succ_lt (Heap.lt_size z)) (Nat.lt_irrefl _)
theorem made0 {q1 q2 q3 q5 q6 : Pos} {mg mb : Str → Option Value} (hline : (q3.endLine == q5.line) = true) (T : ErrK K C) (I : ErrI prog K C fI ["self"] [bSup q1 q2 q3 q5 q6 []]) (X : K.In s.heap) (hlim : s.heap.NoLimit) (hroom : A.depth + 1 < recursionLimit)
    (G : s.heap.Ns mainGlobals mg) (hmg : mg "super" = none) (B : s.heap.Ns builtinsNs mb) (hmb : mb "super" = some (.type "super"))
    (hq : ∀ h' tk e t1, Made0 s.heap h' e C t1 → R (.ok (.ret (.ref e))) { s with heap := h', toks := tk }) :
    codeAny (model prog w) A (.call (.ref C) ⟨[], []⟩) R s := by
  obtain ⟨nm, q, N, bs, bm, sn, sub, ab, col, dd, k0, k1, k2, k3, k5, hC, hbm⟩ := T.cls
  obtain ⟨hp, g, dr, tk, os⟩ := s
  have k : ∀ b o, hp.get? b = some o → ((hp.push (kdv_tup [])).push (excO C hp.objs.size)).get? b = some o := fun b o e => Heap.get?_push_of_some _ (Heap.get?_push_of_some _ e)
  have hget : ((hp.push (kdv_tup [])).push (excO C hp.objs.size)).get? (hp.objs.size + 1) = some (excO C hp.objs.size) := by heap_get
  refine call_own F.excBase_ValueError (fun X => refsVE_contains X bm hbm) (X _ _ hC) (looks_findIn X I.iC) (fun self => bind_fn X self I.tI) (Nat.zero_le _) ?_
  refine init0 (s := ⟨(hp.push (kdv_tup [])).push (excO C hp.objs.size), g, dr, tk, os⟩) hline T I (X.keeps k) (hlim.keeps k) ?_ (G.keeps k) hmg (B.keeps k) hmb hget fun h' t1 tk' ⟨k', hx⟩ => ?_
  · show A.depth + 1 < recursionLimit
    exact hroom
  · have old : ∀ b o, hp.get? b = some o → h'.get? b = some o := fun b o e => k' b o (Nat.ne_of_lt (Nat.lt_succ_of_lt (Heap.lt_size e))) (k b o e)
    exact ⟨rfl, hq h' tk' (hp.objs.size + 1) t1 ⟨old, Nat.le_succ _, hx⟩⟩
theorem made1 {q1 q2 q3 q4 q5 q6 q7 q8 q9 q10 : Pos} {fld : Str} {v : Value} {mg mb : Str → Option Value} (hline : (q3.endLine == q5.line) = true) (T : ErrK K C) (I : ErrI prog K C fI ["self", fld] [bSup q1 q2 q3 q5 q6 [.Name fld q4], bSet fld q7 q8 q9 q10]) (X : K.In s.heap) (hlim : s.heap.NoLimit) (hroom : A.depth + 1 < recursionLimit)
    (hno : findIn K (.ref C) fld = some none) (hfs : (fld == ("self" : Str)) = false) (hfd : (fld == ("__debug__" : Str)) = false)
    (G : s.heap.Ns mainGlobals mg) (hmg : mg "super" = none) (B : s.heap.Ns builtinsNs mb) (hmb : mb "super" = some (.type "super"))
    (hq : ∀ h' tk e d t1, Made1 s.heap h' e C d t1 fld v → R (.ok (.ret (.ref e))) { s with heap := h', toks := tk }) :
    codeAny (model prog w) A (.call (.ref C) ⟨[v], []⟩) R s := by
  obtain ⟨nm, q, N, bs, bm, sn, sub, ab, col, dd, k0, k1, k2, k3, k5, hC, hbm⟩ := T.cls
  obtain ⟨hp, g, dr, tk, os⟩ := s
  have k : ∀ b o, hp.get? b = some o → ((hp.push (kdv_tup [v])).push (excO C hp.objs.size)).get? b = some o := fun b o e => Heap.get?_push_of_some _ (Heap.get?_push_of_some _ e)
  have hget : ((hp.push (kdv_tup [v])).push (excO C hp.objs.size)).get? (hp.objs.size + 1) = some (excO C hp.objs.size) := by heap_get
  have hnx : K.lookup (hp.objs.size + 1) = none := fresh_no X
  refine call_own F.excBase_ValueError (fun X => refsVE_contains X bm hbm) (X _ _ hC) (looks_findIn X I.iC) (fun self => bind_fn X self I.tI) (by show 1 ≤ sizeLine; rw [sizeLine_eq]; omega) ?_
  refine init1 (s := ⟨(hp.push (kdv_tup [v])).push (excO C hp.objs.size), g, dr, tk, os⟩) hline T I (X.keeps k) (hlim.keeps k) ?_ hnx hno hfs hfd (G.keeps k) hmg (B.keeps k) hmb hget fun h' dx t1 tk' ⟨k', hx, dn, dne, hns⟩ => ?_
  · show A.depth + 1 < recursionLimit
    exact hroom
  · have old : ∀ b o, hp.get? b = some o → h'.get? b = some o := fun b o e => k' b o (Nat.ne_of_lt (Nat.lt_succ_of_lt (Heap.lt_size e))) (k b o e)
    have z : hp.objs.size + 1 + 1 ≤ dx := by
      first
        | (simpa only [Heap.size_push] using dn)
        | exact dn
        | (have q := dn; rw [Heap.size_push, Heap.size_push] at q; exact q)
    exact ⟨rfl, hq h' tk' (hp.objs.size + 1) dx t1 ⟨old, Nat.le_succ _, hx, Nat.le_trans (Nat.le_trans (Nat.le_succ _) (Nat.le_succ _)) z, dne, hns⟩⟩
end
end ErrX
end PySem

namespace L2
open PySem PySem.Spec PyProof.Rows PySem.ErrX
section
variable {fs ex : List Addr} {H : Hp} {h h' : Heap} {a b : Addr} {o u : HO}
theorem Un.laid2 (k : ∀ c v, h.get? c = some v → h'.get? c = some v) (ha : h.objs.size ≤ a) (hb : h.objs.size ≤ b) (na : H a = none) (nb : H b = none) : Un fs ex H (upd (upd H a o) b u) h h' where
  keep := fun c v q _ _ _ => k c v q
  slot := fun c v q _ _ _ => ⟨v.slots, k c v q⟩
  free := fun c v q n _ => by rw [upd_ne (Nat.ne_of_lt (Nat.lt_of_lt_of_le (Heap.lt_size q) hb)), upd_ne (Nat.ne_of_lt (Nat.lt_of_lt_of_le (Heap.lt_size q) ha))]; exact n
  there := fun c v q _ => ⟨v, k c v q⟩
  tups := fun c xs q => by rw [upd_ne (ne_of_none q nb), upd_ne (ne_of_none q na)]; exact q
  frzs := fun c v xs q => by rw [upd_ne (ne_of_none q nb), upd_ne (ne_of_none q na)]; exact q
  tbls := fun c ps q => ⟨#[], by rw [upd_ne (ne_of_none q nb), upd_ne (ne_of_none q na), q]; simp⟩
theorem HOk.laid2 {P : Program} {w : World} (x : HOk P w H h) (k : ∀ c v, h.get? c = some v → h'.get? c = some v) (ha : h.objs.size ≤ a) (hb : h.objs.size ≤ b)
    (newA : ObjOk P w (upd (upd H a o) b u) h' a o) (newB : ObjOk P w (upd (upd H a o) b u) h' b u) : HOk P w (upd (upd H a o) b u) h' := fun c v e => by
  have na := x.fresh ha
  have nb := x.fresh hb
  by_cases hcb : c = b
  · subst hcb; rw [upd_same] at e; cases e; exact newB
  · rw [upd_ne hcb] at e
    by_cases hca : c = a
    · subst hca; rw [upd_same] at e; cases e; exact newA
    · rw [upd_ne hca] at e
      exact (x c v e).stay (fun c v _ q => k c v q) (fun c q => by rw [upd_ne (ne_of_none q nb), upd_ne (ne_of_none q na)]; exact q) fun c xs q => by rw [upd_ne (ne_of_none q nb), upd_ne (ne_of_none q na)]; exact q
end
/-- what a def must know to make an error of the class x -/
structure ErrT0 (prog : Program) (K : PySem.W.Frag) (mg : Str → Option Value) (x : Str) (C : Addr) : Prop where
  g : mg x = some (.ref C)
  k : ErrK K C
  i : ∃ (fI : Addr) (q1 q2 q3 q5 q6 : Pos), (q3.endLine == q5.line) = true ∧ ErrI prog K C fI ["self"] [bSup q1 q2 q3 q5 q6 []]
structure ErrT1 (prog : Program) (K : PySem.W.Frag) (mg : Str → Option Value) (x fld : Str) (C : Addr) : Prop where
  g : mg x = some (.ref C)
  k : ErrK K C
  no : PySem.W.findIn K (.ref C) fld = some none
  fs : (fld == ("self" : Str)) = false
  fd : (fld == ("__debug__" : Str)) = false
  i : ∃ (fI : Addr) (q1 q2 q3 q4 q5 q6 q7 q8 q9 q10 : Pos), (q3.endLine == q5.line) = true ∧ ErrI prog K C fI ["self", fld] [bSup q1 q2 q3 q5 q6 [.Name fld q4], bSet fld q7 q8 q9 q10]
def tErr0 (C : Addr) : TE := fun _ H Q => ∀ a : Addr, H a = none → Q (.ref a) (upd H a (exo a C none))
def tErr1 (C : Addr) (fld : Str) (te : TE) : TE := fun σ H Q => te σ H fun v H1 => ∀ a d : Addr, H1 a = none → H1 d = none → d ≠ a → Q (.ref a) (upd (upd H1 d (.xd [(fld, v)])) a (exo a C (some d)))
theorem relO_one {v : V} {v' : Value} (r : RelV v v') (fld f : Str) : RelO (List.lookup f [((fld : Str), v)]) (if f = fld then some v' else none) := by
  by_cases hw : f = fld
  · subst hw
    rw [if_pos rfl]
    have q : List.lookup f [((f : Str), v)] = some v := by simp [List.lookup]
    rw [q]
    exact r
  · rw [if_neg hw]
    have qw : (f == fld) = false := by simpa using hw
    have q2 : List.lookup f [((fld : Str), v)] = none := by simp [List.lookup, qw]
    rw [q2]
    trivial
section
variable {X : Cx} {C : Addr} {x fld : Str}
theorem pe_err0 {k : Nat} {p pos : Pos} (T : ErrT0 X.prog X.K X.mg x C) (hsup : X.mg "super" = none) (hr : Room k X.A) (hg : Gl X x := by rfl) (hdb : (x == ("__debug__" : Str)) = false := by decide) : PE X (.Call (.Name x p) [] [] pos) (tErr0 C) := by
  obtain ⟨fI, q1, q2, q3, q5, q6, hl, I0⟩ := T.i
  refine ⟨fun pins s σ H Q I h => ?_⟩
  obtain ⟨mb, hmb, hmbv⟩ := I.mod.blt
  refine wpAny_Call_Name_kw (ld_glob I hg T.g ?_ hdb)
  refine PySem.W.callWith_K0 I.kIn T.k.kC ?_
  refine wpAny_call (made0 hl T.k I0 I.kIn I.nolimit (by have := hr.dp; omega) (I.mod.glob.keeps I.bk) hsup (hmb.keeps I.bk) ((hmbv _ (by decide +kernel)).trans (by first | rfl | decide +kernel)) fun h' tk e t1 M => ?_)
  have hn : H e = none := I.hok.fresh M.new
  exact ⟨.ref e, _, I.laid (t' := tk) M.keep M.new (exo_ok M.obj), rfl, h e hn⟩
theorem pe_err1 {k : Nat} {e : Expr} {te : TE} {p pos : Pos} (T : ErrT1 X.prog X.K X.mg x fld C) (hsup : X.mg "super" = none) (hr : Room k X.A) (he : PE X e te) (hg : Gl X x := by rfl) (hdb : (x == ("__debug__" : Str)) = false := by decide)
    (hs : starEach [e] X.env = (false, eval e X.env) :: starEach [] X.env := by rfl) : PE X (.Call (.Name x p) [e] [] pos) (tErr1 C fld te) := by
  obtain ⟨fI, q1, q2, q3, q4, q5, q6, q7, q8, q9, q10, hl, I0⟩ := T.i
  refine ⟨fun pins s σ H Q I h => ?_⟩
  refine wpAny_Call_Name_kw (ld_glob I hg T.g ?_ hdb)
  refine PySem.W.callWith_K (h₀ := X.base) I.ok.mod.kin T.k.kC ?_ hs (by rfl)
  rw [hs]
  show wpAny _ _ (spliced ((false, eval e X.env) :: backTo pos (starEach [] X.env))) _ _ s
  refine Calls.spliced_cons (thn (he.run pins s σ H _ I h) fun u s1 ⟨v, H1, I1, r1, q⟩ => ?_)
  refine Calls.spliced_nil ⟨I1.kIn, ?_⟩
  show wpAny _ _ (call (.ref C) [u]) _ _ _
  obtain ⟨mb, hmb, hmbv⟩ := I1.mod.blt
  refine wpAny_call (made1 hl T.k I0 I1.kIn I1.nolimit (by have := hr.dp; omega) T.no T.fs T.fd (I1.mod.glob.keeps I1.bk) hsup (hmb.keeps I1.bk) ((hmbv _ (by decide +kernel)).trans (by first | rfl | decide +kernel)) fun h' tk a d t1 M => ?_)
  have na : H1 a = none := I1.hok.fresh M.new
  have nd : H1 d = none := I1.hok.fresh M.dbig
  have od : ObjOk X.prog X.w (upd (upd H1 d (.xd [(fld, v)])) a (exo a C (some d))) h' d (.xd [(fld, v)]) := ⟨_, M.ns, fun f => relO_one r1 fld f⟩
  exact ⟨.ref a, _, I1.un (t' := tk) (Un.laid2 M.keep M.dbig M.new nd na) (HOk.laid2 I1.hok M.keep M.dbig M.new od (exo_ok M.obj)), rfl, q a d na nd M.dne⟩

/-- a held error is raised: it is let go, its own dict stays -/
theorem pmk_held {e : Expr} {te : TE} (hx : X.ex = []) (he : PE X e te) :
    PMk X e (fun σ H Q => te σ H fun x H1 => ∃ (a C : Addr) (d : Option Addr), x = .ref a ∧ H1 a = some (exo a C d) ∧ Fr0 X.H_0 a ∧ Raises X (.ref C) ∧ Q (.ref C) d (delH H1 a)) := by
  intro pins s σ H Q I h
  refine wpAny_mono (he.run pins s σ H _ I h) (fun u s1 hu => ?_) fun _ _ x => x
  obtain ⟨v, H1, I1, r1, a, C, d, rfl, ha, h0, hr, q⟩ := hu
  cases r1
  obtain ⟨⟨t1, ho⟩, _, _⟩ := I1.hok a _ ha
  obtain ⟨G, gs, ga, J⟩ := I1.untrack ha h0 hx
  exact ⟨a, _, _, { s1 with heap := G }, delH H1 a, .ref C, d, rfl, J, gs, ga, ho, ⟨rfl, rfl⟩, rfl, rfl, delH_same, rfl, I1.bare, hr, q⟩
end
end L2
end

section
set_option Elab.async false
set_option linter.all false
set_option maxRecDepth 100000
set_option maxHeartbeats 4000000

namespace PySem
namespace ErrX
open PySem.W PySem.Calls PyProof.Rows PySem.HandSPX

def clsB (K : Frag) (C : Addr) : Bool := match K.lookup C with
  | some ⟨.type "type", _, .cls cd, sl⟩ => (match cd.mro, sl.toList with
    | .ref C' :: bm, [_, _, _, _, some (.builtin n), _] => C' == C && n == "ValueError.__new__" && !cd.hasDel && cd.hasDict && refsVE bm
    | _, _ => false)
  | _ => false
theorem clsB_ok {K : Frag} {C : Addr} (q : clsB K C = true) : ∃ nm qn N bs bm sn sub ab col dd k0 k1 k2 k3 k5, K.lookup C = some (excClassObj nm qn C N bs bm true sn sub ab col dd k0 k1 k2 k3 k5 "ValueError.__new__") ∧ refsVE bm = true := by
  unfold clsB at q
  split at q
  · rename_i dd cd sl ho
    split at q
    · rename_i C' bm k0 k1 k2 k3 n k5 hm hs
      simp only [Bool.and_eq_true, beq_iff_eq, Bool.not_eq_true'] at q
      obtain ⟨⟨⟨⟨rfl, rfl⟩, hdel⟩, hd⟩, ht⟩ := q
      obtain ⟨nm, bs, mro, ns, qn, hd', sn, sub, ab, col, del⟩ := cd
      dsimp only at hm hdel hd
      subst hm hdel hd
      have hsl : sl = #[k0, k1, k2, k3, some (.builtin "ValueError.__new__"), k5] := by
        obtain ⟨l⟩ := sl
        simp only at hs
        rw [hs]
      subst hsl
      exact ⟨nm, qn, ns, bs, bm, sn, sub, ab, col, dd, k0, k1, k2, k3, k5, ho, ht⟩
    · cases q
  · cases q
def errKB (K : Frag) (C : Addr) : Bool := clsB K C && (He.eqO (findIn K (.ref C) "__setattr__") (some (some (.builtin "object.__setattr__"))) && (He.eqO (findIn K (.ref C) "__getattribute__") (some (some (.builtin "BaseException.__getattribute__"))) &&
  (He.eqO (findIn K (.ref C) "__getattr__") (some none) && (decide (typeIn K (.ref C) = some (.type "type")) && (keepIn K (.ref C) && (decide (subIn K (.ref C) (.type "BaseException") = some true) && (decide (subIn K (.ref C) (.type "ValueError") = some true) &&
  (hasDictIn K C && (decide (mroIn K C (.ref C) = some true) && (decide (mroIn K C (.type "object") = some true) && He.eqO (findIn K (.ref C) "__class__") (some (some (.builtin "object.__class__")))))))))))))
theorem errKB_ok {K : Frag} {C : Addr} (h : errKB K C = true) : ErrK K C := by
  unfold errKB at h
  obtain ⟨h1, h⟩ := Bool.and_eq_true_iff.mp h
  obtain ⟨h2, h⟩ := Bool.and_eq_true_iff.mp h
  obtain ⟨h3, h⟩ := Bool.and_eq_true_iff.mp h
  obtain ⟨h4, h⟩ := Bool.and_eq_true_iff.mp h
  obtain ⟨h5, h⟩ := Bool.and_eq_true_iff.mp h
  obtain ⟨h6, h⟩ := Bool.and_eq_true_iff.mp h
  obtain ⟨h7, h⟩ := Bool.and_eq_true_iff.mp h
  obtain ⟨h8, h⟩ := Bool.and_eq_true_iff.mp h
  obtain ⟨h9, h⟩ := Bool.and_eq_true_iff.mp h
  obtain ⟨h10, h⟩ := Bool.and_eq_true_iff.mp h
  obtain ⟨h11, h12⟩ := Bool.and_eq_true_iff.mp h
  exact ⟨clsB_ok h1, He.eqO_ok h2, He.eqO_ok h3, He.eqO_ok h4, of_decide_eq_true h5, h6, of_decide_eq_true h7, of_decide_eq_true h8, h9, of_decide_eq_true h10, of_decide_eq_true h11, He.eqO_ok h12⟩

/-! ### the own __init__ -/
def fOf (K : Frag) (C : Addr) : Addr := match findIn K (.ref C) "__init__" with
  | some (some (.ref f)) => f
  | _ => 0
def scB (sc : Scope) (ps : List Str) : Bool := ps.all (fun p => decide (sc.names.lookup p = some .local)) && (sc.names.all (fun y => !decide (y.2 = .cell)) && (!sc.isCoroutine && (!sc.isGenerator && (decide (sc.kind = .function) &&
  (decide (sc.names.lookup ("super" : Str) = some .globalImplicit) && decide (sc.names.lookup ("__class__" : Str) = some .free))))))
def codeB (prog : Program) (K : Frag) (cda : Addr) (q : Str) : Bool := codeIn K (.ref cda) q && (match K.lookup cda with
  | some ⟨_, _, .fields vs, _⟩ => (match (vs[2]? : Option Value) with
    | some (Value.str file _) => ((prog.main.file : Str) == file)
    | _ => false)
  | _ => false)
def cellB (K : Frag) (cc C : Addr) : Bool := match K.lookup cc with
  | some ⟨_, _, .cell (some (.ref D)), _⟩ => D == C
  | _ => false
def supB (prog : Program) (K : Frag) (C : Addr) : Bool := He.eqO (findIn K (.ref C) "__init__") (some (some (.ref (fOf K C)))) && (decide (typeIn K (.ref (fOf K C)) = some (.type "function")) &&
  (He.eqO (ks_superIn K C C "__init__") (some (some (.builtin "ValueError.__init__"))) && (He.eqO (nsIn K cStatics "thirdparty.any") (some none) && !(prog.main.scope.names.lookup ("super" : Str)).isSome)))
def parB (fd : FuncData) (ps : List Str) : Bool := match fd.params with
  | ⟨[], as, none, [], [], none, []⟩ => decide (as.map (·.arg) = ps)
  | _ => false
/-- all but the body -/
def fnB (prog : Program) (K : Frag) (C : Addr) (ps : List Str) (fd : FuncData) : Bool := decide (fd.name = "__init__") && (decide (fd.globals = mainGlobals) && (decide (fd.builtins = builtinsNs) && (decide (fd.defaults = .none) && (decide (fd.kwdefaults = .none) &&
  ((match fd.closure, fd.code with
    | [(x, cc)], .ref cda => decide (x = "__class__") && (cellB K cc C && codeB prog K cda fd.qualname)
    | _, _ => false) && (parB fd ps && scB fd.scope ps))))))
theorem and2 {a b : Bool} (h : (a && b) = true) : a = true ∧ b = true := Bool.and_eq_true_iff.mp h
theorem code_ok {prog : Program} {K : Frag} {cda : Addr} {q : Str} (h : codeB prog K cda q = true) : codeIn K (.ref cda) q = true ∧ ∃ (ccl : Value) (cdd : Option Addr) (vs : Array Value) (ccs : Array (Option Value)) (file : Str) (tf : Tok),
    K.lookup cda = some ⟨ccl, cdd, .fields vs, ccs⟩ ∧ vs[2]? = some (.str file tf) ∧ ((prog.main.file : Str) == file) = true := by
  obtain ⟨h1, h2⟩ := and2 h
  refine ⟨h1, ?_⟩
  split at h2
  · rename_i ccl cdd vs ccs ho
    split at h2
    · rename_i file tf hv
      exact ⟨ccl, cdd, vs, ccs, file, tf, ho, hv, h2⟩
    · cases h2
  · cases h2
theorem cell_ok {K : Frag} {cc C : Addr} (h : cellB K cc C = true) : ∃ (cl : Value) (cld : Option Addr) (csl : Array (Option Value)), K.lookup cc = some ⟨cl, cld, .cell (some (.ref C)), csl⟩ := by
  unfold cellB at h
  split at h
  · rename_i a b D c ho
    have e : D = C := by simpa using h
    subst e
    exact ⟨_, _, _, ho⟩
  · cases h
theorem fn_ok {prog : Program} {K : Frag} {C : Addr} {ps : List Str} {fd : FuncData} {body : List Stmt} (hb : fd.body = .stmts body) (h : fnB prog K C ps fd = true) :
    ∃ (qual : Str) (params : Arguments) (sc : Scope) (doc pm ct : Value) (an : Option Addr) (cc cda : Addr), fd = ksFn "__init__" qual params body sc .none .none doc pm an (.ref cda) ct cc ∧ cellB K cc C = true ∧ codeB prog K cda qual = true ∧
      (∃ as : List Arg, params = ⟨[], as, none, [], [], none, []⟩ ∧ as.map (·.arg) = ps) ∧ scB sc ps = true := by
  obtain ⟨n1, n2, n3, n4, n5, n6, n7, n8, n9, n10, n11, n12, n13, n14, n15⟩ := fd
  unfold fnB at h
  obtain ⟨h1, k1⟩ := and2 h
  obtain ⟨h2, k2⟩ := and2 k1
  obtain ⟨h3, k3⟩ := and2 k2
  obtain ⟨h4, k4⟩ := and2 k3
  obtain ⟨h5, k5⟩ := and2 k4
  obtain ⟨h6, k6⟩ := and2 k5
  obtain ⟨h7, h8⟩ := and2 k6
  clear h k1 k2 k3 k4 k5 k6
  replace h1 := of_decide_eq_true h1
  replace h2 := of_decide_eq_true h2
  replace h3 := of_decide_eq_true h3
  replace h4 := of_decide_eq_true h4
  replace h5 := of_decide_eq_true h5
  dsimp only at hb h1 h2 h3 h4 h5 h6 h7 h8
  subst hb h1 h2 h3 h4 h5
  split at h6
  · rename_i x cc cda
    obtain ⟨h9, h10⟩ := and2 h6
    obtain ⟨h11, h12⟩ := and2 h10
    have ex := of_decide_eq_true h9
    subst ex
    refine ⟨n2, n3, n5, n10, n11, n14, n12, cc, cda, rfl, h11, h12, ?_, h8⟩
    unfold parB at h7
    split at h7
    · rename_i as he
      exact ⟨as, he, of_decide_eq_true h7⟩
    · cases h7
  · cases h6
theorem sc_ok {sc : Scope} {ps : List Str} (h : scB sc ps = true) : (∀ p ∈ ps, sc.names.lookup p = some .local) ∧ (∀ y ∈ sc.names, y.2 ≠ .cell) ∧ sc.isCoroutine = false ∧ sc.isGenerator = false ∧ sc.kind = .function ∧
    sc.names.lookup ("super" : Str) = some .globalImplicit ∧ sc.names.lookup ("__class__" : Str) = some .free := by
  unfold scB at h
  obtain ⟨h1, h⟩ := and2 h
  obtain ⟨h2, h⟩ := and2 h
  obtain ⟨h3, h⟩ := and2 h
  obtain ⟨h4, h⟩ := and2 h
  obtain ⟨h5, h⟩ := and2 h
  obtain ⟨h6, h7⟩ := and2 h
  refine ⟨fun p hp => of_decide_eq_true (List.all_eq_true.mp h1 p hp), fun y hy e => ?_, by simpa using h3, by simpa using h4, of_decide_eq_true h5, of_decide_eq_true h6, of_decide_eq_true h7⟩
  have := List.all_eq_true.mp h2 y hy
  rw [decide_eq_true e] at this
  cases this
theorem sup_ok {prog : Program} {K : Frag} {C : Addr} (h : supB prog K C = true) : findIn K (.ref C) "__init__" = some (some (.ref (fOf K C))) ∧ typeIn K (.ref (fOf K C)) = some (.type "function") ∧
    ks_superIn K C C "__init__" = some (some (.builtin "ValueError.__init__")) ∧ nsIn K cStatics "thirdparty.any" = some none ∧ (prog.main.scope.names.lookup ("super" : Str)).isSome = false := by
  unfold supB at h
  obtain ⟨h1, h⟩ := and2 h
  obtain ⟨h2, h⟩ := and2 h
  obtain ⟨h3, h⟩ := and2 h
  obtain ⟨h4, h5⟩ := and2 h
  exact ⟨He.eqO_ok h1, of_decide_eq_true h2, He.eqO_ok h3, He.eqO_ok h4, by simpa using h5⟩
theorem errI_of {prog : Program} {K : Frag} {C : Addr} {ps : List Str} {body : List Stmt} {oc : Value} {od : Option Addr} {osl : Array (Option Value)} {fd : FuncData} (hs : supB prog K C = true) (lk : K.lookup (fOf K C) = some ⟨oc, od, .func fd, osl⟩)
    (hb : fd.body = .stmts body) (hf : fnB prog K C ps fd = true) (hself : ps.head? = some "self")
    (hbind : ∀ (as : List Arg), as.map (·.arg) = ps → ∀ (qual : Str) (sc : Scope) (doc pm ct : Value) (an : Option Addr) (cc cda : Addr) (us : List Value), us.length = ps.length →
      bindArgs (ksFn "__init__" qual ⟨[], as, none, [], [], none, []⟩ body sc .none .none doc pm an (.ref cda) ct cc) ⟨us, []⟩ = pure (ps.zip us)) : ErrI prog K C (fOf K C) ps body := by
  obtain ⟨h1, h2, h3, h4, h5⟩ := sup_ok hs
  obtain ⟨qual, params, sc, doc, pm, ct, an, cc, cda, rfl, hcell, hcode, ⟨as, rfl, has⟩, hsc⟩ := fn_ok hb hf
  obtain ⟨hc1, ccl, cdd, vs, ccs, file, tf, hc2, hc3, hc4⟩ := code_ok hcode
  obtain ⟨cl, cld, csl, hcl⟩ := cell_ok hcell
  obtain ⟨s1, s2, s3, s4, s5, s6, s7⟩ := sc_ok hsc
  refine ⟨h1, h2, h3, h4, h5, oc, ccl, cl, od, cdd, cld, osl, ccs, csl, qual, _, sc, doc, pm, ct, an, cc, cda, vs, file, tf, lk, hc1, hc2, hc3, hc4, hcl, ?_, fun s us hl => .of_eq (hbind as has qual sc doc pm ct an cc cda us hl), s1, s2, s3, s4, s5, s6, s7⟩
  cases as with
  | nil =>
    subst has
    cases hself
  | cons a r =>
    refine ⟨a, rfl, ?_⟩
    rw [← has] at hself
    exact Option.some.inj hself
/-- the body super().__init__() | super().__init__(fld); self.fld = fld -/
def bod0B : List Stmt → Bool
  | [.Expr (.Call (.Attribute (.Call (.Name s1 _) [] [] _) s2 q3) [] [] q5) _] => decide (s1 = "super") && (decide (s2 = "__init__") && (q3.endLine == q5.line))
  | _ => false
def bod1B (fld : Str) : List Stmt → Bool
  | [.Expr (.Call (.Attribute (.Call (.Name s1 _) [] [] _) s2 q3) [.Name f1 _] [] q5) _, .Assign [.Attribute (.Name s3 _) f2 _] (.Name f3 _) _] =>
    decide (s1 = "super") && (decide (s2 = "__init__") && ((q3.endLine == q5.line) && (decide (f1 = fld) && (decide (s3 = "self") && (decide (f2 = fld) && decide (f3 = fld))))))
  | _ => false
theorem bod0_ok {b : List Stmt} (h : bod0B b = true) : ∃ q1 q2 q3 q5 q6 : Pos, (q3.endLine == q5.line) = true ∧ b = [bSup q1 q2 q3 q5 q6 []] := by
  unfold bod0B at h
  split at h
  · obtain ⟨h1, h⟩ := and2 h
    obtain ⟨h2, h3⟩ := and2 h
    have e1 := of_decide_eq_true h1
    have e2 := of_decide_eq_true h2
    subst e1 e2
    exact ⟨_, _, _, _, _, h3, rfl⟩
  · cases h
theorem bod1_ok {fld : Str} {b : List Stmt} (h : bod1B fld b = true) : ∃ q1 q2 q3 q4 q5 q6 q7 q8 q9 q10 : Pos, (q3.endLine == q5.line) = true ∧ b = [bSup q1 q2 q3 q5 q6 [.Name fld q4], bSet fld q7 q8 q9 q10] := by
  unfold bod1B at h
  split at h
  · obtain ⟨h1, h⟩ := and2 h
    obtain ⟨h2, h⟩ := and2 h
    obtain ⟨h3, h⟩ := and2 h
    obtain ⟨h4, h⟩ := and2 h
    obtain ⟨h5, h⟩ := and2 h
    obtain ⟨h6, h7⟩ := and2 h
    have e1 := of_decide_eq_true h1
    have e2 := of_decide_eq_true h2
    have e4 := of_decide_eq_true h4
    have e5 := of_decide_eq_true h5
    have e6 := of_decide_eq_true h6
    have e7 := of_decide_eq_true h7
    subst e1 e2 e4 e5 e6 e7
    exact ⟨_, _, _, _, _, _, _, _, _, _, h3, rfl⟩
  · cases h
def bodOf (fd : FuncData) : List Stmt := match fd.body with
  | .stmts b => b
  | _ => []
def fdB (K : Frag) (C : Addr) (c : FuncData → Bool) : Bool := match K.lookup (fOf K C) with
  | some ⟨_, _, .func fd, _⟩ => (match fd.body with
    | .stmts _ => c fd
    | _ => false)
  | _ => false
theorem fd_ok {K : Frag} {C : Addr} {c : FuncData → Bool} (h : fdB K C c = true) : ∃ (oc : Value) (od : Option Addr) (osl : Array (Option Value)) (fd : FuncData), K.lookup (fOf K C) = some ⟨oc, od, .func fd, osl⟩ ∧ fd.body = .stmts (bodOf fd) ∧ c fd = true := by
  unfold fdB at h
  split at h
  · rename_i oc od fd osl ho
    split at h
    · rename_i b hb
      exact ⟨oc, od, osl, fd, ho, by unfold bodOf; rw [hb], h⟩
    · cases h
  · cases h
/-- a class of the package: errors without a field | with one -/
def err0B (prog : Program) (K : Frag) (x : Str) : Bool := He.eqO (nsIn K mainGlobals x) (some (some (.ref (He.ga K x)))) && (errKB K (He.ga K x) && (supB prog K (He.ga K x) && fdB K (He.ga K x) fun fd => fnB prog K (He.ga K x) ["self"] fd && bod0B (bodOf fd)))
def err1B (prog : Program) (K : Frag) (x fld : Str) : Bool := He.eqO (nsIn K mainGlobals x) (some (some (.ref (He.ga K x)))) && (errKB K (He.ga K x) && (supB prog K (He.ga K x) && (fdB K (He.ga K x) (fun fd => fnB prog K (He.ga K x) ["self", fld] fd && bod1B fld (bodOf fd)) &&
  (He.eqO (findIn K (.ref (He.ga K x)) fld) (some none) && (!(fld == ("self" : Str)) && !(fld == ("__debug__" : Str)))))))
end ErrX
end PySem
namespace L2
open PySem PySem.Spec PyProof.Rows PySem.ErrX
theorem err0_ok {prog : Program} {K : PySem.W.Frag} {mg : Str → Option Value} {x : Str} {h : Heap} (X : K.In h) (G : h.Ns mainGlobals mg) (c : err0B prog K x = true) : ErrT0 prog K mg x (He.ga K x) := by
  unfold err0B at c
  obtain ⟨h1, c⟩ := and2 c
  obtain ⟨h2, c⟩ := and2 c
  obtain ⟨h3, h4⟩ := and2 c
  obtain ⟨oc, od, osl, fd, lk, hb, h5⟩ := fd_ok h4
  obtain ⟨h6, h7⟩ := and2 h5
  obtain ⟨q1, q2, q3, q5, q6, hl, eb⟩ := bod0_ok h7
  refine ⟨PySem.W.mg_of X G (He.eqO_ok h1), errKB_ok h2, fOf K (He.ga K x), q1, q2, q3, q5, q6, hl, ?_⟩
  rw [eb] at hb
  refine errI_of h3 lk hb h6 rfl fun as has qual sc doc pm ct an cc cda us hl => ?_
  match as, has, us, hl with
  | [⟨_, _, _⟩], rfl, [_], _ => rfl
def BindF (fld : Str) : Prop := ∀ (an1 an2 : Option Expr) (p1 p2 : Pos) (body : List Stmt) (qual : Str) (sc : Scope) (doc pm ct : Value) (an : Option Addr) (cc cda : Addr) (u v : Value),
  bindArgs (PySem.W.ksFn "__init__" qual ⟨[], [⟨"self", an1, p1⟩, ⟨fld, an2, p2⟩], none, [], [], none, []⟩ body sc .none .none doc pm an (.ref cda) ct cc) ⟨[u, v], []⟩ = pure [(("self" : Str), u), (fld, v)]
theorem bindF_part : BindF "part" := by intro _ _ _ _ _ _ _ _ _ _ _ _ _ _ _; rfl
theorem bindF_at : BindF "at" := by intro _ _ _ _ _ _ _ _ _ _ _ _ _ _ _; rfl
theorem bindF_name : BindF "name" := by intro _ _ _ _ _ _ _ _ _ _ _ _ _ _ _; rfl
theorem err1_ok {prog : Program} {K : PySem.W.Frag} {mg : Str → Option Value} {x fld : Str} {h : Heap} (bf : BindF fld) (X : K.In h) (G : h.Ns mainGlobals mg) (c : err1B prog K x fld = true) : ErrT1 prog K mg x fld (He.ga K x) := by
  unfold err1B at c
  obtain ⟨h1, c⟩ := and2 c
  obtain ⟨h2, c⟩ := and2 c
  obtain ⟨h3, c⟩ := and2 c
  obtain ⟨h4, c⟩ := and2 c
  obtain ⟨h8, c⟩ := and2 c
  obtain ⟨h9, h10⟩ := and2 c
  obtain ⟨oc, od, osl, fd, lk, hb, h5⟩ := fd_ok h4
  obtain ⟨h6, h7⟩ := and2 h5
  obtain ⟨q1, q2, q3, q4, q5, q6, q7, q8, q9, q10, hl, eb⟩ := bod1_ok h7
  refine ⟨PySem.W.mg_of X G (He.eqO_ok h1), errKB_ok h2, He.eqO_ok h8, by simpa using h9, by simpa using h10, fOf K (He.ga K x), q1, q2, q3, q4, q5, q6, q7, q8, q9, q10, hl, ?_⟩
  rw [eb] at hb
  refine errI_of h3 lk hb h6 rfl fun as has qual sc doc pm ct an cc cda us hl => ?_
  match as, has, us, hl with
  | [⟨a1, n1, p1⟩, ⟨a2, n2, p2⟩], has, [u, v], _ =>
    have e : [a1, a2] = (["self", fld] : List Str) := has
    obtain ⟨e1, e2⟩ := List.cons.inj e
    obtain ⟨e3, _⟩ := List.cons.inj e2
    subst e1 e3
    exact bf n1 n2 p1 p2 _ qual sc doc pm ct an cc cda u v
end L2
end

section
set_option Elab.async false
set_option linter.all false
set_option maxRecDepth 100000
set_option maxHeartbeats 4000000

namespace PySem
namespace ErrX
open PySem.W PySem.Spec PySem.Calls PyProof.Rows PySem.HandSPX
section
variable {prog : Program} {w : World} {A : Around} {E : Value → Shared → Prop} {s : Shared} {K : Frag} {x D : Addr} {ox : Obj} {od : Option Obj}
theorem findObj_dataO {C : Addr} {name : Str} {a g : Value} (hc : (clsIn K C).isSome = true) (ha : findIn K (.ref C) name = some (some a)) (hg : specialIn K a "__get__" = some (some g)) (ht : takesIn K a = some true) : findObj K C od name = some (.bind g a) := by
  obtain ⟨cd, hc⟩ := Option.isSome_iff_exists.mp hc
  unfold findObj
  rw [hc, Option.bind_some, ha, Option.bind_some]
  simp [hg, ht]
theorem kin_classO {Q : Option Value → Shared → Prop} (hga : findIn K (.ref D) "__getattribute__" = some (some (.builtin "BaseException.__getattribute__"))) (hgt : findIn K (.ref D) "__getattr__" = some none) (hsub : subIn K (.ref D) (.type "BaseException") = some true)
    (hdct : hasDictIn K D = true) (ha : findIn K (.ref D) "__class__" = some (some (.builtin "object.__class__")))
    (hn : specialIn K (.builtin "object.__class__") "__get__" = some (some (.builtin "getset_descriptor.__get__"))) (htk : takesIn K (.builtin "object.__class__") = some true) (hm : mroIn K D (.type "object") = some true)
    (X : K.In s.heap) (I : InstAt s.heap x ox D od) (h : Q (some (.ref D)) { s with toks := s.toks + 1 }) : wpAny (model prog w) A (getAttr? (.ref x) "__class__") Q E s := by
  have hf : findObj K D od "__class__" = some (.bind (.builtin "getset_descriptor.__get__") (.builtin "object.__class__")) := findObj_dataO (by obtain ⟨cd, hc, _⟩ := any_some hdct; rw [hc]; rfl) ha hn htk
  obtain ⟨hp, g, d, t, os⟩ := s
  have L0 := I.type (M := model prog w)
  have L1 := looks_findIn (M := model prog w) X hga
  have L2 := looks_findIn (M := model prog w) X hgt
  have L3 := looks_find (M := model prog w) X I hf
  have sub : Looks (model prog w) hp (isInstance (.ref x) (.type "BaseException")) true := L0.andThen (looks_subIn X hsub)
  have hx0 : (false && onTheHeap (Value.builtin "BaseException.__getattribute__")) = false := rfl
  have hx2 : (Value.builtin "BaseException.__getattribute__" == Value.builtin "object.__getattribute__") = false := by decide +kernel
  have hx1 : (onTheHeap (Value.ref D) && Value.builtin "BaseException.__getattribute__" == Value.builtin "object.__getattribute__") = false := by rw [hx2]; rfl
  unfold getAttr? getAttrBy? getAttrBy
  refine wpAny_bind (wpAny_mkText (wpAny_bind (wpAny_attempt (wpAny_holding (wpAny_bind (L0.at (wpAny_bind (L1.at ?_))))))))
  show wpAny _ _ (if (onTheHeap (Value.ref D) && Value.builtin "BaseException.__getattribute__" == Value.builtin "object.__getattribute__") = true then _ else _) _ _ _
  rw [hx1, if_neg Bool.false_ne_true]
  unfold getAttrByItsOwn hookBefore
  refine wpAny_bind ?_
  rw [if_pos (show onTheHeap (Value.ref D) = true from rfl)]
  refine L2.at ?_
  refine wpAny_bind (wpAny_attempt (wpAny_holding ?_))
  unfold callGetattribute
  rw [hx0, if_neg Bool.false_ne_true]
  unfold boundAndCalled
  rw [PySem.F.excAttr_ValueError.ga.bind (.ref x)]
  refine wpAny_bind (wpAny_pure ?_)
  show wpAny _ _ (call (.builtin "BaseException.__getattribute__") [.ref x, .str "__class__" t]) _ _ _
  refine wpAny_call (codeAny_call_builtin PySem.F.excAttr_ValueError.ga.plain PySem.F.entry_bexc_ga ?_)
  refine @check_slot (model prog w) _ _ ⟨hp, g, d, t + 1, os⟩ "BaseException.__getattribute__" "BaseException" "__getattribute__" (.ref x) [.str "__class__" t] [] _ (by decide +kernel) (by decide +kernel) sub (PySem.F.args_bexc_ga (.ref x) (.str "__class__" t)) ?_
  unfold Builtin.«object.__getattribute__»
  refine wpAny_bind (wpAny_of_eq (a := ((Value.ref x : Value), [Value.str "__class__" t])) (by first | rfl | (simp only [slotArgs]; rfl)) ?_)
  refine wpAny_bind (wpAny_pure (wpAny_bind (L0.at (wpAny_bind (L3.at ?_)))))
  show wpAny _ _ (holding [Value.builtin "object.__class__"] (call (.builtin "getset_descriptor.__get__") [.builtin "object.__class__", .ref x, .ref D]) >>= ret) _ _ _
  refine wpAny_bind (wpAny_holding (wpAny_call (class_get (s := ⟨hp, g, d, t + 1, os⟩) (ox := ox) (od := od) X I hm ?_)))
  refine wpAny_pure ?_
  show wpAny _ _ (handedOut (.ref D)) _ _ _
  rw [handedOut_of (v := .ref D) rfl]
  first
    | exact wpAny_pure (wpAny_pure h)
    | exact wpAny_pure h
    | exact wpAny_pure (wpAny_bind (wpAny_pure (wpAny_pure h)))
/-- what is told of object.__class__ by the written part -/
structure ClsGet (K : Frag) : Prop where
  hn : specialIn K (.builtin "object.__class__") "__get__" = some (some (.builtin "getset_descriptor.__get__"))
  ht : takesIn K (.builtin "object.__class__") = some true
def clsGetB (K : Frag) : Bool := He.eqO (specialIn K (.builtin "object.__class__") "__get__") (some (some (.builtin "getset_descriptor.__get__"))) && decide (takesIn K (.builtin "object.__class__") = some true)
theorem clsGet_ok {K : Frag} (h : clsGetB K = true) : ClsGet K := by
  obtain ⟨h1, h2⟩ := and2 h
  exact ⟨He.eqO_ok h1, of_decide_eq_true h2⟩
theorem kitx_err (T : ErrK K D) (G : ClsGet K) : KitX K (.ref x) (.ref D) (fun h => ∃ ox od, InstAt h x ox D od) where
  ty := fun _ _ _ ⟨_, _, I⟩ => I.type
  it := fun _ _ X _ => by
    obtain ⟨cdD, hcD, _⟩ := any_some T.hdC
    unfold clsIn at hcD
    split at hcD
    · rename_i c' d' cd' sl' ho
      intro A' Q' E' s' k q
      unfold isType loadHead
      exact wpAny_bind (wpAny_loadPart (k _ _ (X _ _ ho)) (wpAny_pure q))
    · cases hcD
  ne := fun h tp dd its n sl X htp => by
    obtain ⟨cdD, hcD, _⟩ := any_some T.hdC
    refine Bool.eq_false_iff.mpr fun q => ?_
    have e : D = tp := Value.ref.inj (beq_iff_eq.mp q)
    subst e
    unfold clsIn at hcD
    split at hcD
    · rename_i c' d' cd' sl' ho
      have z := (X _ _ ho).symm.trans htp
      cases z
    · cases hcD
  ca := fun X ⟨_, _, I⟩ k => kin_classO T.ga T.gg T.exC T.hdC T.cla G.hn G.ht T.obj X I k
end
end ErrX
end PySem

namespace L2
open PySem PySem.Spec PyProof.Rows PySem.ErrX
/-- the kind of a value: as TyX, or a held error -/
inductive TyZ (K : PySem.W.Frag) (H : Hp) : V → Value → Prop where
  | x {x : V} {t : Value} (h : TyX K H x t) : TyZ K H x t
  | exc {a C : Addr} {d : Option Addr} (e : H a = some (exo a C d)) (dd : ∀ b, d = some b → ∃ fs, H b = some (.xd fs)) (T : ErrK K C) : TyZ K H (.ref a) (.ref C)
def rIsz (K : PySem.W.Frag) : List V → Hp → VK → Prop := fun xs H Q => ∃ (x c : V) (t u : Value) (b : Bool), xs = [x, c] ∧ ClsV c u ∧ TyZ K H x t ∧ PySem.W.kitOne K t u = some b ∧ Q (.bl b) H
section
variable {X : Cx} {pins : List (Addr × Obj)} {σ : St} {H : Hp} {s : Shared}
theorem held_inst {a C : Addr} {d : Option Addr} (I : Inv X pins σ H s) (e : H a = some (exo a C d)) (dd : ∀ b, d = some b → ∃ fs, H b = some (.xd fs)) : ∃ ox od, PySem.W.InstAt s.heap a ox C od := by
  obtain ⟨t1, he⟩ := exo_at I.hok e
  cases d with
  | none => exact ⟨_, none, he, rfl, rfl, trivial⟩
  | some b =>
    obtain ⟨fs, hb⟩ := dd b rfl
    obtain ⟨mA, ⟨od, es, ep, ho, _⟩, _⟩ := (show ObjOk X.prog X.w H s.heap b (.xd fs) from I.hok b _ hb)
    exact ⟨_, some od, he, rfl, rfl, ho⟩
theorem kit_ofZ (G : ClsGet X.K) {x : V} {u t : Value} (I : Inv X pins σ H s) (rx : RelV x u) (ty : TyZ X.K H x t) : ∃ P : Heap → Prop, PySem.W.KitX X.K u t P ∧ P s.heap ∧ u ≠ .builtin "__main__.__loader__#opaque" := by
  cases ty with
  | x h => exact kit_of I rx h
  | @exc a C d e dd T =>
    cases (show u = Value.ref a from rx)
    exact ⟨_, kitx_err T G, held_inst I e dd, fun z => nomatch z⟩
theorem call_isz (G : ClsGet X.K) : CallR X (.builtin "isinstance") (rIsz X.K) := by
  intro pins s σ H xs us Q I r h
  obtain ⟨x, c, t, u, b, rfl, k, ty, e, q⟩ := h
  obtain ⟨u1, u2, rfl, r1, r2⟩ := vals2 r
  have e2 := k.eq r2
  subst e2
  obtain ⟨P, Z, p, hx⟩ := kit_ofZ G I r1 ty
  exact PySem.W.kia_one Z I.kIn p e hx fun tk => ⟨.bl b, H, I.tok tk, rfl, q⟩
/-- e.f of a held error -/
def tHeld (K : PySem.W.Frag) (f : Str) (te : TE) : TE := fun σ H Q => te σ H fun x H1 => ∃ (a C d : Addr) (fs : List (Str × V)) (v : V), x = .ref a ∧ H1 a = some (exo a C (some d)) ∧ H1 d = some (.xd fs) ∧ ErrK K C ∧ PySem.W.findIn K (.ref C) f = some none ∧ fs.lookup f = some v ∧ Q v H1
theorem pe_held {e : Expr} {te : TE} {pos : Pos} {n : Str} (he : PE X e te) (hb : attributeBase e n X.env (eval e X.env) = eval e X.env := by rfl) : PE X (.Attribute e n pos) (tHeld X.K n te) := by
  refine ⟨fun pins s σ H Q I h => ?_⟩
  refine attr_of hb (thn (he.run pins s σ H _ I h) fun u s1 hh => ?_)
  obtain ⟨x, H1, I1, rx, a, C, d, fs, v, ex, ea, ed, T, hno, l, q⟩ := hh
  subst ex
  obtain rfl : u = Value.ref a := rx
  obtain ⟨t1, ho1⟩ := exo_at I1.hok ea
  have hx : ObjOk X.prog X.w H1 s1.heap d (.xd fs) := I1.hok d _ ed
  obtain ⟨mA, hns, hr⟩ := hx
  obtain ⟨od, ho, hl⟩ := lookIn_ns hns
  obtain ⟨u, hu, ru⟩ := RelO.some_of (v := v) (o := mA n) (by rw [← l]; exact hr n)
  have J : PySem.W.InstAt s1.heap a { cls := .ref C, dict := some d, data := .fields #[.ref t1, .none, .none, .none, .bool false, .none] } C (some od) := ⟨ho1, rfl, rfl, ho⟩
  exact HandSPX.exc_get I1.kIn J T.ga T.gg T.exC (PySem.W.findObj_own T.hdC hno rfl (by rw [hl, hu])) (handed_of ru) ⟨v, H1, I1.tok _, ru, q⟩
end
end L2
end

section
set_option Elab.async false
set_option linter.all false
set_option maxRecDepth 100000
set_option maxHeartbeats 4000000
namespace L2
open PySem PySem.Spec PyProof.Rows PySem.ErrX
/-- data of any kind, with dicts -/
def kD : Key → PyData
  | .inl i => .int i
  | .inr x => .str x
mutual
inductive Dt (K : PySem.W.Frag) (H : Hp) : V → PyData → Prop
  | non : Dt K H .non .none
  | bl (b : Bool) : Dt K H (.bl b) (.bool b)
  | int (i : Int) : Dt K H (.int i) (.int i)
  | str (x : Str) : Dt K H (.str x) (.str x)
  | lst {a : Addr} {xs : List V} {ds : List PyData} : SqL K H a xs → DtAll K H xs ds → Dt K H (.ref a) (.list ds)
  | tup {a : Addr} {xs : List V} {ds : List PyData} : SqT K H a xs → DtAll K H xs ds → Dt K H (.ref a) (.tuple ds)
  | dik {a : Addr} {kvs : List (Key × V)} {ds : List PyData} : H a = some (.dK kvs) → DtAll K H (kvs.map (·.2)) ds → Dt K H (.ref a) (.dict ((kvs.map fun p => kD p.1).zip ds))
  | dit {a : Addr} {kvs : List (List Key × V)} {ds : List PyData} : H a = some (.dT kvs) → DtAll K H (kvs.map (·.2)) ds → Dt K H (.ref a) (.dict ((kvs.map fun p => PyData.tuple (p.1.map kD)).zip ds))
inductive DtAll (K : PySem.W.Frag) (H : Hp) : List V → List PyData → Prop
  | nil : DtAll K H [] []
  | cons {v : V} {vs : List V} {d : PyData} {ds : List PyData} : Dt K H v d → DtAll K H vs ds → DtAll K H (v :: vs) (d :: ds)
end
theorem DtAll.length {K : PySem.W.Frag} {H : Hp} : ∀ {vs : List V} {ds : List PyData}, DtAll K H vs ds → vs.length = ds.length
  | [], [], _ => rfl
  | [], _ :: _, h => by cases h
  | _ :: _, [], h => by cases h
  | _ :: vs, _ :: ds, h => by
    cases h with
    | cons _ h2 => simp [DtAll.length h2]
theorem zip_fst {α β : Type} : ∀ {xs : List α} {ys : List β}, xs.length = ys.length → (xs.zip ys).map (·.1) = xs
  | [], [], _ => rfl
  | [], _ :: _, h => by cases h
  | _ :: _, [], h => by cases h
  | x :: xs, y :: ys, h => by
    show x :: (xs.zip ys).map (·.1) = x :: xs
    rw [zip_fst (by simpa using h)]
theorem zip_snd {α β : Type} : ∀ {xs : List α} {ys : List β}, xs.length = ys.length → (xs.zip ys).map (·.2) = ys
  | [], [], _ => rfl
  | [], _ :: _, h => by cases h
  | _ :: _, [], h => by cases h
  | x :: xs, y :: ys, h => by
    show y :: (xs.zip ys).map (·.2) = y :: ys
    rw [zip_snd (by simpa using h)]
section
variable {X : Cx} {pins : List (Addr × Obj)} {σ : St} {H : Hp} {s : Shared}
theorem reads_key {h : Heap} {k : Key} {u : Value} (e : keyIs k u = true) : Reads h u (kD k) [] := by
  rcases keyIs_shape e with ⟨i, t, rfl, rfl⟩ | ⟨x, t, rfl, rfl⟩
  · exact Reads.int i t
  · exact Reads.str x t
theorem reads_keys {prog : Program} {w : World} {h : Heap} : ∀ {es : List DictEntry} {kvs : List (Key × V)} {vs : List (Key × Value)}, KV kvs vs → PySem.Pairs (mixKind prog w) es vs → ReadsAll h (es.map (·.key)) (kvs.map fun p => kD p.1) []
  | [], _, _, r, p => by
    cases p
    cases r
    exact .nil
  | e :: es, kvs, vs, r, p => by
    cases p with
    | cons hk hv pr =>
      cases r with
      | cons r1 rr =>
        have e1 : keyIs _ e.key = true := hk
        have z := ReadsAll.cons (as := []) (bs := []) (reads_key (h := h) e1) (reads_keys rr pr)
        rw [← r1.1] at z
        exact z
theorem pair_vals {prog : Program} {w : World} : ∀ {es : List DictEntry} {kvs : List (Key × V)} {vs : List (Key × Value)}, KV kvs vs → PySem.Pairs (mixKind prog w) es vs → Vals (kvs.map (·.2)) (es.map (·.val))
  | [], _, _, r, p => by
    cases p
    cases r
    exact .nil
  | e :: es, kvs, vs, r, p => by
    cases p with
    | cons hk hv pr =>
      cases r with
      | cons r1 rr =>
        refine .cons ?_ (pair_vals rr pr)
        show RelV _ e.val
        rw [hv]
        exact r1.2
theorem reads_flat {h : Heap} : ∀ (ks : List Key) (us : List Value), Vals (ks.map kV) us → ReadsAll h us (ks.map kD) []
  | [], _, r => by
    cases r
    exact .nil
  | k :: ks, _, r => by
    cases r with
    | cons r1 rr =>
      have z := reads_flat (h := h) ks _ rr
      cases k with
      | inl i =>
        obtain ⟨t, rfl⟩ := r1
        exact ReadsAll.cons (as := []) (bs := []) (Reads.int i t) z
      | inr x =>
        obtain ⟨t, rfl⟩ := r1
        exact ReadsAll.cons (as := []) (bs := []) (Reads.str x t) z
/-- sys.modules stands in the written part: no tracked list is it -/
theorem sys_ne {K : PySem.W.Frag} {h : Heap} (X : K.In h) (hs : PySem.W.typeIn K (.ref sysModules) = some (.type "dict")) {a : Addr} {o : Obj} (e : h.get? a = some o) (hc : o.cls = .type "list") : a ≠ sysModules := by
  intro z
  subst z
  have ht : (K.lookup sysModules).map (·.cls) = some (.type "dict") := hs
  cases q : K.lookup sysModules with
  | none => rw [q] at ht; cases ht
  | some u =>
    rw [q] at ht
    have e2 := X _ _ q
    rw [e] at e2
    cases e2
    have z : o.cls = .type "dict" := Option.some.inj ht
    rw [hc] at z
    have := Value.type.inj z
    exact absurd this (by decide)
mutual
theorem Dt.reads (hs : PySem.W.typeIn X.K (.ref sysModules) = some (.type "dict")) (I : Inv X pins σ H s) : ∀ (d : PyData) (v : V) (u : Value), Dt X.K H v d → RelV v u → ∃ as, Reads s.heap u d as ∧ sysModules ∉ as
  | .none, _, _, h, r => by
    cases h
    cases r
    exact ⟨_, Reads.none, by simp⟩
  | .bool b, _, _, h, r => by
    cases h
    cases r
    exact ⟨_, Reads.bool b, by simp⟩
  | .int i, _, _, h, r => by
    cases h
    obtain ⟨t, rfl⟩ := r
    exact ⟨_, Reads.int i t, by simp⟩
  | .str x, _, _, h, r => by
    cases h
    obtain ⟨t, rfl⟩ := r
    exact ⟨_, Reads.str x t, by simp⟩
  | .list ds, _, _, h, r => by
    cases h with
    | lst hq ha =>
      cases r
      obtain ⟨its, rv, ⟨o, n, ho, hc, _, hd⟩, _⟩ := I.list hq
      obtain ⟨as, hr, hn⟩ := Dt.readsAll hs I ds _ its ha rv
      have hne := sys_ne I.kIn hs ho hc
      exact ⟨_, Reads.list ho hc hd hr, by simp [hn, Ne.symm hne]⟩
  | .tuple ds, _, _, h, r => by
    cases h with
    | tup hq ha =>
      cases r
      obtain ⟨its, rv, ⟨o, ho, hc, n, hd⟩, _⟩ := I.tuple hq
      obtain ⟨as, hr, hn⟩ := Dt.readsAll hs I ds _ its ha rv
      exact ⟨_, Reads.tuple ho hc hd hr, hn⟩
  | .dict kds, _, _, h, r => by
    generalize hd : PyData.dict kds = d at h
    cases h with
    | dik ea ha =>
      rename_i a kvs ds
      cases r
      have hlen : (kvs.map fun p => kD p.1).length = ds.length := by rw [← ha.length, List.length_map, List.length_map]
      have ek : kds = (kvs.map fun p => kD p.1).zip ds := by injection hd
      obtain ⟨z, hsm, vs, rkv, o, es, ep, ho, hx, hdat, hko, hp, hnd⟩ := (show ObjOk X.prog X.w H s.heap a (.dK kvs) from I.hok a _ ea)
      have hdk : ds = kds.map (·.2) := by rw [ek, zip_snd hlen]
      have hkk : kds.map (·.1) = kvs.map fun p => kD p.1 := by rw [ek, zip_fst hlen]
      rw [hdk] at ha
      obtain ⟨bs, hr, hn⟩ := Dt.readsKv hs I kds _ _ ha (pair_vals rkv hp)
      have hne : a ≠ sysModules := by simpa using hsm
      have hkr : ReadsAll s.heap (es.toList.map (·.key)) (kds.map (·.1)) [] := by
        rw [hkk]
        exact reads_keys rkv hp
      rw [← hd]
      exact ⟨_, Reads.dict ho hx.1 hdat hkr hr, by simp [hn, Ne.symm hne]⟩
    | dit ea ha =>
      rename_i a kvs ds
      cases r
      have hlen : (kvs.map fun p => PyData.tuple (p.1.map kD)).length = ds.length := by rw [← ha.length, List.length_map, List.length_map]
      have ek : kds = (kvs.map fun p => PyData.tuple (p.1.map kD)).zip ds := by injection hd
      obtain ⟨z, hsm, xs, rkv, o, es, ep, ho, hx, hdat, hes, hnd⟩ := (show ObjOk X.prog X.w H s.heap a (.dT kvs) from I.hok a _ ea)
      have hdk : ds = kds.map (·.2) := by rw [ek, zip_snd hlen]
      have hkk : kds.map (·.1) = kvs.map fun p => PyData.tuple (p.1.map kD) := by rw [ek, zip_fst hlen]
      have hv : Vals (kvs.map (·.2)) (es.toList.map (·.val)) := by
        rw [hes, List.map_map]
        clear hes hdat ha hdk hlen ek hkk hnd z ea hd
        induction rkv with
        | nil => exact .nil
        | cons r1 rr ih => exact .cons r1.2.2 ih
      have hk : ReadsAll s.heap (es.toList.map (·.key)) (kvs.map fun p => PyData.tuple (p.1.map kD)) [] := by
        rw [hes, List.map_map]
        clear hes hdat ha hdk hlen ek hkk hnd z hv ea hd
        induction rkv with
        | nil => exact .nil
        | cons r1 rr ih =>
          rename_i p q ps qs
          obtain ⟨_, its, rv, ot, h1, h2, n, h3⟩ := (show ObjOk X.prog X.w H s.heap q.2.1 (.tup (p.1.map kV)) from I.hok _ _ r1.2.1)
          exact ReadsAll.cons (as := []) (bs := []) (Reads.tuple h1 h2 h3 (reads_flat _ _ (by simpa using rv))) ih
      rw [hdk] at ha
      obtain ⟨bs, hr, hn⟩ := Dt.readsKv hs I kds _ _ ha hv
      have hne : a ≠ sysModules := by simpa using hsm
      have hkr : ReadsAll s.heap (es.toList.map (·.key)) (kds.map (·.1)) [] := by
        rw [hkk]
        exact hk
      rw [← hd]
      exact ⟨_, Reads.dict ho hx.1 hdat hkr hr, by simp [hn, Ne.symm hne]⟩
    | _ => cases hd
theorem Dt.readsAll (hs : PySem.W.typeIn X.K (.ref sysModules) = some (.type "dict")) (I : Inv X pins σ H s) : ∀ (ds : List PyData) (vs : List V) (us : List Value), DtAll X.K H vs ds → Vals vs us → ∃ as, ReadsAll s.heap us ds as ∧ sysModules ∉ as
  | [], _, _, h, r => by
    cases h
    cases r
    exact ⟨_, ReadsAll.nil, by simp⟩
  | d :: ds, _, _, h, r => by
    cases h with
    | cons h1 h2 =>
      cases r with
      | cons r1 r2 =>
        obtain ⟨as, q1, n1⟩ := Dt.reads hs I d _ _ h1 r1
        obtain ⟨bs, q2, n2⟩ := Dt.readsAll hs I ds _ _ h2 r2
        exact ⟨_, ReadsAll.cons q1 q2, by simp [n1, n2]⟩
theorem Dt.readsKv (hs : PySem.W.typeIn X.K (.ref sysModules) = some (.type "dict")) (I : Inv X pins σ H s) : ∀ (kds : List (PyData × PyData)) (vs : List V) (us : List Value), DtAll X.K H vs (kds.map (·.2)) → Vals vs us → ∃ as, ReadsAll s.heap us (kds.map (·.2)) as ∧ sysModules ∉ as
  | [], _, _, h, r => by
    cases h
    cases r
    exact ⟨_, ReadsAll.nil, by simp⟩
  | (k, d) :: ds, _, _, h, r => by
    cases h with
    | cons h1 h2 =>
      cases r with
      | cons r1 r2 =>
        obtain ⟨as, q1, n1⟩ := Dt.reads hs I d _ _ h1 r1
        obtain ⟨bs, q2, n2⟩ := Dt.readsKv hs I ds _ _ h2 r2
        exact ⟨_, ReadsAll.cons q1 q2, by simp [n1, n2]⟩
end
end
/-- repr(x) of data -/
def rRepr (K : PySem.W.Frag) : List V → Hp → VK → Prop := fun xs H Q => ∃ (v : V) (d : PyData), xs = [v] ∧ Dt K H v d ∧ d.showable = true ∧ d.depth ≤ 100 ∧ d.shown.length ≤ sizeLine ∧ Q (.str d.shown) H
theorem call_repr {X : Cx} {k : Nat} (hs : PySem.W.typeIn X.K (.ref sysModules) = some (.type "dict")) (hg : X.A.guards = some []) (hr : Room k X.A) : CallR X (.builtin "repr") (rRepr X.K) := by
  intro pins s σ H xs us Q I r h
  obtain ⟨v, d, rfl, hd, hsh, hdp, hz, q⟩ := h
  obtain ⟨u, rfl, ru⟩ := vals1 r
  obtain ⟨as, rd, hn⟩ := Dt.reads hs I d v u hd ru
  have hun := hr.un
  cases rd with
  | none =>
    simp only [PyData.shown] at q
    exact PySem.P.repr_of_none ⟨.str _, H, I.tok _, ⟨_, rfl⟩, q⟩
  | bool b =>
    simp only [PyData.shown] at q
    exact PySem.P.repr_of_bool ⟨.str _, H, I.tok _, ⟨_, rfl⟩, q⟩
  | int i t =>
    simp only [PyData.shown] at q
    simp only [PyData.showable] at hsh
    exact PySem.P.repr_of_int (of_decide_eq_true hsh) ⟨.str _, H, I.tok _, ⟨_, rfl⟩, q⟩
  | str x t =>
    simp only [PyData.shown] at q hz
    exact PySem.P.repr_of_str ⟨.str _, H, I.tok _, ⟨_, rfl⟩, q⟩ hz
  | list h1 h2 h3 h4 => exact repr_of_reads' (h₀ := s.heap) (Reads.list h1 h2 h3 h4) hsh (fun _ => hn) hg (by omega) (fun _ _ e => e) (fun h' u' tk kk => ⟨.str _, H, I.kept (t' := tk) kk, ⟨_, rfl⟩, q⟩) hz
  | tuple h1 h2 h3 h4 => exact repr_of_reads' (h₀ := s.heap) (Reads.tuple h1 h2 h3 h4) hsh (fun _ => hn) hg (by omega) (fun _ _ e => e) (fun h' u' tk kk => ⟨.str _, H, I.kept (t' := tk) kk, ⟨_, rfl⟩, q⟩) hz
  | dict h1 h2 h3 h4 h5 => exact repr_of_reads' (h₀ := s.heap) (Reads.dict h1 h2 h3 h4 h5) hsh (fun _ => hn) hg (by omega) (fun _ _ e => e) (fun h' u' tk kk => ⟨.str _, H, I.kept (t' := tk) kk, ⟨_, rfl⟩, q⟩) hz
end L2
end

section
set_option Elab.async false
set_option linter.all false
set_option maxRecDepth 100000
set_option maxHeartbeats 4000000
namespace L2
open PySem PySem.Spec PyProof.Rows
/-! ### a def that is called where no repr is under way -/
structure FnOkG (P : Program) (w : World) (K : PySem.W.Frag) (mg : Str → Option Value) (base : Heap) (CX : CXT) (k : Nat) (f : Addr) (fd : FuncData) (ps : List Str) (sp : Sp) : Prop where
  len : ∀ vs H Q E, sp vs H Q E → vs.length = ps.length
  run : ∀ (A : Around) (outer : List Env) (s : Shared) (H : Hp) (args : Args) (us : List Value) (vs : List V) (Q : VK) (E : XK), A.guards = some [] → Room k A → Env0 P w K mg base A outer s H → BindsTo s fd args (ps.zip us) → Vals vs us → sp vs H Q E →
    codeAny (model P w) A (.call (.ref f) args) (CR CX outer P w H s Q E) s
theorem deeper_guards {A : Around} {env : Env} (h : A.guards = some []) : (A.deeper env).guards = some [] := h
section
variable {P : Program} {w : World} {K : PySem.W.Frag} {mg : Str → Option Value} {base : Heap} {CX : CXT}
theorem fnG_of {k : Nat} {f : Addr} {name qual : Str} {params : Arguments} {body : List Stmt} {scope : Scope} {dV kV doc pm cdv ct oc : Value} {an od : Option Addr} {osl : Array (Option Value)} {N ps : List Str} {sp : Sp}
    (lk : K.lookup f = some ⟨oc, od, .func (PySem.W.fnOf name qual params body scope dV kV doc pm an cdv ct), osl⟩) (hcd : PySem.W.codeIn K cdv qual = true) (S : FnScope N ps scope) (len : ∀ vs H Q E, sp vs H Q E → vs.length = ps.length)
    (hbody : ∀ (A : Around) (outer : List Env) (s : Shared) (H : Hp) (vs : List V) (Q : VK) (E : XK), A.guards = some [] → Room k (A.deeper (envOfC qual scope s.heap.objs.size f cdv)) → sp vs H Q E →
      ∃ t, PSs (cxOf CX P w K mg base N qual scope f cdv A outer s H E) body t ∧ t { nx := fun _ H' => Q .non H', rt := Q } (start N vs) H) :
    FnOkG P w K mg base CX (k + 1) f (PySem.W.fnOf name qual params body scope dV kV doc pm an cdv ct) ps sp where
  len := len
  run := fun A outer s H args us vs Q E hg hr e0 hb r hsp => by
    have keep := fun b o e => (e0.bs b o e).1
    have KX := e0.mod.kin.keeps keep
    obtain ⟨t, ht, hq⟩ := hbody A outer s H vs Q E hg (hr.deeper _) hsp
    have kinds : ∀ y ∈ ps.zip us, scope.names.lookup y.1 = some .local ∨ (scope.names.lookup y.1 = some .cell ∧ ((cellsFrom (s.heap.objs.size + 1) scope.names []).lookup y.1).isSome = true) := by
      rintro ⟨n, v⟩ hy
      exact (S.par n (List.of_mem_zip hy).1).imp id fun q => ⟨q, PySem.W.cellsFrom_some _ _ _ (.inl q)⟩
    refine codeAny_call_function hr.depth (KX _ _ lk) rfl S.co S.gen rfl (PySem.W.codeRec_of KX hcd) (hb _ _ _ _ (wpAny_newFunctionEnv_cells S.kind kinds ?_))
    rintro env rfl s1 x
    refine ⟨(e0.mod.nolimit.keeps keep).keeps x.toInCall.keep, codeAny_func ?_⟩
    refine wpAny_mono (ht.run [] s1 (start N vs) H _ (inv_start S hr.hd e0 (len _ _ _ _ hsp) r x) hq) ?_ fun _ _ z => z
    rintro (_ | _ | _ | u) s' hs
    · obtain ⟨σ', H', J, q⟩ := hs
      exact ⟨.non, H', J.os, J.bare, J.base, J.hok, rfl, q⟩
    all_goals first
      | (obtain ⟨v, σ', H', J, rv, q⟩ := hs; exact ⟨v, H', J.os, J.bare, J.base, J.hok, rv, q⟩)
      | (obtain ⟨_, _, _, q⟩ := hs; exact q.elim)
end
/-- the law is called where nothing runs: its call, from a promise that leans on that -/
theorem lawG_call {P : Program} {w : World} {K : PySem.W.Frag} {mg mb : Str → Option Value} {CX : CXT} {k : Nat} {fa a : Addr} {fd : FuncData} {x : Str} {sp : Sp} {s₁ : Shared} {vs : List Value} {ns : List Int}
    (KX : K.In s₁.heap) (hns : s₁.heap.Ns mainGlobals mg) (hb : s₁.heap.Ns builtinsNs mb) (hbb : ∀ x : Str, x ≠ "__name__" → mb x = bootBuiltins x) (hlim : s₁.heap.NoLimit) (hg : s₁.gens = #[])
    (ha : s₁.heap.get? a = some { cls := .type "list", data := .seq vs.toArray }) (hi : IntsAre vs ns) (hl : ns.length ≤ sizeLine) (hr : Room k callerA)
    (F : ∀ base : Heap, K.In base → base.Ns mainGlobals mg → FnOkG P w K mg base CX k fa fd [x] sp) (hbind : ∀ (s : Shared) (u : Value), BindsTo s fd ⟨[u], []⟩ [(x, u)])
    (hsp : ∀ H : Hp, Only H → SqL K H a (ns.map V.int) → sp [.ref a] H (fun v _ => v = .bl true) fun _ _ _ => False) (hCX : ∀ H e s', CX [] H s₁ (fun _ _ _ => False) e s' → False) :
    codeAny (model P w) callerA (.call (.ref fa) ⟨[.ref a], []⟩) (fun r s' => r = .ok (.ret (.bool true)) ∧ OldK s₁.heap s'.heap ∧ s'.os = s₁.os ∧ AllBare s'.gens) s₁ := by
  have rv := vals_ints hi
  -- H: what may be tracked at the call: the script alone, or nothing
  have main : ∀ H : Hp, (∀ b u, H b = some u → b = a ∧ K.lookup a = none ∧ u = .frz { cls := .type "list", data := .seq vs.toArray } (.lst (ns.map V.int))) → SqL K H a (ns.map V.int) →
      codeAny (model P w) callerA (.call (.ref fa) ⟨[.ref a], []⟩) (fun r s' => r = .ok (.ret (.bool true)) ∧ OldK s₁.heap s'.heap ∧ s'.os = s₁.os ∧ AllBare s'.gens) s₁ := by
    intro H hH hS
    have ok : HOk P w H s₁.heap := fun b u e => by
      obtain ⟨rfl, _, rfl⟩ := hH b u e
      exact ⟨ha, by rw [List.length_map]; exact hl, vs, _, rv, ha⟩
    have old : ∀ {b : Addr} {o : Obj}, s₁.heap.get? b = some o → (b = a → False) → (hidT s₁.heap H).get? b = some o := fun {b o} e n => hidT_get e (by
      cases q : H b with
      | none => rfl
      | some u => exact (n (hH b u q).1).elim)
    have nsK : ∀ {b : Addr} {m : Str → Option Value}, s₁.heap.Ns b m → (hidT s₁.heap H).Ns b m := fun {b m} ⟨o, es, ep, e, d, r⟩ => ⟨o, es, ep, old e (by
      rintro rfl
      rw [ha] at e
      cases e
      cases d), d, r⟩
    have hKb : K.In (hidT s₁.heap H) := fun b o e => hidT_get (KX b o e) (by
      cases q : H b with
      | none => rfl
      | some u =>
        obtain ⟨rfl, hn, _⟩ := hH b u q
        rw [hn] at e
        cases e)
    obtain ⟨mc, l1, l2⟩ := hlim
    have e0 : Env0 P w K mg (hidT s₁.heap H) callerA [] s₁ H := ⟨rfl, ⟨hKb, nsK hns, ⟨mb, nsK hb, hbb⟩, ⟨mc, nsK l1, l2⟩⟩, fun b o e => of_hidT e, Nat.le_of_eq (hidT_size _ _), trivial, fun b hb => (List.not_mem_nil hb).elim, ok, .of_eq hg⟩
    have hO : Only H := fun b => by
      cases q : H b with
      | none => exact .inl rfl
      | some u => exact .inr ⟨_, _, by rw [(hH b u q).2.2]⟩
    refine codeAny_mono ((F _ hKb (nsK hns)).run callerA [] s₁ H ⟨[.ref a], []⟩ [.ref a] [.ref a] _ _ rfl hr e0 (hbind s₁ (.ref a)) (.cons rfl .nil) (hsp H hO hS)) ?_
    rintro (e | (_ | _ | _ | u)) s' h
    · exact (hCX H e s' h).elim
    all_goals try exact False.elim h
    obtain ⟨v, H', os, bare, un, hok', r', q⟩ := h
    obtain rfl : v = .bl true := q
    obtain rfl : u = Value.bool true := r'
    refine ⟨rfl, OldK.of_keep fun b o e => ?_, os, bare⟩
    cases q : H b with
    | none => exact un.keep b o e q (fun z => List.not_mem_nil z) (fun z => List.not_mem_nil z)
    | some u =>
      obtain ⟨rfl, _, rfl⟩ := hH b u q
      rw [ha] at e
      cases e
      exact (hok' b _ (un.frzs b _ _ q)).1
  cases hk : K.lookup a with
  | some o =>
    have e := KX a o hk
    rw [ha] at e
    cases e
    exact main (fun _ => none) (fun b u z => nomatch (show (none : Option HO) = some u from z)) (.inr ⟨_, vs.toArray, _, hk, rfl, rfl, rfl, by rw [List.size_toArray, hi.length]; exact hl, by simpa using rv⟩)
  | none =>
    refine main (fun b => if b = a then some (.frz { cls := .type "list", data := .seq vs.toArray } (.lst (ns.map V.int))) else none) (fun b u z => ?_) (.inl (.inr ⟨_, if_pos rfl⟩))
    by_cases hb : b = a
    · exact ⟨hb, hk, (Option.some.inj ((if_pos hb).symm.trans z)).symm⟩
    · exact nomatch (if_neg hb).symm.trans z
theorem walkG_of {l : PySem.W.OpenLaw} {n k : Nat} {q : Program} {loose : List Str} {XP : (Str → Option Value) → Heap → Prop} {YP : World → Heap → Prop} {d : DefRec} {CX : CXT} {x : Str}
    (hn : l.most = some n) (hn2 : n ≤ sizeLine) (hdf : d.params.defaults = []) (hr : Room k callerA)
    (F : ∀ (w : World) (mg : Str → Option Value) (fa : Addr) (h : Heap), YP w h → h.Ns mainGlobals mg → mg d.name = some (.ref fa) →
      ∃ (K : PySem.W.Frag) (fd : FuncData) (sp : Sp), K.In h ∧ (∀ (s : Shared) (u : Value), BindsTo s fd ⟨[u], []⟩ [(x, u)]) ∧
        (∀ (H : Hp) (a : Addr) (ns : List Int), ns.length ≤ n → Only H → SqL K H a (ns.map V.int) → sp [.ref a] H (fun v _ => v = .bl true) fun _ _ _ => False) ∧
        ∀ base : Heap, K.In base → base.Ns mainGlobals mg → FnOkG l.prog w K mg base CX k fa fd [x] sp)
    (hCX : ∀ (H : Hp) (s : Shared) (e : Value) (s' : Shared), CX [] H s (fun _ _ _ => False) e s' → False) :
    PySem.W.WalkO q loose XP YP l.row.toRowW d [] (fun f vs => PySem.call f vs) := by
  refine Att.attach_call hn hdf fun w s₀ s₁ mg mb fa o pm cd doc a vs ns G Y ho hd hcd hmg hobj hints hlen hg => ?_
  obtain ⟨K, fd, sp, KX, hb, hsp, hF⟩ := F w mg fa _ Y G.T.g hmg
  exact lawG_call KX G.T.g G.T.b G.T.builtins G.T.nolimit hg hobj hints (Nat.le_trans hlen hn2) hr hF hb (fun H hO hS => hsp H a ns hlen hO hS) fun H e s' => hCX H s₁ e s'
end L2
end

section
set_option Elab.async false
set_option linter.all false
set_option maxRecDepth 100000
set_option maxHeartbeats 4000000
/-! A Hoare layer over the hand layer: what the slots of a def hold is told as data (PyData); G is what is known (it only grows), H the heap; a slot may own a list that the def may still change. -/
namespace HL
open PySem L2
variable {K : PySem.W.Frag}
theorem rd_mono {G G2 : Hp} {a : Addr} {u : HO} (e : Same G G2) (h : Rd G a u) : Rd G2 a u := h.imp (e _ _) fun ⟨o, h⟩ => ⟨o, e _ _ h⟩
theorem sqT_mono {G G2 : Hp} {a : Addr} {xs : List V} (e : Same G G2) (h : SqT K G a xs) : SqT K G2 a xs := h.imp (rd_mono e) id
theorem sqL_mono {G G2 : Hp} {a : Addr} {xs : List V} (e : Same G G2) (h : SqL K G a xs) : SqL K G2 a xs := h.imp (rd_mono e) id
mutual
theorem Dt.mono {G G2 : Hp} (e : Same G G2) : ∀ {v : V} {d : PyData}, Dt K G v d → Dt K G2 v d
  | _, _, .non => .non
  | _, _, .bl b => .bl b
  | _, _, .int i => .int i
  | _, _, .str x => .str x
  | _, _, .lst h1 h2 => .lst (sqL_mono e h1) (DtAll.mono e h2)
  | _, _, .tup h1 h2 => .tup (sqT_mono e h1) (DtAll.mono e h2)
  | _, _, .dik h1 h2 => .dik (e _ _ h1) (DtAll.mono e h2)
  | _, _, .dit h1 h2 => .dit (e _ _ h1) (DtAll.mono e h2)
theorem DtAll.mono {G G2 : Hp} (e : Same G G2) : ∀ {vs : List V} {ds : List PyData}, DtAll K G vs ds → DtAll K G2 vs ds
  | _, _, .nil => .nil
  | _, _, .cons h1 h2 => .cons (Dt.mono e h1) (DtAll.mono e h2)
end
theorem DtAll.append {G : Hp} : ∀ {vs ws : List V} {ds es : List PyData}, DtAll K G vs ds → DtAll K G ws es → DtAll K G (vs ++ ws) (ds ++ es)
  | [], _, [], _, .nil, h => h
  | _ :: _, _, _ :: _, _, .cons a b, h => .cons a (DtAll.append b h)
theorem DtAll.get {G : Hp} : ∀ {vs : List V} {ds : List PyData} {i : Nat} {v : V}, DtAll K G vs ds → vs[i]? = some v → ∃ d, ds[i]? = some d ∧ Dt K G v d
  | _, _, _, _, .nil, e => by simp at e
  | _, _, 0, _, .cons r _, e => by simp at e; subst e; exact ⟨_, rfl, r⟩
  | _, _, i + 1, v, .cons _ t, e => by
    obtain ⟨d, h1, h2⟩ := DtAll.get (i := i) (v := v) t (by simpa using e)
    exact ⟨d, by simpa using h1, h2⟩
theorem DtAll.get' {G : Hp} : ∀ {vs : List V} {ds : List PyData} {i : Nat} {d : PyData}, DtAll K G vs ds → ds[i]? = some d → ∃ v, vs[i]? = some v ∧ Dt K G v d
  | _, _, _, _, .nil, e => by simp at e
  | _, _, 0, _, .cons r _, e => by simp at e; subst e; exact ⟨_, rfl, r⟩
  | _, _, i + 1, v, .cons _ t, e => by
    obtain ⟨d, h1, h2⟩ := DtAll.get' (i := i) (d := v) t (by simpa using e)
    exact ⟨d, by simpa using h1, h2⟩
theorem DtAll.set {G : Hp} {v : V} {d : PyData} (h : Dt K G v d) : ∀ {vs : List V} {ds : List PyData} (i : Nat), DtAll K G vs ds → DtAll K G (vs.set i v) (ds.set i d)
  | _, _, _, .nil => .nil
  | _, _, 0, .cons _ t => .cons h t
  | _, _, i + 1, .cons q t => .cons q (DtAll.set h i t)
theorem DtAll.take {G : Hp} : ∀ {vs : List V} {ds : List PyData} (n : Nat), DtAll K G vs ds → DtAll K G (vs.take n) (ds.take n)
  | _, _, 0, _ => .nil
  | _, _, _ + 1, .nil => .nil
  | _, _, n + 1, .cons r t => .cons r (DtAll.take n t)
theorem DtAll.drop {G : Hp} : ∀ {vs : List V} {ds : List PyData} (n : Nat), DtAll K G vs ds → DtAll K G (vs.drop n) (ds.drop n)
  | _, _, 0, r => r
  | _, _, _ + 1, .nil => .nil
  | _, _, n + 1, .cons _ t => DtAll.drop n t

/-! ### slots -/
inductive Sl where
  | un | d (x : PyData) | own (ds : List PyData) | hid (a : Addr) (P : List PyData → Prop) | raw (P : V → Hp → Prop)
def SlOk (K : PySem.W.Frag) (G H : Hp) (s : Option (Option V)) (fp : List Addr) : Sl → Prop
  | .un => fp = []
  | .d x => fp = [] ∧ ∃ v, s = some (some v) ∧ Dt K G v x
  | .own ds => ∃ p vs, s = some (some (.ref p)) ∧ fp = [p] ∧ H p = some (.lst vs) ∧ DtAll K G vs ds
  | .hid a P => ∃ vs ds, s = some (some (.ref a)) ∧ fp = [a] ∧ H a = some (.lst vs) ∧ DtAll K G vs ds ∧ P ds
  | .raw P => fp = [] ∧ ∃ v, s = some (some v) ∧ (∀ G G', Same G G' → P v G → P v G') ∧ P v G
structure Bs where
  G : Hp
  H : Hp
  M : Addr → Prop
/-- the frame: what was known at the entry is known, what stood there stands, but for M -/
structure Fr0 (B : Bs) (G H : Hp) : Prop where
  gh : Same G H
  g0 : Same B.G G
  fr : ∀ b o, ¬ B.M b → B.H b = some o → H b = some o
  md : ∀ b, B.M b → B.H b ≠ none → H b ≠ none
  nw : ∀ a o, G a = some o → B.G a = some o ∨ B.H a = none
structure Sls (K : PySem.W.Frag) (B : Bs) (G H : Hp) (σ : St) (ρ : List Sl) (fp : Nat → List Addr) : Prop where
  ok : ∀ i l, ρ[i]? = some l → SlOk K G H σ[i]? (fp i) l
  out : ∀ i, ρ[i]? = none → fp i = []
  dj : ∀ i j p, p ∈ fp i → p ∈ fp j → i = j
  ow : ∀ i p, p ∈ fp i → G p = none ∧ (B.H p = none ∨ B.M p) ∧ H p ≠ none
structure Env (K : PySem.W.Frag) (B : Bs) (G H : Hp) (σ : St) (ρ : List Sl) : Prop where
  f : Fr0 B G H
  len : σ.length = ρ.length
  s : ∃ fp, Sls K B G H σ ρ fp
section
variable {B : Bs} {G H G2 H2 : Hp} {σ : St} {ρ : List Sl}
theorem same_ne {H H2 : Hp} (h : Same H H2) {b : Addr} (e : H b ≠ none) : H2 b ≠ none := by
  cases q : H b with
  | none => exact (e q).elim
  | some o => rw [h b o q]; exact fun z => nomatch z
theorem Fr0.back (f : Fr0 B G H) {a : Addr} (e : H a = none) : B.H a = none := by
  cases z : B.H a with
  | none => rfl
  | some u =>
    by_cases m : B.M a
    · exact (f.md a m (by rw [z]; exact fun z => nomatch z) e).elim
    · rw [f.fr a u m z] at e; cases e
theorem Fr0.step (f : Fr0 B G H) (g : Same G G2) (gh : Same G2 H2) (h : Same H H2) (nw : ∀ a o, G2 a = some o → G a = some o ∨ H a = none) : Fr0 B G2 H2 :=
  ⟨gh, f.g0.trans g, fun b o m e => h _ _ (f.fr b o m e), fun b m e => same_ne h (f.md b m e), fun a o e => (nw a o e).elim (f.nw a o) fun q => .inr (f.back q)⟩
theorem SlOk.step {s : Option (Option V)} {fp : List Addr} {l : Sl} (o : SlOk K G H s fp l) (g : Same G G2) (h : ∀ p ∈ fp, ∀ o, H p = some o → H2 p = some o) : SlOk K G2 H2 s fp l := by
  cases l with
  | un => exact o
  | d x => obtain ⟨e, v, e1, e2⟩ := o; exact ⟨e, v, e1, Dt.mono g e2⟩
  | own ds => obtain ⟨p, vs, e1, rfl, e3, e4⟩ := o; exact ⟨p, vs, e1, rfl, h p (by simp) _ e3, DtAll.mono g e4⟩
  | hid p P => obtain ⟨vs, ds, e1, rfl, e3, e4, e5⟩ := o; exact ⟨vs, ds, e1, rfl, h p (by simp) _ e3, DtAll.mono g e4, e5⟩
  | raw P => obtain ⟨e, v, e1, m, p⟩ := o; exact ⟨e, v, e1, m, m _ _ g p⟩
theorem new_not {p : Addr} (gp : G p = none) (hp : H p ≠ none) (nw : ∀ a o, G2 a = some o → G a = some o ∨ H a = none) : G2 p = none := by
  cases q : G2 p with
  | none => rfl
  | some o =>
    rcases nw p o q with z | z
    · rw [gp] at z; cases z
    · exact (hp z).elim
/-- something was reckoned: what is known grew, what stood stands -/
theorem Env.step (e : Env K B G H σ ρ) (g : Same G G2) (gh : Same G2 H2) (h : Same H H2) (nw : ∀ a o, G2 a = some o → G a = some o ∨ H a = none) : Env K B G2 H2 σ ρ := by
  obtain ⟨fp, s⟩ := e.s
  exact ⟨e.f.step g gh h nw, e.len, fp, fun i l q => (s.ok i l q).step g fun p _ o z => h p o z, s.out, s.dj, fun i p hp => by
    obtain ⟨h1, h2, h3⟩ := s.ow i p hp
    exact ⟨new_not h1 h3 nw, h2, same_ne h h3⟩⟩
/-- a new object is laid and known -/
theorem Env.know (e : Env K B G H σ ρ) {p : Addr} {o : HO} (hp : H p = none) : Env K B (upd G p o) (upd H p o) σ ρ ∧ Same G (upd G p o) := by
  have gp : G p = none := by
    cases q : G p with
    | none => rfl
    | some u => rw [e.f.gh p u q] at hp; cases hp
  have s1 : Same G (upd G p o) := fun b u q => by rw [upd_ne (ne_of_none q gp)]; exact q
  have s2 : Same H (upd H p o) := fun b u q => by rw [upd_ne (ne_of_none q hp)]; exact q
  refine ⟨e.step s1 (fun b u q => ?_) s2 (fun b u q => ?_), s1⟩
  · by_cases hb : b = p
    · subst hb; rw [upd_same] at q ⊢; exact q
    · rw [upd_ne hb] at q ⊢; exact e.f.gh b u q
  · by_cases hb : b = p
    · subst hb; exact .inr hp
    · rw [upd_ne hb] at q; exact .inl q
theorem set_get {α : Type} {l : List α} {i j : Nat} {x : α} : (l.set i x)[j]? = if i = j then (if j < l.length then some x else none) else l[j]? := by
  rw [List.getElem?_set]
  split <;> rename_i h
  · subst h
    split <;> simp_all
  · rfl
/-- slot i is stored anew -/
theorem Env.put (e : Env K B G H σ ρ) {i : Nat} {v : V} {l : Sl} {f : List Addr} (h : i < ρ.length → SlOk K G H (some (some v)) f l) (hf : ∀ p ∈ f, G p = none ∧ (B.H p = none ∨ B.M p) ∧ H p ≠ none)
    (hd : ∀ fp, Sls K B G H σ ρ fp → ∀ p ∈ f, ∀ j, j ≠ i → p ∉ fp j) : Env K B G H (σ.set i (some v)) (ρ.set i l) := by
  obtain ⟨fp, s⟩ := e.s
  have hd' := hd fp s
  refine ⟨e.f, by rw [List.length_set, List.length_set]; exact e.len, fun j => if j = i ∧ i < ρ.length then f else fp j, fun j l' q => ?_, fun j q => ?_, fun j k p a b => ?_, fun j p a => ?_⟩
  · rw [set_get] at q ⊢
    by_cases hj : i = j
    · subst hj
      rw [if_pos rfl] at q ⊢
      by_cases hl : i < ρ.length
      · rw [if_pos hl] at q
        cases q
        rw [if_pos (by rw [e.len]; exact hl), if_pos ⟨rfl, hl⟩]
        exact h hl
      · rw [if_neg hl] at q; cases q
    · rw [if_neg hj] at q ⊢
      rw [if_neg fun z => hj z.1.symm]
      exact s.ok j l' q
  · rw [set_get] at q
    by_cases hj : j = i ∧ i < ρ.length
    · rw [if_pos hj.1.symm, if_pos (by rw [hj.1]; exact hj.2)] at q; cases q
    · rw [if_neg hj]
      refine s.out j ?_
      by_cases z : i = j
      · subst z
        exact List.getElem?_eq_none (Nat.le_of_not_lt fun y => hj ⟨rfl, y⟩)
      · rw [if_neg z] at q; exact q
  · by_cases hj : j = i ∧ i < ρ.length
    · by_cases hk : k = i ∧ i < ρ.length
      · rw [hj.1, hk.1]
      · rw [if_pos hj] at a
        rw [if_neg hk] at b
        exact (hd' p a k (fun z => hk ⟨z, hj.2⟩) b).elim
    · rw [if_neg hj] at a
      by_cases hk : k = i ∧ i < ρ.length
      · rw [if_pos hk] at b
        exact (hd' p b j (fun z => hj ⟨z, hk.2⟩) a).elim
      · rw [if_neg hk] at b
        exact s.dj j k p a b
  · by_cases hj : j = i ∧ i < ρ.length
    · rw [if_pos hj] at a; exact hf p a
    · rw [if_neg hj] at a; exact s.ow j p a
theorem Env.putD (e : Env K B G H σ ρ) {i : Nat} {v : V} {x : PyData} (h : Dt K G v x) : Env K B G H (σ.set i (some v)) (ρ.set i (.d x)) :=
  e.put (f := []) (fun _ => ⟨rfl, v, rfl, h⟩) (fun _ h => by cases h) fun _ _ _ h => by cases h
theorem Env.putR (e : Env K B G H σ ρ) {i : Nat} {v : V} {P : V → Hp → Prop} (m : ∀ G G', Same G G' → P v G → P v G') (h : P v G) : Env K B G H (σ.set i (some v)) (ρ.set i (.raw P)) :=
  e.put (f := []) (fun _ => ⟨rfl, v, rfl, m, h⟩) (fun _ h => by cases h) fun _ _ _ h => by cases h
/-- a list that nobody else holds: H knows it, G does not -/
structure Own (K : PySem.W.Frag) (B : Bs) (G H : Hp) (σ : St) (ρ : List Sl) (p : Addr) (ds : List PyData) : Prop where
  g : G p = none
  b : B.H p = none ∨ B.M p
  h : ∃ vs, H p = some (.lst vs) ∧ DtAll K G vs ds
  n : ∀ i : Nat, σ[i]? ≠ some (some (.ref p)) ∨ (∃ x, ρ[i]? = some (.d x)) ∨ ρ[i]? = some .un ∨ ∃ v, ρ[i]? = some (.raw v)
theorem Sls.at_own {fp : Nat → List Addr} (s : Sls K B G H σ ρ fp) {i : Nat} {p : Addr} (h : p ∈ fp i) : σ[i]? = some (some (.ref p)) ∧ ¬ ((∃ x, ρ[i]? = some (.d x)) ∨ ρ[i]? = some .un ∨ ∃ v, ρ[i]? = some (.raw v)) := by
  cases e : ρ[i]? with
  | none => rw [s.out i e] at h; cases h
  | some l =>
    have o := s.ok i l e
    cases l with
    | un => rw [show fp i = [] from o] at h; cases h
    | d x => rw [show fp i = [] from o.1] at h; cases h
    | raw v => rw [show fp i = [] from o.1] at h; cases h
    | own ds =>
      obtain ⟨q, vs, e1, e2, _⟩ := o
      rw [e2] at h
      obtain rfl : p = q := by simpa using h
      exact ⟨e1, by rintro (⟨x, z⟩ | z | ⟨v, z⟩) <;> cases z⟩
    | hid q P =>
      obtain ⟨vs, ds, e1, e2, _⟩ := o
      rw [e2] at h
      obtain rfl : p = q := by simpa using h
      exact ⟨e1, by rintro (⟨x, z⟩ | z | ⟨v, z⟩) <;> cases z⟩
theorem Env.putO (e : Env K B G H σ ρ) {i : Nat} {p : Addr} {ds : List PyData} (h : Own K B G H σ ρ p ds) : Env K B G H (σ.set i (some (.ref p))) (ρ.set i (.own ds)) := by
  obtain ⟨vs, h1, h2⟩ := h.h
  refine e.put (f := [p]) (fun _ => ⟨p, vs, rfl, rfl, h1, h2⟩) (fun q hq => ?_) fun fp s q hq j hj hm => ?_
  · obtain rfl : q = p := by simpa using hq
    exact ⟨h.g, h.b, by rw [h1]; exact fun z => nomatch z⟩
  · obtain rfl : q = p := by simpa using hq
    obtain ⟨a, b⟩ := s.at_own hm
    rcases h.n j with z | z
    · exact z a
    · exact b z
/-- what a new list is -/
theorem Env.new (e : Env K B G H σ ρ) {p : Addr} (hp : H p = none) {vs : List V} {ds : List PyData} (h : DtAll K G vs ds) : Env K B G (upd H p (.lst vs)) σ ρ ∧ Own K B G (upd H p (.lst vs)) σ ρ p ds := by
  have gp : G p = none := by
    cases q : G p with
    | none => rfl
    | some u => rw [e.f.gh p u q] at hp; cases hp
  have s2 : Same H (upd H p (.lst vs)) := fun b u q => by rw [upd_ne (ne_of_none q hp)]; exact q
  refine ⟨e.step (Same.refl G) (e.f.gh.trans s2) s2 fun _ _ q => .inl q, gp, .inl (e.f.back hp), ⟨vs, upd_same, h⟩, fun i => ?_⟩
  by_cases z : σ[i]? = some (some (.ref p))
  · refine .inr ?_
    obtain ⟨fp, s⟩ := e.s
    cases q : ρ[i]? with
    | none =>
      have h1 := List.getElem?_eq_none_iff.mp q
      have h2 := (List.getElem?_eq_some_iff.mp z).1
      rw [e.len] at h2
      omega
    | some l =>
      have o := s.ok i l q
      cases l with
      | un => exact .inr (.inl rfl)
      | d x => exact .inl ⟨x, rfl⟩
      | raw v => exact .inr (.inr ⟨v, rfl⟩)
      | own ds =>
        obtain ⟨q', vs, e1, _, e3, _⟩ := o
        rw [z] at e1
        cases e1
        rw [hp] at e3; cases e3
      | hid q' P =>
        obtain ⟨vs, ds, e1, _, e3, _⟩ := o
        rw [z] at e1
        cases e1
        rw [hp] at e3; cases e3
  · exact .inl z
end
end HL
end

section
set_option Elab.async false
set_option linter.all false
set_option maxRecDepth 100000
set_option maxHeartbeats 4000000
namespace HL
open PySem L2
variable {K : PySem.W.Frag} {B : Bs} {G H G2 H2 : Hp} {σ : St} {ρ : List Sl}
theorem Own.step (o : Own K B G H σ ρ p ds) (g : Same G G2) (h : Same H H2) (nw : ∀ a o, G2 a = some o → G a = some o ∨ H a = none) : Own K B G2 H2 σ ρ p ds := by
  obtain ⟨vs, h1, h2⟩ := o.h
  exact ⟨new_not o.g (by rw [h1]; exact fun z => nomatch z) nw, o.b, ⟨vs, h _ _ h1, DtAll.mono g h2⟩, o.n⟩
theorem nw_refl : ∀ a o, G a = some o → G a = some o ∨ H a = none := fun _ _ e => .inl e
theorem nw_trans {G3 : Hp} (h : Same H H2) (n1 : ∀ a o, G2 a = some o → G a = some o ∨ H a = none) (n2 : ∀ a o, G3 a = some o → G2 a = some o ∨ H2 a = none) : ∀ a o, G3 a = some o → G a = some o ∨ H a = none := fun a o e => by
  rcases n2 a o e with q | q
  · exact n1 a o q
  · refine .inr ?_
    cases z : H a with
    | none => rfl
    | some u => rw [h a u z] at q; cases q
/-- an owned list, new at the def's entry, is let be: it is known from then on -/
theorem Own.freeze (e : Env K B G H σ ρ) (o : Own K B G H σ ρ p ds) (hb : B.H p = none) : ∃ G2, Same G G2 ∧ Env K B G2 H σ ρ ∧ Dt K G2 (.ref p) (.list ds) ∧ ∀ a u, G2 a = some u → G a = some u ∨ a = p := by
  obtain ⟨vs, h1, h2⟩ := o.h
  have s1 : Same G (upd G p (.lst vs)) := fun b u q => by rw [upd_ne (ne_of_none q o.g)]; exact q
  have gh : Same (upd G p (.lst vs)) H := fun b u q => by
    by_cases z : b = p
    · subst z; rw [upd_same] at q; cases q; exact h1
    · rw [upd_ne z] at q; exact e.f.gh b u q
  refine ⟨upd G p (.lst vs), s1, ⟨⟨gh, e.f.g0.trans s1, e.f.fr, e.f.md, fun a u q => ?_⟩, e.len, ?_⟩, .lst (SqL.of upd_same) (DtAll.mono s1 h2), fun a u q => by
    by_cases z : a = p
    · exact .inr z
    · rw [upd_ne z] at q; exact .inl q⟩
  · by_cases z : a = p
    · subst z; exact .inr hb
    · rw [upd_ne z] at q; exact e.f.nw a u q
  · obtain ⟨fp, s⟩ := e.s
    refine ⟨fp, fun i l q => (s.ok i l q).step s1 fun _ _ _ z => z, s.out, s.dj, fun i q hq => ?_⟩
    obtain ⟨a1, a2, a3⟩ := s.ow i q hq
    have hne : q ≠ p := by
      rintro rfl
      obtain ⟨z1, z2⟩ := s.at_own hq
      rcases o.n i with z | z
      · exact z z1
      · exact z2 z
    exact ⟨by rw [upd_ne hne]; exact a1, a2, a3⟩
/-- the list in slot i, as it may be changed -/
theorem Env.at_own (e : Env K B G H σ ρ) {i : Nat} {ds : List PyData} (h : ρ[i]? = some (.own ds)) : ∃ p vs, σ[i]? = some (some (.ref p)) ∧ H p = some (.lst vs) ∧ DtAll K G vs ds ∧
    ∀ vs' ds', DtAll K G vs' ds' → Env K B G (upd H p (.lst vs')) σ (ρ.set i (.own ds')) := by
  obtain ⟨fp, s⟩ := e.s
  obtain ⟨p, vs, e1, e2, e3, e4⟩ := s.ok i _ h
  have hp : p ∈ fp i := by rw [e2]; simp
  obtain ⟨g1, g2, g3⟩ := s.ow i p hp
  have hi : i < ρ.length := (List.getElem?_eq_some_iff.mp h).1
  refine ⟨p, vs, e1, e3, e4, fun vs' ds' h' => ⟨⟨fun b u q => ?_, e.f.g0, fun b u m q => ?_, fun b m q => ?_, e.f.nw⟩, by rw [List.length_set]; exact e.len, fp, fun j l q => ?_, fun j q => ?_, s.dj, fun j q hq => ?_⟩⟩
  · rw [upd_ne (ne_of_none q g1)]; exact e.f.gh b u q
  · have hb : b ≠ p := by
      rintro rfl
      rcases g2 with z | z
      · rw [z] at q; cases q
      · exact m z
    rw [upd_ne hb]; exact e.f.fr b u m q
  · by_cases hb : b = p
    · rw [hb, upd_same]; exact fun z => nomatch z
    · rw [upd_ne hb]; exact e.f.md b m q
  · rw [set_get] at q
    by_cases hj : i = j
    · subst hj
      rw [if_pos rfl, if_pos hi] at q
      cases q
      exact ⟨p, vs', e1, e2, upd_same, h'⟩
    · rw [if_neg hj] at q
      refine (s.ok j l q).step (Same.refl G) fun r hr o z => ?_
      have : r ≠ p := by rintro rfl; exact hj (s.dj i j r hp hr)
      rw [upd_ne this]; exact z
  · rw [set_get] at q
    by_cases hj : i = j
    · subst hj; rw [if_pos rfl, if_pos hi] at q; cases q
    · rw [if_neg hj] at q; exact s.out j q
  · obtain ⟨b1, b2, b3⟩ := s.ow j q hq
    refine ⟨b1, b2, ?_⟩
    by_cases hb : q = p
    · rw [hb, upd_same]; exact fun z => nomatch z
    · rw [upd_ne hb]; exact b3
theorem Env.at_d (e : Env K B G H σ ρ) {i : Nat} {d : PyData} (h : ρ[i]? = some (.d d)) : ∃ v, σ[i]? = some (some v) ∧ Dt K G v d := by
  obtain ⟨fp, s⟩ := e.s
  exact (s.ok i _ h).2
theorem Env.at_raw (e : Env K B G H σ ρ) {i : Nat} {P : V → Hp → Prop} (h : ρ[i]? = some (.raw P)) : ∃ v, σ[i]? = some (some v) ∧ (∀ G G', Same G G' → P v G → P v G') ∧ P v G := by
  obtain ⟨fp, s⟩ := e.s
  exact (s.ok i _ h).2
/-- an owned slot is let be -/
theorem Env.freeze (e : Env K B G H σ ρ) {i : Nat} {ds : List PyData} (h : ρ[i]? = some (.own ds)) (hM : ∀ p, ¬ B.M p) : ∃ G2, Same G G2 ∧ Env K B G2 H σ (ρ.set i (.d (.list ds))) := by
  obtain ⟨fp, s⟩ := e.s
  obtain ⟨p, vs, e1, e2, e3, e4⟩ := s.ok i _ h
  have hp : p ∈ fp i := by rw [e2]; simp
  obtain ⟨g1, g2, g3⟩ := s.ow i p hp
  have hb : B.H p = none := g2.elim id fun z => (hM p z).elim
  have hi : i < ρ.length := (List.getElem?_eq_some_iff.mp h).1
  have s1 : Same G (upd G p (.lst vs)) := fun b u q => by rw [upd_ne (ne_of_none q g1)]; exact q
  have gh : Same (upd G p (.lst vs)) H := fun b u q => by
    by_cases z : b = p
    · subst z; rw [upd_same] at q; cases q; exact e3
    · rw [upd_ne z] at q; exact e.f.gh b u q
  refine ⟨upd G p (.lst vs), s1, ⟨⟨gh, e.f.g0.trans s1, e.f.fr, e.f.md, fun a u q => ?_⟩, by rw [List.length_set]; exact e.len, fun j => if j = i then [] else fp j, fun j l q => ?_, fun j q => ?_, fun j k q a b => ?_, fun j q hq => ?_⟩⟩
  · by_cases z : a = p
    · subst z; exact .inr hb
    · rw [upd_ne z] at q; exact e.f.nw a u q
  · rw [set_get] at q
    by_cases hj : i = j
    · subst hj
      rw [if_pos rfl, if_pos hi] at q
      cases q
      rw [if_pos rfl]
      exact ⟨rfl, _, e1, .lst (SqL.of upd_same) (DtAll.mono s1 e4)⟩
    · rw [if_neg hj] at q
      rw [if_neg (Ne.symm hj)]
      exact (s.ok j l q).step s1 fun _ _ _ z => z
  · rw [set_get] at q
    by_cases hj : i = j
    · subst hj; rw [if_pos rfl, if_pos hi] at q; cases q
    · rw [if_neg hj] at q; rw [if_neg (Ne.symm hj)]; exact s.out j q
  · by_cases hj : j = i
    · rw [if_pos hj] at a; cases a
    · rw [if_neg hj] at a
      by_cases hk : k = i
      · rw [if_pos hk] at b; cases b
      · rw [if_neg hk] at b; exact s.dj j k q a b
  · by_cases hj : j = i
    · rw [if_pos hj] at hq; cases hq
    · rw [if_neg hj] at hq
      obtain ⟨b1, b2, b3⟩ := s.ow j q hq
      have hne : q ≠ p := by rintro rfl; exact hj (s.dj j i q hq hp)
      exact ⟨by rw [upd_ne hne]; exact b1, b2, b3⟩

/-! ### what readings come to -/
/-- all that stood stands, but for the lists that hidden slots hold -/
def Kp (σ : St) (ρ : List Sl) (H H2 : Hp) : Prop := ∀ b o, H b = some o → (∀ (i : Nat) (a : Addr) (P : List PyData → Prop), ρ[i]? = some (.hid a P) → σ[i]? ≠ some (some (.ref b))) → H2 b = some o
theorem Kp.of (h : Same H H2) : Kp σ ρ H H2 := fun b o e _ => h b o e
theorem Kp.trans {H3 : Hp} (a : Kp σ ρ H H2) (b : Kp σ ρ H2 H3) : Kp σ ρ H H3 := fun c o e n => b c o (a c o e n) n
theorem Env.fresh_n (e : Env K B G H σ ρ) {p : Addr} (hp : H p = none) (i : Nat) : σ[i]? ≠ some (some (.ref p)) ∨ (∃ x, ρ[i]? = some (.d x)) ∨ ρ[i]? = some .un ∨ ∃ v, ρ[i]? = some (.raw v) := (e.new hp (vs := []) (ds := []) .nil).2.n i
theorem Kp.at_new {p : Addr} (e : Env K B G H σ ρ) (hp : H p = none) (i : Nat) (a : Addr) (P : List PyData → Prop) (h : ρ[i]? = some (.hid a P)) : σ[i]? ≠ some (some (.ref p)) := by
  rcases e.fresh_n hp i with z | ⟨x, z⟩ | z | ⟨v, z⟩
  · exact z
  · rw [h] at z; cases z
  · rw [h] at z; cases z
  · rw [h] at z; cases z
theorem same_upd {H : Hp} {p : Addr} {o : HO} (hp : H p = none) : Same H (upd H p o) := fun b u q => by rw [upd_ne (ne_of_none q hp)]; exact q
structure Stp (K : PySem.W.Frag) (B : Bs) (σ : St) (ρ : List Sl) (G H G2 H2 : Hp) : Prop where
  g : Same G G2
  e : Env K B G2 H2 σ ρ
  k : Kp σ ρ H H2
  nw : ∀ a o, G2 a = some o → G a = some o ∨ H a = none
theorem Stp.refl (e : Env K B G H σ ρ) : Stp K B σ ρ G H G H := ⟨Same.refl G, e, Kp.of (Same.refl H), nw_refl⟩
theorem Stp.non_ {p : Addr} (s : Stp K B σ ρ G H G2 H2) (hp : H2 p = none) : H p = none ∨ ∃ (i : Nat) (a : Addr) (P : List PyData → Prop), ρ[i]? = some (.hid a P) ∧ σ[i]? = some (some (.ref p)) := by
  cases q : H p with
  | none => exact .inl rfl
  | some o =>
    refine .inr ?_
    by_cases z : ∃ (i : Nat) (a : Addr) (P : List PyData → Prop), ρ[i]? = some (.hid a P) ∧ σ[i]? = some (some (.ref p))
    · exact z
    · have := s.k p o q fun i a P h1 h2 => z ⟨i, a, P, h1, h2⟩
      rw [hp] at this; cases this
theorem Stp.back {p : Addr} (s : Stp K B σ ρ G H G2 H2) (hp : H2 p = none) : H p = none := by
  rcases s.non_ hp with z | ⟨i, a, P, h1, h2⟩
  · exact z
  · exact (Kp.at_new s.e hp i a P h1 h2).elim
theorem Stp.trans {G3 H3 : Hp} (a : Stp K B σ ρ G H G2 H2) (b : Stp K B σ ρ G2 H2 G3 H3) : Stp K B σ ρ G H G3 H3 := ⟨a.g.trans b.g, b.e, a.k.trans b.k, fun c o q => (b.nw c o q).elim (a.nw c o) fun z => .inr (a.back z)⟩
theorem Stp.grow (e : Env K B G H σ ρ) (g : Same G G2) (gh : Same G2 H2) (h : Same H H2) (nw : ∀ a o, G2 a = some o → G a = some o ∨ H a = none) : Stp K B σ ρ G H G2 H2 := ⟨g, e.step g gh h nw, Kp.of h, nw⟩
theorem Stp.know (e : Env K B G H σ ρ) {p : Addr} {o : HO} (hp : H p = none) : Stp K B σ ρ G H (upd G p o) (upd H p o) := by
  obtain ⟨h1, h2⟩ := e.know (o := o) hp
  refine ⟨h2, h1, Kp.of (same_upd hp), fun a u q => ?_⟩
  by_cases z : a = p
  · subst z; exact .inr hp
  · rw [upd_ne z] at q; exact .inl q
theorem Stp.own (e : Env K B G H σ ρ) {p : Addr} {vs : List V} (hp : H p = none) : Stp K B σ ρ G H G (upd H p (.lst vs)) := ⟨Same.refl _, (e.new hp (ds := []) (vs := []) .nil).1 |> fun _ => e.step (Same.refl G) (e.f.gh.trans (same_upd hp)) (same_upd hp) nw_refl, Kp.of (same_upd hp), nw_refl⟩
def XE (K : PySem.W.Frag) (B : Bs) (ρ : List Sl) (te : TE) (P : PyData → Prop) : Prop := ∀ σ G H, Env K B G H σ ρ → ∀ Q : VK, (∀ v d G2 H2, Stp K B σ ρ G H G2 H2 → P d → Dt K G2 v d → Q v H2) → te σ H Q
def XN (K : PySem.W.Frag) (B : Bs) (ρ : List Sl) (te : TE) (P : List PyData → Prop) : Prop := ∀ σ G H, Env K B G H σ ρ → ∀ Q : VK, (∀ p ds G2 H2, Stp K B σ ρ G H G2 H2 → P ds → Own K B G2 H2 σ ρ p ds → H p = none → Q (.ref p) H2) → te σ H Q
def XT (K : PySem.W.Frag) (B : Bs) (ρ : List Sl) (tt : TT) (P : Bool → Prop) : Prop := ∀ σ G H, Env K B G H σ ρ → ∀ Q : Bool → Hp → Prop, (∀ b G2 H2, Stp K B σ ρ G H G2 H2 → P b → Q b H2) → tt σ H Q
def XA (K : PySem.W.Frag) (B : Bs) (ρ : List Sl) (ta : TA) (P : List PyData → Prop) : Prop := ∀ σ G H, Env K B G H σ ρ → ∀ Q : List V → Hp → Prop, (∀ vs ds G2 H2, Stp K B σ ρ G H G2 H2 → P ds → DtAll K G2 vs ds → Q vs H2) → ta σ H Q
variable {ta tb tc te : TE} {t u : TT} {P P1 P2 : PyData → Prop} {Pb Pb1 Pb2 : Bool → Prop}
theorem XE.imp (h : XE K B ρ te P) (f : ∀ d, P d → P1 d) : XE K B ρ te P1 := fun σ G H e Q q => h σ G H e Q fun v d G2 H2 s p r => q v d G2 H2 s (f d p) r
theorem XT.imp (h : XT K B ρ t Pb) (f : ∀ d, Pb d → Pb1 d) : XT K B ρ t Pb1 := fun σ G H e Q q => h σ G H e Q fun b G2 H2 s p => q b G2 H2 s (f b p)
theorem XE.cast {d d' : PyData} (h : XE K B ρ te (· = d)) (e : d = d') : XE K B ρ te (· = d') := by rw [← e]; exact h
theorem XT.cast {b b' : Bool} (h : XT K B ρ t (· = b)) (e : b = b') : XT K B ρ t (· = b') := by rw [← e]; exact h
theorem xe_var {i : Nat} {d : PyData} (h : ρ[i]? = some (.d d)) : XE K B ρ (tVar i) (· = d) := fun σ G H e Q q => by
  obtain ⟨v, h1, h2⟩ := e.at_d h
  exact ⟨v, h1, q v d G H (Stp.refl e) rfl h2⟩
theorem xe_int {i : Int} : XE K B ρ (tC (.int i)) (· = .int i) := fun σ G H e Q q => q _ _ G H (Stp.refl e) rfl (.int i)
theorem xe_bl {b : Bool} : XE K B ρ (tC (.bl b)) (· = .bool b) := fun σ G H e Q q => q _ _ G H (Stp.refl e) rfl (.bl b)
theorem xe_non : XE K B ρ (tC .non) (· = .none) := fun σ G H e Q q => q _ _ G H (Stp.refl e) rfl .non
theorem xe_str {x : Str} : XE K B ρ (tC (.str x)) (· = .str x) := fun σ G H e Q q => q _ _ G H (Stp.refl e) rfl (.str x)
/-- an operation on data that lays nothing -/
def RvD (K : PySem.W.Frag) (r : R2) (d1 d2 : PyData) (P : PyData → Prop) : Prop := ∀ x y G H, Same G H → Dt K G x d1 → Dt K G y d2 → ∀ Q : VK, (∀ v d, P d → Dt K G v d → Q v H) → r x y H Q
theorem xe_op {r : R2} (ha : XE K B ρ ta P1) (hb : XE K B ρ tb P2) (hr : ∀ d1 d2, P1 d1 → P2 d2 → RvD K r d1 d2 P) : XE K B ρ (tOp r ta tb) P := fun σ G H e Q q =>
  ha σ G H e _ fun x d1 G1 H1 s1 p1 r1 => hb σ G1 H1 s1.e _ fun y d2 G2 H2 s2 p2 r2 => hr d1 d2 p1 p2 x y G2 H2 s2.e.f.gh (Dt.mono s2.g r1) r2 Q fun v d p r => q v d G2 H2 (s1.trans s2) p r
theorem xe_op1 {r : R2} {d1 d2 d : PyData} (ha : XE K B ρ ta (· = d1)) (hb : XE K B ρ tb (· = d2)) (hr : RvD K r d1 d2 (· = d)) : XE K B ρ (tOp r ta tb) (· = d) := xe_op ha hb fun _ _ h1 h2 => by rw [h1, h2]; exact hr
theorem dt_int {v : V} {i : Int} (h : Dt K G v (.int i)) : v = .int i := by cases h; rfl
theorem dt_bl {v : V} {b : Bool} (h : Dt K G v (.bool b)) : v = .bl b := by cases h; rfl
theorem dt_str {v : V} {x : Str} (h : Dt K G v (.str x)) : v = .str x := by cases h; rfl
theorem rv_ii {g : Int → Int → V} {i j : Int} {d : PyData} (h : ∀ G : Hp, Dt K G (g i j) d) : RvD K (rI0 g) (.int i) (.int j) (· = d) := fun x y G H _ hx hy Q q => ⟨i, j, dt_int hx, dt_int hy, q _ _ rfl (h G)⟩
theorem rv_iic {C : Int → Int → Prop} {g : Int → Int → V} {i j : Int} {d : PyData} (hc : C i j) (h : ∀ G : Hp, Dt K G (g i j) d) : RvD K (rI C g) (.int i) (.int j) (· = d) := fun x y G H _ hx hy Q q => ⟨i, j, dt_int hx, dt_int hy, hc, q _ _ rfl (h G)⟩
theorem xe_un {r : V → Hp → VK → Prop} (ha : XE K B ρ ta P1) (hr : ∀ d1, P1 d1 → ∀ x G H, Same G H → Dt K G x d1 → ∀ Q : VK, (∀ v d, P d → Dt K G v d → Q v H) → r x H Q) : XE K B ρ (tUn r ta) P := fun σ G H e Q q =>
  ha σ G H e _ fun x d1 G1 H1 s1 p1 r1 => hr d1 p1 x G1 H1 s1.e.f.gh r1 Q fun v d p r => q v d G1 H1 s1 p r
theorem xt_test (h : XE K B ρ te P) (f : ∀ d, P d → ∃ b, d = .bool b ∧ Pb b) : XT K B ρ (tTest te) Pb := fun σ G H e Q q => h σ G H e _ fun v d G2 H2 s p r => by
  obtain ⟨b, rfl, pb⟩ := f d p
  exact ⟨b, dt_bl r, q b G2 H2 s pb⟩
theorem xt_B (h : XE K B ρ te P) (f : ∀ d, P d → ∃ b, d = .bool b ∧ Pb b) : XT K B ρ (tB te) Pb := fun σ G H e Q q => h σ G H e _ fun v d G2 H2 s p r => by
  obtain ⟨b, rfl, pb⟩ := f d p
  exact ⟨b, dt_bl r, q b G2 H2 s pb⟩
theorem xt_test1 {b : Bool} (h : XE K B ρ te (· = .bool b)) : XT K B ρ (tTest te) (· = b) := xt_test h fun d p => ⟨b, p, rfl⟩
theorem xt_B1 {b : Bool} (h : XE K B ρ te (· = .bool b)) : XT K B ρ (tB te) (· = b) := xt_B h fun d p => ⟨b, p, rfl⟩
theorem xt_and (h1 : XT K B ρ t Pb1) (h2 : Pb1 true → XT K B ρ u Pb) (hf : Pb1 false → Pb false) : XT K B ρ (tAnd t u) Pb := fun σ G H e Q q => h1 σ G H e _ fun b G2 H2 s p => by
  cases b with
  | true =>
    show u σ H2 Q
    exact h2 p σ G2 H2 s.e Q fun c G3 H3 s3 p3 => q c G3 H3 (s.trans s3) p3
  | false => exact q false G2 H2 s (hf p)
theorem xt_or (h1 : XT K B ρ t Pb1) (h2 : Pb1 false → XT K B ρ u Pb) (hf : Pb1 true → Pb true) : XT K B ρ (tOr t u) Pb := fun σ G H e Q q => h1 σ G H e _ fun b G2 H2 s p => by
  cases b with
  | true => exact q true G2 H2 s (hf p)
  | false =>
    show u σ H2 Q
    exact h2 p σ G2 H2 s.e Q fun c G3 H3 s3 p3 => q c G3 H3 (s.trans s3) p3
theorem xt_not (h1 : XT K B ρ t Pb1) (hf : ∀ b, Pb1 b → Pb (!b)) : XT K B ρ (tNot t) Pb := fun σ G H e Q q => h1 σ G H e _ fun b G2 H2 s p => q (!b) G2 H2 s (hf b p)
theorem xt_and1 {a b : Bool} (h1 : XT K B ρ t (· = a)) (h2 : a = true → XT K B ρ u (· = b)) : XT K B ρ (tAnd t u) (· = (a && b)) :=
  xt_and h1 (fun e => by rw [← e]; exact h2 e.symm) fun e => by rw [← e]; rfl
theorem xt_or1 {a b : Bool} (h1 : XT K B ρ t (· = a)) (h2 : a = false → XT K B ρ u (· = b)) : XT K B ρ (tOr t u) (· = (a || b)) :=
  xt_or h1 (fun e => by rw [← e]; exact h2 e.symm) fun e => by rw [← e]; rfl
theorem xt_not1 {a : Bool} (h1 : XT K B ρ t (· = a)) : XT K B ρ (tNot t) (· = !a) := xt_not h1 fun b e => by rw [e]
theorem xe_if (h : XT K B ρ t Pb) (h1 : Pb true → XE K B ρ ta P) (h2 : Pb false → XE K B ρ tb P) : XE K B ρ (tIf t ta tb) P := fun σ G H e Q q => h σ G H e _ fun b G2 H2 s p => by
  cases b with
  | true => exact h1 p σ G2 H2 s.e Q fun v d G3 H3 s3 p3 r3 => q v d G3 H3 (s.trans s3) p3 r3
  | false => exact h2 p σ G2 H2 s.e Q fun v d G3 H3 s3 p3 r3 => q v d G3 H3 (s.trans s3) p3 r3
theorem xe_andV (ha : XE K B ρ ta P1) (f : ∀ d, P1 d → ∃ b, d = .bool b ∧ Pb b) (h2 : Pb true → XE K B ρ tb P) (hf : Pb false → P (.bool false)) : XE K B ρ (tAndV ta tb) P := fun σ G H e Q q => ha σ G H e _ fun v d G2 H2 s p r => by
  obtain ⟨b, rfl, pb⟩ := f d p
  refine ⟨b, dt_bl r, ?_⟩
  cases b with
  | true => exact h2 pb σ G2 H2 s.e Q fun v d G3 H3 s3 p3 r3 => q v d G3 H3 (s.trans s3) p3 r3
  | false => exact q _ _ G2 H2 s (hf pb) (.bl false)
theorem xe_orV (ha : XE K B ρ ta P1) (f : ∀ d, P1 d → ∃ b, d = .bool b ∧ Pb b) (h2 : Pb false → XE K B ρ tb P) (hf : Pb true → P (.bool true)) : XE K B ρ (tOrV ta tb) P := fun σ G H e Q q => ha σ G H e _ fun v d G2 H2 s p r => by
  obtain ⟨b, rfl, pb⟩ := f d p
  refine ⟨b, dt_bl r, ?_⟩
  cases b with
  | false => exact h2 pb σ G2 H2 s.e Q fun v d G3 H3 s3 p3 r3 => q v d G3 H3 (s.trans s3) p3 r3
  | true => exact q _ _ G2 H2 s (hf pb) (.bl true)
theorem xe_notV (ha : XE K B ρ ta P1) (f : ∀ d, P1 d → ∃ b, d = .bool b ∧ P (.bool (!b))) : XE K B ρ (tNotV ta) P := fun σ G H e Q q => ha σ G H e _ fun v d G2 H2 s p r => by
  obtain ⟨b, rfl, pb⟩ := f d p
  exact ⟨b, dt_bl r, q _ _ G2 H2 s pb (.bl _)⟩
theorem xe_andV1 {a b : Bool} (h1 : XE K B ρ ta (· = .bool a)) (h2 : a = true → XE K B ρ tb (· = .bool b)) : XE K B ρ (tAndV ta tb) (· = .bool (a && b)) :=
  xe_andV (Pb := (· = a)) h1 (fun d p => ⟨a, p, rfl⟩) (fun e => by rw [← e]; exact h2 e.symm) fun e => by rw [← e]; rfl
theorem xe_orV1 {a b : Bool} (h1 : XE K B ρ ta (· = .bool a)) (h2 : a = false → XE K B ρ tb (· = .bool b)) : XE K B ρ (tOrV ta tb) (· = .bool (a || b)) :=
  xe_orV (Pb := (· = a)) h1 (fun d p => ⟨a, p, rfl⟩) (fun e => by rw [← e]; exact h2 e.symm) fun e => by rw [← e]; rfl
theorem xe_notV1 {a : Bool} (h1 : XE K B ρ ta (· = .bool a)) : XE K B ρ (tNotV ta) (· = .bool !a) := xe_notV h1 fun d p => ⟨a, p, rfl⟩
theorem xa_nil : XA K B ρ tNil (· = []) := fun σ G H e Q q => q [] [] G H (Stp.refl e) rfl .nil
theorem xa_cons {tr : TA} {Pr Ps : List PyData → Prop} (h : XE K B ρ te P) (hr : XA K B ρ tr Pr) (f : ∀ d ds, P d → Pr ds → Ps (d :: ds)) : XA K B ρ (tCons te tr) Ps := fun σ G H e Q q =>
  h σ G H e _ fun v d G1 H1 s1 p1 r1 => hr σ G1 H1 s1.e _ fun vs ds G2 H2 s2 p2 r2 => q (v :: vs) (d :: ds) G2 H2 (s1.trans s2) (f d ds p1 p2) (.cons (Dt.mono s2.g r1) r2)
theorem xa_cons1 {tr : TA} {d : PyData} {ds : List PyData} (h : XE K B ρ te (· = d)) (hr : XA K B ρ tr (· = ds)) : XA K B ρ (tCons te tr) (· = d :: ds) := xa_cons h hr fun _ _ h1 h2 => by rw [h1, h2]
theorem xn_lst {tr : TA} {Ps : List PyData → Prop} (h : XA K B ρ tr Ps) (hz : ∀ ds, Ps ds → ds.length ≤ 16000000) : XN K B ρ (tLst tr) Ps := fun σ G H e Q q => h σ G H e _ fun vs ds G2 H2 s p r =>
  ⟨by rw [DtAll.length r, sizeLine_eq]; have := hz ds p; omega, fun l hl => by
    obtain ⟨e3, o⟩ := s.e.new hl r
    exact q l ds G2 _ (s.trans (Stp.own s.e hl)) p o (s.back hl)⟩
theorem xe_tup {tr : TA} {Ps : List PyData → Prop} (h : XA K B ρ tr Ps) (hz : ∀ ds, Ps ds → ds.length ≤ 16000000) (f : ∀ ds, Ps ds → P (.tuple ds)) : XE K B ρ (tTup tr) P := fun σ G H e Q q => h σ G H e _ fun vs ds G2 H2 s p r =>
  ⟨by rw [DtAll.length r, sizeLine_eq]; have := hz ds p; omega, fun l hl => by
    have s3 := Stp.know (o := .tup vs) s.e hl
    exact q _ (.tuple ds) _ _ (s.trans s3) (f ds p) (.tup (SqT.of upd_same) (DtAll.mono s3.g r))⟩
theorem xe_tup1 {tr : TA} {ds : List PyData} (h : XA K B ρ tr (· = ds)) (hz : ds.length ≤ 16000000) : XE K B ρ (tTup tr) (· = .tuple ds) := xe_tup h (fun _ e => by rw [e]; exact hz) fun _ e => by rw [e]
/-- a new list, let be -/
theorem XN.d {Ps : List PyData → Prop} (h : XN K B ρ te Ps) (f : ∀ ds, Ps ds → P (.list ds)) : XE K B ρ te P := fun σ G H e Q q => h σ G H e _ fun p ds G2 H2 s ps o hb => by
  obtain ⟨G3, s3, e3, r, n3⟩ := o.freeze s.e (e.f.back hb)
  exact q _ _ G3 H2 ⟨s.g.trans s3, e3, s.k, fun a u z => (n3 a u z).elim (s.nw a u) fun y => .inr (by rw [y]; exact hb)⟩ (f ds ps) r
theorem XN.d1 {ds : List PyData} (h : XN K B ρ te (· = ds)) : XE K B ρ te (· = .list ds) := h.d fun _ e => by rw [e]
theorem XN.imp {Ps Pt : List PyData → Prop} (h : XN K B ρ te Ps) (f : ∀ ds, Ps ds → Pt ds) : XN K B ρ te Pt := fun σ G H e Q q => h σ G H e Q fun p ds G2 H2 s ps o hb => q p ds G2 H2 s (f ds ps) o hb
/-- a built-in on data -/
theorem xe_CB {r : List V → Hp → VK → Prop} {tr : TA} {Ps : List PyData → Prop} (h : XA K B ρ tr Ps) (hr : ∀ ds, Ps ds → ∀ vs G H, Same G H → DtAll K G vs ds → ∀ Q : VK, (∀ v d, P d → Dt K G v d → Q v H) → r vs H Q) : XE K B ρ (tCB r tr) P := fun σ G H e Q q =>
  h σ G H e _ fun vs ds G2 H2 s p rv => hr ds p vs G2 H2 s.e.f.gh rv Q fun v d pd rd => q v d G2 H2 s pd rd
/-- a built-in on data that lays a new list -/
theorem xn_CB {r : List V → Hp → VK → Prop} {tr : TA} {Ps Pt : List PyData → Prop} (h : XA K B ρ tr Ps) (hr : ∀ ds, Ps ds → ∀ vs G H, Same G H → DtAll K G vs ds → ∀ Q : VK, (∀ p ws es, H p = none → Pt es → DtAll K G ws es → Q (.ref p) (upd H p (.lst ws))) → r vs H Q) : XN K B ρ (tCB r tr) Pt := fun σ G H e Q q =>
  h σ G H e _ fun vs ds G2 H2 s p rv => hr ds p vs G2 H2 s.e.f.gh rv Q fun l ws es hl pd rd => by
    obtain ⟨e3, o⟩ := s.e.new hl rd
    exact q l es G2 _ (s.trans (Stp.own s.e hl)) pd o (s.back hl)
end HL
end

section
set_option Elab.async false
set_option linter.all false
set_option maxRecDepth 100000
set_option maxHeartbeats 4000000
namespace HL
open PySem L2
variable {K : PySem.W.Frag} {B : Bs} {G H G2 H2 : Hp} {σ : St} {ρ : List Sl} {ta tb tc te : TE} {t u : TT} {P P1 P2 : PyData → Prop} {Pb Pb1 Pb2 : Bool → Prop}
/-! ### promises of defs by data -/
abbrev Nw (G H G2 : Hp) : Prop := ∀ a o, G2 a = some o → G a = some o ∨ H a = none
/-- data in, data out; nothing that stood is changed -/
def spP (K : PySem.W.Frag) (Dom : List PyData → Prop) (R : List PyData → PyData → Prop) : Sp := fun vs H Q _ => ∃ G ds, Same G H ∧ DtAll K G vs ds ∧ Dom ds ∧
  ∀ d, R ds d → ∀ v G2 H2, Same G G2 → Same G2 H2 → Same H H2 → Nw G H G2 → Dt K G2 v d → Q v H2
/-- data in, a new list out -/
def spN (K : PySem.W.Frag) (Dom : List PyData → Prop) (R : List PyData → List PyData → Prop) : Sp := fun vs H Q _ => ∃ G ds, Same G H ∧ DtAll K G vs ds ∧ Dom ds ∧
  ∀ es, R ds es → ∀ p ws G2 H2, Same G G2 → Same G2 H2 → Same H H2 → Nw G H G2 → H p = none → G2 p = none → H2 p = some (.lst ws) → DtAll K G2 ws es → Q (.ref p) H2
/-- the first argument a list that is changed, HP before and behind; data in, data out -/
def spH (K : PySem.W.Frag) (HP : List PyData → Prop) (Dom : List PyData → Prop) (R : List PyData → PyData → Prop) : Sp := fun vs H Q _ => ∃ G h hv hd us ds, vs = .ref h :: us ∧ Same G H ∧ G h = none ∧ H h = some (.lst hv) ∧ DtAll K G hv hd ∧ HP hd ∧
  DtAll K G us ds ∧ Dom ds ∧ ∀ d, R ds d → ∀ v G2 H2 hv' hd', Same G G2 → Same G2 H2 → (∀ b o, b ≠ h → H b = some o → H2 b = some o) → Nw G H G2 → H2 h = some (.lst hv') → DtAll K G2 hv' hd' → HP hd' → Dt K G2 v d → Q v H2
/-- .. a new list out -/
def spHN (K : PySem.W.Frag) (HP : List PyData → Prop) (Dom : List PyData → Prop) (R : List PyData → List PyData → Prop) : Sp := fun vs H Q _ => ∃ G h hv hd us ds, vs = .ref h :: us ∧ Same G H ∧ G h = none ∧ H h = some (.lst hv) ∧ DtAll K G hv hd ∧ HP hd ∧
  DtAll K G us ds ∧ Dom ds ∧ ∀ es, R ds es → ∀ p ws G2 H2 hv' hd', Same G G2 → Same G2 H2 → (∀ b o, b ≠ h → H b = some o → H2 b = some o) → Nw G H G2 → H2 h = some (.lst hv') → DtAll K G2 hv' hd' → HP hd' →
    H p = none → G2 p = none → H2 p = some (.lst ws) → DtAll K G2 ws es → Q (.ref p) H2
variable {Dom : List PyData → Prop} {R : List PyData → PyData → Prop} {RN : List PyData → List PyData → Prop} {HP : List PyData → Prop}
theorem xe_call {E : XK} {tr : TA} {Ps : List PyData → Prop} (h : XA K B ρ tr Ps) (hd : ∀ ds, Ps ds → Dom ds) (hr : ∀ ds d, Ps ds → R ds d → P d) : XE K B ρ (tCall (spP K Dom R) [] E tr) P := fun σ G H e Q q =>
  h σ G H e _ fun vs ds G2 H2 s p rv => by
    rw [List.append_nil]
    exact ⟨G2, ds, s.e.f.gh, rv, hd ds p, fun d hrd v G3 H3 g gh hh nw r => q v d G3 H3 (s.trans (Stp.grow s.e g gh hh nw)) (hr ds d p hrd) r⟩
theorem xn_call {E : XK} {tr : TA} {Ps Pt : List PyData → Prop} (h : XA K B ρ tr Ps) (hd : ∀ ds, Ps ds → Dom ds) (hr : ∀ ds es, Ps ds → RN ds es → Pt es) : XN K B ρ (tCall (spN K Dom RN) [] E tr) Pt := fun σ G H e Q q =>
  h σ G H e _ fun vs ds G2 H2 s p rv => by
    rw [List.append_nil]
    exact ⟨G2, ds, s.e.f.gh, rv, hd ds p, fun es hrd l ws G3 H3 g gh hh nw hl gl hl2 r => q l es G3 H3 (s.trans (Stp.grow s.e g gh hh nw)) (hr ds es p hrd) ⟨gl, .inl (s.e.f.back hl), ⟨ws, hl2, r⟩, s.e.fresh_n hl⟩ (s.back hl)⟩
/-- the hidden list in slot i -/
theorem Env.at_hid (e : Env K B G H σ ρ) {i : Nat} {p : Addr} (h : ρ[i]? = some (.hid p HP)) : ∃ vs ds, σ[i]? = some (some (.ref p)) ∧ H p = some (.lst vs) ∧ DtAll K G vs ds ∧ HP ds ∧ G p = none ∧
    ∀ G2 H2 vs' ds', Same G G2 → Same G2 H2 → (∀ b o, b ≠ p → H b = some o → H2 b = some o) → Nw G H G2 → H2 p = some (.lst vs') → DtAll K G2 vs' ds' → HP ds' → Stp K B σ ρ G H G2 H2 := by
  obtain ⟨fp, s⟩ := e.s
  obtain ⟨vs, ds, e1, e2, e3, e4, e5⟩ := s.ok i _ h
  have hp : p ∈ fp i := by rw [e2]; simp
  obtain ⟨g1, g2, g3⟩ := s.ow i p hp
  refine ⟨vs, ds, e1, e3, e4, e5, g1, fun G2 H2 vs' ds' g gh hh nw h2 r2 hp2 => ⟨g, ⟨⟨gh, e.f.g0.trans g, fun b u m q => ?_, fun b m q => ?_, fun a u q => (nw a u q).elim (e.f.nw a u) fun z => .inr (e.f.back z)⟩, e.len, fp, fun j l q => ?_, s.out, s.dj, fun j q hq => ?_⟩, fun b u q hn => ?_, nw⟩⟩
  · have hb : b ≠ p := by
      rintro rfl
      rcases g2 with z | z
      · rw [z] at q; cases q
      · exact m z
    exact hh b u hb (e.f.fr b u m q)
  · by_cases hb : b = p
    · rw [hb, h2]; exact fun z => nomatch z
    · cases z : H b with
      | none => exact (e.f.md b m q z).elim
      | some u => rw [hh b u hb z]; exact fun z => nomatch z
  · by_cases hj : j = i
    · subst hj
      rw [h] at q
      cases q
      exact ⟨vs', ds', e1, e2, h2, r2, hp2⟩
    · refine (s.ok j l q).step g fun r hr o z => hh r o (fun y => ?_) z
      subst y
      exact hj (s.dj j i r hr hp)
  · obtain ⟨b1, b2, b3⟩ := s.ow j q hq
    refine ⟨new_not b1 b3 nw, b2, ?_⟩
    by_cases hb : q = p
    · rw [hb, h2]; exact fun z => nomatch z
    · cases z : H q with
      | none => exact (b3 z).elim
      | some u => rw [hh q u hb z]; exact fun z => nomatch z
  · by_cases hb : b = p
    · subst hb; exact (hn i _ HP h e1).elim
    · exact hh b u hb q
theorem xe_callH {E : XK} {tr : TA} {Ps : List PyData → Prop} {i : Nat} {p0 : Addr} (hi : ρ[i]? = some (.hid p0 HP)) (h : XA K B ρ tr Ps) (hd : ∀ ds, Ps ds → Dom ds) (hr : ∀ ds d, Ps ds → R ds d → P d) : XE K B ρ (tCall (spH K HP Dom R) [] E (tCons (tVar i) tr)) P := fun σ G H e Q q => by
  obtain ⟨_, _, e1, _⟩ := e.at_hid hi
  refine ⟨_, e1, h σ G H e _ fun vs ds G2 H2 s p rv => ?_⟩
  obtain ⟨hv, hds, e2, e3, e4, e5, e6, fin⟩ := s.e.at_hid hi
  rw [List.append_nil]
  exact ⟨G2, p0, hv, hds, vs, ds, rfl, s.e.f.gh, e6, e3, e4, e5, rv, hd ds p, fun d hrd v G3 H3 hv' hd' g gh hh nw h3 r3 hp3 r => q v d G3 H3 (s.trans (fin G3 H3 hv' hd' g gh hh nw h3 r3 hp3)) (hr ds d p hrd) r⟩
theorem xn_callH {E : XK} {tr : TA} {Ps Pt : List PyData → Prop} {i : Nat} {p0 : Addr} (hi : ρ[i]? = some (.hid p0 HP)) (h : XA K B ρ tr Ps) (hd : ∀ ds, Ps ds → Dom ds) (hr : ∀ ds es, Ps ds → RN ds es → Pt es) : XN K B ρ (tCall (spHN K HP Dom RN) [] E (tCons (tVar i) tr)) Pt := fun σ G H e Q q => by
  obtain ⟨_, _, e1, _⟩ := e.at_hid hi
  refine ⟨_, e1, h σ G H e _ fun vs ds G2 H2 s p rv => ?_⟩
  obtain ⟨hv, hds, e2, e3, e4, e5, e6, fin⟩ := s.e.at_hid hi
  rw [List.append_nil]
  exact ⟨G2, p0, hv, hds, vs, ds, rfl, s.e.f.gh, e6, e3, e4, e5, rv, hd ds p, fun es hrd l ws G3 H3 hv' hd' g gh hh nw h3 r3 hp3 hl gl hl2 r =>
    q l es G3 H3 (s.trans (fin G3 H3 hv' hd' g gh hh nw h3 r3 hp3)) (hr ds es p hrd) ⟨gl, .inl (s.e.f.back hl), ⟨ws, hl2, r⟩, s.e.fresh_n hl⟩ (s.back hl)⟩

/-! ### statements -/
inductive Rt where
  | d (x : PyData) | own (ds : List PyData) | raw (P : V → Hp → Prop)
def RtOk (K : PySem.W.Frag) (B : Bs) (G H : Hp) (v : V) : Rt → Prop
  | .d x => Dt K G v x
  | .own ds => ∃ p ws, v = .ref p ∧ B.H p = none ∧ G p = none ∧ H p = some (.lst ws) ∧ DtAll K G ws ds
  | .raw P => P v G
abbrev LP := List Sl → Prop
def nev : LP := fun _ => False
def HS (K : PySem.W.Frag) (B : Bs) (t : TS) (ρ : List Sl) (N : LP) (R : Rt → LP) (Bk Ct : LP) : Prop := ∀ (D : Ends) σ G H, Env K B G H σ ρ →
  (∀ σ' G' H' ρ', Same G G' → N ρ' → Env K B G' H' σ' ρ' → D.nx σ' H') → (∀ v r σ' G' H' ρ', R r ρ' → Env K B G' H' σ' ρ' → RtOk K B G' H' v r → D.rt v H') →
  (∀ σ' G' H' ρ', Same G G' → Bk ρ' → Env K B G' H' σ' ρ' → D.bk σ' H') → (∀ σ' G' H' ρ', Same G G' → Ct ρ' → Env K B G' H' σ' ρ' → D.ct σ' H') → t D σ H
variable {N N1 Bk Ct : LP} {Rr : Rt → LP} {ts us : TS}
theorem hs_next (h : N ρ) : HS K B tNext ρ N Rr Bk Ct := fun D σ G H e n _ _ _ => n σ G H ρ (Same.refl G) h e
theorem hs_seq (h1 : HS K B ts ρ N1 Rr Bk Ct) (h2 : ∀ ρ1, N1 ρ1 → HS K B us ρ1 N Rr Bk Ct) : HS K B (tSeq ts us) ρ N Rr Bk Ct := fun D σ G H e n r b c =>
  h1 { D with nx := us D } σ G H e (fun σ' G' H' ρ' g h e' => h2 ρ' h D σ' G' H' e' (fun σ2 G2 H2 ρ2 g2 => n σ2 G2 H2 ρ2 (g.trans g2)) r (fun σ2 G2 H2 ρ2 g2 => b σ2 G2 H2 ρ2 (g.trans g2)) fun σ2 G2 H2 ρ2 g2 => c σ2 G2 H2 ρ2 (g.trans g2)) r b c
theorem hs_set {i : Nat} (h : XE K B ρ te P) (f : ∀ d, P d → N (ρ.set i (.d d))) : HS K B (tAsg te (gName i)) ρ N Rr Bk Ct := fun D σ G H e n _ _ _ =>
  h σ G H e _ fun v d G2 H2 s p r => n _ G2 H2 _ s.g (f d p) (s.e.putD r)
theorem hs_setN {i : Nat} {Ps : List PyData → Prop} (h : XN K B ρ te Ps) (f : ∀ ds, Ps ds → N (ρ.set i (.own ds))) : HS K B (tAsg te (gName i)) ρ N Rr Bk Ct := fun D σ G H e n _ _ _ =>
  h σ G H e _ fun p ds G2 H2 s ps o _ => n _ G2 H2 _ s.g (f ds ps) (s.e.putO o)
/-- a new list whose content is told by HP alone from now on -/
theorem hs_setH {i : Nat} {Ps : List PyData → Prop} (h : XN K B ρ te Ps) (f : ∀ ds, Ps ds → HP ds) (hN : ∀ p, N (ρ.set i (.hid p HP))) : HS K B (tAsg te (gName i)) ρ N Rr Bk Ct := fun D σ G H e n _ _ _ =>
  h σ G H e _ fun p ds G2 H2 s ps o _ => n _ G2 H2 _ s.g (hN p) (by
    obtain ⟨vs, h1, h2⟩ := o.h
    refine s.e.put (f := [p]) (fun _ => ⟨vs, ds, rfl, rfl, h1, h2, f ds ps⟩) (fun q hq => ?_) fun fp s q hq j hj hm => ?_
    · obtain rfl : q = p := by simpa using hq
      exact ⟨o.g, o.b, by rw [h1]; exact fun z => nomatch z⟩
    · obtain rfl : q = p := by simpa using hq
      obtain ⟨a, b⟩ := s.at_own hm
      rcases o.n j with z | z
      · exact z a
      · exact b z)
theorem hs_ret (h : XE K B ρ te P) (f : ∀ d, P d → Rr (.d d) ρ) : HS K B (tRet te) ρ N Rr Bk Ct := fun D σ G H e _ r _ _ =>
  h σ G H e _ fun v d G2 H2 s p rr => r v (.d d) σ G2 H2 ρ (f d p) s.e rr
theorem hs_retN {Ps : List PyData → Prop} (h : XN K B ρ te Ps) (f : ∀ ds, Ps ds → Rr (.own ds) ρ) : HS K B (tRet te) ρ N Rr Bk Ct := fun D σ G H e _ r _ _ =>
  h σ G H e _ fun p ds G2 H2 s ps o hb => by
    obtain ⟨ws, h1, h2⟩ := o.h
    exact r _ (.own ds) σ G2 H2 ρ (f ds ps) s.e ⟨p, ws, rfl, e.f.back hb, o.g, h1, h2⟩
/-- return of an own list -/
theorem hs_retO {i : Nat} {ds : List PyData} (h : ρ[i]? = some (.own ds)) (hM : ∀ p, ¬ B.M p) (f : Rr (.own ds) ρ) : HS K B (tRet (tVar i)) ρ N Rr Bk Ct := fun D σ G H e _ r _ _ => by
  obtain ⟨fp, s⟩ := e.s
  obtain ⟨p, vs, e1, e2, e3, e4⟩ := s.ok i _ h
  obtain ⟨g1, g2, g3⟩ := s.ow i p (by rw [e2]; simp)
  exact ⟨_, e1, r _ (.own ds) σ G H ρ f e ⟨p, vs, rfl, g2.elim id fun z => (hM p z).elim, g1, e3, e4⟩⟩
theorem hs_if (h : XT K B ρ t Pb) (h1 : Pb true → HS K B ts ρ N Rr Bk Ct) (h2 : Pb false → HS K B us ρ N Rr Bk Ct) : HS K B (tIfS t ts us) ρ N Rr Bk Ct := fun D σ G H e n r b c => h σ G H e _ fun k G2 H2 s p => by
  cases k with
  | true => exact h1 p D σ G2 H2 s.e (fun σ' G' H' ρ' g => n σ' G' H' ρ' (s.g.trans g)) r (fun σ' G' H' ρ' g => b σ' G' H' ρ' (s.g.trans g)) fun σ' G' H' ρ' g => c σ' G' H' ρ' (s.g.trans g)
  | false => exact h2 p D σ G2 H2 s.e (fun σ' G' H' ρ' g => n σ' G' H' ρ' (s.g.trans g)) r (fun σ' G' H' ρ' g => b σ' G' H' ρ' (s.g.trans g)) fun σ' G' H' ρ' g => c σ' G' H' ρ' (s.g.trans g)
theorem hs_brk (h : Bk ρ) : HS K B tBreak ρ N Rr Bk Ct := fun D σ G H e _ _ b _ => b σ G H ρ (Same.refl G) h e
theorem hs_cont (h : Ct ρ) : HS K B tCont ρ N Rr Bk Ct := fun D σ G H e _ _ _ c => c σ G H ρ (Same.refl G) h e
theorem HS.imp {Bk1 Ct1 : LP} {Rr1 : Rt → LP} (h : HS K B ts ρ N1 Rr1 Bk1 Ct1) (hN : ∀ ρ', N1 ρ' → N ρ') (hR : ∀ r ρ', Rr1 r ρ' → Rr r ρ') (hB : ∀ ρ', Bk1 ρ' → Bk ρ') (hC : ∀ ρ', Ct1 ρ' → Ct ρ') : HS K B ts ρ N Rr Bk Ct := fun D σ G H e n r b c =>
  h D σ G H e (fun σ' G' H' ρ' g q => n σ' G' H' ρ' g (hN ρ' q)) (fun v x σ' G' H' ρ' q => r v x σ' G' H' ρ' (hR x ρ' q)) (fun σ' G' H' ρ' g q => b σ' G' H' ρ' g (hB ρ' q)) fun σ' G' H' ρ' g q => c σ' G' H' ρ' g (hC ρ' q)
/-- an own slot is let be -/
theorem hs_freeze {i : Nat} {ds : List PyData} (h : ρ[i]? = some (.own ds)) (hM : ∀ p, ¬ B.M p) (k : HS K B ts (ρ.set i (.d (.list ds))) N Rr Bk Ct) : HS K B ts ρ N Rr Bk Ct := fun D σ G H e n r b c => by
  obtain ⟨G2, g, e2⟩ := e.freeze h hM
  exact k D σ G2 H e2 (fun σ' G' H' ρ' g' => n σ' G' H' ρ' (g.trans g')) r (fun σ' G' H' ρ' g' => b σ' G' H' ρ' (g.trans g')) fun σ' G' H' ρ' g' => c σ' G' H' ρ' (g.trans g')
/-! ### loops -/
theorem hs_forL {j : Nat} {tl : TE} {ds : List PyData} (h : XE K B ρ tl (· = .list ds)) (Iv : Nat → LP) (h0 : Iv 0 ρ) (hs : ∀ i d ρ', ds[i]? = some d → Iv i ρ' → HS K B ts (ρ'.set j (.d d)) (Iv (i + 1)) Rr N (Iv (i + 1)))
    (hd : ∀ ρ', Iv ds.length ρ' → N ρ') : HS K B (tFor (iList K tl) (gName j) ts) ρ N Rr Bk Ct := fun D σ G H e n r b c => h σ G H e _ fun v d G1 H1 s p rd => by
  subst p
  cases rd with
  | lst hq ha =>
    rename_i a xs
    refine ⟨a, rfl, ⟨xs, sqL_mono s.e.f.gh hq⟩, for_list (xs := xs) (fun i σ' H' => ∃ G' ρ', Same G1 G' ∧ Iv i ρ' ∧ Env K B G' H' σ' ρ') ⟨G1, ρ, Same.refl _, h0, s.e⟩ (fun i σ' H' _ ⟨G', ρ', g, _, e'⟩ => sqL_mono e'.f.gh (sqL_mono g hq)) ?_ ?_⟩
    · rintro i x σ' H' hx ⟨G', ρ', g, iv, e'⟩
      obtain ⟨d, hd1, hd2⟩ := DtAll.get ha hx
      refine hs i d ρ' hd1 iv _ _ G' H' (e'.putD (Dt.mono g hd2)) (fun σ2 G2 H2 ρ2 g2 iv2 e2 => ⟨G2, ρ2, g.trans g2, iv2, e2⟩) r (fun σ2 G2 H2 ρ2 g2 nb e2 => n σ2 G2 H2 ρ2 ((s.g.trans g).trans g2) nb e2) (fun σ2 G2 H2 ρ2 g2 iv2 e2 => ⟨G2, ρ2, g.trans g2, iv2, e2⟩)
    · rintro σ' H' ⟨G', ρ', g, iv, e'⟩
      exact n σ' G' H' ρ' (s.g.trans g) (hd ρ' (by rw [← DtAll.length ha]; exact iv)) e'
theorem hs_forT {j : Nat} {tl : TE} {ds : List PyData} (h : XE K B ρ tl (· = .tuple ds)) (Iv : Nat → LP) (h0 : Iv 0 ρ) (hs : ∀ i d ρ', ds[i]? = some d → Iv i ρ' → HS K B ts (ρ'.set j (.d d)) (Iv (i + 1)) Rr N (Iv (i + 1)))
    (hd : ∀ ρ', Iv ds.length ρ' → N ρ') : HS K B (tFor (iTup K tl) (gName j) ts) ρ N Rr Bk Ct := fun D σ G H e n r b c => h σ G H e _ fun v d G1 H1 s p rd => by
  subst p
  cases rd with
  | tup hq ha =>
    rename_i a xs
    refine ⟨a, rfl, ⟨xs, sqT_mono s.e.f.gh hq⟩, for_tup (xs := xs) (fun i σ' H' => ∃ G' ρ', Same G1 G' ∧ Iv i ρ' ∧ Env K B G' H' σ' ρ') ⟨G1, ρ, Same.refl _, h0, s.e⟩ (fun i σ' H' _ ⟨G', ρ', g, _, e'⟩ => sqT_mono e'.f.gh (sqT_mono g hq)) ?_ ?_⟩
    · rintro i x σ' H' hx ⟨G', ρ', g, iv, e'⟩
      obtain ⟨d, hd1, hd2⟩ := DtAll.get ha hx
      refine hs i d ρ' hd1 iv _ _ G' H' (e'.putD (Dt.mono g hd2)) (fun σ2 G2 H2 ρ2 g2 iv2 e2 => ⟨G2, ρ2, g.trans g2, iv2, e2⟩) r (fun σ2 G2 H2 ρ2 g2 nb e2 => n σ2 G2 H2 ρ2 ((s.g.trans g).trans g2) nb e2) (fun σ2 G2 H2 ρ2 g2 iv2 e2 => ⟨G2, ρ2, g.trans g2, iv2, e2⟩)
    · rintro σ' H' ⟨G', ρ', g, iv, e'⟩
      exact n σ' G' H' ρ' (s.g.trans g) (hd ρ' (by rw [← DtAll.length ha]; exact iv)) e'
theorem hs_range {j : Nat} {lo hi : Int} {σ0 : St} {G0 H0 : Hp} (D : Ends) (e : Env K B G0 H0 σ0 ρ) (Iv : Nat → LP) (h0 : Iv 0 ρ) (hs : ∀ (i : Nat) ρ', lo + i < hi → Iv i ρ' → HS K B ts (ρ'.set j (.d (.int (lo + i)))) (Iv (i + 1)) Rr N (Iv (i + 1)))
    (hd : ∀ ρ', Iv (hi - lo).toNat ρ' → N ρ') (n : ∀ σ' G' H' ρ', Same G0 G' → N ρ' → Env K B G' H' σ' ρ' → D.nx σ' H') (r : ∀ v r σ' G' H' ρ', Rr r ρ' → Env K B G' H' σ' ρ' → RtOk K B G' H' v r → D.rt v H') :
    ∃ W : Nat → Nat → St → Hp → Prop, (∃ m, W 0 m σ0 H0) ∧ ∀ i m σ H, W i m σ H →
      ((Itr lo (hi - lo).toNat).stop i H ∧ D.nx σ H) ∨ ((Itr lo (hi - lo).toNat).go i H ∧ ∃ N : St → Hp → Prop, (∀ σ' H', N σ' H' → ∃ m', m' < m ∧ W (i + 1) m' σ' H') ∧ ∀ x H', (Itr lo (hi - lo).toNat).yld i H x H' → gName j x σ H' fun σ2 H2 => ts { D with nx := N, ct := N, bk := D.nx } σ2 H2) := by
  refine for_range (lo := lo) (fun i σ' H' => ∃ G' ρ', Same G0 G' ∧ Iv i ρ' ∧ Env K B G' H' σ' ρ') ⟨G0, ρ, Same.refl _, h0, e⟩ ?_ ?_
  · rintro i σ' H' hi' ⟨G', ρ', g, iv, e'⟩
    exact hs i ρ' (by omega) iv _ _ G' H' (e'.putD (.int _)) (fun σ2 G2 H2 ρ2 g2 iv2 e2 => ⟨G2, ρ2, g.trans g2, iv2, e2⟩) r (fun σ2 G2 H2 ρ2 g2 nb e2 => n σ2 G2 H2 ρ2 (g.trans g2) nb e2) (fun σ2 G2 H2 ρ2 g2 iv2 e2 => ⟨G2, ρ2, g.trans g2, iv2, e2⟩)
  · rintro σ' H' ⟨G', ρ', g, iv, e'⟩
    exact n σ' G' H' ρ' g (hd ρ' iv) e'
theorem hs_forR1 {j : Nat} {tr : TA} {hi : Int} (h : XA K B ρ tr (· = [.int hi])) (hz : -(2 ^ 62) ≤ hi ∧ hi < 2 ^ 62) (Iv : Nat → LP) (h0 : Iv 0 ρ) (hs : ∀ (i : Nat) ρ', (i : Int) < hi → Iv i ρ' → HS K B ts (ρ'.set j (.d (.int i))) (Iv (i + 1)) Rr N (Iv (i + 1)))
    (hd : ∀ ρ', Iv hi.toNat ρ' → N ρ') : HS K B (tFor (iRng1 tr) (gName j) ts) ρ N Rr Bk Ct := fun D σ G H e n r b c => h σ G H e _ fun vs ds G1 H1 s p rd => by
  subst p
  cases rd with
  | cons r1 r2 =>
    cases r2
    cases r1
    have e0 : (hi - 0).toNat = hi.toNat := by rw [Int.sub_zero]
    have z := hs_range (lo := 0) (hi := hi) (j := j) D s.e Iv h0 (fun i ρ' hlt iv => by rw [Int.zero_add]; exact hs i ρ' (by omega) iv) (fun ρ' iv => hd ρ' (by rw [← e0]; exact iv)) (fun σ' G' H' ρ' g => n σ' G' H' ρ' (s.g.trans g)) r
    rw [e0] at z
    exact ⟨hi, rfl, hz.1, hz.2, z⟩
theorem hs_forR2 {j : Nat} {tr : TA} {lo hi : Int} (h : XA K B ρ tr (· = [.int lo, .int hi])) (hz : -(2 ^ 62) ≤ lo ∧ lo < 2 ^ 62 ∧ -(2 ^ 62) ≤ hi ∧ hi < 2 ^ 62) (Iv : Nat → LP) (h0 : Iv 0 ρ)
    (hs : ∀ (i : Nat) ρ', lo + i < hi → Iv i ρ' → HS K B ts (ρ'.set j (.d (.int (lo + i)))) (Iv (i + 1)) Rr N (Iv (i + 1)))
    (hd : ∀ ρ', Iv (hi - lo).toNat ρ' → N ρ') : HS K B (tFor (iRng2 tr) (gName j) ts) ρ N Rr Bk Ct := fun D σ G H e n r b c => h σ G H e _ fun vs ds G1 H1 s p rd => by
  subst p
  cases rd with
  | cons r1 r2 =>
    cases r2 with
    | cons r2 r3 =>
      cases r3
      cases r1
      cases r2
      exact ⟨lo, hi, rfl, hz, hs_range D s.e Iv h0 hs hd (fun σ' G' H' ρ' g => n σ' G' H' ρ' (s.g.trans g)) r⟩
theorem hs_while (Iv : Nat → LP) (m0 : Nat) (h0 : Iv m0 ρ) (hs : ∀ m ρ', Iv m ρ' → ∃ Pb : Bool → Prop, XT K B ρ' t Pb ∧ (Pb true → HS K B ts ρ' (fun ρ2 => ∃ m', m' < m ∧ Iv m' ρ2) Rr N (fun ρ2 => ∃ m', m' < m ∧ Iv m' ρ2)) ∧ (Pb false → N ρ')) :
    HS K B (tWhile t ts) ρ N Rr Bk Ct := fun D σ G H e n r b c => by
  refine ⟨fun m σ' H' => ∃ G' ρ', Same G G' ∧ Iv m ρ' ∧ Env K B G' H' σ' ρ', ⟨m0, G, ρ, Same.refl _, h0, e⟩, ?_⟩
  rintro m σ' H' ⟨G', ρ', g, iv, e'⟩
  obtain ⟨Pb, ht, h1, h2⟩ := hs m ρ' iv
  refine ht σ' G' H' e' _ fun k G2 H2 s p => ?_
  cases k with
  | true =>
    have again : ∀ σ3 G3 H3 ρ3, Same G2 G3 → (∃ m', m' < m ∧ Iv m' ρ3) → Env K B G3 H3 σ3 ρ3 → ∃ m', m' < m ∧ ∃ G' ρ', Same G G' ∧ Iv m' ρ' ∧ Env K B G' H3 σ3 ρ' := fun σ3 G3 H3 ρ3 g3 ⟨m', hm, iv'⟩ e3 => ⟨m', hm, G3, ρ3, (g.trans s.g).trans g3, iv', e3⟩
    exact ⟨fun σ3 H3 => ∃ m', m' < m ∧ ∃ G' ρ', Same G G' ∧ Iv m' ρ' ∧ Env K B G' H3 σ3 ρ', fun _ _ z => z, h1 p _ σ' G2 H2 s.e again r (fun σ3 G3 H3 ρ3 g3 nb e3 => n σ3 G3 H3 ρ3 ((g.trans s.g).trans g3) nb e3) again⟩
  | false => exact n σ' G2 H2 ρ' (g.trans s.g) (h2 p) s.e
end HL
end

section
set_option Elab.async false
set_option linter.all false
set_option maxRecDepth 100000
set_option maxHeartbeats 4000000
namespace HL
open PySem L2
variable {K : PySem.W.Frag} {B : Bs} {G H G2 H2 : Hp} {σ : St} {ρ : List Sl} {ta tb tc te : TE} {t u : TT} {P P1 P2 : PyData → Prop} {Pb Pb1 Pb2 : Bool → Prop}
/-! ### comprehensions -/
def wipeR (ρ : List Sl) : List Nat → List Sl
  | [] => ρ
  | v :: vs => (wipeR ρ vs).set v .un
theorem wipeR_len (ρ : List Sl) : ∀ vs, (wipeR ρ vs).length = ρ.length
  | [] => rfl
  | v :: vs => by unfold wipeR; rw [List.length_set]; exact wipeR_len ρ vs
theorem wipe_out {σ : St} {i : Nat} : ∀ {vs : List Nat}, i ∉ vs → (wipe σ vs)[i]? = σ[i]?
  | [], _ => rfl
  | v :: vs, h => by
    unfold wipe
    rw [set_get, if_neg (fun z => h (by rw [z]; simp))]
    exact wipe_out fun z => h (by simp [z])
theorem wipeR_out {ρ : List Sl} {i : Nat} : ∀ {vs : List Nat}, i ∉ vs → (wipeR ρ vs)[i]? = ρ[i]?
  | [], _ => rfl
  | v :: vs, h => by
    unfold wipeR
    rw [set_get, if_neg (fun z => h (by rw [z]; simp))]
    exact wipeR_out fun z => h (by simp [z])
theorem wipeR_in {ρ : List Sl} {i : Nat} : ∀ {vs : List Nat}, i ∈ vs → ∀ l, (wipeR ρ vs)[i]? = some l → l = .un
  | v :: vs, h, l, e => by
    unfold wipeR at e
    rw [set_get] at e
    by_cases z : v = i
    · rw [if_pos z] at e
      by_cases y : i < (wipeR ρ vs).length
      · rw [if_pos y] at e; exact (Option.some.inj e).symm
      · rw [if_neg y] at e; cases e
    · rw [if_neg z] at e
      exact wipeR_in (by rcases List.mem_cons.mp h with q | q; exact (z q.symm).elim; exact q) l e
def Sl.free : Sl → Bool
  | .own _ => false
  | .hid _ _ => false
  | _ => true
def freeB (ρ : List Sl) (vs : List Nat) : Bool := vs.all fun i => (ρ[i]?).all Sl.free
theorem free_at {ρ : List Sl} {vs : List Nat} (h : freeB ρ vs = true) {i : Nat} (hi : i ∈ vs) {l : Sl} (e : ρ[i]? = some l) : l.free = true := by
  have := List.all_eq_true.mp h i hi
  rw [e] at this
  exact this
theorem SlOk.fp_nil {s : Option (Option V)} {fp : List Addr} {l : Sl} (o : SlOk K G H s fp l) (h : l.free = true) : fp = [] := by
  cases l with
  | un => exact o
  | d x => exact o.1
  | raw v => exact o.1
  | own ds => cases h
  | hid a P => cases h
/-- in a comprehension's turn: its own names are stored anew -/
theorem Env.inner (e : Env K B G H σ ρ) {vs : List Nat} {j : Nat} {v : V} {d : PyData} (hv : freeB ρ vs = true) (hr : Dt K G v d) : Env K B G H ((wipe σ vs).set j (some v)) ((wipeR ρ vs).set j (.d d)) := by
  refine Env.putD ?_ hr
  obtain ⟨fp, s⟩ := e.s
  refine ⟨e.f, by rw [wipe_length, wipeR_len]; exact e.len, fp, fun i l q => ?_, fun i q => ?_, s.dj, s.ow⟩
  · by_cases z : i ∈ vs
    · rw [wipeR_in z l q]
      cases e0 : ρ[i]? with
      | none => exact s.out i e0
      | some l0 => exact (s.ok i l0 e0).fp_nil (free_at hv z e0)
    · rw [wipeR_out z] at q
      rw [wipe_out z]
      exact s.ok i l q
  · have h1 := List.getElem?_eq_none_iff.mp q
    rw [wipeR_len] at h1
    exact s.out i (List.getElem?_eq_none_iff.mpr h1)
/-- .. and behind it the def's own state stands -/
theorem Env.outer {σ' : St} {ρ' : List Sl} (e : Env K B G2 H2 σ' ρ') {vs : List Nat} (e0 : Env K B G H σ ρ) (g : Same G G2) (hl2 : ρ'.length = ρ.length) (h : ∀ i, i ∉ vs → σ'[i]? = σ[i]? ∧ ρ'[i]? = ρ[i]?) (hv : freeB ρ vs = true) : Env K B G2 H2 σ ρ := by
  obtain ⟨fp, s⟩ := e.s
  obtain ⟨fp0, s0⟩ := e0.s
  refine ⟨e.f, e0.len, fun i => if i ∈ vs then [] else fp i, fun i l q => ?_, fun i q => ?_, fun i k p a b => ?_, fun i p a => ?_⟩
  · by_cases z : i ∈ vs
    · rw [if_pos z]
      have o := s0.ok i l q
      have hn := o.fp_nil (free_at hv z q)
      rw [hn] at o
      exact o.step g fun p hp => by cases hp
    · rw [if_neg z]
      obtain ⟨h1, h2⟩ := h i z
      rw [← h2] at q
      rw [← h1]
      exact s.ok i l q
  · by_cases z : i ∈ vs
    · rw [if_pos z]
    · rw [if_neg z]
      rw [← (h i z).2] at q
      exact s.out i q
  · by_cases z : i ∈ vs
    · rw [if_pos z] at a; cases a
    · rw [if_neg z] at a
      by_cases y : k ∈ vs
      · rw [if_pos y] at b; cases b
      · rw [if_neg y] at b
        exact s.dj i k p a b
  · by_cases z : i ∈ vs
    · rw [if_pos z] at a; cases a
    · rw [if_neg z] at a
      exact s.ow i p a
structure LcI (K : PySem.W.Frag) (B : Bs) (σ : St) (ρ : List Sl) (G1 H1 : Hp) (Dl : Addr) (Ac : List PyData → Prop) (H' : Hp) (G' : Hp) (acc : List V) (es : List PyData) : Prop where
  s : Stp K B σ ρ G1 H1 G' H'
  l : H' Dl = some (.lst acc)
  r : DtAll K G' acc es
  a : Ac es
  n : G' Dl = none
/-- one turn of a comprehension with one name j, over anything that yields the value x -/
theorem lc_turn {G1 H1 G' H' : Hp} {Dl : Addr} {vs : List Nat} {j : Nat} {tt : TT} {x : V} {d : PyData} {acc : List V} {es : List PyData} {Ac Ac2 : List PyData → Prop} (hD : H1 Dl = none) (e1 : Env K B G1 H1 σ ρ) (I : LcI K B σ ρ G1 H1 Dl Ac H' G' acc es) (hx : Dt K G' x d) (hj : j ∈ vs) (hv : freeB ρ vs = true)
    (hz : es.length < 16000000) {Pb : Bool → Prop} (ht : XT K B ((wipeR ρ vs).set j (.d d)) tt Pb) (h1 : Pb true → XE K B ((wipeR ρ vs).set j (.d d)) te (fun y => Ac2 (es ++ [y]))) (h2 : Pb false → Ac2 es) :
    wipe ((wipe σ vs).set j (some x)) vs = wipe σ vs → tt ((wipe σ vs).set j (some x)) H' fun b H3 => if b = true then te ((wipe σ vs).set j (some x)) H3 fun y H4 => ∃ acc', H4 Dl = some (.lst acc') ∧ acc'.length < sizeLine ∧ ∃ G5 acc5 es5, LcI K B σ ρ G1 H1 Dl Ac2 (upd H4 Dl (.lst (acc' ++ [y]))) G5 acc5 es5
      else ∃ G5 acc5 es5, LcI K B σ ρ G1 H1 Dl Ac2 H3 G5 acc5 es5 := fun _ => by
  have ei := I.s.e.inner (j := j) hv hx
  have same : ∀ i, i ∉ vs → ((wipe σ vs).set j (some x))[i]? = σ[i]? ∧ ((wipeR ρ vs).set j (.d d))[i]? = ρ[i]? := fun i hi => by
    have hij : j ≠ i := fun z => hi (by rw [← z]; exact hj)
    rw [set_get, set_get, if_neg hij, if_neg hij]
    exact ⟨wipe_out hi, wipeR_out hi⟩
  have lift : ∀ {Ga Ha Gb Hb : Hp}, Same G1 Ga → Stp K B ((wipe σ vs).set j (some x)) ((wipeR ρ vs).set j (.d d)) Ga Ha Gb Hb → Stp K B σ ρ Ga Ha Gb Hb := fun {Ga Ha Gb Hb} gg s => ⟨s.g, s.e.outer e1 (gg.trans s.g) (by rw [List.length_set, wipeR_len]) same hv, fun b o q hn => s.k b o q fun i p' P a c => by
      by_cases z : i ∈ vs
      · by_cases y : j = i
        · rw [set_get, if_pos y] at a
          by_cases w : i < (wipeR ρ vs).length
          · rw [if_pos w] at a; cases a
          · rw [if_neg w] at a; cases a
        · rw [set_get, if_neg y] at a
          cases wipeR_in z _ a
      · rw [(same i z).2] at a
        rw [(same i z).1] at c
        exact hn i p' P a c, s.nw⟩
  have keepD : ∀ {Ga Ha Gb Hb : Hp} {o : HO}, Stp K B σ ρ Ga Ha Gb Hb → Ha Dl = some o → Ga Dl = none → Hb Dl = some o ∧ Gb Dl = none := fun {Ga Ha Gb Hb o} s a b =>
    ⟨s.k Dl o a fun i p' P h => Kp.at_new e1 hD i p' P h, new_not b (by rw [a]; exact fun z => nomatch z) s.nw⟩
  refine ht _ G' H' ei _ fun b G3 H3 s3 pb => ?_
  have t3 := lift I.s.g s3
  obtain ⟨l3, n3⟩ := keepD t3 I.l I.n
  cases b with
  | true =>
    refine h1 pb _ G3 H3 s3.e _ fun y dy G4 H4 s4 py ry => ?_
    have t4 := lift (I.s.g.trans t3.g) s4
    obtain ⟨l4, n4⟩ := keepD t4 l3 n3
    have t5 := I.s.trans (t3.trans t4)
    refine ⟨acc, l4, by rw [DtAll.length I.r, sizeLine_eq]; omega, G4, acc ++ [y], es ++ [dy], ⟨⟨t5.g, ?_, ?_, t5.nw⟩, upd_same, DtAll.append (DtAll.mono (t3.g.trans t4.g) I.r) (.cons ry .nil), py, n4⟩⟩
    · -- the list at Dl stands in no slot
      have e4 := t5.e
      obtain ⟨fp, s⟩ := e4.s
      have hno : ∀ i p, p ∈ fp i → p ≠ Dl := fun i p hp z => by
        subst z
        obtain ⟨z1, z2⟩ := s.at_own hp
        rcases e1.fresh_n hD i with z | z
        · exact z z1
        · exact z2 z
      refine ⟨⟨fun b u q => ?_, e4.f.g0, fun b u m q => ?_, fun b m q => ?_, e4.f.nw⟩, e4.len, fp, fun i l q => (s.ok i l q).step (Same.refl _) fun p hp o z => by rw [upd_ne (hno i p hp)]; exact z, s.out, s.dj, fun i p hp => by
        obtain ⟨a1, a2, a3⟩ := s.ow i p hp
        exact ⟨a1, a2, by rw [upd_ne (hno i p hp)]; exact a3⟩⟩
      · rw [upd_ne (ne_of_none q n4)]; exact e4.f.gh b u q
      · rw [upd_ne (ne_of_none q (e1.f.back hD))]; exact e4.f.fr b u m q
      · by_cases hb : b = Dl
        · rw [hb, upd_same]; exact fun z => nomatch z
        · rw [upd_ne hb]; exact e4.f.md b m q
    · exact fun b u q hn => by rw [upd_ne (ne_of_none q hD)]; exact t5.k b u q hn
  | false => exact ⟨G3, acc, es, I.s.trans t3, l3, DtAll.mono t3.g I.r, h2 pb, n3⟩
theorem wipe_again {vs : List Nat} {j : Nat} {x : V} (hj : j ∈ vs) : wipe ((wipe σ vs).set j (some x)) vs = wipe σ vs := by
  apply List.ext_getElem?
  intro i
  by_cases z : i ∈ vs
  · have key : ∀ (τ υ : St), τ.length = υ.length → ∀ vs : List Nat, i ∈ vs → (wipe τ vs)[i]? = (wipe υ vs)[i]? := by
      intro τ υ hl vs
      induction vs with
      | nil => intro h; cases h
      | cons v vs ih =>
        intro h
        unfold wipe
        rw [set_get, set_get]
        by_cases y : v = i
        · rw [if_pos y, if_pos y, wipe_length, wipe_length, hl]
        · rw [if_neg y, if_neg y]
          exact ih (by rcases List.mem_cons.mp h with q | q; exact (y q.symm).elim; exact q)
    exact key _ _ (by rw [List.length_set, wipe_length]) vs z
  · rw [wipe_out z, wipe_out z, set_get, if_neg (fun q => z (by rw [← q]; exact hj)), wipe_out z]
theorem lc_fin {G1 H1 : Hp} {Dl : Addr} {Ac : List PyData → Prop} {H' G' : Hp} {acc : List V} {es : List PyData} (hD : H1 Dl = none) (e1 : Env K B G1 H1 σ ρ) (I : LcI K B σ ρ G1 H1 Dl Ac H' G' acc es) : Own K B G' H' σ ρ Dl es :=
  ⟨I.n, .inl (e1.f.back hD), ⟨acc, I.l, I.r⟩, fun i => e1.fresh_n hD i⟩
theorem lc_ini {G1 H1 : Hp} {Dl : Addr} {Ac : List PyData → Prop} (hD : H1 Dl = none) (e1 : Env K B G1 H1 σ ρ) (h0 : Ac []) : LcI K B σ ρ G1 H1 Dl Ac (upd H1 Dl (.lst [])) G1 [] [] :=
  ⟨Stp.own e1 hD, upd_same, .nil, h0, by
    cases q : G1 Dl with
    | none => rfl
    | some u => rw [e1.f.gh _ _ q] at hD; cases hD⟩
/-- [te for j in a list if tt] -/
theorem xn_lcL {tl : TE} {j : Nat} {vs : List Nat} {tt : TT} {ds : List PyData} (h : XE K B ρ tl (· = .list ds)) (hj : j ∈ vs) (hv : freeB ρ vs = true) (Ac : Nat → List PyData → Prop) (h0 : Ac 0 []) (hz : ∀ i es, i < ds.length → Ac i es → es.length < 16000000)
    (hs : ∀ i d es, ds[i]? = some d → Ac i es → ∃ Pb : Bool → Prop, XT K B ((wipeR ρ vs).set j (.d d)) tt Pb ∧ (Pb true → XE K B ((wipeR ρ vs).set j (.d d)) te (fun y => Ac (i + 1) (es ++ [y]))) ∧ (Pb false → Ac (i + 1) es)) :
    XN K B ρ (tLc (iList K tl) (gName j) tt te vs) (Ac ds.length) := fun σ G H e Q q => h σ G H e _ fun v d G1 H1 s p rd => by
  subst p
  cases rd with
  | lst hq ha =>
    rename_i a xs
    refine ⟨a, rfl, ⟨xs, sqL_mono s.e.f.gh hq⟩, fun Dl hD => ?_⟩
    refine lc_list (xs := xs) (fun i H' => ∃ G' acc es, LcI K B σ ρ G1 H1 Dl (Ac i) H' G' acc es) ⟨_, _, _, lc_ini hD s.e h0⟩ (fun i H' _ ⟨G', acc, es, I⟩ => sqL_mono I.s.e.f.gh (sqL_mono I.s.g hq)) ?_ ?_
    · rintro i x H' hx ⟨G', acc, es, I⟩
      obtain ⟨d, hd1, hd2⟩ := DtAll.get ha hx
      obtain ⟨Pb, t1, t2, t3⟩ := hs i d es hd1 I.a
      exact ⟨wipe_again hj, lc_turn hD s.e I (Dt.mono I.s.g hd2) hj hv (hz i es (List.getElem?_eq_some_iff.mp hd1).1 I.a) t1 t2 t3 (wipe_again hj)⟩
    · rintro H' ⟨G', acc, es, I⟩
      exact q Dl es G' H' (s.trans I.s) (by rw [← DtAll.length ha]; exact I.a) (lc_fin hD s.e I) (s.back hD)
theorem xn_lcT {tl : TE} {j : Nat} {vs : List Nat} {tt : TT} {ds : List PyData} (h : XE K B ρ tl (· = .tuple ds)) (hj : j ∈ vs) (hv : freeB ρ vs = true) (Ac : Nat → List PyData → Prop) (h0 : Ac 0 []) (hz : ∀ i es, i < ds.length → Ac i es → es.length < 16000000)
    (hs : ∀ i d es, ds[i]? = some d → Ac i es → ∃ Pb : Bool → Prop, XT K B ((wipeR ρ vs).set j (.d d)) tt Pb ∧ (Pb true → XE K B ((wipeR ρ vs).set j (.d d)) te (fun y => Ac (i + 1) (es ++ [y]))) ∧ (Pb false → Ac (i + 1) es)) :
    XN K B ρ (tLc (iTup K tl) (gName j) tt te vs) (Ac ds.length) := fun σ G H e Q q => h σ G H e _ fun v d G1 H1 s p rd => by
  subst p
  cases rd with
  | tup hq ha =>
    rename_i a xs
    refine ⟨a, rfl, ⟨xs, sqT_mono s.e.f.gh hq⟩, fun Dl hD => ?_⟩
    refine lc_tup (xs := xs) (fun i H' => ∃ G' acc es, LcI K B σ ρ G1 H1 Dl (Ac i) H' G' acc es) ⟨_, _, _, lc_ini hD s.e h0⟩ (fun i H' _ ⟨G', acc, es, I⟩ => sqT_mono I.s.e.f.gh (sqT_mono I.s.g hq)) ?_ ?_
    · rintro i x H' hx ⟨G', acc, es, I⟩
      obtain ⟨d, hd1, hd2⟩ := DtAll.get ha hx
      obtain ⟨Pb, t1, t2, t3⟩ := hs i d es hd1 I.a
      exact ⟨wipe_again hj, lc_turn hD s.e I (Dt.mono I.s.g hd2) hj hv (hz i es (List.getElem?_eq_some_iff.mp hd1).1 I.a) t1 t2 t3 (wipe_again hj)⟩
    · rintro H' ⟨G', acc, es, I⟩
      exact q Dl es G' H' (s.trans I.s) (by rw [← DtAll.length ha]; exact I.a) (lc_fin hD s.e I) (s.back hD)
theorem xn_lcR1 {tr : TA} {j : Nat} {vs : List Nat} {tt : TT} {hi : Int} (h : XA K B ρ tr (· = [.int hi])) (hb : -(2 ^ 62) ≤ hi ∧ hi < 2 ^ 62) (hj : j ∈ vs) (hv : freeB ρ vs = true) (Ac : Nat → List PyData → Prop) (h0 : Ac 0 []) (hz : ∀ (i : Nat) es, (i : Int) < hi → Ac i es → es.length < 16000000)
    (hs : ∀ (i : Nat) es, (i : Int) < hi → Ac i es → ∃ Pb : Bool → Prop, XT K B ((wipeR ρ vs).set j (.d (.int i))) tt Pb ∧ (Pb true → XE K B ((wipeR ρ vs).set j (.d (.int i))) te (fun y => Ac (i + 1) (es ++ [y]))) ∧ (Pb false → Ac (i + 1) es)) :
    XN K B ρ (tLc (iRng1 tr) (gName j) tt te vs) (Ac hi.toNat) := fun σ G H e Q q => h σ G H e _ fun us ds G1 H1 s p rd => by
  subst p
  cases rd with
  | cons r1 r2 =>
    cases r2
    cases r1
    refine ⟨hi, rfl, hb.1, hb.2, fun Dl hD => ?_⟩
    refine lc_range (lo := 0) (fun i H' => ∃ G' acc es, LcI K B σ ρ G1 H1 Dl (Ac i) H' G' acc es) ⟨_, _, _, lc_ini hD s.e h0⟩ ?_ ?_
    · rintro i H' hx ⟨G', acc, es, I⟩
      have hlt : (i : Int) < hi := by omega
      obtain ⟨Pb, t1, t2, t3⟩ := hs i es hlt I.a
      have e0 : (0 : Int) + (i : Int) = (i : Int) := Int.zero_add _
      rw [e0]
      exact ⟨wipe_again hj, lc_turn hD s.e I (.int _) hj hv (hz i es hlt I.a) t1 t2 t3 (wipe_again hj)⟩
    · rintro H' ⟨G', acc, es, I⟩
      exact q Dl es G' H' (s.trans I.s) I.a (lc_fin hD s.e I) (s.back hD)
theorem xn_lcR2 {tr : TA} {j : Nat} {vs : List Nat} {tt : TT} {lo hi : Int} (h : XA K B ρ tr (· = [.int lo, .int hi])) (hb : -(2 ^ 62) ≤ lo ∧ lo < 2 ^ 62 ∧ -(2 ^ 62) ≤ hi ∧ hi < 2 ^ 62) (hj : j ∈ vs) (hv : freeB ρ vs = true) (Ac : Nat → List PyData → Prop) (h0 : Ac 0 [])
    (hz : ∀ (i : Nat) es, lo + (i : Int) < hi → Ac i es → es.length < 16000000)
    (hs : ∀ (i : Nat) es, lo + (i : Int) < hi → Ac i es → ∃ Pb : Bool → Prop, XT K B ((wipeR ρ vs).set j (.d (.int (lo + i)))) tt Pb ∧ (Pb true → XE K B ((wipeR ρ vs).set j (.d (.int (lo + i)))) te (fun y => Ac (i + 1) (es ++ [y]))) ∧ (Pb false → Ac (i + 1) es)) :
    XN K B ρ (tLc (iRng2 tr) (gName j) tt te vs) (Ac (hi - lo).toNat) := fun σ G H e Q q => h σ G H e _ fun us ds G1 H1 s p rd => by
  subst p
  cases rd with
  | cons r1 r2 =>
    cases r2 with
    | cons r2 r3 =>
      cases r3
      cases r1
      cases r2
      refine ⟨lo, hi, rfl, hb, fun Dl hD => ?_⟩
      refine lc_range (lo := lo) (fun i H' => ∃ G' acc es, LcI K B σ ρ G1 H1 Dl (Ac i) H' G' acc es) ⟨_, _, _, lc_ini hD s.e h0⟩ ?_ ?_
      · rintro i H' hx ⟨G', acc, es, I⟩
        have hlt : lo + (i : Int) < hi := by omega
        obtain ⟨Pb, t1, t2, t3⟩ := hs i es hlt I.a
        exact ⟨wipe_again hj, lc_turn hD s.e I (.int _) hj hv (hz i es hlt I.a) t1 t2 t3 (wipe_again hj)⟩
      · rintro H' ⟨G', acc, es, I⟩
        exact q Dl es G' H' (s.trans I.s) I.a (lc_fin hD s.e I) (s.back hD)
end HL
end

section
set_option Elab.async false
set_option linter.all false
set_option maxRecDepth 100000
set_option maxHeartbeats 4000000
namespace HL
open PySem L2
variable {K : PySem.W.Frag} {B : Bs} {G H G2 H2 : Hp} {σ : St} {ρ : List Sl} {ta tb tc te : TE} {t u : TT} {P P1 P2 : PyData → Prop} {Pb Pb1 Pb2 : Bool → Prop}
variable {Dom : List PyData → Prop} {R : List PyData → PyData → Prop} {RN : List PyData → List PyData → Prop} {HP : List PyData → Prop}
/-! ### from a body's reading to its promise -/
theorem start_at {N : List Str} {vs : List V} {i : Nat} (h : vs.length ≤ N.length) : (L2.start N vs)[i]? = if i < vs.length then vs[i]?.map some else if i < N.length then some none else none := by
  unfold L2.start
  rw [List.getElem?_append, List.length_map, List.getElem?_map]
  by_cases z : i < vs.length
  · rw [if_pos z, if_pos z]
  · rw [if_neg z, if_neg z, List.getElem?_replicate]
    by_cases y : i < N.length
    · rw [if_pos (by omega), if_pos y]
    · rw [if_neg (by omega), if_neg y]
abbrev inis (ds : List PyData) (n : Nat) : List Sl := ds.map Sl.d ++ List.replicate n .un
theorem env_start {M : Addr → Prop} {N : List Str} {vs : List V} {ds : List PyData} (gh : Same G H) (r : DtAll K G vs ds) (h : vs.length ≤ N.length) : Env K ⟨G, H, M⟩ G H (L2.start N vs) (inis ds (N.length - ds.length)) := by
  have hl := DtAll.length r
  refine ⟨⟨gh, Same.refl _, fun _ _ _ e => e, fun _ _ e => e, fun _ _ e => .inl e⟩, by unfold L2.start; simp [hl], fun _ => [], ⟨fun i l q => ?_, fun _ _ => rfl, fun _ _ _ h => (by cases h), fun _ _ h => (by cases h)⟩⟩
  rw [List.getElem?_append, List.length_map] at q
  by_cases z : i < ds.length
  · rw [if_pos z, List.getElem?_map] at q
    cases e : ds[i]? with
    | none => rw [e] at q; cases q
    | some d =>
      rw [e] at q
      cases q
      obtain ⟨v, h1, h2⟩ := DtAll.get' r e
      refine ⟨rfl, v, ?_, h2⟩
      rw [start_at h, if_pos (by rw [hl]; exact z), h1]
      rfl
  · rw [if_neg z, List.getElem?_replicate] at q
    by_cases y : i - ds.length < N.length - ds.length
    · rw [if_pos y] at q; cases q; exact rfl
    · rw [if_neg y] at q; cases q
theorem env_startH {h : Addr} {N : List Str} {vs hv : List V} {ds hd : List PyData} (gh : Same G H) (g1 : G h = none) (h1 : H h = some (.lst hv)) (h2 : DtAll K G hv hd) (hp : HP hd) (r : DtAll K G vs ds) (hle : vs.length + 1 ≤ N.length) :
    Env K ⟨G, H, fun b => b = h⟩ G H (L2.start N (.ref h :: vs)) (.hid h HP :: inis ds (N.length - 1 - ds.length)) := by
  have hl := DtAll.length r
  refine ⟨⟨gh, Same.refl _, fun _ _ _ e => e, fun _ _ e => e, fun _ _ e => .inl e⟩, by unfold L2.start; simp [hl]; omega, fun i => if i = 0 then [h] else [], fun i l q => ?_, fun i q => ?_, fun i j p a b => ?_, fun i p a => ?_⟩
  · cases i with
    | zero =>
      cases q
      exact ⟨hv, hd, rfl, rfl, h1, h2, hp⟩
    | succ i =>
      have q' : (inis ds (N.length - 1 - ds.length))[i]? = some l := q
      rw [List.getElem?_append, List.length_map] at q'
      rw [if_neg (by omega)]
      by_cases z : i < ds.length
      · rw [if_pos z, List.getElem?_map] at q'
        cases e : ds[i]? with
        | none => rw [e] at q'; cases q'
        | some d =>
          rw [e] at q'
          cases q'
          obtain ⟨v, h1, h2⟩ := DtAll.get' r e
          refine ⟨rfl, v, ?_, h2⟩
          rw [start_at (by simpa using hle), if_pos (by simp; omega)]
          show (vs[i]?).map some = _
          rw [h1]
          rfl
      · rw [if_neg z, List.getElem?_replicate] at q'
        by_cases y : i - ds.length < N.length - 1 - ds.length
        · rw [if_pos y] at q'; cases q'; exact rfl
        · rw [if_neg y] at q'; cases q'
  · cases i with
    | zero => cases q
    | succ i => rw [if_neg (by omega)]
  · by_cases z : i = 0
    · by_cases y : j = 0
      · rw [z, y]
      · rw [if_neg y] at b; cases b
    · rw [if_neg z] at a; cases a
  · by_cases z : i = 0
    · rw [if_pos z] at a
      obtain rfl : p = h := by simpa using a
      exact ⟨g1, .inr rfl, by rw [h1]; exact fun z => nomatch z⟩
    · rw [if_neg z] at a; cases a
variable {N : List Str} {ts : TS} {vs : List V} {Q : VK} {E : XK}
theorem body_P (h : spP K Dom R vs H Q E) (hn : vs.length ≤ N.length) (hs : ∀ B ds, (∀ p, ¬ B.M p) → Dom ds → HS K B ts (inis ds (N.length - ds.length)) (fun _ => R ds .none) (fun r _ => ∃ d, r = .d d ∧ R ds d) nev nev) :
    ts { nx := fun _ H' => Q .non H', rt := Q } (L2.start N vs) H := by
  obtain ⟨G, ds, gh, r, dm, q⟩ := h
  have key : ∀ {v d σ' G' H' ρ'}, R ds d → Env K ⟨G, H, fun _ => False⟩ G' H' σ' ρ' → Dt K G' v d → Q v H' := fun {v d σ' G' H' ρ'} hr e rd =>
    q d hr v G' H' e.f.g0 e.f.gh (fun b o z => e.f.fr b o (fun y => y) z) e.f.nw rd
  refine hs ⟨G, H, fun _ => False⟩ ds (fun _ z => z) dm _ _ G H (env_start gh r hn) (fun σ' G' H' ρ' _ hr e => key hr e .non) (fun v r σ' G' H' ρ' ⟨d, hd, hr⟩ e ro => ?_) (fun _ _ _ _ _ z => z.elim) (fun _ _ _ _ _ z => z.elim)
  subst hd
  exact key hr e ro
theorem body_N (h : spN K Dom RN vs H Q E) (hn : vs.length ≤ N.length) (hs : ∀ B ds, (∀ p, ¬ B.M p) → Dom ds → HS K B ts (inis ds (N.length - ds.length)) nev (fun r _ => ∃ es, r = .own es ∧ RN ds es) nev nev) :
    ts { nx := fun _ H' => Q .non H', rt := Q } (L2.start N vs) H := by
  obtain ⟨G, ds, gh, r, dm, q⟩ := h
  refine hs ⟨G, H, fun _ => False⟩ ds (fun _ z => z) dm _ _ G H (env_start gh r hn) (fun _ _ _ _ _ z => z.elim) (fun v r σ' G' H' ρ' ⟨es, hd, hr⟩ e ro => ?_) (fun _ _ _ _ _ z => z.elim) (fun _ _ _ _ _ z => z.elim)
  subst hd
  obtain ⟨p, ws, rfl, b1, g1, h1, r1⟩ := ro
  exact q es hr p ws G' H' e.f.g0 e.f.gh (fun b o z => e.f.fr b o (fun y => y) z) e.f.nw b1 g1 h1 r1
theorem body_H (h : spH K HP Dom R vs H Q E) (hn : vs.length ≤ N.length) (hs : ∀ B p ds, Dom ds → HS K B ts (.hid p HP :: inis ds (N.length - 1 - ds.length)) (fun ρ' => R ds .none ∧ ρ'[0]? = some (.hid p HP)) (fun r ρ' => ∃ d, r = .d d ∧ R ds d ∧ ρ'[0]? = some (.hid p HP)) nev nev) :
    ts { nx := fun _ H' => Q .non H', rt := Q } (L2.start N vs) H := by
  obtain ⟨G, h, hv, hd, us, ds, rfl, gh, g1, h1, h2, hp, r, dm, q⟩ := h
  have key : ∀ {v d σ' G' H' ρ'}, R ds d → ρ'[0]? = some (.hid h HP) → Env K ⟨G, H, fun b => b = h⟩ G' H' σ' ρ' → Dt K G' v d → Q v H' := fun {v d σ' G' H' ρ'} hr h0 e rd => by
    obtain ⟨vs', ds', _, e2, e3, e4, _⟩ := e.at_hid h0
    exact q d hr v G' H' vs' ds' e.f.g0 e.f.gh (fun b o z => e.f.fr b o z) e.f.nw e2 e3 e4 rd
  refine hs ⟨G, H, fun b => b = h⟩ h ds dm _ _ G H (env_startH gh g1 h1 h2 hp r hn) (fun σ' G' H' ρ' _ ⟨hr, h0⟩ e => key hr h0 e .non) (fun v r σ' G' H' ρ' ⟨d, hd, hr, h0⟩ e ro => ?_) (fun _ _ _ _ _ z => z.elim) (fun _ _ _ _ _ z => z.elim)
  subst hd
  exact key hr h0 e ro
theorem body_HN (h : spHN K HP Dom RN vs H Q E) (hn : vs.length ≤ N.length) (hs : ∀ B p ds, Dom ds → HS K B ts (.hid p HP :: inis ds (N.length - 1 - ds.length)) nev (fun r ρ' => ∃ es, r = .own es ∧ RN ds es ∧ ρ'[0]? = some (.hid p HP)) nev nev) :
    ts { nx := fun _ H' => Q .non H', rt := Q } (L2.start N vs) H := by
  obtain ⟨G, h, hv, hd, us, ds, rfl, gh, g1, h1, h2, hp, r, dm, q⟩ := h
  refine hs ⟨G, H, fun b => b = h⟩ h ds dm _ _ G H (env_startH gh g1 h1 h2 hp r hn) (fun _ _ _ _ _ z => z.elim) (fun v r σ' G' H' ρ' ⟨es, hd, hr, h0⟩ e ro => ?_) (fun _ _ _ _ _ z => z.elim) (fun _ _ _ _ _ z => z.elim)
  subst hd
  obtain ⟨p, ws, rfl, b1, g2, h3, r1⟩ := ro
  obtain ⟨vs', ds', _, e2, e3, e4, _⟩ := e.at_hid h0
  exact q es hr p ws G' H' vs' ds' e.f.g0 e.f.gh (fun b o z => e.f.fr b o z) e.f.nw e2 e3 e4 b1 g2 h3 r1
/-- lengths of promises' arguments -/
theorem len_P {n : Nat} (hd : ∀ ds, Dom ds → ds.length = n) (h : spP K Dom R vs H Q E) : vs.length = n := by
  obtain ⟨G, ds, _, r, dm, _⟩ := h
  rw [DtAll.length r]; exact hd ds dm
theorem len_N {n : Nat} (hd : ∀ ds, Dom ds → ds.length = n) (h : spN K Dom RN vs H Q E) : vs.length = n := by
  obtain ⟨G, ds, _, r, dm, _⟩ := h
  rw [DtAll.length r]; exact hd ds dm
theorem len_H {n : Nat} (hd : ∀ ds, Dom ds → ds.length + 1 = n) (h : spH K HP Dom R vs H Q E) : vs.length = n := by
  obtain ⟨G, h, hv, hd', us, ds, rfl, gh, g1, h1, h2, hp, r, dm, q⟩ := h
  rw [List.length_cons, DtAll.length r]; exact hd ds dm
theorem len_HN {n : Nat} (hd : ∀ ds, Dom ds → ds.length + 1 = n) (h : spHN K HP Dom RN vs H Q E) : vs.length = n := by
  obtain ⟨G, h, hv, hd', us, ds, rfl, gh, g1, h1, h2, hp, r, dm, q⟩ := h
  rw [List.length_cons, DtAll.length r]; exact hd ds dm

/-! ### built-ins on data -/
theorem dta1 {vs : List V} {d : PyData} (h : DtAll K G vs [d]) : ∃ v, vs = [v] ∧ Dt K G v d := by
  cases h with
  | cons a b => cases b; exact ⟨_, rfl, a⟩
theorem dta2 {vs : List V} {d e : PyData} (h : DtAll K G vs [d, e]) : ∃ v u, vs = [v, u] ∧ Dt K G v d ∧ Dt K G u e := by
  cases h with
  | cons a b =>
    obtain ⟨u, rfl, r⟩ := dta1 b
    exact ⟨_, _, rfl, a, r⟩
theorem dt_lst {v : V} {ds : List PyData} (h : Dt K G v (.list ds)) : ∃ a xs, v = .ref a ∧ SqL K G a xs ∧ DtAll K G xs ds := by cases h with | lst a b => exact ⟨_, _, rfl, a, b⟩
theorem dt_tup {v : V} {ds : List PyData} (h : Dt K G v (.tuple ds)) : ∃ a xs, v = .ref a ∧ SqT K G a xs ∧ DtAll K G xs ds := by cases h with | tup a b => exact ⟨_, _, rfl, a, b⟩
/-- xs[i] of data -/
theorem rv_ixL {ds : List PyData} {i : Int} {j : Nat} {d : PyData} (hj : ixN ds.length i = some j) (hd : ds[j]? = some d) : RvD K (rIxL K) (.list ds) (.int i) (· = d) := fun x y G H gh hx hy Q q => by
  obtain ⟨a, xs, rfl, h1, h2⟩ := dt_lst hx
  obtain ⟨v, h3, h4⟩ := DtAll.get' h2 hd
  refine ⟨a, xs, i, v, rfl, dt_int hy, sqL_mono gh h1, ?_, q v d rfl h4⟩
  unfold atI
  rw [DtAll.length h2, hj]
  exact h3
theorem rv_ixT {ds : List PyData} {i : Int} {j : Nat} {d : PyData} (hj : ixN ds.length i = some j) (hd : ds[j]? = some d) : RvD K (rIxT K) (.tuple ds) (.int i) (· = d) := fun x y G H gh hx hy Q q => by
  obtain ⟨a, xs, rfl, h1, h2⟩ := dt_tup hx
  obtain ⟨v, h3, h4⟩ := DtAll.get' h2 hd
  refine ⟨a, xs, i, v, rfl, dt_int hy, sqT_mono gh h1, ?_, q v d rfl h4⟩
  unfold atI
  rw [DtAll.length h2, hj]
  exact h3
theorem ixN_pos {n j : Nat} (h : j < n) : ixN n (j : Int) = some j := by
  unfold ixN
  rw [if_pos (by omega), if_pos (by omega)]
  simp
theorem ixN_neg {n j : Nat} {i : Int} (h : i < 0) (h2 : i + n = j) (h3 : 0 ≤ i + n) : ixN n i = some j := by
  unfold ixN
  rw [if_neg (by omega), if_pos (by omega), h2]
  simp
end HL
end

section
set_option Elab.async false
set_option linter.all false
set_option maxRecDepth 100000
set_option maxHeartbeats 4000000
namespace HL
open PySem L2
section
variable {X : Cx}
/-- * of ints, one of them short, or of together less than 134 million bits; // by an int of less than 9000 bits -/
def CMulA (i j : Int) : Prop := CMul i j ∨ i.natAbs.log2 + j.natAbs.log2 < 134000000
def CDivA (_ j : Int) : Prop := j ≠ 0 ∧ j.natAbs.log2 < 9000
theorem CMulA.ok {i j : Int} (h : CMulA i j) : IntMulOk i j := by
  rcases h with h | h
  · exact h.ok
  have b : ∀ x : Int, Builtin.Int.intBits x ≤ x.natAbs.log2 + 1 := fun x => by
    unfold Builtin.Int.intBits
    split <;> omega
  have h1 := b i
  have h2 := b j
  intro z
  have z2 := of_decide_eq_true (show decide _ = true from (Bool.and_eq_true_iff.mp z).2)
  have e : bitsLine = 134217728 := by decide
  omega
theorem op_mulA : OpR X (binaryOp .Mult) (rI CMulA fun i j => .int (i * j)) := opI fun _ _ _ _ _ _ _ hc q => PyProof.Rows.mul_int q hc.ok
theorem op_fdivA : OpR X (binaryOp .FloorDiv) (rI CDivA fun i j => .int (i.fdiv j)) := opI fun _ _ _ _ _ _ _ hc q => PyProof.Rows.floordiv_int hc.1 q (.inl (PyProof.noPylong_of_log2 hc.2))
end
variable {K : PySem.W.Frag} {B : Bs} {G H G2 H2 : Hp} {σ : St} {ρ : List Sl} {ta tb tc te : TE} {t u : TT} {P P1 P2 : PyData → Prop} {Pb Pb1 Pb2 : Bool → Prop} {x y : Int}
theorem xe_add (ha : XE K B ρ ta (· = .int x)) (hb : XE K B ρ tb (· = .int y)) : XE K B ρ (tOp (rI0 fun i j => .int (i + j)) ta tb) (· = .int (x + y)) := xe_op1 ha hb (rv_ii fun _ => .int _)
theorem xe_sub (ha : XE K B ρ ta (· = .int x)) (hb : XE K B ρ tb (· = .int y)) : XE K B ρ (tOp (rI0 fun i j => .int (i - j)) ta tb) (· = .int (x - y)) := xe_op1 ha hb (rv_ii fun _ => .int _)
theorem xe_mul (ha : XE K B ρ ta (· = .int x)) (hb : XE K B ρ tb (· = .int y)) (hc : CMulA x y) : XE K B ρ (tOp (rI CMulA fun i j => .int (i * j)) ta tb) (· = .int (x * y)) := xe_op1 ha hb (rv_iic hc fun _ => .int _)
theorem xe_fdiv (ha : XE K B ρ ta (· = .int x)) (hb : XE K B ρ tb (· = .int y)) (hc : CDivA x y) : XE K B ρ (tOp (rI CDivA fun i j => .int (i.fdiv j)) ta tb) (· = .int (x.fdiv y)) := xe_op1 ha hb (rv_iic hc fun _ => .int _)
theorem xe_mod (ha : XE K B ρ ta (· = .int x)) (hb : XE K B ρ tb (· = .int y)) (hc : y ≠ 0) : XE K B ρ (tOp (rI (fun _ j => j ≠ 0) fun i j => .int (i.fmod j)) ta tb) (· = .int (x.fmod y)) := xe_op1 ha hb (rv_iic hc fun _ => .int _)
theorem xe_pow (ha : XE K B ρ ta (· = .int x)) (hb : XE K B ρ tb (· = .int y)) (hc : CPow x y) : XE K B ρ (tOp (rI CPow fun i j => .int (i ^ j.toNat)) ta tb) (· = .int (x ^ y.toNat)) := xe_op1 ha hb (rv_iic hc fun _ => .int _)
theorem xe_lt (ha : XE K B ρ ta (· = .int x)) (hb : XE K B ρ tb (· = .int y)) : XE K B ρ (tOp (rI0 fun i j => .bl (decide (i < j))) ta tb) (· = .bool (decide (x < y))) := xe_op1 ha hb (rv_ii fun _ => .bl _)
theorem xe_le (ha : XE K B ρ ta (· = .int x)) (hb : XE K B ρ tb (· = .int y)) : XE K B ρ (tOp (rI0 fun i j => .bl (decide (i ≤ j))) ta tb) (· = .bool (decide (x ≤ y))) := xe_op1 ha hb (rv_ii fun _ => .bl _)
theorem xe_gt (ha : XE K B ρ ta (· = .int x)) (hb : XE K B ρ tb (· = .int y)) : XE K B ρ (tOp (rI0 fun i j => .bl (decide (j < i))) ta tb) (· = .bool (decide (y < x))) := xe_op1 ha hb (rv_ii fun _ => .bl _)
theorem xe_ge (ha : XE K B ρ ta (· = .int x)) (hb : XE K B ρ tb (· = .int y)) : XE K B ρ (tOp (rI0 fun i j => .bl (decide (j ≤ i))) ta tb) (· = .bool (decide (y ≤ x))) := xe_op1 ha hb (rv_ii fun _ => .bl _)
theorem dec_int' {i j : Int} : decide (V.int i = V.int j) = decide (i = j) := by
  by_cases h : i = j
  · rw [h]; simp
  · rw [decide_eq_false h, decide_eq_false fun z => h (V.int.inj z)]
theorem dec_str' {i j : Str} : decide (V.str i = V.str j) = decide (i = j) := by
  by_cases h : i = j
  · rw [h]; simp
  · rw [decide_eq_false h, decide_eq_false fun z => h (V.str.inj z)]
theorem dec_bl' {i j : Bool} : decide (V.bl i = V.bl j) = decide (i = j) := by
  by_cases h : i = j
  · rw [h]; simp
  · rw [decide_eq_false h, decide_eq_false fun z => h (V.bl.inj z)]
theorem xe_eq (ha : XE K B ρ ta (· = .int x)) (hb : XE K B ρ tb (· = .int y)) : XE K B ρ (tOp rEq ta tb) (· = .bool (decide (x = y))) := xe_op1 ha hb fun v u G H _ hx hy Q q => by
  obtain rfl := dt_int hx
  obtain rfl := dt_int hy
  refine ⟨rfl, ?_⟩
  rw [dec_int']
  exact q _ _ rfl (.bl _)
theorem xe_ne (ha : XE K B ρ ta (· = .int x)) (hb : XE K B ρ tb (· = .int y)) : XE K B ρ (tOp rNe ta tb) (· = .bool (!decide (x = y))) := xe_op1 ha hb fun v u G H _ hx hy Q q => by
  obtain rfl := dt_int hx
  obtain rfl := dt_int hy
  refine ⟨rfl, ?_⟩
  rw [dec_int']
  exact q _ _ rfl (.bl _)
theorem xe_eqS {x y : Str} (ha : XE K B ρ ta (· = .str x)) (hb : XE K B ρ tb (· = .str y)) : XE K B ρ (tOp rEq ta tb) (· = .bool (decide (x = y))) := xe_op1 ha hb fun v u G H _ hx hy Q q => by
  obtain rfl := dt_str hx
  obtain rfl := dt_str hy
  refine ⟨rfl, ?_⟩
  rw [dec_str']
  exact q _ _ rfl (.bl _)
theorem xe_neS {x y : Str} (ha : XE K B ρ ta (· = .str x)) (hb : XE K B ρ tb (· = .str y)) : XE K B ρ (tOp rNe ta tb) (· = .bool (!decide (x = y))) := xe_op1 ha hb fun v u G H _ hx hy Q q => by
  obtain rfl := dt_str hx
  obtain rfl := dt_str hy
  refine ⟨rfl, ?_⟩
  rw [dec_str']
  exact q _ _ rfl (.bl _)
theorem xe_neg (ha : XE K B ρ ta (· = .int x)) : XE K B ρ (tUn (rU fun i => .int (-i)) ta) (· = .int (-x)) := xe_un ha fun d1 p v G H _ hv Q q => by
  subst p
  exact ⟨x, dt_int hv, q _ _ rfl (.int _)⟩
theorem xe_abs (ha : XE K B ρ ta (· = .int x)) : XE K B ρ (tCB (fun xs H Q => ∃ i, xs = [.int i] ∧ Q (.int (if i < 0 then -i else i)) H) (tCons ta tNil)) (· = .int (x.natAbs)) := xe_CB (xa_cons1 ha xa_nil) fun ds p vs G H _ r Q q => by
  subst p
  obtain ⟨v, rfl, h⟩ := dta1 r
  refine ⟨x, by rw [dt_int h], ?_⟩
  have e : (if x < 0 then -x else x) = (x.natAbs : Int) := by split <;> omega
  rw [e]
  exact q _ _ rfl (.int _)
theorem xe_toInt (ha : XE K B ρ ta (· = .int x)) : XE K B ρ (tCB (fun xs H Q => (∃ i, xs = [.int i] ∧ Q (.int i) H) ∨ ∃ k, xs = [.bl k] ∧ Q (.int (if k then 1 else 0)) H) (tCons ta tNil)) (· = .int x) := xe_CB (xa_cons1 ha xa_nil) fun ds p vs G H _ r Q q => by
  subst p
  obtain ⟨v, rfl, h⟩ := dta1 r
  exact .inl ⟨x, by rw [dt_int h], q _ _ rfl (.int _)⟩
abbrev rLen (K : PySem.W.Frag) : List V → Hp → VK → Prop := fun xs H Q => ∃ p ys, xs = [.ref p] ∧ (SqL K H p ys ∨ SqT K H p ys) ∧ Q (.int ys.length) H
theorem xe_lenL {ds : List PyData} (ha : XE K B ρ ta (· = .list ds)) : XE K B ρ (tCB (rLen K) (tCons ta tNil)) (· = .int ds.length) := xe_CB (xa_cons1 ha xa_nil) fun es p vs G H gh r Q q => by
  subst p
  obtain ⟨v, rfl, h⟩ := dta1 r
  obtain ⟨a, xs, rfl, h1, h2⟩ := dt_lst h
  refine ⟨a, xs, rfl, .inl (sqL_mono gh h1), ?_⟩
  rw [DtAll.length h2]
  exact q _ _ rfl (.int _)
theorem xe_lenT {ds : List PyData} (ha : XE K B ρ ta (· = .tuple ds)) : XE K B ρ (tCB (rLen K) (tCons ta tNil)) (· = .int ds.length) := xe_CB (xa_cons1 ha xa_nil) fun es p vs G H gh r Q q => by
  subst p
  obtain ⟨v, rfl, h⟩ := dta1 r
  obtain ⟨a, xs, rfl, h1, h2⟩ := dt_tup h
  refine ⟨a, xs, rfl, .inr (sqT_mono gh h1), ?_⟩
  rw [DtAll.length h2]
  exact q _ _ rfl (.int _)
theorem xe_lenO {i : Nat} {ds : List PyData} (h : ρ[i]? = some (.own ds)) : XE K B ρ (tCB (rLen K) (tCons (tVar i) tNil)) (· = .int ds.length) := fun σ G H e Q q => by
  obtain ⟨p, vs, e1, e2, e3, _⟩ := e.at_own h
  refine ⟨_, e1, p, vs, rfl, .inl (SqL.of e2), ?_⟩
  rw [DtAll.length e3]
  exact q _ _ G H (Stp.refl e) rfl (.int _)
theorem xe_ixL {ds : List PyData} {j : Nat} {d : PyData} (ha : XE K B ρ ta (· = .list ds)) (hb : XE K B ρ tb (· = .int x)) (hj : ixN ds.length x = some j) (hd : ds[j]? = some d) : XE K B ρ (tOp (rIxL K) ta tb) (· = d) := xe_op1 ha hb (rv_ixL hj hd)
theorem xe_ixT {ds : List PyData} {j : Nat} {d : PyData} (ha : XE K B ρ ta (· = .tuple ds)) (hb : XE K B ρ tb (· = .int x)) (hj : ixN ds.length x = some j) (hd : ds[j]? = some d) : XE K B ρ (tOp (rIxT K) ta tb) (· = d) := xe_op1 ha hb (rv_ixT hj hd)
/-- an item of an own list -/
theorem xe_ixO {i : Nat} {ds : List PyData} {j : Nat} {d : PyData} (h : ρ[i]? = some (.own ds)) (hb : XE K B ρ tb (· = .int x)) (hj : ixN ds.length x = some j) (hd : ds[j]? = some d) : XE K B ρ (tOp (rIxL K) (tVar i) tb) (· = d) := fun σ G H e Q q => by
  obtain ⟨p0, _, e1, _⟩ := e.at_own h
  refine ⟨_, e1, hb σ G H e _ fun v d' G2 H2 s p r => ?_⟩
  subst p
  obtain ⟨p, vs, e1', e2, e3, _⟩ := s.e.at_own h
  rw [e1] at e1'
  cases e1'
  obtain ⟨w, h3, h4⟩ := DtAll.get' e3 hd
  refine ⟨p0, vs, x, w, rfl, dt_int r, SqL.of e2, ?_, q w d G2 H2 s rfl h4⟩
  unfold atI
  rw [DtAll.length e3, hj]
  exact h3
/-- an item of a hidden list whose content is known -/
theorem xe_ixH {i : Nat} {p : Addr} {ds : List PyData} {j : Nat} {d : PyData} (h : ρ[i]? = some (.hid p (· = ds))) (hb : XE K B ρ tb (· = .int x)) (hj : ixN ds.length x = some j) (hd : ds[j]? = some d) : XE K B ρ (tOp (rIxL K) (tVar i) tb) (· = d) := fun σ G H e Q q => by
  obtain ⟨_, _, e1, _⟩ := e.at_hid h
  refine ⟨_, e1, hb σ G H e _ fun v d' G2 H2 s pp r => ?_⟩
  subst pp
  obtain ⟨vs, _, _, e2, e3, rfl, _⟩ := s.e.at_hid h
  obtain ⟨w, h3, h4⟩ := DtAll.get' e3 hd
  refine ⟨p, vs, x, w, rfl, dt_int r, SqL.of e2, ?_, q w d G2 H2 s rfl h4⟩
  unfold atI
  rw [DtAll.length e3, hj]
  exact h3
variable {N N1 Bk Ct : LP} {Rr : Rt → LP} {ts us : TS}
/-- own[j] = e -/
theorem hs_setO {i : Nat} {ds : List PyData} {j : Nat} (h : ρ[i]? = some (.own ds)) (he : XE K B ρ te P) (hb : XE K B ρ tb (· = .int x)) (hj : ixN ds.length x = some j) (f : ∀ d, P d → N (ρ.set i (.own (ds.set j d)))) : HS K B (tAsg te (gSub (tVar i) tb rSetL)) ρ N Rr Bk Ct := fun D σ G H e n _ _ _ =>
  he σ G H e _ fun v d G1 H1 s1 p1 r1 => by
    obtain ⟨p0, _, e1, _⟩ := s1.e.at_own h
    refine ⟨_, e1, hb σ G1 H1 s1.e _ fun v2 d2 G2 H2 s2 p2 r2 => ?_⟩
    subst p2
    obtain ⟨p, vs, e1', e2, e3, fin⟩ := s2.e.at_own h
    rw [e1] at e1'
    cases e1'
    refine ⟨p0, vs, x, j, rfl, dt_int r2, e2, by rw [DtAll.length e3]; exact hj, ?_⟩
    exact n σ G2 _ _ (s1.g.trans s2.g) (f d p1) (fin _ _ (DtAll.set (Dt.mono s2.g r1) j e3))
/-- a hidden list is changed -/
theorem Env.mutH {HP HP2 : List PyData → Prop} (e : Env K B G H σ ρ) {i : Nat} {p : Addr} (h : ρ[i]? = some (.hid p HP)) {vs' : List V} {ds' : List PyData} (r : DtAll K G vs' ds') (hp : HP2 ds') : Env K B G (upd H p (.lst vs')) σ (ρ.set i (.hid p HP2)) := by
  obtain ⟨fp, s⟩ := e.s
  obtain ⟨vs, ds, e1, e2, e3, e4, e5⟩ := s.ok i _ h
  have hp' : p ∈ fp i := by rw [e2]; simp
  obtain ⟨g1, g2, g3⟩ := s.ow i p hp'
  have hi : i < ρ.length := (List.getElem?_eq_some_iff.mp h).1
  refine ⟨⟨fun b u q => ?_, e.f.g0, fun b u m q => ?_, fun b m q => ?_, e.f.nw⟩, by rw [List.length_set]; exact e.len, fp, fun j l q => ?_, fun j q => ?_, s.dj, fun j q hq => ?_⟩
  · rw [upd_ne (ne_of_none q g1)]; exact e.f.gh b u q
  · have hb : b ≠ p := by
      rintro rfl
      rcases g2 with z | z
      · rw [z] at q; cases q
      · exact m z
    rw [upd_ne hb]; exact e.f.fr b u m q
  · by_cases hb : b = p
    · rw [hb, upd_same]; exact fun z => nomatch z
    · rw [upd_ne hb]; exact e.f.md b m q
  · rw [set_get] at q
    by_cases hj : i = j
    · subst hj
      rw [if_pos rfl, if_pos hi] at q
      cases q
      exact ⟨vs', ds', e1, e2, upd_same, r, hp⟩
    · rw [if_neg hj] at q
      refine (s.ok j l q).step (Same.refl G) fun r hr o z => ?_
      have : r ≠ p := by rintro rfl; exact hj (s.dj i j r hp' hr)
      rw [upd_ne this]; exact z
  · rw [set_get] at q
    by_cases hj : i = j
    · subst hj; rw [if_pos rfl, if_pos hi] at q; cases q
    · rw [if_neg hj] at q; exact s.out j q
  · obtain ⟨b1, b2, b3⟩ := s.ow j q hq
    refine ⟨b1, b2, ?_⟩
    by_cases hb : q = p
    · rw [hb, upd_same]; exact fun z => nomatch z
    · rw [upd_ne hb]; exact b3
/-- what is told of a hidden list may be told otherwise -/
theorem Env.rehid {HP HP2 : List PyData → Prop} (e : Env K B G H σ ρ) {i : Nat} {p : Addr} (h : ρ[i]? = some (.hid p HP)) : ∃ ds, HP ds ∧ (HP2 ds → Env K B G H σ (ρ.set i (.hid p HP2))) := by
  obtain ⟨vs, ds, e1, e2, e3, e4, e5, _⟩ := e.at_hid h
  refine ⟨ds, e4, fun hp => ?_⟩
  have z := e.mutH (HP2 := HP2) h e3 hp
  have eu : upd H p (.lst vs) = H := by
    funext b
    by_cases hb : b = p
    · rw [hb, upd_same, e2]
    · rw [upd_ne hb]
  rw [eu] at z
  exact z
theorem hs_open {i : Nat} {p : Addr} {HP : List PyData → Prop} (h : ρ[i]? = some (.hid p HP)) (k : ∀ ds, HP ds → HS K B ts (ρ.set i (.hid p (· = ds))) N Rr Bk Ct) : HS K B ts ρ N Rr Bk Ct := fun D σ G H e n r b c => by
  obtain ⟨vs, ds, _, _, _, hp, _⟩ := e.at_hid h
  obtain ⟨ds, hp, z⟩ := e.rehid (HP2 := (· = ds)) h
  obtain ⟨ds2, hp2, z2⟩ := e.rehid (HP2 := (· = ds)) h
  have key : ∃ ds, HP ds ∧ Env K B G H σ (ρ.set i (.hid p (· = ds))) := by
    obtain ⟨vs, ds, e1, e2, e3, e4, e5, _⟩ := e.at_hid h
    refine ⟨ds, e4, ?_⟩
    have z := e.mutH (HP2 := (· = ds)) h e3 rfl
    have eu : upd H p (.lst vs) = H := by
      funext b
      by_cases hb : b = p
      · rw [hb, upd_same, e2]
      · rw [upd_ne hb]
    rw [eu] at z
    exact z
  obtain ⟨ds, hp, z⟩ := key
  exact k ds hp D σ G H z n r b c
theorem hs_close {i : Nat} {p : Addr} {ds : List PyData} {HP : List PyData → Prop} (h : ρ[i]? = some (.hid p (· = ds))) (hp : HP ds) (k : HS K B ts (ρ.set i (.hid p HP)) N Rr Bk Ct) : HS K B ts ρ N Rr Bk Ct := fun D σ G H e n r b c => by
  obtain ⟨ds', e1, z⟩ := e.rehid (HP2 := HP) h
  exact k D σ G H (z (by rw [e1]; exact hp)) n r b c
/-- hid[j] = e -/
theorem hs_setHid {i : Nat} {p : Addr} {ds : List PyData} {j : Nat} (h : ρ[i]? = some (.hid p (· = ds))) (he : XE K B ρ te P) (hb : XE K B ρ tb (· = .int x)) (hj : ixN ds.length x = some j) (f : ∀ d, P d → N (ρ.set i (.hid p (· = ds.set j d)))) : HS K B (tAsg te (gSub (tVar i) tb rSetL)) ρ N Rr Bk Ct := fun D σ G H e n _ _ _ =>
  he σ G H e _ fun v d G1 H1 s1 p1 r1 => by
    obtain ⟨_, _, e1, _⟩ := s1.e.at_hid h
    refine ⟨_, e1, hb σ G1 H1 s1.e _ fun v2 d2 G2 H2 s2 p2 r2 => ?_⟩
    subst p2
    obtain ⟨vs, _, _, e2, e3, rfl, _⟩ := s2.e.at_hid h
    refine ⟨p, vs, x, j, rfl, dt_int r2, e2, by rw [DtAll.length e3]; exact hj, ?_⟩
    exact n σ G2 _ _ (s1.g.trans s2.g) (f d p1) (s2.e.mutH h (DtAll.set (Dt.mono s2.g r1) j e3) rfl)
/-- own.append(e) -/
theorem hs_app {i : Nat} {ds : List PyData} (h : ρ[i]? = some (.own ds)) (he : XE K B ρ te P) (hz : ds.length < 16000000) (f : ∀ d, P d → N (ρ.set i (.own (ds ++ [d])))) : HS K B (tDrop (tBM K "list" rAppend (tVar i) (tCons te tNil))) ρ N Rr Bk Ct := fun D σ G H e n _ _ _ => by
  obtain ⟨p0, vs0, e1, e20, _⟩ := e.at_own h
  refine ⟨_, e1, .inl ⟨rfl, vs0, SqL.of e20⟩, he σ G H e _ fun v d G1 H1 s1 p1 r1 => ?_⟩
  obtain ⟨p, vs, e1', e2, e3, fin⟩ := s1.e.at_own h
  rw [e1] at e1'
  cases e1'
  refine ⟨p0, vs, v, rfl, rfl, e2, by rw [DtAll.length e3, sizeLine_eq]; omega, ?_⟩
  exact n σ G1 _ _ s1.g (f d p1) (fin _ _ (DtAll.append e3 (.cons r1 .nil)))
/-- slices of lists -/
def cutD (ds : List PyData) (lo hi : Option Int) : List PyData := (ds.drop (HT.sIx ds.length 0 lo)).take (HT.sIx ds.length ds.length hi - HT.sIx ds.length 0 lo)
theorem cut_dt {xs : List V} {ds : List PyData} {lo hi : Option Int} (r : DtAll K G xs ds) : DtAll K G (cutV xs lo hi) (cutD ds lo hi) := by
  unfold cutV cutD
  rw [DtAll.length r]
  exact DtAll.take _ (DtAll.drop _ r)
def XO (K : PySem.W.Frag) (B : Bs) (ρ : List Sl) (to : TO) (o : Option Int) : Prop := ∀ σ G H, Env K B G H σ ρ → ∀ Q : Option Int → Hp → Prop, (∀ G2 H2, Stp K B σ ρ G H G2 H2 → Q o H2) → to σ H Q
end HL
end

section
set_option Elab.async false
set_option linter.all false
set_option maxRecDepth 100000
set_option maxHeartbeats 4000000
/-! x != x of data of any kind: False, as the very thing is handed in on both sides. -/
namespace PySem
namespace ErrX
open PySem.W PySem.Calls PyProof.Rows
section
variable {prog : Program} {w : World} {K : Type} [DecidableEq K] {knd : HeapKind prog w K} {A : Around} {E : Value → Shared → Prop} {s : Shared}
/-- a dict with keys that are objects is looked through against itself -/
theorem self_pairs {nm : String} {a : Addr} {xs : List (K × Addr × Value)} {Q : Bool → Shared → Prop} (hu : knd.room A) (ha : (a == sysModules) = false) (da : s.heap.DictOfH knd a xs) (h : Q true s) :
    wpAny (model prog w) A (Builtin.Dict.samePairs nm a a) Q E s := by
  obtain ⟨o, es, ep, ho, _, hd, he, his, hn⟩ := da
  have hlen : es.size = xs.length := by rw [← Array.length_toList, he, List.length_map]
  unfold Builtin.Dict.samePairs Builtin.Dict.showsAll
  rw [if_neg (show ¬ (a == sysModules) = true by rw [ha]; exact Bool.false_ne_true)]
  refine wpAny_bind (wpAny_pure (wpAny_bind (wpAny_pure (wpAny_bind (wpAny_dictEntries ho hd ?_)))))
  dsimp only
  refine wpAny_bind (wpAny_dictEntries ho hd ?_)
  rw [if_neg (by simp)]
  refine wpAny_bind (wpAny_dictEpoch ho hd (wpAny_bind ?_))
  rw [Std.Legacy.Range.forIn_eq_forIn_range']
  simp only [Std.Legacy.Range.size, Nat.sub_zero, Nat.add_sub_cancel, Nat.div_one]
  refine wpAny_forIn_list _ (fun rest q s' => s' = s ∧ q = (none, ()) ∧ ∃ i, rest = List.range' i (es.size - i)) _ ?_ ?_ _ _ ⟨rfl, rfl, 0, by simp⟩
  · rintro x rest q s' ⟨rfl, rfl, i, hr⟩
    have hlt : i < es.size := by
      rcases Nat.lt_or_ge i es.size with z | z
      · exact z
      · rw [Nat.sub_eq_zero_of_le z] at hr; simp at hr
    have e1 : es.size - i = (es.size - (i + 1)) + 1 := by omega
    rw [e1, List.range'_succ] at hr
    obtain ⟨rfl, hrest⟩ := List.cons.inj hr
    obtain ⟨k, p, hx⟩ : ∃ k p, xs[x]? = some (k, p) := ⟨_, _, List.getElem?_eq_getElem (by rw [← hlen]; exact hlt)⟩
    have hex : es[x] = entryOfKey knd (k, p) := by
      have q : es.toList[x]? = some (entryOfKey knd (k, p)) := by rw [he, List.getElem?_map, hx]; rfl
      rw [Array.getElem?_toList, Array.getElem?_eq_getElem hlt] at q
      exact Option.some.inj q
    have hk : knd.is s'.heap k p.1 := his (k, p) (List.mem_of_getElem? hx)
    refine wpAny_bind (wpAny_dictEntries ho hd ?_)
    rw [Array.getElem?_eq_getElem hlt, hex]
    show wpAny _ _ (holding [Value.ref p.1, p.2] _ >>= _) _ _ _
    refine wpAny_bind (wpAny_holding (wpAny_bind (wpAny_dictFind_heap hu hk ho hd he his hn (fun z => (z x p hx).elim) fun j p' hj => ?_)))
    have ej : j = x := by
      have hjl : j < (xs.map (·.1)).length := by rw [List.length_map]; exact (List.getElem?_eq_some_iff.mp hj).1
      refine (List.getElem?_inj hjl hn).mp ?_
      rw [List.getElem?_map, List.getElem?_map, hj, hx]
      rfl
    subst ej
    refine wpAny_bind (wpAny_dictEntries ho hd ?_)
    rw [Array.getElem?_eq_getElem hlt, hex]
    refine wpAny_holding ((SeqAt.EqAt.same p.2) prog w _ _ ?_)
    show wpAny _ _ (if (!true) = true then _ else _) _ _ _
    rw [if_neg (by decide)]
    refine wpAny_bind (wpAny_dictEpoch ho hd ?_)
    rw [if_neg (by simp)]
    exact wpAny_pure ⟨rfl, rfl, _, hrest⟩
  · rintro q s' ⟨rfl, rfl, _⟩
    exact wpAny_pure h
theorem self_ne {a : Addr} {xs : List (K × Addr × Value)} {Q : Value → Shared → Prop} (hr : knd.room A.in1) (hu : A.units < cLine) (ha : (a == sysModules) = false) (da : s.heap.DictOfH knd a xs) (h : Q (.bool false) s) :
    wpAny (model prog w) A (compareOp .NotEq (.ref a) (.ref a)) Q E s := by
  refine wpAny_richCompare_same_room (op := .NotEq) da.typeIs da.typeIs PySem.F.slot_dict_ne (wpAny_call_entry PySem.F.slot_dict_ne da.typeIs PySem.F.entry_dict_ne ?_ (PySem.F.args_dict_ne_2 _ _)) hu
  show wpAny _ _ (Builtin.Dict.dictSlotArgs "__ne__" ⟨[.ref a, .ref a], []⟩ >>= _) _ _ s
  refine wpAny_bind ?_
  unfold Builtin.Dict.dictSlotArgs
  refine wpAny_bind (wpAny_notOrdered_dict da.typeIs ?_)
  show wpAny _ _ (pure (Value.ref a, Value.ref a)) _ _ s
  refine wpAny_pure (wpAny_bind (wpAny_isInstance (T := "dict") da.typeIs PySem.F.sub_dict_dict ?_))
  simp only [Bool.not_true, Bool.false_eq_true, if_false]
  refine wpAny_bind (wpAny_pure (wpAny_bind (wpAny_pure (wpAny_bind (self_pairs hr ha da ?_)))))
  exact wpAny_pure ⟨_, rfl, ⟨fun x => (nomatch x), h⟩⟩
end
end ErrX
end PySem
namespace L2
open PySem PySem.Spec PyProof.Rows PySem.ErrX
/-- x != x -/
def rNeSame (K : PySem.W.Frag) : R2 := fun x y H Q => ∃ d, x = y ∧ Dt K H x d ∧ Q (.bl false) H
theorem hits_self {prog : Program} {w : World} {A : Around} {s : Shared} {va : List (Key × Value)} (nd : (va.map (·.1)).Nodup) : ∀ l : List (Key × Value), (∀ p ∈ l, p ∈ va) → PySem.W.KeqHits (K := Key) A s va l true
  | [], _ => .nil
  | (k, v) :: l, h => by
    have hv : valueAt va k = some v := by
      have hm := h (k, v) List.mem_cons_self
      clear h
      induction va with
      | nil => cases hm
      | cons q r ih =>
        rw [List.map_cons, List.nodup_cons] at nd
        unfold valueAt
        rcases List.mem_cons.mp hm with e | e
        · rw [← e]; simp [List.find?_cons]
        · have hne : ¬ q.1 = k := fun z => nd.1 (List.mem_map.mpr ⟨(k, v), e, z.symm⟩)
          have := ih nd.2 e
          unfold valueAt at this
          rw [List.find?_cons]
          simpa [hne] using this
    have z := PySem.W.KeqHits.hit (A := A) (s := s) (kb := va) (k := k) (v := v) (y := v) (e := true) (b := true) hv (SeqAt.EqAt.same _) (hits_self (prog := prog) (w := w) nd l fun p hp => h p (List.mem_cons_of_mem _ hp))
    exact z
section
variable {X : Cx}
theorem op_neSame (hu : X.A.units + 64 < cLine) : OpR X (compareOp .NotEq) (rNeSame X.K) := by
  intro pins s σ H x y v u Q I rx ry h
  obtain ⟨d, rfl, hd, q⟩ := h
  have hu1 : X.A.units < cLine := by omega
  cases hd with
  | non => exact op_ne pins s σ H _ _ v u Q I rx ry ⟨rfl, by simpa using q⟩
  | bl b => exact op_ne pins s σ H _ _ v u Q I rx ry ⟨rfl, by simpa using q⟩
  | int i => exact op_ne pins s σ H _ _ v u Q I rx ry ⟨rfl, by simpa using q⟩
  | str x => exact op_ne pins s σ H _ _ v u Q I rx ry ⟨rfl, by simpa using q⟩
  | lst hq ha =>
    cases rx
    cases ry
    obtain ⟨its, rv, hl, _⟩ := I.list hq
    have all : (!(List.range its.toArray.size).all fun _ => true) = false := by simp
    refine SeqAt.RcNeAt.lists (e := fun _ => true) hl.isList hl.isList rfl hu1 (fun j _ _ => SeqAt.EqAt.same _) X.prog X.w _ _ ?_
    rw [all]
    exact ⟨.bl false, H, I, rfl, q⟩
  | tup hq ha =>
    cases rx
    cases ry
    obtain ⟨its, rv, hl, _⟩ := I.tuple hq
    have all : (!((List.range (min its.toArray.size its.toArray.size)).all (fun _ => true) && its.toArray.size == its.toArray.size)) = false := by simp
    refine SeqAt.RcNeAt.tuples (e := fun _ => true) hl hl hu1 (fun j _ _ => SeqAt.EqAt.same _) X.prog X.w _ _ ?_
    rw [all]
    exact ⟨.bl false, H, I, rfl, q⟩
  | dik ea ha =>
    cases rx
    cases ry
    obtain ⟨_, ya, va, ra, da⟩ := dk_of I.hok ea
    have nd : (va.map (·.1)).Nodup := by
      obtain ⟨_, _, _, _, _, _, _, _, n⟩ := da
      exact n
    refine PySem.W.keq_ne (knd := mixKind X.prog X.w) (r := true) ya ya da da hu1 (fun _ => hits_self (prog := X.prog) (w := X.w) nd va fun _ h => h) ?_
    simp only [beq_self_eq_true, Bool.true_and, Bool.not_true]
    exact ⟨.bl false, H, I, rfl, q⟩
  | dit ea ha =>
    cases rx
    cases ry
    obtain ⟨_, ya, xs, _, da⟩ := dt_of I.hok ea
    exact self_ne (tupleKind_room_in1 (by omega)) hu1 ya da ⟨.bl false, H, I, rfl, q⟩
end
end L2
end

section
set_option Elab.async false
set_option linter.all false
set_option maxRecDepth 100000
set_option maxHeartbeats 4000000
/-! try with several clauses, each with a name or without one (the steps are those of the hand layer's rules for one clause with a name and for several without). -/
namespace L2
open PySem PySem.Spec PyProof.Rows
abbrev Cl := Value × Option Nat × (Addr → Value → Option Addr → TS)
def offD (D : Ends) : Option Nat → Ends
  | none => D
  | some i => { nx := fun σ' H' => D.nx (σ'.set i none) H', rt := D.rt, bk := fun σ' H' => D.bk (σ'.set i none) H', ct := fun σ' H' => D.ct (σ'.set i none) H' }
def onS (σ : St) (a : Addr) : Option Nat → St
  | none => σ
  | some i => σ.set i (some (.ref a))
def wCl (K : PySem.W.Frag) (Wout : WX) (D : Ends) : List Cl → WX
  | [] => Wout
  | (c, i, ts) :: r => fun cls d σ H => ∃ b, PySem.W.exmOne K cls c = some b ∧ (b = true → ∀ a, H a = none → ts a cls d (offD D i) (onS σ a i) H) ∧ (b = false → wCl K Wout D r cls d σ H)
inductive ClsOk (X : Cx) : List ExceptHandler → List Cl → Prop
  | nil : ClsOk X [] []
  | bare {x : Str} {c : Value} {ts : Addr → Value → Option Addr → TS} {b₀ : Stmt} {suite : List Stmt} {np p : Pos} {hds : List ExceptHandler} {l : List Cl} (hc : Names X x c)
      (hsu : ∀ (a : Addr) (oe : Obj) (cls : Value) (d : Option Addr) (pn : List (Addr × Obj)), Zc cls d oe → (∃ vs, oe.data = .fields vs) → PSs (X.suite a ((a, oe) :: pn)) (b₀ :: suite) (ts a cls d)) (r : ClsOk X hds l) :
      ClsOk X (.ExceptHandler (some (.Name x np)) none (b₀ :: suite) p :: hds) ((c, none, ts) :: l)
  | named {x n : Str} {i : Nat} {c : Value} {ts : Addr → Value → Option Addr → TS} {b₀ : Stmt} {suite : List Stmt} {np p : Pos} {hds : List ExceptHandler} {l : List Cl} (hc : Names X x c) (hi : X.N[i]? = some n) (hln : X.env.kindOf n = some .local)
      (hsu : ∀ (a : Addr) (oe : Obj) (cls : Value) (d : Option Addr) (pn : List (Addr × Obj)), Zc cls d oe → (∃ vs, oe.data = .fields vs) → PSs (X.suite a ((a, oe) :: pn)) (b₀ :: suite) (ts a cls d)) (r : ClsOk X hds l) :
      ClsOk X (.ExceptHandler (some (.Name x np)) (some n) (b₀ :: suite) p :: hds) ((c, some i, ts) :: l)
section
variable {X : Cx} {pins : List (Addr × Obj)} {body : List Stmt} {h₀ : ExceptHandler} {hds : List ExceptHandler} {l : List Cl} {pos : Pos} {tb : WX → TS} {Wout : WX}
/-- an exception in the air, at the clauses of the try -/
structure Caught (X : Cx) (pins : List (Addr × Obj)) (B : Heap) (sI s' : Shared) (a : Addr) (cls : Value) (d : Option Addr) (σ : St) (H : Hp) (h3 : Heap) : Prop where
  J : Inv X pins σ H sI
  nb : ∀ b o, sI.heap.get? b = some o → b ∉ frs X.stack → B.get? b = some o
  fl : HandSPX.FlyingZ B (X.env :: X.outer) a (Zc cls d) h3
  up : sI.heap.UpToSlots h3
  na : H a = none
  os : s'.os = sI.os
  ag : AllBare s'.gens
theorem Caught.inSuite {B : Heap} {sI s' : Shared} {a : Addr} {cls : Value} {d : Option Addr} {σ : St} {H : Hp} {h3 : Heap} (hf : X.env.frame = some X.env.locals) (C : Caught X pins B sI s' a cls d σ H h3) :
    Inv X pins σ H { s' with heap := h3 } ∧ ∃ oe, h3.get? a = some oe ∧ Zc cls d oe ∧ (∃ vs, oe.data = .fields vs) ∧ Inv (X.suite a ((a, oe) :: (X.pn ++ pins))) [] σ H { s' with heap := h3 } := by
  have J3 : Inv X pins σ H { s' with heap := h3 } := C.J.landed C.nb C.fl.1 C.up C.os C.ag
  obtain ⟨oe, vs, he, hz, hd⟩ := C.fl.there
  have nfr : a ∉ frs (X.env :: X.outer) := fun hm => by
    obtain ⟨_, o', e', hnf⟩ := C.fl.2.2.1.mem hm
    rw [he] at e'
    cases e'
    exact hnf _ hd
  have nL : a ≠ X.env.locals := fun z => nfr (List.mem_filterMap.mpr ⟨X.env, List.mem_cons_self, by rw [hf, z]⟩)
  have nF : a ∉ X.fs := fun hm => by
    obtain ⟨e, he, q⟩ := List.mem_filterMap.mp hm
    exact nfr (List.mem_filterMap.mpr ⟨e, List.mem_cons_of_mem _ he, q⟩)
  exact ⟨J3, oe, he, hz, ⟨vs, hd⟩, J3.suite he hd C.na nL nF⟩
theorem clauses_run (hs : X.stack = X.env :: X.outer) (hf : X.env.frame = some X.env.locals) (hN : X.N.Nodup) (tk : Takes X Wout) (ok : X.Ok) {D : Ends} {B : Heap} {sI s' : Shared} {a : Addr} {cls : Value} {d : Option Addr} {σ : St} {H : Hp} {h3 : Heap}
    (C : Caught X pins B sI s' a cls d σ H h3) (hk : ClsOk X hds l) : wCl X.K Wout D l cls d σ H → wpAny (model X.prog X.w) X.A (handleBy (.ref a) X.env hds) (SP X pins D) X.xe { s' with heap := h3 } := by
  obtain ⟨J3, oe3, he3, hz3, _, S3⟩ := C.inSuite hf
  have test : ∀ {x : Str} {c : Value} {np : Pos} {Q : Value → Shared → Prop} {E : Value → Shared → Prop}, Names X x c → Q c { s' with heap := h3 } → wpAny (model X.prog X.w) (X.A.mark (some (.ref a))) (eval (.Name x np) X.env) Q E { s' with heap := h3 } := by
    rintro x c np Q E ⟨hg, hdb, hm | ⟨hm, hv, hnn⟩⟩ q
    · exact ld_glob (X := X.suite a ((a, oe3) :: (X.pn ++ pins))) S3 hg hm q hdb
    · exact ld_blt (X := X.suite a ((a, oe3) :: (X.pn ++ pins))) S3 hg hm hv q hnn hdb
  have match_ : ∀ {c : Value} {b : Bool}, PySem.W.exmOne X.K cls c = some b → _ := fun {c b} hb => PySem.W.exm_one (M := model X.prog X.w) J3.kIn (fun A Q E s k q => wpAny_typeOf_ref (k _ _ he3) (by rw [hz3.1]; exact q) : PySem.W.Looks (model X.prog X.w) h3 (typeOf (.ref a)) cls) hb
  induction hk with
  | nil =>
    intro w
    refine wpAny_handleBy_nil ?_
    obtain ⟨_, _, _, oe, vs, T, _, _, he, _, hd, h1, _⟩ := id C.fl
    unfold PySem.passOn
    refine wpAny_bind (wpAny_field he hd h1 ?_)
    rw [if_neg (show ¬ ((Value.ref T == Value.none) = true) from by simp)]
    have fin : wpAny (model X.prog X.w) X.A (setFlight (.ref a) X.env.frame) (fun _ s4 => wpAny (model X.prog X.w) X.A (throw (.ref a) : Sem Flow) (SP X pins D) X.xe s4) X.xe { s' with heap := h3 } := by
      rw [hf]
      exact HandSPX.setFlight_upZ C.fl fun h4 hh4 up4 => wpAny_throw (tk _ _ ⟨a, B, sI, pins, σ, H, cls, d, rfl, C.J, C.nb, C.up.trans up4, .inr (.inr (by rw [hs]; exact hh4)), C.na, C.os, C.ag, w⟩)
    first
      | exact wpAny_bind (wpAny_pure (wpAny_bind fin))
      | exact wpAny_bind fin
  | bare hc hsu r ih =>
    rintro ⟨b, hb, yes, no⟩
    refine wpAny_handleBy_cons (codeAny_handlers_test (test hc ((match_ hb).here ?_))) (by intro q; cases q)
    cases b with
    | false => exact ih (no rfl)
    | true =>
      refine codeAny_handlers_suite (HandSPX.lands_againZ C.fl fun h4 fl4 up4 => ?_)
      have C4 : Caught X pins B sI s' a cls d σ H h4 := ⟨C.J, C.nb, fl4, C.up.trans up4, C.na, C.os, C.ag⟩
      obtain ⟨_, oe4, _, hz4, hd4, S4⟩ := C4.inSuite hf
      refine wpAny_mono ((hsu a oe4 cls d (X.pn ++ pins) hz4 hd4).run [] _ _ H _ S4 (yes rfl a C.na)) ?_ fun _ _ z => z.elim
      rintro (_ | _ | _ | u) s6 hq
      all_goals first
        | (obtain ⟨v6, σ6, H6, S6, r6, q6⟩ := hq; exact ⟨_, _, _, S6.unsuite ok, r6, q6⟩)
        | (obtain ⟨σ6, H6, S6, q6⟩ := hq; exact ⟨_, _, S6.unsuite ok, q6⟩)
  | @named x n i c ts b₀ suite np p hds l hc hi hln hsu r ih =>
    rintro ⟨b, hb, yes, no⟩
    refine wpAny_handleBy_cons (codeAny_handlers_test (test hc ((match_ hb).here ?_))) (by intro q; cases q)
    cases b with
    | false => exact ih (no rfl)
    | true =>
      refine codeAny_handlers_suite_as (HandSPX.lands_againZ C.fl fun h4 fl4 up4 => ?_)
      have C4 : Caught X pins B sI s' a cls d σ H h4 := ⟨C.J, C.nb, fl4, C.up.trans up4, C.na, C.os, C.ag⟩
      obtain ⟨_, oe4, _, hz4, hd4, S4⟩ := C4.inSuite hf
      refine store_ok (X := X.suite a ((a, oe4) :: (X.pn ++ pins))) (v := .ref a) S4 hN hi (.inl hln) rfl (fun s5 S5 => ?_) (.inr hln)
      refine wpAny_mono ((hsu a oe4 cls d (X.pn ++ pins) hz4 hd4).run [] s5 _ H _ S5 (yes rfl a C.na)) ?_ fun _ _ z => z.elim
      rintro (_ | _ | _ | u) s6 hq
      all_goals first
        | (obtain ⟨v6, σ6, H6, S6, r6, q6⟩ := hq; exact gone_ok (S6.unsuite ok) hN hi hln fun s7 J7 => ⟨_, _, _, J7, r6, q6⟩)
        | (obtain ⟨σ6, H6, S6, q6⟩ := hq; exact gone_ok (S6.unsuite ok) hN hi hln fun s7 J7 => ⟨_, _, J7, q6⟩)
theorem ps_try_cls (hs : X.stack = X.env :: X.outer) (hf : X.env.frame = some X.env.locals) (hN : X.N.Nodup) (tk : Takes X Wout)
    (hb : ∀ (W : WX) (pn : List (Addr × Obj)) (xe : Value → Shared → Prop), Takes (X.tr pn xe) W → PassesOwn (model X.prog X.w) X.A X.env xe → PSs (X.tr pn xe) body (tb W)) (hh : ClsOk X (h₀ :: hds) l) :
    PS X (.Try body (h₀ :: hds) [] [] pos) (fun D σ H => tb (wCl X.K Wout D l) D σ H) := by
  refine ⟨fun pins s σ H D I h => ?_⟩
  have ok := I.ok
  refine wpAny_Try_except ?_
  refine wpAny_mono ((hb (wCl X.K Wout D l) (X.pn ++ pins) (fun e s₁ => wpAny (model X.prog X.w) X.A (noteFrame e X.env) (fun _ s₂ => wpAny (model X.prog X.w) X.A (setFlight e none) (fun _ s₃ =>
    wpAny (model X.prog X.w) X.A (handleBy e X.env (h₀ :: hds)) (SP X pins D) X.xe s₃) X.xe s₂) X.xe s₁) ?_ PassesOwn.looking).run [] s σ H D (I.toTry _) h) ?_ fun e s1 he => he
  · rintro u s' ⟨a, B, sI, pins', σ', H', cls, d, rfl, J', nb, up, sky, na, os, ag, w⟩
    refine Sky.land Zc.steady (by rw [ok.frames, hs]) hf (by rw [← hs]; exact sky) fun h3 fl3 up3 => ?_
    exact clauses_run hs hf hN tk ok ⟨J'.ofTry ok, nb, fl3, up.trans up3, na, os, ag⟩ hh w
  · rintro (_ | _ | _ | u) s1 hq
    all_goals first
      | (obtain ⟨v, σ', H', J', r, q⟩ := hq; exact ⟨v, σ', H', J'.ofTry ok, r, q⟩)
      | (obtain ⟨σ', H', J', q⟩ := hq; first | exact wpAny_execs_nil ⟨σ', H', J'.ofTry ok, q⟩ | exact ⟨σ', H', J'.ofTry ok, q⟩)
end
end L2
end

section
set_option Elab.async false
set_option linter.all false
set_option maxRecDepth 100000
set_option maxHeartbeats 4000000
/-! values of any kind in slots: told by a predicate of the value and of what is known -/
namespace HL
open PySem L2
variable {K : PySem.W.Frag} {B : Bs} {G H G2 H2 : Hp} {σ : St} {ρ : List Sl} {ta tb tc te : TE} {t u : TT}
abbrev VP := V → Hp → Prop
def Mono (P : VP) : Prop := ∀ v G G', Same G G' → P v G → P v G'
def XV (K : PySem.W.Frag) (B : Bs) (ρ : List Sl) (te : TE) (P : VP) : Prop := ∀ σ G H, Env K B G H σ ρ → ∀ Q : VK, (∀ v G2 H2, Stp K B σ ρ G H G2 H2 → P v G2 → Q v H2) → te σ H Q
def XVA (K : PySem.W.Frag) (B : Bs) (ρ : List Sl) (ta : TA) (P : List V → Hp → Prop) : Prop := ∀ σ G H, Env K B G H σ ρ → ∀ Q : List V → Hp → Prop, (∀ vs G2 H2, Stp K B σ ρ G H G2 H2 → P vs G2 → Q vs H2) → ta σ H Q
variable {P P1 P2 : VP}
theorem XV.imp (h : XV K B ρ te P) (f : ∀ v G, P v G → P1 v G) : XV K B ρ te P1 := fun σ G H e Q q => h σ G H e Q fun v G2 H2 s p => q v G2 H2 s (f v G2 p)
theorem XE.v {D : PyData → Prop} (h : XE K B ρ te D) : XV K B ρ te fun v G => ∃ d, D d ∧ Dt K G v d := fun σ G H e Q q => h σ G H e Q fun v d G2 H2 s p r => q v G2 H2 s ⟨d, p, r⟩
theorem XV.e {D : PyData → Prop} (h : XV K B ρ te P) (f : ∀ v G, P v G → ∃ d, D d ∧ Dt K G v d) : XE K B ρ te D := fun σ G H e Q q => h σ G H e Q fun v G2 H2 s p => by
  obtain ⟨d, h1, h2⟩ := f v G2 p
  exact q v d G2 H2 s h1 h2
theorem xv_raw {i : Nat} (h : ρ[i]? = some (.raw P)) : XV K B ρ (tVar i) P := fun σ G H e Q q => by
  obtain ⟨v, h1, _, h2⟩ := e.at_raw h
  exact ⟨v, h1, q v G H (Stp.refl e) h2⟩
theorem xv_C {v : V} : XV K B ρ (tC v) (fun x _ => x = v) := fun σ G H e Q q => q _ G H (Stp.refl e) rfl
theorem mono_d {d : PyData} : Mono (fun v G => Dt K G v d) := fun _ _ _ s h => Dt.mono s h
theorem mono_eq {v : V} : Mono (fun x _ => x = v) := fun _ _ _ _ h => h
theorem mono_and (h1 : Mono P1) (h2 : Mono P2) : Mono (fun v G => P1 v G ∧ P2 v G) := fun v G G' s h => ⟨h1 v G G' s h.1, h2 v G G' s h.2⟩
/-! ### lists of such values -/
def AllR {α : Type} (R : α → VP) (G : Hp) : List α → List V → Prop
  | [], [] => True
  | q :: qs, v :: vs => R q v G ∧ AllR R G qs vs
  | _, _ => False
section
variable {α : Type} {R : α → VP}
theorem AllR.length : ∀ {qs : List α} {vs : List V}, AllR R G qs vs → vs.length = qs.length
  | [], [], _ => rfl
  | [], _ :: _, h => h.elim
  | _ :: _, [], h => h.elim
  | _ :: qs, _ :: vs, h => by simp [AllR.length h.2]
theorem AllR.append : ∀ {qs ps : List α} {vs ws : List V}, AllR R G qs vs → AllR R G ps ws → AllR R G (qs ++ ps) (vs ++ ws)
  | [], _, [], _, _, h => h
  | [], _, _ :: _, _, h, _ => h.elim
  | _ :: _, _, [], _, h, _ => h.elim
  | _ :: _, _, _ :: _, _, h, h2 => ⟨h.1, AllR.append h.2 h2⟩
theorem AllR.mono (m : ∀ q, Mono (R q)) (s : Same G G2) : ∀ {qs : List α} {vs : List V}, AllR R G qs vs → AllR R G2 qs vs
  | [], [], _ => trivial
  | [], _ :: _, h => h.elim
  | _ :: _, [], h => h.elim
  | q :: _, v :: _, h => ⟨m q v G G2 s h.1, AllR.mono m s h.2⟩
theorem AllR.get : ∀ {qs : List α} {vs : List V} {i : Nat} {v : V}, AllR R G qs vs → vs[i]? = some v → ∃ q, qs[i]? = some q ∧ R q v G
  | [], [], _, _, _, e => by simp at e
  | [], _ :: _, _, _, h, _ => h.elim
  | _ :: _, [], _, _, h, _ => h.elim
  | q :: _, v :: _, 0, _, h, e => by simp at e; subst e; exact ⟨q, rfl, h.1⟩
  | _ :: qs, _ :: vs, i + 1, v, h, e => by
    obtain ⟨q, h1, h2⟩ := AllR.get (i := i) (v := v) h.2 (by simpa using e)
    exact ⟨q, by simpa using h1, h2⟩
theorem AllR.get' : ∀ {qs : List α} {vs : List V} {i : Nat} {q : α}, AllR R G qs vs → qs[i]? = some q → ∃ v, vs[i]? = some v ∧ R q v G
  | [], [], _, _, _, e => by simp at e
  | [], _ :: _, _, _, h, _ => h.elim
  | _ :: _, [], _, _, h, _ => h.elim
  | q :: _, v :: _, 0, _, h, e => by simp at e; subst e; exact ⟨v, rfl, h.1⟩
  | _ :: qs, _ :: vs, i + 1, q, h, e => by
    obtain ⟨v, h1, h2⟩ := AllR.get' (i := i) (q := q) h.2 (by simpa using e)
    exact ⟨v, by simpa using h1, h2⟩
/-- a list of such values, known -/
def RLs (R : α → VP) (qs : List α) : VP := fun v G => ∃ p xs, v = .ref p ∧ G p = some (.lst xs) ∧ AllR R G qs xs
theorem mono_rls (m : ∀ q, Mono (R q)) {qs : List α} : Mono (RLs R qs) := fun _ _ _ s ⟨p, xs, e, g, a⟩ => ⟨p, xs, e, s _ _ g, AllR.mono m s a⟩
theorem xva_nil : XVA K B ρ tNil (fun vs G => AllR R G [] vs) := fun σ G H e Q q => q [] G H (Stp.refl e) trivial
theorem xva_cons {tr : TA} {q : α} {qs : List α} (m : ∀ q, Mono (R q)) (h : XV K B ρ te (R q)) (hr : XVA K B ρ tr (fun vs G => AllR R G qs vs)) : XVA K B ρ (tCons te tr) (fun vs G => AllR R G (q :: qs) vs) := fun σ G H e Q k =>
  h σ G H e _ fun v G1 H1 s1 p1 => hr σ G1 H1 s1.e _ fun vs G2 H2 s2 p2 => k (v :: vs) G2 H2 (s1.trans s2) ⟨m q v G1 G2 s2.g p1, p2⟩
theorem xv_lst {tr : TA} {qs : List α} (m : ∀ q, Mono (R q)) (h : XVA K B ρ tr (fun vs G => AllR R G qs vs)) (hz : qs.length ≤ 16000000) : XV K B ρ (tLst tr) (RLs R qs) := fun σ G H e Q k => h σ G H e _ fun vs G2 H2 s p =>
  ⟨by rw [AllR.length p, sizeLine_eq]; omega, fun l hl => by
    have s3 := Stp.know (o := .lst vs) s.e hl
    exact k _ _ _ (s.trans s3) ⟨l, vs, rfl, upd_same, AllR.mono m s3.g p⟩⟩
theorem xv_cat {q1 q2 : List α} (m : ∀ q, Mono (R q)) (ha : XV K B ρ ta (RLs R q1)) (hb : XV K B ρ tb (RLs R q2)) (hz : q1.length + q2.length ≤ 16000000) : XV K B ρ (tOp rCat ta tb) (RLs R (q1 ++ q2)) := fun σ G H e Q k =>
  ha σ G H e _ fun x G1 H1 s1 p1 => hb σ G1 H1 s1.e _ fun y G2 H2 s2 p2 => by
    obtain ⟨a, xs, rfl, ga, aa⟩ := p1
    obtain ⟨b, ys, rfl, gb, ab⟩ := p2
    refine ⟨a, b, xs, ys, rfl, rfl, s2.e.f.gh _ _ (s2.g _ _ ga), s2.e.f.gh _ _ gb, by rw [AllR.length aa, AllR.length ab, sizeLine_eq]; omega, fun l hl => ?_⟩
    have s3 := Stp.know (o := .lst (xs ++ ys)) s2.e hl
    exact k _ _ _ ((s1.trans s2).trans s3) ⟨l, _, rfl, upd_same, AllR.append (AllR.mono m (s2.g.trans s3.g) aa) (AllR.mono m s3.g ab)⟩
/-- xs[i] -/
theorem xv_ix {qs : List α} {x : Int} {j : Nat} {q : α} (m : ∀ q, Mono (R q)) (ha : XV K B ρ ta (RLs R qs)) (hb : XE K B ρ tb (· = .int x)) (hj : ixN qs.length x = some j) (hq : qs[j]? = some q) : XV K B ρ (tOp (rIxL K) ta tb) (R q) := fun σ G H e Q k =>
  ha σ G H e _ fun v G1 H1 s1 p1 => hb σ G1 H1 s1.e _ fun y d G2 H2 s2 p2 r2 => by
    obtain ⟨a, xs, rfl, ga, aa⟩ := p1
    subst p2
    have aa2 := AllR.mono m s2.g aa
    obtain ⟨v, hv, rv⟩ := AllR.get' aa2 hq
    refine ⟨a, xs, x, v, rfl, dt_int r2, SqL.of (s2.e.f.gh _ _ (s2.g _ _ ga)), ?_, k v G2 H2 (s1.trans s2) rv⟩
    unfold atI
    rw [AllR.length aa2, hj]
    exact hv
theorem xe_lenR {qs : List α} (ha : XV K B ρ ta (RLs R qs)) : XE K B ρ (tCB (rLen K) (tCons ta tNil)) (· = .int qs.length) := fun σ G H e Q k =>
  ha σ G H e _ fun v G1 H1 s1 p1 => by
    obtain ⟨a, xs, rfl, ga, aa⟩ := p1
    refine ⟨a, xs, rfl, .inl (SqL.of (s1.e.f.gh _ _ ga)), ?_⟩
    rw [AllR.length aa]
    exact k _ _ G1 H1 s1 rfl (.int _)
end
/-! ### promises -/
/-- by a ghost g: arguments, result -/
def spV {γ : Type} (A : γ → List V → Hp → Prop) (R : γ → VP) : Sp := fun vs H Q _ => ∃ G g, Same G H ∧ A g vs G ∧ ∀ v G2 H2, Same G G2 → Same G2 H2 → Same H H2 → Nw G H G2 → R g v G2 → Q v H2
theorem xv_call {γ : Type} {A : γ → List V → Hp → Prop} {R : γ → VP} {E : XK} {tr : TA} {g : γ} (h : XVA K B ρ tr (A g)) : XV K B ρ (tCall (spV A R) [] E tr) (R g) := fun σ G H e Q k => h σ G H e _ fun vs G2 H2 s p => by
  rw [List.append_nil]
  exact ⟨G2, g, s.e.f.gh, p, fun v G3 H3 g gh hh nw r => k v G3 H3 (s.trans (Stp.grow s.e g gh hh nw)) r⟩
theorem xva_one {Pa : List V → Hp → Prop} (h : XV K B ρ te P) (f : ∀ v G, P v G → Pa [v] G) : XVA K B ρ (tCons te tNil) Pa := fun σ G H e Q k => h σ G H e _ fun v G1 H1 s p => k _ G1 H1 s (f v G1 p)
theorem xva_two {Pa : List V → Hp → Prop} (m : Mono P1) (h : XV K B ρ ta P1) (h2 : XV K B ρ tb P2) (f : ∀ v w G, P1 v G → P2 w G → Pa [v, w] G) : XVA K B ρ (tCons ta (tCons tb tNil)) Pa := fun σ G H e Q k => h σ G H e _ fun v G1 H1 s p =>
  h2 σ G1 H1 s.e _ fun w G2 H2 s2 p2 => k _ G2 H2 (s.trans s2) (f v w G2 (m v G1 G2 s2.g p) p2)
/-! ### statements -/
variable {N N1 Bk Ct : LP} {Rr : Rt → LP} {ts us : TS}
theorem hs_setV {i : Nat} (h : XV K B ρ te P) (m : Mono P) (f : N (ρ.set i (.raw P))) : HS K B (tAsg te (gName i)) ρ N Rr Bk Ct := fun D σ G H e n _ _ _ =>
  h σ G H e _ fun v G2 H2 s p => n _ G2 H2 _ s.g f (s.e.putR (fun G G' s' h => m v G G' s' h) p)
theorem hs_retV (h : XV K B ρ te P) (f : Rr (.raw P) ρ) : HS K B (tRet te) ρ N Rr Bk Ct := fun D σ G H e _ r _ _ =>
  h σ G H e _ fun v G2 H2 s p => r v (.raw P) σ G2 H2 ρ f s.e p
theorem set_self {σ : St} {i : Nat} {v : V} (h : σ[i]? = some (some v)) : σ.set i (some v) = σ := by
  apply List.ext_getElem?
  intro j
  rw [set_get]
  by_cases z : i = j
  · subst z
    rw [if_pos rfl, if_pos (List.getElem?_eq_some_iff.mp h).1, h]
  · rw [if_neg z]
/-- a data slot's very value -/
theorem hs_fix {i : Nat} {d : PyData} (h : ρ[i]? = some (.d d)) (k : ∀ v0, HS K B ts (ρ.set i (.raw fun v G => v = v0 ∧ Dt K G v d)) N Rr Bk Ct) : HS K B ts ρ N Rr Bk Ct := fun D σ G H e n r b c => by
  obtain ⟨v0, e1, e2⟩ := e.at_d h
  have z := e.putR (i := i) (v := v0) (P := fun v G => v = v0 ∧ Dt K G v d) (fun G G' s h => ⟨h.1, Dt.mono s h.2⟩) ⟨rfl, e2⟩
  rw [set_self e1] at z
  exact k v0 D σ G H z n r b c
/-- a, b = .. (both told) -/
theorem hs_par {i j : Nat} {tr : TA} {Pa : List V → Hp → Prop} (h : XVA K B ρ tr Pa) (m1 : Mono P1) (m2 : Mono P2) (f : ∀ vs G, Pa vs G → ∃ v w, vs = [v, w] ∧ P1 v G ∧ P2 w G) (hN : N ((ρ.set i (.raw P1)).set j (.raw P2))) : HS K B (tPar i j tr) ρ N Rr Bk Ct := fun D σ G H e n _ _ _ =>
  h σ G H e _ fun vs G2 H2 s p => by
    obtain ⟨v, w, rfl, p1, p2⟩ := f vs G2 p
    exact ⟨v, w, rfl, n _ G2 H2 _ s.g hN ((s.e.putR (fun G G' s' h => m1 v G G' s' h) p1).putR (fun G G' s' h => m2 w G G' s' h) p2)⟩
/-- for i, j in enumerate(xs) over a known list -/
theorem hs_forE {α : Type} {R : α → VP} {tl : TE} {i j : Nat} {qs : List α} (m : ∀ q, Mono (R q)) (h : XV K B ρ tl (RLs R qs)) (Iv : Nat → LP) (h0 : Iv 0 ρ)
    (hs : ∀ k q ρ', qs[k]? = some q → Iv k ρ' → HS K B ts ((ρ'.set i (.d (.int k))).set j (.raw (R q))) (Iv (k + 1)) Rr N (Iv (k + 1))) (hd : ∀ ρ', Iv qs.length ρ' → N ρ') :
    HS K B (tFor (iEnum K (tCons tl tNil)) (gTup K 2 (gCons (gName i) (gCons (gName j) gNil))) ts) ρ N Rr Bk Ct := fun D σ G H e n r b c => h σ G H e _ fun v G1 H1 s p => by
  obtain ⟨a, xs, rfl, ga, aa⟩ := p
  have hl := AllR.length aa
  refine ⟨a, xs, rfl, SqL.of (s.e.f.gh _ _ ga), fun k mm σ' H' => mm = xs.length - k ∧ k ≤ xs.length ∧ ∃ G' ρ', Same G1 G' ∧ Iv k ρ' ∧ Env K B G' H' σ' ρ', ⟨_, rfl, Nat.zero_le _, G1, ρ, Same.refl _, h0, s.e⟩, ?_⟩
  rintro k mm σ' H' ⟨rfl, hk, G', ρ', g, iv, e'⟩
  have hq : SqL K H' a xs := SqL.of (e'.f.gh _ _ (g _ _ ga))
  by_cases hk2 : k < xs.length
  · refine .inr ⟨⟨xs, xs[k], hq, List.getElem?_eq_getElem hk2⟩, fun σ2 H2 => ∃ G' ρ', Same G1 G' ∧ Iv (k + 1) ρ' ∧ Env K B G' H2 σ2 ρ', ?_, ?_⟩
    · rintro σ2 H2 ⟨G2, ρ2, g2, iv2, e2⟩
      exact ⟨xs.length - (k + 1), by omega, rfl, hk2, G2, ρ2, g2, iv2, e2⟩
    · rintro x H2 ⟨T, x0, rfl, hT, rfl, hx⟩
      have hx0 : xs[k]? = some x0 := hx xs hq
      obtain ⟨q, hq1, hq2⟩ := AllR.get aa hx0
      have s3 := Stp.know (o := .tup [.int (k : Nat), x0]) e' hT
      refine ⟨T, [.int (k : Nat), x0], rfl, SqT.of upd_same, rfl, _, _, rfl, _, _, rfl, rfl, ?_⟩
      refine hs k q ρ' hq1 iv _ _ _ _ ((s3.e.putD (.int _)).putR (fun G G' s h => m q x0 G G' s h) (m q x0 _ _ (g.trans s3.g) hq2)) ?_ r ?_ ?_
      · exact fun σ2 G2 H2 ρ2 g2 iv2 e2 => ⟨G2, ρ2, (g.trans s3.g).trans g2, iv2, e2⟩
      · exact fun σ2 G2 H2 ρ2 g2 nb e2 => n σ2 G2 H2 ρ2 (((s.g.trans g).trans s3.g).trans g2) nb e2
      · exact fun σ2 G2 H2 ρ2 g2 iv2 e2 => ⟨G2, ρ2, (g.trans s3.g).trans g2, iv2, e2⟩
  · have ek : k = qs.length := by omega
    exact .inl ⟨⟨xs, hq, by omega⟩, n σ' G' H' ρ' (s.g.trans g) (hd ρ' (by rw [← ek]; exact iv)) e'⟩
end HL
end

section
set_option Elab.async false
set_option linter.all false
set_option maxRecDepth 100000
set_option maxHeartbeats 4000000
/-! comprehensions over known lists of any values -/
namespace HL
open PySem L2
variable {K : PySem.W.Frag} {B : Bs} {G H G2 H2 : Hp} {σ : St} {ρ : List Sl} {ta tb tc te : TE} {t u : TT}
/-- a comprehension's inner state: its own names vs are stored anew, all else is as it was -/
structure Inn (σ : St) (ρ : List Sl) (vs : List Nat) (σi : St) (ρi : List Sl) : Prop where
  ls : σi.length = σ.length
  lr : ρi.length = ρ.length
  same : ∀ i, i ∉ vs → σi[i]? = σ[i]? ∧ ρi[i]? = ρ[i]?
  nh : ∀ i, i ∈ vs → ∀ a P, ρi[i]? ≠ some (.hid a P)
theorem Inn.wipe {vs : List Nat} : Inn σ ρ vs (wipe σ vs) (wipeR ρ vs) := ⟨wipe_length _ _, wipeR_len _ _, fun i h => ⟨wipe_out h, wipeR_out h⟩, fun i h a P e => by cases wipeR_in h _ e⟩
theorem Inn.set {vs : List Nat} {σi : St} {ρi : List Sl} {j : Nat} {v : Option V} {l : Sl} (I : Inn σ ρ vs σi ρi) (hj : j ∈ vs) (hl : ∀ a P, l ≠ .hid a P) : Inn σ ρ vs (σi.set j v) (ρi.set j l) := by
  refine ⟨by rw [List.length_set]; exact I.ls, by rw [List.length_set]; exact I.lr, fun i hi => ?_, fun i hi a P e => ?_⟩
  · have hij : j ≠ i := fun z => hi (by rw [← z]; exact hj)
    rw [set_get, set_get, if_neg hij, if_neg hij]
    exact I.same i hi
  · rw [set_get] at e
    by_cases y : j = i
    · rw [if_pos y] at e
      by_cases w : i < ρi.length
      · rw [if_pos w] at e
        exact hl a P (Option.some.inj e)
      · rw [if_neg w] at e; cases e
    · rw [if_neg y] at e
      exact I.nh i hi a P e
theorem wipe_in {τ υ : St} {i : Nat} (hl : τ.length = υ.length) : ∀ {vs : List Nat}, i ∈ vs → (wipe τ vs)[i]? = (wipe υ vs)[i]?
  | v :: vs, h => by
    unfold L2.wipe
    rw [set_get, set_get]
    by_cases y : v = i
    · rw [if_pos y, if_pos y, wipe_length, wipe_length, hl]
    · rw [if_neg y, if_neg y]
      exact wipe_in hl (by rcases List.mem_cons.mp h with q | q; exact (y q.symm).elim; exact q)
theorem Inn.again {vs : List Nat} {σi : St} {ρi : List Sl} (I : Inn σ ρ vs σi ρi) : L2.wipe σi vs = L2.wipe σ vs := by
  apply List.ext_getElem?
  intro i
  by_cases z : i ∈ vs
  · exact wipe_in I.ls z
  · rw [wipe_out z, wipe_out z]; exact (I.same i z).1
theorem Env.wipe (e : Env K B G H σ ρ) {vs : List Nat} (hv : freeB ρ vs = true) : Env K B G H (L2.wipe σ vs) (wipeR ρ vs) := by
  obtain ⟨fp, s⟩ := e.s
  refine ⟨e.f, by rw [wipe_length, wipeR_len]; exact e.len, fp, fun i l q => ?_, fun i q => ?_, s.dj, s.ow⟩
  · by_cases z : i ∈ vs
    · rw [wipeR_in z l q]
      cases e0 : ρ[i]? with
      | none => exact s.out i e0
      | some l0 => exact (s.ok i l0 e0).fp_nil (free_at hv z e0)
    · rw [wipeR_out z] at q
      rw [wipe_out z]
      exact s.ok i l q
  · have h1 := List.getElem?_eq_none_iff.mp q
    rw [wipeR_len] at h1
    exact s.out i (List.getElem?_eq_none_iff.mpr h1)
theorem LcI.stp {G1 H1 : Hp} {Dl : Addr} {Ac Ac2 : List PyData → Prop} {H' G' Ga Ha : Hp} {acc : List V} {es : List PyData} (hD : H1 Dl = none) (e1 : Env K B G1 H1 σ ρ) (I : LcI K B σ ρ G1 H1 Dl Ac H' G' acc es) (s : Stp K B σ ρ G' H' Ga Ha) (h : Ac2 es) : LcI K B σ ρ G1 H1 Dl Ac2 Ha Ga acc es :=
  ⟨I.s.trans s, s.k Dl _ I.l fun i p' P h => Kp.at_new e1 hD i p' P h, DtAll.mono s.g I.r, h, new_not I.n (by rw [I.l]; exact fun z => nomatch z) s.nw⟩
theorem LcI.push {G1 H1 : Hp} {Dl : Addr} {Ac Ac2 : List PyData → Prop} {H' G' : Hp} {acc : List V} {es : List PyData} {y : V} {dy : PyData} (hD : H1 Dl = none) (e1 : Env K B G1 H1 σ ρ) (I : LcI K B σ ρ G1 H1 Dl Ac H' G' acc es) (r : Dt K G' y dy) (h : Ac2 (es ++ [dy])) :
    LcI K B σ ρ G1 H1 Dl Ac2 (upd H' Dl (.lst (acc ++ [y]))) G' (acc ++ [y]) (es ++ [dy]) := by
  have e4 := I.s.e
  obtain ⟨fp, s⟩ := e4.s
  have hno : ∀ i p, p ∈ fp i → p ≠ Dl := fun i p hp z => by
    subst z
    obtain ⟨z1, z2⟩ := s.at_own hp
    rcases e1.fresh_n hD i with z | z
    · exact z z1
    · exact z2 z
  refine ⟨⟨I.s.g, ⟨⟨fun b u q => ?_, e4.f.g0, fun b u m q => ?_, fun b m q => ?_, e4.f.nw⟩, e4.len, fp, fun i l q => (s.ok i l q).step (Same.refl _) fun p hp o z => by rw [upd_ne (hno i p hp)]; exact z, s.out, s.dj, fun i p hp => by
    obtain ⟨a1, a2, a3⟩ := s.ow i p hp
    exact ⟨a1, a2, by rw [upd_ne (hno i p hp)]; exact a3⟩⟩, fun b u q hn => by rw [upd_ne (ne_of_none q hD)]; exact I.s.k b u q hn, I.s.nw⟩, upd_same, DtAll.append I.r (.cons r .nil), h, I.n⟩
  · rw [upd_ne (ne_of_none q I.n)]; exact e4.f.gh b u q
  · rw [upd_ne (ne_of_none q (e1.f.back hD))]; exact e4.f.fr b u m q
  · by_cases hb : b = Dl
    · rw [hb, upd_same]; exact fun z => nomatch z
    · rw [upd_ne hb]; exact e4.f.md b m q
/-- one turn, in any inner state -/
theorem lc_turnG {G1 H1 G' H' : Hp} {Dl : Addr} {vs : List Nat} {σi : St} {ρi : List Sl} {tt : TT} {acc : List V} {es : List PyData} {Ac Ac2 : List PyData → Prop} (hD : H1 Dl = none) (e1 : Env K B G1 H1 σ ρ) (I : LcI K B σ ρ G1 H1 Dl Ac H' G' acc es) (N : Inn σ ρ vs σi ρi) (ei : Env K B G' H' σi ρi) (hv : freeB ρ vs = true)
    (hz : es.length < 16000000) {Pb : Bool → Prop} (ht : XT K B ρi tt Pb) (h1 : Pb true → XE K B ρi te (fun y => Ac2 (es ++ [y]))) (h2 : Pb false → Ac2 es) :
    tt σi H' fun b H3 => if b = true then te σi H3 fun y H4 => ∃ acc', H4 Dl = some (.lst acc') ∧ acc'.length < sizeLine ∧ ∃ G5 acc5 es5, LcI K B σ ρ G1 H1 Dl Ac2 (upd H4 Dl (.lst (acc' ++ [y]))) G5 acc5 es5
      else ∃ G5 acc5 es5, LcI K B σ ρ G1 H1 Dl Ac2 H3 G5 acc5 es5 := by
  have lift : ∀ {Ga Ha Gb Hb : Hp}, Same G1 Ga → Stp K B σi ρi Ga Ha Gb Hb → Stp K B σ ρ Ga Ha Gb Hb := fun {Ga Ha Gb Hb} gg s => ⟨s.g, s.e.outer e1 (gg.trans s.g) N.lr N.same hv, fun b o q hn => s.k b o q fun i p' P a c => by
      by_cases z : i ∈ vs
      · exact N.nh i z _ _ a
      · rw [(N.same i z).2] at a
        rw [(N.same i z).1] at c
        exact hn i p' P a c, s.nw⟩
  refine ht _ G' H' ei _ fun b G3 H3 s3 pb => ?_
  have t3 := lift I.s.g s3
  cases b with
  | true =>
    refine h1 pb _ G3 H3 s3.e _ fun y dy G4 H4 s4 py ry => ?_
    have t4 := lift (I.s.g.trans t3.g) s4
    have I4 : LcI K B σ ρ G1 H1 Dl (fun _ => True) H4 G4 acc es := I.stp hD e1 (t3.trans t4) trivial
    exact ⟨acc, I4.l, by rw [DtAll.length I.r, sizeLine_eq]; omega, G4, acc ++ [y], es ++ [dy], I4.push hD e1 ry py⟩
  | false => exact ⟨G3, acc, es, I.stp hD e1 t3 (h2 pb)⟩
section
variable {α : Type} {R : α → VP}
/-- [te for j in xs if tt] over a known list -/
theorem xn_lcV {tl : TE} {j : Nat} {vs : List Nat} {tt : TT} {qs : List α} (m : ∀ q, Mono (R q)) (h : XV K B ρ tl (RLs R qs)) (hj : j ∈ vs) (hv : freeB ρ vs = true) (Ac : Nat → List PyData → Prop) (h0 : Ac 0 []) (hz : ∀ i es, i < qs.length → Ac i es → es.length < 16000000)
    (hs : ∀ i q es, qs[i]? = some q → Ac i es → ∃ Pb : Bool → Prop, XT K B ((wipeR ρ vs).set j (.raw (R q))) tt Pb ∧ (Pb true → XE K B ((wipeR ρ vs).set j (.raw (R q))) te (fun y => Ac (i + 1) (es ++ [y]))) ∧ (Pb false → Ac (i + 1) es)) :
    XN K B ρ (tLc (iList K tl) (gName j) tt te vs) (Ac qs.length) := fun σ G H e Q k => h σ G H e _ fun v G1 H1 s p => by
  obtain ⟨a, xs, rfl, ga, aa⟩ := p
  refine ⟨a, rfl, ⟨xs, SqL.of (s.e.f.gh _ _ ga)⟩, fun Dl hD => ?_⟩
  refine lc_list (xs := xs) (fun i H' => ∃ G' acc es, LcI K B σ ρ G1 H1 Dl (Ac i) H' G' acc es) ⟨_, _, _, lc_ini hD s.e h0⟩ (fun i H' _ ⟨G', acc, es, I⟩ => SqL.of (I.s.e.f.gh _ _ (I.s.g _ _ ga))) ?_ ?_
  · rintro i x H' hx ⟨G', acc, es, I⟩
    obtain ⟨q, hq1, hq2⟩ := AllR.get aa hx
    obtain ⟨Pb, t1, t2, t3⟩ := hs i q es hq1 I.a
    have N := (Inn.wipe (σ := σ) (ρ := ρ) (vs := vs)).set (v := some x) (l := .raw (R q)) hj (fun _ _ => nofun)
    have ei := (I.s.e.wipe hv).putR (i := j) (fun G G' s h => m q x G G' s h) (m q x _ _ I.s.g hq2)
    exact ⟨N.again, lc_turnG hD s.e I N ei hv (hz i es (List.getElem?_eq_some_iff.mp hq1).1 I.a) t1 t2 t3⟩
  · rintro H' ⟨G', acc, es, I⟩
    exact k Dl es G' H' (s.trans I.s) (by rw [← AllR.length aa]; exact I.a) (lc_fin hD s.e I) (s.back hD)
/-- [te for i, j in enumerate(xs) if tt] over a known list -/
theorem xn_lcE {tl : TE} {i j : Nat} {vs : List Nat} {tt : TT} {qs : List α} (m : ∀ q, Mono (R q)) (h : XV K B ρ tl (RLs R qs)) (hi : i ∈ vs) (hj : j ∈ vs) (hv : freeB ρ vs = true) (Ac : Nat → List PyData → Prop) (h0 : Ac 0 []) (hz : ∀ i es, i < qs.length → Ac i es → es.length < 16000000)
    (hs : ∀ k q es, qs[k]? = some q → Ac k es → ∃ Pb : Bool → Prop, XT K B (((wipeR ρ vs).set i (.d (.int k))).set j (.raw (R q))) tt Pb ∧ (Pb true → XE K B (((wipeR ρ vs).set i (.d (.int k))).set j (.raw (R q))) te (fun y => Ac (k + 1) (es ++ [y]))) ∧ (Pb false → Ac (k + 1) es)) :
    XN K B ρ (tLc (iEnum K (tCons tl tNil)) (gTup K 2 (gCons (gName i) (gCons (gName j) gNil))) tt te vs) (Ac qs.length) := fun σ G H e Q k => h σ G H e _ fun v G1 H1 s p => by
  obtain ⟨a, xs, rfl, ga, aa⟩ := p
  have hl := AllR.length aa
  refine ⟨a, xs, rfl, SqL.of (s.e.f.gh _ _ ga), fun Dl hD => ⟨fun n mm H' => mm = xs.length - n ∧ n ≤ xs.length ∧ ∃ G' acc es, LcI K B σ ρ G1 H1 Dl (Ac n) H' G' acc es, ⟨_, rfl, Nat.zero_le _, _, _, _, lc_ini hD s.e h0⟩, ?_⟩⟩
  rintro n mm H' ⟨rfl, hn, G', acc, es, I⟩
  have hq : SqL K H' a xs := SqL.of (I.s.e.f.gh _ _ (I.s.g _ _ ga))
  by_cases hn2 : n < xs.length
  · refine .inr ⟨⟨xs, xs[n], hq, List.getElem?_eq_getElem hn2⟩, fun H2 => ∃ G' acc es, LcI K B σ ρ G1 H1 Dl (Ac (n + 1)) H2 G' acc es, ?_, ?_⟩
    · rintro H2 ⟨G2, acc2, es2, I2⟩
      exact ⟨xs.length - (n + 1), by omega, rfl, hn2, G2, acc2, es2, I2⟩
    · rintro x H2 ⟨T, x0, rfl, hT, rfl, hx⟩
      obtain ⟨q, hq1, hq2⟩ := AllR.get aa (hx xs hq)
      have s3 := Stp.know (o := .tup [.int (n : Nat), x0]) I.s.e hT
      have I3 : LcI K B σ ρ G1 H1 Dl (Ac n) _ _ acc es := I.stp hD s.e s3 I.a
      obtain ⟨Pb, t1, t2, t3⟩ := hs n q es hq1 I.a
      have N := ((Inn.wipe (σ := σ) (ρ := ρ) (vs := vs)).set (v := some (.int (n : Nat))) (l := .d (.int (n : Nat))) hi (fun _ _ => nofun)).set (v := some x0) (l := .raw (R q)) hj (fun _ _ => nofun)
      have ei := ((I3.s.e.wipe hv).putD (i := i) (.int (n : Nat))).putR (i := j) (fun G G' s h => m q x0 G G' s h) (m q x0 _ _ I3.s.g hq2)
      exact ⟨T, [.int (n : Nat), x0], rfl, SqT.of upd_same, rfl, _, _, rfl, _, _, rfl, rfl, N.again, lc_turnG hD s.e I3 N ei hv (hz n es (List.getElem?_eq_some_iff.mp hq1).1 I.a) t1 t2 t3⟩
  · have en : n = qs.length := by omega
    exact .inl ⟨⟨xs, hq, by omega⟩, k Dl es G' H' (s.trans I.s) (by rw [← en]; exact I.a) (lc_fin hD s.e I) (s.back hD)⟩
end
end HL
end

section
set_option Elab.async false
set_option linter.all false
set_option maxRecDepth 100000
set_option maxHeartbeats 4000000
namespace L2
open PySem PySem.Spec PyProof.Rows PySem.ErrX
section
variable {X : Cx} {pos : Pos}
/-- {k: v} with a tuple of ints and texts as its key -/
def tDispT1 (tk tv : TE) : TE := fun σ H Q => ∀ p, H p = none → tk σ (upd H p (.dT [])) fun x H1 => tv σ H1 fun y H2 => H2 p = some (.dT []) ∧ ∃ (b : Addr) (ks : List Key), x = .ref b ∧ H2 b = some (.tup (ks.map kV)) ∧ Q (.ref p) (upd H2 p (.dT [(ks, y)]))
theorem pe_dispT1 {kx vx : Expr} {tk tv : TE} (hu : X.A.units < cLine) (hk : PE X kx tk) (hv : PE X vx tv) : PE X (.Dict [some kx] [vx] pos) (tDispT1 tk tv) := by
  refine ⟨fun pins s σ H Q I q => ?_⟩
  have hn := I.hok.fresh (Nat.le_refl s.heap.objs.size)
  have I1 := I.laid (a := s.heap.objs.size) (o := .dT []) (h' := s.heap.push { cls := .type "dict", data := .dict #[] }) (t' := s.toks) (fun _ _ q => Heap.get?_push_of_some _ q) (Nat.le_refl _) (dt_empty s.heap I.big)
  refine PySem.wpAny_Dict_any rfl rfl (List.cons_ne_nil _ _) (by simp) ?_
  refine pairTrees_cons_walk (thn (hk.run pins _ σ _ _ I1 (q _ hn)) fun u s1 ⟨x, H1, I2, rx, q1⟩ => thn (hv.run pins s1 σ H1 _ I2 q1) fun w2 s2 ⟨y, H2, I3, ry, q2⟩ => pairTrees_nil_walk ?_)
  obtain ⟨ed, b, ks, ex, eb, q3⟩ := q2
  subst ex
  cases (show u = Value.ref b from rx)
  obtain ⟨_, hd, xs, kt, dd⟩ := dt_of I3.hok ed
  cases kt
  refine wpAny_storeAllH (knd := tupleKind (mixKind X.prog X.w)) (show (tupleKind (mixKind X.prog X.w)).room X.A from hu) [(.ref b, w2)] [(ks, b, w2)] [] s2 _ ⟨rfl, rfl, key_of I3.hok eb, trivial⟩ dd (by rw [sizeLine_eq]; simp) fun h' tk hm hs => ⟨.ref s.heap.objs.size, _, ?_, rfl, q3⟩
  have he : ∃ q, h'.get? s.heap.objs.size = some q := let ⟨q, _, _, hq, _⟩ := hm; ⟨q, hq⟩
  obtain ⟨o, es, ep, h1, h2, h3, h4, _, h5⟩ := hm
  have ne : b ≠ s.heap.objs.size := ne_of eb ed fun z => nomatch z
  exact d_write I3 (by rw [ed]; exact True.intro) hs he ⟨by rw [sizeLine_eq]; simp, hd, [(ks, b, w2)], .cons ⟨rfl, by rw [upd_ne ne]; exact eb, ry⟩ .nil, o, es, ep, h1, h2, h3, h4, h5⟩
/-- C() of a class without its own __init__ -/
theorem pe_exc0 {C : Addr} {bmB : List Value} {B newId initId : String} {x : Str} {p : Pos} (F : ExcBaseFacts B newId initId bmB) (q : PySem.W.excIn X.K C bmB newId = true) (gC : X.mg x = some (.ref C)) (kC : PySem.W.keepIn X.K (.ref C) = true) (hg : Gl X x := by rfl)
    (hdb : (x == ("__debug__" : Str)) = false := by decide) : PE X (.Call (.Name x p) [] [] pos) (tErr0 C) := by
  refine ⟨fun pins s σ H Q I h => wpAny_Call_Name_kw (ld_glob I hg gC ?_ hdb)⟩
  refine PySem.W.callWith_K0 I.kIn kC ?_
  obtain ⟨bm, N, nm, qn, bs, hdct, sn, sub, ab, col, dd, k0, k1, k2, k3, k5, mN, hC, hN, hni, T⟩ := exc_obj I.kIn q
  refine wpAny_call_exc_subT F T hC hN hni (fun h' a hm => ?_) (by rw [sizeLine_eq]; simp)
  have hn : H a = none := I.hok.gone hm.new
  obtain ⟨t, ht, _, _⟩ := hm.there
  exact ⟨.ref a, upd H a (exo a C none), I.laidN hm.keeps hm.new hn (exo_ok ht), rfl, h a hn⟩
end
end L2
namespace HL
open PySem L2 PySem.ErrX
variable {K : PySem.W.Frag} {B : Bs} {G H G2 H2 : Hp} {σ : St} {ρ : List Sl} {ta tb tc te : TE} {t u : TT} {P P1 P2 : VP}
/-- errors: of the class at C, without a field | with the field f, that is w -/
def Er0 (C : Addr) : VP := fun v G => ∃ a, v = .ref a ∧ G a = some (exo a C none)
def Er1 (C : Addr) (f : Str) (w : V) : VP := fun v G => ∃ a d, v = .ref a ∧ G a = some (exo a C (some d)) ∧ G d = some (.xd [(f, w)])
/-- .. of either kind -/
def ErA (C : Addr) : VP := fun v G => ∃ a d, v = .ref a ∧ G a = some (exo a C d) ∧ ∀ b, d = some b → ∃ fs, G b = some (.xd fs)
theorem Er0.any {C : Addr} {v : V} (h : Er0 C v G) : ErA C v G := by
  obtain ⟨a, e, g⟩ := h
  exact ⟨a, none, e, g, fun b z => nomatch z⟩
theorem Er1.any {C : Addr} {f : Str} {w v : V} (h : Er1 C f w v G) : ErA C v G := by
  obtain ⟨a, d, e, g, g2⟩ := h
  exact ⟨a, some d, e, g, fun b z => by cases z; exact ⟨_, g2⟩⟩
theorem mono_er0 {C : Addr} : Mono (Er0 C) := fun _ _ _ s ⟨a, e, g⟩ => ⟨a, e, s _ _ g⟩
theorem mono_er1 {C : Addr} {f : Str} {w : V} : Mono (Er1 C f w) := fun _ _ _ s ⟨a, d, e, g, g2⟩ => ⟨a, d, e, s _ _ g, s _ _ g2⟩
theorem mono_erA {C : Addr} : Mono (ErA C) := fun _ _ _ s ⟨a, d, e, g, h⟩ => ⟨a, d, e, s _ _ g, fun b z => let ⟨fs, q⟩ := h b z; ⟨fs, s _ _ q⟩⟩
theorem xv_err0 {C : Addr} : XV K B ρ (tErr0 C) (Er0 C) := fun σ G H e Q q a ha => q _ _ _ (Stp.know e ha) ⟨a, rfl, upd_same⟩
theorem xv_err1 {C : Addr} {f : Str} {w : V} (h : XV K B ρ te (fun v _ => v = w)) : XV K B ρ (tErr1 C f te) (Er1 C f w) := fun σ G H e Q q => h σ G H e _ fun v G1 H1 s p a d ha hd hne => by
  subst p
  have s1 := Stp.know (o := .xd [(f, v)]) s.e hd
  have s2 := Stp.know (o := exo a C (some d)) s1.e (show upd H1 d _ a = none by rw [upd_ne hne.symm]; exact ha)
  exact q _ _ _ ((s.trans s1).trans s2) ⟨a, d, rfl, upd_same, by rw [upd_ne hne]; exact upd_same⟩
theorem ErA.ty {C : Addr} {v : V} (gh : Same G H) (T : ErrK K C) (h : ErA C v G) : TyZ K H v (.ref C) := by
  obtain ⟨a, d, rfl, g, hd⟩ := h
  exact .exc (gh _ _ g) (fun b z => let ⟨fs, q⟩ := hd b z; ⟨fs, gh _ _ q⟩) T
/-- isinstance(an error, a class) -/
theorem xe_isz {C : Addr} {c : V} {cu : Value} {b : Bool} (T : ErrK K C) (h : XV K B ρ te (ErA C)) (hc : ClsV c cu) (hk : PySem.W.kitOne K (.ref C) cu = some b) : XE K B ρ (tCB (rIsz K) (tCons te (tCons (tC c) tNil))) (· = .bool b) := fun σ G H e Q q =>
  h σ G H e _ fun v G1 H1 s p => ⟨v, c, _, cu, b, rfl, hc, p.ty s.e.f.gh T, hk, q _ _ G1 H1 s rfl (.bl b)⟩
/-- an error's field -/
theorem xv_held {C : Addr} {f : Str} {w : V} (T : ErrK K C) (hno : PySem.W.findIn K (.ref C) f = some none) (h : XV K B ρ te (Er1 C f w)) : XV K B ρ (tHeld K f te) (fun v _ => v = w) := fun σ G H e Q q =>
  h σ G H e _ fun v G1 H1 s p => by
    obtain ⟨a, d, rfl, g, g2⟩ := p
    exact ⟨a, C, d, _, w, rfl, s.e.f.gh _ _ g, s.e.f.gh _ _ g2, T, hno, by simp [List.lookup], q w G1 H1 s rfl⟩
/-! ### any, repr, x != x -/
theorem dt_bools : ∀ {xs : List V} {bs : List Bool}, DtAll K G xs (bs.map PyData.bool) → xs = bs.map V.bl
  | [], [], _ => rfl
  | [], _ :: _, h => by cases h
  | _ :: _, [], h => by cases h
  | x :: xs, b :: bs, h => by
    cases h with
    | cons a r => rw [dt_bl a, dt_bools r]; rfl
theorem xe_any {bs : List Bool} (ha : XE K B ρ ta (· = .list (bs.map PyData.bool))) : XE K B ρ (tCB (rAny K) (tCons ta tNil)) (· = .bool (bs.any id)) := xe_CB (xa_cons1 ha xa_nil) fun es p vs G H gh r Q q => by
  subst p
  obtain ⟨v, rfl, h⟩ := dta1 r
  obtain ⟨a, xs, rfl, h1, h2⟩ := dt_lst h
  rw [dt_bools h2] at h1
  exact ⟨a, bs, rfl, sqL_mono gh h1, q _ _ rfl (.bl _)⟩
def bR (b : Bool) : VP := fun v _ => v = .bl b
theorem mono_bR : ∀ b, Mono (bR b) := fun _ _ _ _ _ h => h
theorem allR_bools : ∀ {xs : List V} {bs : List Bool}, AllR bR G bs xs → xs = bs.map V.bl
  | [], [], _ => rfl
  | [], _ :: _, h => h.elim
  | _ :: _, [], h => h.elim
  | x :: xs, b :: bs, h => by rw [show x = V.bl b from h.1, allR_bools h.2]; rfl
theorem xe_anyR {bs : List Bool} (ha : XV K B ρ ta (RLs bR bs)) : XE K B ρ (tCB (rAny K) (tCons ta tNil)) (· = .bool (bs.any id)) := fun σ G H e Q q => ha σ G H e _ fun v G1 H1 s p => by
  obtain ⟨a, xs, rfl, ga, aa⟩ := p
  rw [allR_bools aa] at ga
  exact ⟨a, bs, rfl, SqL.of (s.e.f.gh _ _ ga), q _ _ G1 H1 s rfl (.bl _)⟩
theorem xe_repr {d : PyData} (ha : XE K B ρ ta (· = d)) (h1 : d.showable = true) (h2 : d.depth ≤ 100) (h3 : d.shown.length ≤ 16000000) : XE K B ρ (tCB (rRepr K) (tCons ta tNil)) (· = .str d.shown) := xe_CB (xa_cons1 ha xa_nil) fun es p vs G H gh r Q q => by
  subst p
  obtain ⟨v, rfl, h⟩ := dta1 r
  exact ⟨v, d, rfl, Dt.mono gh h, h1, h2, by rw [sizeLine_eq]; omega, q _ _ rfl (.str _)⟩
theorem xe_neSame {d : PyData} {w : V} (ha : XV K B ρ ta (fun v G => v = w ∧ Dt K G v d)) (hb : XV K B ρ tb (fun v G => v = w ∧ Dt K G v d)) : XE K B ρ (tOp (rNeSame K) ta tb) (· = .bool false) := fun σ G H e Q q =>
  ha σ G H e _ fun x G1 H1 s1 p1 => hb σ G1 H1 s1.e _ fun y G2 H2 s2 p2 => ⟨d, by rw [p1.1, p2.1], Dt.mono s2.e.f.gh (Dt.mono s2.g p1.2), q _ _ G2 H2 (s1.trans s2) rfl (.bl false)⟩
/-! ### dict displays -/
theorem xe_dnewK : XE K B ρ tDNewK (· = .dict []) := fun σ G H e Q q p hp => q _ _ _ _ (Stp.know e hp) rfl (.dik (kvs := []) upd_same .nil)
theorem stp_at_new {p : Addr} {o : HO} (e : Env K B G H σ ρ) (hp : H p = none) (s : Stp K B σ ρ G (upd H p o) G2 H2) (hG : G p = none) : H2 p = some o ∧ G2 p = none := by
  have h1 := s.k p o upd_same fun i a P h => Kp.at_new e hp i a P h
  exact ⟨h1, new_not hG (by rw [upd_same]; exact fun z => nomatch z) s.nw⟩
/-- H alone knows the new object -/
theorem Stp.lay (e : Env K B G H σ ρ) {p : Addr} {o : HO} (hp : H p = none) : Stp K B σ ρ G H G (upd H p o) := ⟨Same.refl _, e.step (Same.refl G) (e.f.gh.trans (same_upd hp)) (same_upd hp) nw_refl, Kp.of (same_upd hp), nw_refl⟩
/-- .. and what stands there is put otherwise, and known from then on -/
theorem Stp.reknow {H1 : Hp} (e : Env K B G H σ ρ) {p : Addr} {o o2 : HO} (hp : H p = none) (s : Stp K B σ ρ G H G2 H2) (h2 : H2 p = some o) (hG : G2 p = none) : Stp K B σ ρ G H (upd G2 p o2) (upd H2 p o2) := by
  have e2 := s.e
  have s1 : Same G2 (upd G2 p o2) := fun b u q => by rw [upd_ne (ne_of_none q hG)]; exact q
  obtain ⟨fp, sl⟩ := e2.s
  have hno : ∀ i b, b ∈ fp i → b ≠ p := fun i b hb z => by
    subst z
    obtain ⟨z1, z2⟩ := sl.at_own hb
    rcases e.fresh_n hp i with z | z
    · exact z z1
    · exact z2 z
  refine ⟨s.g.trans s1, ⟨⟨fun b u q => ?_, e2.f.g0.trans s1, fun b u m q => ?_, fun b m q => ?_, fun a u q => ?_⟩, e2.len, fp, fun i l q => (sl.ok i l q).step s1 fun b hb u z => by rw [upd_ne (hno i b hb)]; exact z, sl.out, sl.dj, fun i b hb => ?_⟩, fun b u q hn => ?_, fun a u q => ?_⟩
  · by_cases hb : b = p
    · subst hb; rw [upd_same] at q ⊢; exact q
    · rw [upd_ne hb] at q ⊢; exact e2.f.gh b u q
  · rw [upd_ne (ne_of_none q (e.f.back hp))]; exact e2.f.fr b u m q
  · by_cases hb : b = p
    · rw [hb, upd_same]; exact fun z => nomatch z
    · rw [upd_ne hb]; exact e2.f.md b m q
  · by_cases hb : a = p
    · subst hb; exact .inr (e.f.back hp)
    · rw [upd_ne hb] at q; exact e2.f.nw a u q
  · obtain ⟨a1, a2, a3⟩ := sl.ow i b hb
    exact ⟨by rw [upd_ne (hno i b hb)]; exact a1, a2, by rw [upd_ne (hno i b hb)]; exact a3⟩
  · rw [upd_ne (ne_of_none q hp)]; exact s.k b u q hn
  · by_cases hb : a = p
    · subst hb; exact .inr hp
    · rw [upd_ne hb] at q; exact s.nw a u q
theorem dt_key {v : V} {k : Key} (h : Dt K G v (kD k)) : v = kV k := by
  cases k with
  | inl i => exact dt_int h
  | inr x => exact dt_str h
theorem none_of {p : Addr} (e : Env K B G H σ ρ) (hp : H p = none) : G p = none := by
  cases q : G p with
  | none => rfl
  | some u => rw [e.f.gh _ _ q] at hp; cases hp
/-- {k: v} -/
theorem xe_disp1 {k : Key} {Pv : PyData → Prop} {P : PyData → Prop} (ha : XE K B ρ ta (· = kD k)) (hb : XE K B ρ tb Pv) (f : ∀ d, Pv d → P (.dict [(kD k, d)])) : XE K B ρ (tDisp [(ta, tb)]) P := fun σ G H e Q q p hp => by
  have s0 := Stp.lay (o := .dK []) e hp
  refine ha σ G _ s0.e _ fun x d1 G1 H1 s1 p1 r1 => hb σ G1 H1 s1.e _ fun y d2 G2 H2 s2 p2 r2 => ?_
  subst p1
  have s3 := s1.trans s2
  obtain ⟨h2, g2⟩ := stp_at_new e hp s3 (none_of e hp)
  refine ⟨h2, [(k, y)], by rw [dt_key r1]; rfl, by simp, ?_⟩
  have s4 := Stp.reknow (H1 := H1) (o2 := .dK [(k, y)]) e hp (s0.trans s3) h2 g2
  have m4 : Same G2 (upd G2 p (.dK [(k, y)])) := fun b u q => by rw [upd_ne (ne_of_none q g2)]; exact q
  exact q _ _ _ _ s4 (f d2 p2) (.dik (kvs := [(k, y)]) (ds := [d2]) upd_same (.cons (Dt.mono m4 r2) .nil))
theorem keys_of : ∀ {xs : List V} {ks : List Key}, DtAll K G xs (ks.map kD) → xs = ks.map kV
  | [], [], _ => rfl
  | [], _ :: _, h => by cases h
  | _ :: _, [], h => by cases h
  | x :: xs, b :: bs, h => by
    cases h with
    | cons a r => rw [dt_key a, keys_of r]; rfl
/-- {(k, ..): v} with a new tuple as its key -/
theorem xe_dispT1 {ks : List Key} {tr : TA} {Pv : PyData → Prop} {P : PyData → Prop} (ha : XA K B ρ tr (· = ks.map kD)) (hz : ks.length ≤ 1000) (hb : XE K B ρ tb Pv) (f : ∀ d, Pv d → P (.dict [(.tuple (ks.map kD), d)])) : XE K B ρ (tDispT1 (tTup tr) tb) P := fun σ G H e Q q p hp => by
  have s0 := Stp.lay (o := .dT []) e hp
  refine ha σ G _ s0.e _ fun xs ds G1 H1 s1 p1 r1 => ⟨by rw [DtAll.length r1, p1, List.length_map, sizeLine_eq]; omega, fun T hT => ?_⟩
  subst p1
  have sT := Stp.know (o := .tup xs) s1.e hT
  refine hb σ _ _ sT.e _ fun y d2 G2 H2 s2 p2 r2 => ?_
  have s3 := (s1.trans sT).trans s2
  obtain ⟨h2, g2⟩ := stp_at_new e hp s3 (none_of e hp)
  have eT : H2 T = some (.tup (ks.map kV)) := by rw [← keys_of r1]; exact s2.e.f.gh _ _ (s2.g _ _ upd_same)
  refine ⟨h2, T, ks, rfl, eT, ?_⟩
  have s4 := Stp.reknow (H1 := H1) (o2 := .dT [(ks, y)]) e hp (s0.trans s3) h2 g2
  have m4 : Same G2 (upd G2 p (.dT [(ks, y)])) := fun b u q => by rw [upd_ne (ne_of_none q g2)]; exact q
  exact q _ _ _ _ s4 (f d2 p2) (.dit (kvs := [(ks, y)]) (ds := [d2]) upd_same (.cons (Dt.mono m4 r2) .nil))
end HL
end

section
set_option Elab.async false
set_option linter.all false
set_option maxRecDepth 100000
set_option maxHeartbeats 4000000
namespace L2
/-! the names of readings -/
abbrev rAddI : R2 := rI0 fun i j => .int (i + j)
abbrev rSubI : R2 := rI0 fun i j => .int (i - j)
abbrev rMulA : R2 := rI HL.CMulA fun i j => .int (i * j)
abbrev rDivA : R2 := rI HL.CDivA fun i j => .int (i.fdiv j)
abbrev rModN : R2 := rI (fun _ j => j ≠ 0) fun i j => .int (i.fmod j)
abbrev rPowN : R2 := rI CPow fun i j => .int (i ^ j.toNat)
abbrev rLtI : R2 := rI0 fun i j => .bl (decide (i < j))
abbrev rLeI : R2 := rI0 fun i j => .bl (decide (i ≤ j))
abbrev rGtI : R2 := rI0 fun i j => .bl (decide (j < i))
abbrev rGeI : R2 := rI0 fun i j => .bl (decide (j ≤ i))
abbrev rAbsI : List V → Hp → VK → Prop := fun xs H Q => ∃ i, xs = [.int i] ∧ Q (.int (if i < 0 then -i else i)) H
abbrev rInt1 : List V → Hp → VK → Prop := fun xs H Q => (∃ i, xs = [.int i] ∧ Q (.int i) H) ∨ ∃ k, xs = [.bl k] ∧ Q (.int (if k then 1 else 0)) H
abbrev rNegI : V → Hp → VK → Prop := rU fun i => .int (-i)
abbrev rIsNone : R2 := fun x y H Q => y = .non ∧ Q (.bl (decide (x = .non))) H
end L2
namespace HL
open PySem L2
/-! ### a def that is there -/
def Has (P : Program) (w : World) (K : PySem.W.Frag) (mg : Str → Option Value) (base : Heap) (CX : CXT) (k : Nat) (x : Str) (ps : List Str) (sp : Sp) : Prop :=
  ∃ (f : Addr) (fd : FuncData), mg x = some (.ref f) ∧ PySem.W.keepIn K (.ref f) = true ∧ Binds K fd ps [] ∧ FnOk P w K mg base CX k f fd ps sp
section
variable {X : Cx} {k : Nat} {x : Str} {ps : List Str} {sp : Sp} {p pos : Pos} {e : Expr} {es : List Expr} {t : TA}
theorem pe_has (h : Has X.prog X.w X.K X.mg X.base CX0 k x ps sp) (hr : Room k X.A) (ha : PA X (e :: es) t) (hg : Gl X x := by rfl) (hdb : (x == ("__debug__" : Str)) = false := by decide)
    (he : starEach (e :: es) X.env = (false, eval e X.env) :: starEach es X.env := by rfl) (hpl : (backTo pos (starEach es X.env)).any (·.1) = false := by rfl) : PE X (.Call (.Name x p) (e :: es) [] pos) (tCall sp [] E0 t) := by
  obtain ⟨f, fd, gm, kp, bd, F⟩ := h
  exact pe_call F hr hg gm kp bd .nil pass0 ha hdb he hpl
end
variable {K : PySem.W.Frag} {B : Bs} {G H G2 H2 : Hp} {σ : St} {ρ : List Sl} {ta tb tc te : TE} {t u : TT}
/-! ### slices -/
theorem xo_none : XO K B ρ tNoPart none := fun σ G H e Q q => q G H (Stp.refl e)
theorem xo_some {i : Int} (h : XE K B ρ te (· = .int i)) : XO K B ρ (tPart te) (some i) := fun σ G H e Q q => h σ G H e _ fun v d G2 H2 s p r => by
  subst p
  exact ⟨i, dt_int r, q G2 H2 s⟩
theorem xn_sl {ds : List PyData} {tl th : TO} {lo hi : Option Int} (ha : XE K B ρ ta (· = .list ds)) (h1 : XO K B ρ tl lo) (h2 : XO K B ρ th hi) : XN K B ρ (tSl (rSlL K) ta tl th) (· = cutD ds lo hi) := fun σ G H e Q q =>
  ha σ G H e _ fun v d G1 H1 s1 p1 r1 => h1 σ G1 H1 s1.e _ fun G2 H2 s2 => h2 σ G2 H2 s2.e _ fun G3 H3 s3 => by
    subst p1
    obtain ⟨a, xs, rfl, hq, hr⟩ := dt_lst (Dt.mono s3.g (Dt.mono s2.g r1))
    refine ⟨a, xs, rfl, sqL_mono s3.e.f.gh hq, fun l hl => ?_⟩
    have s4 := (s1.trans s2).trans s3
    obtain ⟨_, o⟩ := s3.e.new hl (cut_dt (lo := lo) (hi := hi) hr)
    exact q l _ G3 _ (s4.trans (Stp.own s3.e hl)) rfl o (s4.back hl)
/-- tests from a value of either outcome -/
theorem xt_yes : XT K B ρ tYes (· = true) := fun σ G H e Q q => q true G H (Stp.refl e) rfl
end HL
end

section
set_option Elab.async false
set_option linter.all false
set_option maxRecDepth 100000
set_option maxHeartbeats 4000000
/-! the four defs that every law has: _law_hand, _law_draw, _law_ten, _law_some: what they read, what they promise -/
namespace HL
open PySem L2
abbrev t__law_hand (K : PySem.W.Frag) : TS :=
  (tSeq (tAsg (tLc (iList K (tSl (rSlL K) (tVar 0) tNoPart (tPart (tC (.int 63))))) (gName 2) tYes (tCB rAbsI (tCons (tCB rInt1 (tCons (tVar 2) tNil)) tNil)) [2]) (gName 1))
    (tRet (tLst (tCons (tVar 1) (tCons (tC (.int 0)) (tCons (tC (.int 0)) (tCons (tOp rAddI (tC (.int 127)) (tOp rMulA (tC (.int 11)) (tCB (HL.rLen K) (tCons (tVar 1) tNil)))) (tCons (tC (.int 0)) tNil))))))))
abbrev t__law_draw (K : PySem.W.Frag) : TS :=
  (tSeq (tIfS (tAnd (tTest (tOp rEq (tOp (rIxL K) (tVar 0) (tC (.int 2))) (tC (.int 0)))) (tTest (tOp rLtI (tOp (rIxL K) (tVar 0) (tC (.int 1))) (tCB (HL.rLen K) (tCons (tOp (rIxL K) (tVar 0) (tC (.int 0))) tNil))))) (tSeq (tAsg (tOp (rIxL K) (tOp (rIxL K) (tVar 0) (tC (.int 0))) (tOp (rIxL K) (tVar 0) (tC (.int 1)))) (gName 2))
    (tSeq (tAsg (tOp rAddI (tOp (rIxL K) (tVar 0) (tC (.int 1))) (tC (.int 1))) (gSub (tVar 0) (tC (.int 1)) rSetL))
    (tSeq (tAsg (tOp rModN (tCB rInt1 (tCons (tOp rAddI (tOp rAddI (tOp rMulA (tOp (rIxL K) (tVar 0) (tC (.int 3))) (tC (.int 69621))) (tVar 2)) (tC (.int 83))) tNil)) (tC (.int 2147483629))) (gSub (tVar 0) (tC (.int 3)) rSetL))
    (tIfS (tTest (tOp rGeI (tVar 2) (tOp rPowN (tC (.int 10)) (tC (.int 18))))) (tAsg (tVar 2) (gSub (tVar 0) (tC (.int 2)) rSetL)) tNext)))) tNext)
    (tSeq (tIfS (tTest (tOp rGtI (tOp (rIxL K) (tVar 0) (tC (.int 2))) (tC (.int 0)))) (tSeq (tAsg (tOp rModN (tCB rInt1 (tCons (tOp (rIxL K) (tVar 0) (tC (.int 2))) tNil)) (tVar 1)) (gName 3))
    (tSeq (tAsg (tOp rDivA (tOp (rIxL K) (tVar 0) (tC (.int 2))) (tVar 1)) (gSub (tVar 0) (tC (.int 2)) rSetL))
    (tRet (tVar 3)))) tNext)
    (tSeq (tAsg (tOp rAddI (tOp (rIxL K) (tVar 0) (tC (.int 4))) (tC (.int 1))) (gSub (tVar 0) (tC (.int 4)) rSetL))
    (tSeq (tAsg (tOp rModN (tCB rInt1 (tCons (tOp rMulA (tCB rInt1 (tCons (tOp rAddI (tOp (rIxL K) (tVar 0) (tC (.int 3))) (tOp rMulA (tC (.int 7919)) (tOp (rIxL K) (tVar 0) (tC (.int 4))))) tNil)) (tC (.int 48271))) tNil)) (tC (.int 2147483647))) (gName 4))
    (tSeq (tAsg (tOp rModN (tCB rInt1 (tCons (tOp rMulA (tVar 4) (tOp rAddI (tOp rDivA (tVar 4) (tC (.int 1009))) (tC (.int 69621)))) tNil)) (tC (.int 2147483647))) (gName 4))
    (tSeq (tAsg (tOp rModN (tCB rInt1 (tCons (tOp rMulA (tVar 4) (tOp rAddI (tOp rDivA (tVar 4) (tC (.int 2003))) (tC (.int 40692)))) tNil)) (tC (.int 2147483399))) (gName 4))
    (tRet (tOp rModN (tCB rInt1 (tCons (tOp rDivA (tVar 4) (tC (.int 16))) tNil)) (tVar 1)))))))))
abbrev t__law_ten (K : PySem.W.Frag) : TS :=
  (tSeq (tAsg (tC (.int 1)) (gName 1))
    (tSeq (tFor (iRng1 (tCons (tVar 0) tNil)) (gName 2) (tAsg (tOp rMulA (tVar 1) (tC (.int 10))) (gName 1)))
    (tRet (tVar 1))))
abbrev Hn : Int → PyData := PyData.int
/-- a hand: cells, place, left, mix, count -/
def HandL (hd : List PyData) : Prop := ∃ (cells : List Nat) (pl lf mx ct : Nat), hd = [.list (cells.map fun (c : Nat) => PyData.int c), .int (pl : Nat), .int (lf : Nat), .int (mx : Nat), .int (ct : Nat)]
def DomDraw (ds : List PyData) : Prop := ∃ many : Nat, ds = [.int (many : Nat)] ∧ 0 < many ∧ many.log2 < 9000
def RDraw (ds : List PyData) (d : PyData) : Prop := ∃ many r : Nat, ds = [.int (many : Nat)] ∧ d = .int (r : Nat) ∧ r < many
abbrev t__law_some (K : PySem.W.Frag) : TS :=
  (tRet (tOp (rIxL K) (tVar 1) (tCall (spH K HandL DomDraw RDraw) [] E0 (tCons (tVar 0) (tCons (tCB (HL.rLen K) (tCons (tVar 1) tNil)) tNil)))))
variable {K : PySem.W.Frag} {B : Bs} {G H G2 H2 : Hp} {σ : St} {ρ : List Sl} {ta tb tc te : TE} {t u : TT} {N N1 Bk Ct : LP} {Rr : Rt → LP} {ts us : TS}
theorem xe_hand {p : Addr} {hd : List PyData} {i : Int} {j : Nat} {d : PyData} (h : ρ[0]? = some (.hid p (· = hd))) (h5 : hd.length = 5) (hi : ixN 5 i = some j) (hj : hd[j]? = some d) : XE K B ρ (tOp (rIxL K) (tVar 0) (tC (.int i))) (· = d) :=
  xe_ixH h xe_int (by rw [h5]; exact hi) hj
theorem fmod_nat {a m : Int} (ha : 0 ≤ a) (hm : 0 < m) : ∃ r : Nat, a.fmod m = (r : Nat) ∧ (r : Int) < m := by
  have h1 := Int.fmod_nonneg ha (Int.le_of_lt hm)
  have h2 := Int.fmod_lt_of_pos a hm
  exact ⟨(a.fmod m).toNat, by omega, by omega⟩
theorem fdiv_nat {a m : Int} (ha : 0 ≤ a) (hm : 0 ≤ m) : ∃ r : Nat, a.fdiv m = (r : Nat) := ⟨(a.fdiv m).toNat, by have := Int.fdiv_nonneg ha hm; omega⟩
/-- the first part of a draw: a cell may be taken up -/
abbrev RhoD (p : Addr) (hd : List PyData) (many : Nat) (x y : Sl) : List Sl := [.hid p (· = hd), .d (.int (many : Nat)), x, y, .un]
def MidD (p : Addr) (many : Nat) : LP := fun ρ' => ∃ hd x y, HandL hd ∧ ρ' = RhoD p hd many x y
section
variable {p : Addr} {many : Nat} {cells : List Nat} {pl lf mx ct : Nat}
abbrev hdL (cells : List Nat) (pl lf mx ct : Nat) : List PyData := [.list (cells.map fun (c : Nat) => PyData.int c), .int (pl : Nat), .int (lf : Nat), .int (mx : Nat), .int (ct : Nat)]
theorem cMul_l {i j : Int} (h : -(2 ^ 64) < i ∧ i < 2 ^ 64) : CMulA i j := .inl (.inl h)
theorem cMul_r {i j : Int} (h : -(2 ^ 64) < j ∧ j < 2 ^ 64) : CMulA i j := .inl (.inr h)
theorem handL (cells : List Nat) (pl lf mx ct : Nat) : HandL (hdL cells pl lf mx ct) := ⟨cells, pl, lf, mx, ct, rfl⟩
theorem toNat_of {a : Int} (h : 0 ≤ a) : ∃ r : Nat, a = (r : Nat) := ⟨a.toNat, by omega⟩
theorem draw_1 {lf : Nat} (hpl : pl < cells.length) : HS K B (tSeq (tAsg (tOp (rIxL K) (tOp (rIxL K) (tVar 0) (tC (.int 0))) (tOp (rIxL K) (tVar 0) (tC (.int 1)))) (gName 2))
    (tSeq (tAsg (tOp rAddI (tOp (rIxL K) (tVar 0) (tC (.int 1))) (tC (.int 1))) (gSub (tVar 0) (tC (.int 1)) rSetL))
    (tSeq (tAsg (tOp rModN (tCB rInt1 (tCons (tOp rAddI (tOp rAddI (tOp rMulA (tOp (rIxL K) (tVar 0) (tC (.int 3))) (tC (.int 69621))) (tVar 2)) (tC (.int 83))) tNil)) (tC (.int 2147483629))) (gSub (tVar 0) (tC (.int 3)) rSetL))
    (tIfS (tTest (tOp rGeI (tVar 2) (tOp rPowN (tC (.int 10)) (tC (.int 18))))) (tAsg (tVar 2) (gSub (tVar 0) (tC (.int 2)) rSetL)) tNext)))) (RhoD p (hdL cells pl lf mx ct) many .un .un) (MidD p many) Rr nev nev := by
  obtain ⟨c, hc⟩ : ∃ c, cells[pl]? = some c := ⟨_, List.getElem?_eq_getElem hpl⟩
  refine hs_seq (N1 := (· = RhoD p (hdL cells pl lf mx ct) many (.d (.int (c : Nat))) .un)) (hs_set (xe_ixL (ds := cells.map fun (c : Nat) => PyData.int c) (j := pl) (d := .int (c : Nat)) (x := (pl : Nat)) (xe_hand rfl rfl rfl rfl) (xe_hand rfl rfl rfl rfl)
    (by rw [List.length_map]; exact ixN_pos hpl) (by rw [List.getElem?_map, hc]; rfl)) (fun d e => by subst e; rfl)) ?_
  rintro _ rfl
  refine hs_seq (N1 := (· = RhoD p (hdL cells (pl + 1) lf mx ct) many (.d (.int (c : Nat))) .un)) (hs_setHid (j := 1) rfl (xe_add (x := (pl : Nat)) (xe_hand rfl rfl rfl rfl) xe_int) xe_int rfl (fun d e => by subst e; rfl)) ?_
  rintro _ rfl
  obtain ⟨r, hr, _⟩ := fmod_nat (a := (mx : Int) * 69621 + c + 83) (m := 2147483629) (by omega) (by decide)
  refine hs_seq (N1 := (· = RhoD p (hdL cells (pl + 1) lf r ct) many (.d (.int (c : Nat))) .un)) (hs_setHid (j := 3) rfl ((xe_mod (xe_toInt (xe_add (xe_add (xe_mul (x := (mx : Nat)) (xe_hand rfl rfl rfl rfl) xe_int (cMul_r (by decide))) (xe_var rfl)) xe_int)) xe_int (by decide)).cast (congrArg PyData.int hr)) xe_int rfl (fun d e => by subst e; rfl)) ?_
  rintro _ rfl
  refine hs_if (xt_test1 (xe_ge (xe_var rfl) (xe_pow xe_int xe_int (by unfold CPow; decide)))) (fun _ => hs_setHid (j := 2) rfl (xe_var rfl) xe_int rfl fun d e => ?_) fun _ => hs_next ⟨_, _, _, handL _ _ _ _ _, rfl⟩
  subst e
  exact ⟨hdL cells (pl + 1) c r ct, _, _, handL _ _ _ _ _, rfl⟩
theorem draw_hl (hm : 0 < many) (hm2 : many.log2 < 9000) : HS K B (t__law_draw K) (.hid p HandL :: inis [.int (many : Nat)] 3) (fun ρ' => RDraw [.int (many : Nat)] .none ∧ ρ'[0]? = some (.hid p HandL))
    (fun r ρ' => ∃ d, r = .d d ∧ RDraw [.int (many : Nat)] d ∧ ρ'[0]? = some (.hid p HandL)) nev nev := by
  have hm1 : (many : Int) ≠ 0 := by omega
  have hm3 : (0 : Int) < (many : Int) := by omega
  refine hs_open (i := 0) (p := p) (HP := HandL) rfl ?_
  rintro _ ⟨cells, pl, lf, mx, ct, rfl⟩
  refine hs_seq (N1 := MidD p many) (hs_if (xt_and1 (xt_test1 (xe_eq (x := (lf : Nat)) (xe_hand rfl rfl rfl rfl) xe_int)) fun _ => xt_test1 (xe_lt (x := (pl : Nat)) (xe_hand rfl rfl rfl rfl) (xe_lenL (ds := cells.map fun (c : Nat) => PyData.int c) (xe_hand rfl rfl rfl rfl))))
    (fun e => draw_1 ?_) fun _ => hs_next ⟨_, _, _, handL _ _ _ _ _, rfl⟩) ?_
  · have h := of_decide_eq_true (Bool.and_eq_true_iff.mp e.symm).2
    rw [List.length_map] at h
    omega
  rintro _ ⟨_, x, y, ⟨cells, pl, lf, mx, ct, rfl⟩, rfl⟩
  refine hs_seq (N1 := (· = RhoD p (hdL cells pl lf mx ct) many x y)) (hs_if (xt_test1 (xe_gt (x := (lf : Nat)) (xe_hand rfl rfl rfl rfl) xe_int)) (fun _ => ?_) fun _ => hs_next rfl) ?_
  · obtain ⟨r, hr, hlt⟩ := fmod_nat (a := (lf : Int)) (m := (many : Int)) (by omega) hm3
    obtain ⟨q, hq⟩ := fdiv_nat (a := (lf : Int)) (m := (many : Int)) (by omega) (by omega)
    refine hs_seq (N1 := (· = RhoD p (hdL cells pl lf mx ct) many x (.d (.int (r : Nat))))) (hs_set ((xe_mod (x := (lf : Nat)) (xe_toInt (xe_hand rfl rfl rfl rfl)) (xe_var rfl) hm1).cast (congrArg PyData.int hr)) (fun d e => by subst e; rfl)) ?_
    rintro _ rfl
    refine hs_seq (N1 := (· = RhoD p (hdL cells pl q mx ct) many x (.d (.int (r : Nat))))) (hs_setHid (j := 2) rfl ((xe_fdiv (x := (lf : Nat)) (xe_hand rfl rfl rfl rfl) (xe_var rfl) ⟨hm1, hm2⟩).cast (congrArg PyData.int hq)) xe_int rfl (fun d e => by subst e; rfl)) ?_
    rintro _ rfl
    exact hs_close (i := 0) (p := p) (HP := HandL) rfl (handL _ _ _ _ _) (hs_ret (xe_var rfl) fun d e => ⟨_, rfl, ⟨many, r, rfl, e, by omega⟩, rfl⟩)
  rintro _ rfl
  refine hs_seq (N1 := (· = RhoD p (hdL cells pl lf mx (ct + 1)) many x y)) (hs_setHid (j := 4) rfl (xe_add (x := (ct : Nat)) (xe_hand rfl rfl rfl rfl) xe_int) xe_int rfl (fun d e => by subst e; rfl)) ?_
  rintro _ rfl
  obtain ⟨n1, h1, _⟩ := fmod_nat (a := ((mx : Int) + 7919 * ((ct + 1 : Nat) : Int)) * 48271) (m := 2147483647) (by omega) (by decide)
  refine hs_seq (N1 := (· = [.hid p (· = hdL cells pl lf mx (ct + 1)), .d (.int (many : Nat)), x, y, .d (.int (n1 : Nat))])) (hs_set ((xe_mod (xe_toInt (xe_mul (xe_toInt (xe_add (x := (mx : Nat)) (xe_hand rfl rfl rfl rfl) (xe_mul (y := ((ct + 1 : Nat) : Int)) xe_int (xe_hand rfl rfl rfl rfl) (cMul_l (by decide))))) xe_int (cMul_r (by decide)))) xe_int (by decide)).cast (congrArg PyData.int h1)) (fun d e => by subst e; rfl)) ?_
  rintro _ rfl
  have step : ∀ (n k j m : Nat), 0 < k → 0 < m → ∃ n2 : Nat, ((n : Int) * ((n : Int).fdiv (k : Nat) + (j : Nat))).fmod (m : Nat) = (n2 : Nat) := fun n k j m hk hm => by
    obtain ⟨q, hq⟩ := fdiv_nat (a := (n : Int)) (m := (k : Nat)) (by omega) (by omega)
    obtain ⟨r, hr, _⟩ := fmod_nat (a := (n : Int) * ((n : Int).fdiv (k : Nat) + (j : Nat))) (m := (m : Nat)) (by rw [hq]; exact Int.mul_nonneg (by omega) (by omega)) (by omega)
    exact ⟨r, hr⟩
  have small : (n1 : Int) < 2147483647 := by omega
  obtain ⟨n2, h2⟩ := step n1 1009 69621 2147483647 (by decide) (by decide)
  have n2s : (n2 : Int) < 2147483647 := by rw [← h2]; exact Int.fmod_lt_of_pos _ (by decide)
  refine hs_seq (N1 := (· = [.hid p (· = hdL cells pl lf mx (ct + 1)), .d (.int (many : Nat)), x, y, .d (.int (n2 : Nat))])) (hs_set ((xe_mod (xe_toInt (xe_mul (x := (n1 : Nat)) (xe_var rfl) (xe_add (xe_fdiv (xe_var rfl) xe_int ⟨by decide, by decide⟩) xe_int) (cMul_l ⟨by omega, by omega⟩))) xe_int (by decide)).cast (congrArg PyData.int h2)) (fun d e => by subst e; rfl)) ?_
  rintro _ rfl
  obtain ⟨n3, h3⟩ := step n2 2003 40692 2147483399 (by decide) (by decide)
  refine hs_seq (N1 := (· = [.hid p (· = hdL cells pl lf mx (ct + 1)), .d (.int (many : Nat)), x, y, .d (.int (n3 : Nat))])) (hs_set ((xe_mod (xe_toInt (xe_mul (x := (n2 : Nat)) (xe_var rfl) (xe_add (xe_fdiv (xe_var rfl) xe_int ⟨by decide, by decide⟩) xe_int) (cMul_l ⟨by omega, by omega⟩))) xe_int (by decide)).cast (congrArg PyData.int h3)) (fun d e => by subst e; rfl)) ?_
  rintro _ rfl
  obtain ⟨q, hq⟩ := fdiv_nat (a := (n3 : Int)) (m := 16) (by omega) (by decide)
  obtain ⟨r, hr, hlt⟩ := fmod_nat (a := (n3 : Int).fdiv 16) (m := (many : Int)) (by rw [hq]; omega) hm3
  refine hs_close (i := 0) (p := p) (HP := HandL) rfl (handL _ _ _ _ _) (hs_ret ((xe_mod (x := (n3 : Int).fdiv 16) (xe_toInt (xe_fdiv (xe_var rfl) xe_int ⟨by decide, by decide⟩)) (xe_var rfl) hm1).cast (congrArg PyData.int hr)) fun d e => ⟨_, rfl, ⟨many, r, rfl, e, by omega⟩, rfl⟩)
end
/-! ### what is promised -/
abbrev sp_draw (K : PySem.W.Frag) : Sp := spH K HandL DomDraw RDraw
theorem body_draw {vs : List V} {Q : VK} {E : XK} {H : Hp} (h : sp_draw K vs H Q E) : t__law_draw K { nx := fun _ H' => Q .non H', rt := Q } (L2.start ["hand", "many", "cell", "digit", "number"] vs) H := by
  refine body_H h ?_ ?_
  · rw [len_H (n := 2) (fun ds ⟨many, e, _⟩ => by rw [e]; rfl) h]; decide
  · rintro B p ds ⟨many, rfl, h1, h2⟩
    exact draw_hl h1 h2
theorem len_draw {vs : List V} {Q : VK} {E : XK} {H : Hp} (h : sp_draw K vs H Q E) : vs.length = 2 := len_H (fun ds ⟨many, e, _⟩ => by rw [e]; rfl) h
def DomInts (ds : List PyData) : Prop := ∃ ns : List Int, ds = [.list (ns.map PyData.int)]
abbrev sp_hand (K : PySem.W.Frag) : Sp := spN K DomInts fun _ es => HandL es
theorem mem_cut {ds : List PyData} {lo hi : Option Int} {d : PyData} (h : d ∈ cutD ds lo hi) : d ∈ ds := List.mem_of_mem_drop (List.mem_of_mem_take h)
theorem cut_le {ds : List PyData} {lo hi : Option Int} : (cutD ds lo hi).length ≤ HT.sIx ds.length ds.length hi := by
  unfold cutD
  rw [List.length_take]
  omega
theorem len_hand {vs : List V} {Q : VK} {E : XK} {H : Hp} (h : sp_hand K vs H Q E) : vs.length = 1 := len_N (fun ds ⟨ns, e⟩ => by rw [e]; rfl) h
theorem body_hand {vs : List V} {Q : VK} {E : XK} {H : Hp} (h : sp_hand K vs H Q E) : t__law_hand K { nx := fun _ H' => Q .non H', rt := Q } (L2.start ["script", "cells", "cell"] vs) H := by
  refine body_N h (by rw [len_hand h]; decide) ?_
  rintro B _ hM ⟨ns, rfl⟩
  have hc : (cutD (ns.map PyData.int) none (some 63)).length ≤ 63 := Nat.le_trans cut_le (by
    have e : HT.sIx (ns.map PyData.int).length (ns.map PyData.int).length (some 63) = min 63 (ns.map PyData.int).length := HT.sIx_nat _ _ 63
    rw [e]; omega)
  refine hs_seq (N1 := fun ρ' => ∃ cs : List Nat, cs.length ≤ 63 ∧ ρ' = [.d (.list (ns.map PyData.int)), .own (cs.map fun (c : Nat) => PyData.int c), .un]) (hs_setN (xn_lcL (XN.d1 (xn_sl (xe_var rfl) xo_none (xo_some xe_int))) (by simp) rfl
    (fun i es => ∃ cs : List Nat, es = (cs.map fun (c : Nat) => PyData.int c) ∧ cs.length = i) ⟨[], rfl, rfl⟩ ?_ ?_) ?_) ?_
  · rintro i _ hi ⟨cs, rfl, hl⟩
    rw [List.length_map]; omega
  · rintro i d _ hd ⟨cs, rfl, hl⟩
    obtain ⟨n, _, rfl⟩ := List.mem_map.mp (mem_cut (List.mem_of_getElem? hd))
    refine ⟨_, xt_yes, fun _ => (xe_abs (xe_toInt (xe_var rfl))).imp ?_, fun z => (nomatch z)⟩
    rintro _ rfl
    exact ⟨cs ++ [n.natAbs], by simp, by simp [hl]⟩
  · rintro _ ⟨cs, rfl, hl⟩
    exact ⟨cs, by omega, rfl⟩
  · rintro _ ⟨cs, hl, rfl⟩
    refine hs_freeze (i := 1) (ds := cs.map fun (c : Nat) => PyData.int c) rfl hM (hs_retN (xn_lst (xa_cons1 (xe_var rfl) (xa_cons1 xe_int (xa_cons1 xe_int (xa_cons1 (xe_add xe_int (xe_mul xe_int (xe_lenL (xe_var rfl)) (cMul_l (by decide)))) (xa_cons1 xe_int xa_nil))))) (fun ds e => by subst e; simp)) ?_)
    rintro _ rfl
    exact ⟨_, rfl, cs, 0, 0, 127 + 11 * cs.length, 0, by simp⟩
def DomTen (ds : List PyData) : Prop := ∃ n : Nat, ds = [.int (n : Nat)] ∧ n ≤ 100000
abbrev sp_ten (K : PySem.W.Frag) : Sp := spP K DomTen fun ds d => ∃ n : Nat, ds = [.int (n : Nat)] ∧ d = .int (10 ^ n)
theorem len_ten {vs : List V} {Q : VK} {E : XK} {H : Hp} (h : sp_ten K vs H Q E) : vs.length = 1 := len_P (fun ds ⟨n, e, _⟩ => by rw [e]; rfl) h
theorem body_ten {vs : List V} {Q : VK} {E : XK} {H : Hp} (h : sp_ten K vs H Q E) : t__law_ten K { nx := fun _ H' => Q .non H', rt := Q } (L2.start ["many", "found", "turn"] vs) H := by
  refine body_P h (by rw [len_ten h]; decide) ?_
  rintro B _ hM ⟨n, rfl, hn⟩
  refine hs_seq (N1 := (· = [.d (.int (n : Nat)), .d (.int (10 ^ 0)), .un])) (hs_set xe_int fun d e => by subst e; rfl) ?_
  rintro _ rfl
  refine hs_seq (N1 := fun ρ' => ∃ x, ρ' = [.d (.int (n : Nat)), .d (.int (10 ^ n)), x]) (hs_forR1 (hi := (n : Nat)) (xa_cons1 (xe_var rfl) xa_nil) (by omega) (fun i ρ' => ∃ x, ρ' = [.d (.int (n : Nat)), .d (.int (10 ^ i)), x]) ⟨_, rfl⟩ ?_ fun ρ' h => h) ?_
  · rintro i _ hi ⟨x, rfl⟩
    refine hs_set (xe_mul (x := 10 ^ i) (xe_var rfl) xe_int (cMul_r (by decide))) fun d e => ?_
    subst e
    exact ⟨_, by rw [Int.pow_succ]; rfl⟩
  · rintro _ ⟨x, rfl⟩
    exact hs_ret (xe_var rfl) fun d e => ⟨d, rfl, n, rfl, e⟩
def DomSome (ds : List PyData) : Prop := ∃ xs : List PyData, ds = [.list xs] ∧ xs ≠ [] ∧ xs.length ≤ 16000000
def RSome (ds : List PyData) (d : PyData) : Prop := ∃ xs : List PyData, ds = [.list xs] ∧ d ∈ xs
abbrev sp_some (K : PySem.W.Frag) : Sp := spH K HandL DomSome RSome
theorem len_some {vs : List V} {Q : VK} {E : XK} {H : Hp} (h : sp_some K vs H Q E) : vs.length = 2 := len_H (fun ds ⟨xs, e, _⟩ => by rw [e]; rfl) h
theorem log_lt {n k : Nat} (h : n < 2 ^ k) (h0 : n ≠ 0) : n.log2 < k := (Nat.log2_lt h0).mpr h
/-- a draw from a known hand -/
theorem xe_draw {i : Nat} {p : Addr} {many : Nat} {E : XK} (hi : ρ[i]? = some (.hid p HandL)) (h : XE K B ρ te (· = .int (many : Nat))) (h1 : 0 < many) (h2 : many.log2 < 9000) : XE K B ρ (tCall (sp_draw K) [] E (tCons (tVar i) (tCons te tNil))) (fun d => ∃ r : Nat, d = .int (r : Nat) ∧ r < many) :=
  xe_callH hi (xa_cons1 h xa_nil) (fun ds e => ⟨many, e, h1, h2⟩) fun ds d e ⟨m2, r, e2, ed, hr⟩ => by
    rw [e] at e2
    have : (many : Int) = m2 := PyData.int.inj (List.cons.inj e2).1
    exact ⟨r, ed, by omega⟩
theorem xe_ixMem {xs : List PyData} (ha : XE K B ρ ta (· = .list xs)) (hb : XE K B ρ tb (fun d => ∃ r : Nat, d = .int (r : Nat) ∧ r < xs.length)) : XE K B ρ (tOp (rIxL K) ta tb) (· ∈ xs) := by
  refine xe_op ha hb ?_
  rintro _ _ rfl ⟨r, rfl, hr⟩
  have hx : xs[r]? = some xs[r] := List.getElem?_eq_getElem hr
  have z := rv_ixL (K := K) (ixN_pos hr) hx
  exact fun x y G H gh hx hy Q q => z x y G H gh hx hy Q fun v d e rd => q v d (by rw [e]; exact List.getElem_mem hr) rd
theorem body_some {vs : List V} {Q : VK} {E : XK} {H : Hp} (h : sp_some K vs H Q E) : t__law_some K { nx := fun _ H' => Q .non H', rt := Q } (L2.start ["hand", "things"] vs) H := by
  refine body_H h (by rw [len_some h]; decide) ?_
  rintro B p _ ⟨xs, rfl, h0, hz⟩
  have h1 : 0 < xs.length := List.length_pos_iff.mpr h0
  refine hs_ret (xe_ixMem (xs := xs) (xe_var rfl) (xe_draw (p := p) rfl (xe_lenL (xe_var rfl)) h1 (Nat.lt_trans (log_lt (k := 24) (by omega) (by omega)) (by decide)))) fun d hd => ⟨d, rfl, ⟨xs, rfl, hd⟩, rfl⟩
theorem xe_some {i : Nat} {p : Addr} {xs : List PyData} {E : XK} (hi : ρ[i]? = some (.hid p HandL)) (h : XE K B ρ te (· = .list xs)) (h0 : xs ≠ []) (hz : xs.length ≤ 16000000) : XE K B ρ (tCall (sp_some K) [] E (tCons (tVar i) (tCons te tNil))) (· ∈ xs) :=
  xe_callH hi (xa_cons1 h xa_nil) (fun ds e => ⟨xs, e, h0, hz⟩) fun ds d e ⟨xs2, e2, hd⟩ => by
    rw [e] at e2
    have : xs = xs2 := PyData.list.inj (List.cons.inj e2).1
    rw [this]; exact hd
end HL
end

section
set_option Elab.async false
set_option linter.all false
set_option maxRecDepth 100000
set_option maxHeartbeats 4000000
set_option exponentiation.threshold 1000
/-! k00: what its defs read and promise (no program in sight) -/
namespace HL
open PySem L2 PySem.ErrX
def Th (n : Nat) (d : PyData) : Prop := d.showable = true ∧ d.depth ≤ n + 2 ∧ d.shown.length ≤ 2000 + 50 * n
abbrev sp_thing (K : PySem.W.Frag) : Sp := spH K HandL (· = []) fun _ d => Th 36 d
abbrev t__law_thing (K : PySem.W.Frag) : TS :=
  (tSeq (tAsg (tLst (tCons (tC .non) (tCons (tC (.bl true)) (tCons (tC (.bl false)) (tCons (tC (.int 0)) (tCons (tC (.int 1)) (tCons (tCall (sp_ten K) [] E0 (tCons (tC (.int 299)) tNil)) (tCons (tC (.str "")) (tCons (tC (.str "row")) (tCons (tC (.str "5 0")) (tCons (tTup tNil) (tCons (tLst tNil) (tCons tDNewK (tCons (tTup (tCons (tC (.int 0)) (tCons (tC (.int 1)) tNil))) (tCons (tLst (tCons (tTup tNil) tNil)) (tCons (tDisp [((tC (.str "a")), (tC (.int 1)))]) (tCons (tDispT1 (tTup (tCons (tC (.int 0)) (tCons (tC (.int 1)) tNil))) (tLst (tCons (tC (.int 2)) tNil))) tNil))))))))))))))))) (gName 1))
    (tSeq (tAsg (tCall (sp_some K) [] E0 (tCons (tVar 0) (tCons (tOp rCat (tVar 1) (tLst (tCons (tCall (sp_draw K) [] E0 (tCons (tVar 0) (tCons (tOp rPowN (tC (.int 10)) (tC (.int 9))) tNil))) (tCons (tUn rNegI (tC (.int 1))) (tCons (tC (.str "parts")) tNil))))) tNil))) (gName 2))
    (tSeq (tFor (iRng1 (tCons (tCall (sp_some K) [] E0 (tCons (tVar 0) (tCons (tLst (tCons (tC (.int 0)) (tCons (tC (.int 0)) (tCons (tC (.int 1)) (tCons (tC (.int 2)) (tCons (tC (.int 5)) (tCons (tC (.int 36)) tNil))))))) tNil))) tNil)) (gName 3) (tAsg (tOp (rIxL K) (tLst (tCons (tTup (tCons (tVar 2) tNil)) (tCons (tLst (tCons (tVar 2) tNil)) (tCons (tTup (tCons (tVar 3) (tCons (tVar 2) tNil))) (tCons (tDisp [((tVar 3), (tVar 2))]) tNil))))) (tCall (sp_draw K) [] E0 (tCons (tVar 0) (tCons (tC (.int 4)) tNil)))) (gName 2)))
    (tRet (tVar 2)))))
/-- the errors with a field, the others -/
def nm1 : List (Str × Str) := [("BadField", "part"), ("BadText", "at"), ("NoName", "name")]
def nm0 : List Str := ["NoElement", "NoElements", "Nought", "NoNumber", "NoTable", "NoIdeal", "NotWithin", "NoPrime", "NotPrime", "NoPrimes", "TooLarge", "NoEll", "NoMark", "NotClear", "NoUnits", "NoUnit", "NoBook", "NoMakers", "NoBase", "NotMade", "NoOrder", "NoRow", "NoRoot", "NothingDone", "NoLine"]
variable {K : PySem.W.Frag} {B : Bs} {G H G2 H2 : Hp} {σ : St} {ρ : List Sl} {ta tb tc te : TE} {t u : TT} {N N1 Bk Ct : LP} {Rr : Rt → LP} {ts us : TS}
/-! ### things -/
theorem Th.mono {n m : Nat} {d : PyData} (h : Th n d) (e : n ≤ m) : Th m d := ⟨h.1, by have := h.2.1; omega, by have := h.2.2; omega⟩
theorem shown_turn {t : Nat} (h : t ≤ 36) : (PyData.int (t : Nat)).showable = true ∧ (PyData.int (t : Nat)).shown.length ≤ 10 := by
  have k : ∀ t : Fin 37, (PyData.int (t.val : Nat)).showable = true ∧ (PyData.int (t.val : Nat)).shown.length ≤ 10 := by decide +kernel
  exact k ⟨t, by omega⟩
theorem Th.wrap {n t : Nat} {d : PyData} (h : Th n d) (ht : t ≤ 36) : Th (n + 1) (.tuple [d]) ∧ Th (n + 1) (.list [d]) ∧ Th (n + 1) (.tuple [.int (t : Nat), d]) ∧ Th (n + 1) (.dict [(.int (t : Nat), d)]) := by
  obtain ⟨h1, h2, h3⟩ := h
  obtain ⟨t1, t2⟩ := shown_turn ht
  have dep : (PyData.int (t : Nat)).depth = 0 := by simp only [PyData.depth]
  have e1 : ((", " : String) : Str).length = 2 := by decide +kernel
  have e2 : (("[" : String) : Str).length = 1 := by decide +kernel
  have e3 : (("]" : String) : Str).length = 1 := by decide +kernel
  have e4 : (("(" : String) : Str).length = 1 := by decide +kernel
  have e5 : ((",)" : String) : Str).length = 2 := by decide +kernel
  have e6 : ((")" : String) : Str).length = 1 := by decide +kernel
  have e7 : (("{" : String) : Str).length = 1 := by decide +kernel
  have e8 : (("}" : String) : Str).length = 1 := by decide +kernel
  have e9 : ((": " : String) : Str).length = 2 := by decide +kernel
  have e0 : (("" : String) : Str).length = 0 := by decide +kernel
  refine ⟨⟨?_, ?_, ?_⟩, ⟨?_, ?_, ?_⟩, ⟨?_, ?_, ?_⟩, ⟨?_, ?_, ?_⟩⟩
  · simp only [PyData.showable, PyData.showableAll, h1, Bool.and_true]
  · simp only [PyData.depth, PyData.depthAll]; omega
  · simp only [PyData.shown, PyData.shownAll, tupleText]
    have e : (Str.join ", " [d.shown]) = d.shown := by rfl
    rw [e, strLen_append, strLen_append]
    show _ + _ + ((",)" : String) : Str).length ≤ _
    omega
  · simp only [PyData.showable, PyData.showableAll, h1, Bool.and_true]
  · simp only [PyData.depth, PyData.depthAll]; omega
  · simp only [PyData.shown, PyData.shownAll, listText, textFrom]
    rw [strLen_append, strLen_append, strLen_append]
    show _ + ((("" : String) : Str).length) + _ + _ ≤ _
    omega
  · simp only [PyData.showable, PyData.showableAll, h1, Bool.and_true]
    simpa only [PyData.showable] using t1
  · simp only [PyData.depth, PyData.depthAll]; omega
  · simp only [PyData.shownAll, PyData.shown, tupleText]
    have e : (Str.join ", " [(PyData.int (t : Nat)).shown, d.shown]) = (PyData.int (t : Nat)).shown ++ ", " ++ d.shown := by rfl
    have e' := e
    simp only [PyData.shown] at e' t2
    rw [e', strLen_append, strLen_append, strLen_append, strLen_append]
    show _ + _ + ((")" : String) : Str).length ≤ _
    omega
  · simp only [PyData.showable, PyData.showableKv, h1, Bool.and_true]
    simpa only [PyData.showable] using t1
  · simp only [PyData.depth, PyData.depthKv]; omega
  · simp only [PyData.shownKv, PyData.shown, dictText]
    simp only [PyData.shown] at t2
    have e : ∀ x : Str, (Str.join ", " [x]) = x := fun _ => rfl
    rw [e, strLen_append, strLen_append, strLen_append, strLen_append]
    omega
/-- own + a new list -/
theorem xn_catO {i : Nat} {ds : List PyData} {Ps : List PyData → Prop} (h : ρ[i]? = some (.own ds)) (hb : XN K B ρ tb Ps) (hz : ∀ es, Ps es → ds.length + es.length ≤ 16000000) : XN K B ρ (tOp rCat (tVar i) tb) (fun zs => ∃ es, Ps es ∧ zs = ds ++ es) := fun σ G H e Q q => by
  obtain ⟨p0, _, e1, _⟩ := e.at_own h
  refine ⟨_, e1, hb σ G H e _ fun b es G2 H2 s pe o _ => ?_⟩
  obtain ⟨p, vs, e1', e2, e3, _⟩ := s.e.at_own h
  rw [e1] at e1'
  cases e1'
  obtain ⟨ws, h1, h2⟩ := o.h
  refine ⟨p0, b, vs, ws, rfl, rfl, e2, h1, by rw [DtAll.length e3, DtAll.length h2, sizeLine_eq]; have := hz es pe; omega, fun l hl => ?_⟩
  obtain ⟨_, o2⟩ := s.e.new hl (DtAll.append e3 h2)
  exact q l _ G2 _ (s.trans (Stp.own s.e hl)) ⟨es, pe, rfl⟩ o2 (s.back hl)
/-- for j in range(n) with an n that is only bounded -/
theorem hs_forR1b {j m : Nat} (h : XE K B ρ te (fun d => ∃ n : Nat, d = .int (n : Nat) ∧ n ≤ m)) (hm : m ≤ 1000000) (Iv : Nat → LP) (h0 : Iv 0 ρ) (hs : ∀ (i : Nat) ρ', i < m → Iv i ρ' → HS K B ts (ρ'.set j (.d (.int (i : Nat)))) (Iv (i + 1)) Rr N (Iv (i + 1)))
    (hd : ∀ n ρ', n ≤ m → Iv n ρ' → N ρ') : HS K B (tFor (iRng1 (tCons te tNil)) (gName j) ts) ρ N Rr Bk Ct := fun D σ G H e n r b c => h σ G H e _ fun v d G1 H1 s p rd => by
  obtain ⟨k, rfl, hk⟩ := p
  obtain rfl := dt_int rd
  have z := hs_range (lo := 0) (hi := (k : Nat)) (j := j) D s.e Iv h0 (fun i ρ' hlt iv => by rw [Int.zero_add]; exact hs i ρ' (by omega) iv) (fun ρ' iv => hd k ρ' hk (by simpa using iv)) (fun σ' G' H' ρ' g => n σ' G' H' ρ' (s.g.trans g)) r
  have e0 : ((k : Int) - 0).toNat = (k : Int).toNat := by rw [Int.sub_zero]
  rw [e0] at z
  exact ⟨k, rfl, by omega, by omega, z⟩
def baseL : List PyData := [.none, .bool true, .bool false, .int 0, .int 1, .int (10 ^ 299), .str "", .str "row", .str "5 0", .tuple [], .list [], .dict [], .tuple [.int 0, .int 1], .list [.tuple []], .dict [(.str "a", .int 1)], .dict [(.tuple [.int 0, .int 1], .list [.int 2])]]
theorem baseL_ok : ∀ d ∈ baseL, Th 0 d := by unfold Th; decide +kernel
theorem drawn_ok {r : Nat} (h : r < 10 ^ 9) : Th 0 (.int (r : Nat)) := by
  have hl : (r : Int).natAbs.log2 < 30 := by
    by_cases h0 : r = 0
    · subst h0; decide
    · exact log_lt (by simp; omega) (by simpa using h0)
  refine ⟨?_, by simp only [PyData.depth]; omega, ?_⟩
  · simp only [PyData.showable]
    exact decide_eq_true (by omega)
  · simp only [PyData.shown]
    have := PySem.int_text_length_le (a := (r : Int)) (k := 30) (by decide) hl
    rw [ofString_length]
    omega
theorem xe_ten {n : Nat} {E : XK} (h : XE K B ρ te (· = .int (n : Nat))) (hn : n ≤ 100000) : XE K B ρ (tCall (sp_ten K) [] E (tCons te tNil)) (· = .int (10 ^ n)) :=
  xe_call (xa_cons1 h xa_nil) (fun ds e => ⟨n, e, hn⟩) fun ds d e ⟨m, e2, ed⟩ => by
    rw [e] at e2
    have : (n : Int) = m := PyData.int.inj (List.cons.inj e2).1
    have : n = m := by omega
    rw [ed, this]
theorem body_thing {vs : List V} {Q : VK} {E : XK} {H : Hp} (h : sp_thing K vs H Q E) : t__law_thing K { nx := fun _ H' => Q .non H', rt := Q } (L2.start ["hand", "some", "thing", "turn"] vs) H := by
  refine body_H h (by rw [len_H (n := 1) (fun ds e => by rw [e]; rfl) h]; decide) ?_
  rintro B p _ rfl
  refine hs_seq (N1 := (· = [.hid p HandL, .own baseL, .un, .un])) (hs_setN (xn_lst (xa_cons1 xe_non (xa_cons1 xe_bl (xa_cons1 xe_bl (xa_cons1 xe_int (xa_cons1 xe_int (xa_cons1 (xe_ten (n := 299) xe_int (by decide)) (xa_cons1 xe_str (xa_cons1 xe_str (xa_cons1 xe_str (xa_cons1 (xe_tup1 xa_nil (by decide))
    (xa_cons1 (XN.d1 (xn_lst xa_nil (fun ds e => by subst e; decide))) (xa_cons1 xe_dnewK (xa_cons1 (xe_tup1 (xa_cons1 xe_int (xa_cons1 xe_int xa_nil)) (by decide)) (xa_cons1 (XN.d1 (xn_lst (xa_cons1 (xe_tup1 xa_nil (by decide)) xa_nil) (fun ds e => by subst e; decide)))
    (xa_cons1 (xe_disp1 (k := .inr "a") xe_str xe_int (fun d e => by subst e; rfl)) (xa_cons1 (xe_dispT1 (ks := [.inl 0, .inl 1]) (xa_cons1 xe_int (xa_cons1 xe_int xa_nil)) (by decide) (XN.d1 (xn_lst (xa_cons1 xe_int xa_nil) (fun ds e => by subst e; decide))) (fun d e => by subst e; rfl)) xa_nil))))))))))))))))
    (fun ds e => by subst e; simp)) fun ds e => by subst e; rfl) ?_
  rintro _ rfl
  have cat : XN K B [.hid p HandL, .own baseL, .un, .un] (tOp rCat (tVar 1) (tLst (tCons (tCall (sp_draw K) [] E0 (tCons (tVar 0) (tCons (tOp rPowN (tC (.int 10)) (tC (.int 9))) tNil))) (tCons (tUn rNegI (tC (.int 1))) (tCons (tC (.str "parts")) tNil))))) (fun zs => zs ≠ [] ∧ zs.length ≤ 1000 ∧ ∀ d ∈ zs, Th 0 d) := by
    refine (xn_catO (i := 1) (ds := baseL) rfl (xn_lst (xa_cons (xe_draw (p := p) (many := 10 ^ 9) rfl (xe_pow xe_int xe_int (by unfold CPow; decide)) (by decide) (by decide)) (xa_cons1 (xe_neg xe_int) (xa_cons1 xe_str xa_nil)) (Ps := fun ds => ∃ r : Nat, r < 10 ^ 9 ∧ ds = [.int (r : Nat), .int (-1), .str "parts"]) (by
      rintro _ _ ⟨r, rfl, hr⟩ rfl
      exact ⟨r, hr, rfl⟩)) (by rintro _ ⟨r, _, rfl⟩; simp)) (by rintro _ ⟨r, _, rfl⟩; simp [baseL])).imp ?_
    rintro _ ⟨_, ⟨r, hr, rfl⟩, rfl⟩
    refine ⟨by simp [baseL], by simp [baseL], fun d hd => ?_⟩
    rcases List.mem_append.mp hd with z | z
    · exact baseL_ok d z
    · have last : ∀ d ∈ [PyData.int (-1), PyData.str "parts"], Th 0 d := by unfold Th; decide +kernel
      rcases List.mem_cons.mp z with y | y
      · rw [y]; exact drawn_ok hr
      · exact last d y
  have c2 := cat.d (P := fun d => ∃ zs : List PyData, d = .list zs ∧ zs ≠ [] ∧ zs.length ≤ 1000 ∧ ∀ d ∈ zs, Th 0 d) fun ds e => ⟨ds, rfl, e⟩
  refine hs_seq (N1 := fun ρ' => ∃ d, Th 0 d ∧ ρ' = [.hid p HandL, .own baseL, .d d, .un]) (hs_set (xe_callH (i := 0) (p0 := p) (HP := HandL) (Ps := fun ds => ∃ zs : List PyData, ds = [.list zs] ∧ zs ≠ [] ∧ zs.length ≤ 1000 ∧ ∀ d ∈ zs, Th 0 d) rfl (xa_cons c2 xa_nil (by
      rintro _ _ ⟨zs, rfl, h⟩ rfl
      exact ⟨zs, rfl, h⟩)) (by
      rintro _ ⟨zs, rfl, h1, h2, _⟩
      exact ⟨zs, rfl, h1, by omega⟩) (P := Th 0) (by
      rintro _ d ⟨zs, rfl, h1, h2, h3⟩ ⟨xs, e, hd⟩
      have : zs = xs := PyData.list.inj (List.cons.inj e).1
      rw [this] at h3
      exact h3 d hd)) fun d hd => ⟨d, hd, rfl⟩) ?_
  rintro _ ⟨d0, hd0, rfl⟩
  refine hs_seq (N1 := fun ρ' => ∃ d x, Th 36 d ∧ ρ' = [.hid p HandL, .own baseL, .d d, x]) (hs_forR1b (m := 36) ((xe_some (p := p) (xs := [.int 0, .int 0, .int 1, .int 2, .int 5, .int 36]) rfl (XN.d1 (xn_lst (xa_cons1 xe_int (xa_cons1 xe_int (xa_cons1 xe_int (xa_cons1 xe_int (xa_cons1 xe_int (xa_cons1 xe_int xa_nil)))))) (fun ds e => by subst e; simp))) (by simp) (by simp)).imp ?_) (by decide)
    (fun i ρ' => ∃ d x, Th i d ∧ ρ' = [.hid p HandL, .own baseL, .d d, x]) ⟨d0, _, hd0, rfl⟩ ?_ ?_) ?_
  · intro d hd
    have k : ∀ d ∈ [PyData.int 0, .int 0, .int 1, .int 2, .int 5, .int 36], ∃ n : Nat, d = .int (n : Nat) ∧ n ≤ 36 := by
      intro d hd
      simp only [List.mem_cons, List.not_mem_nil, or_false] at hd
      rcases hd with z | z | z | z | z | z
      · exact ⟨0, z, by decide⟩
      · exact ⟨0, z, by decide⟩
      · exact ⟨1, z, by decide⟩
      · exact ⟨2, z, by decide⟩
      · exact ⟨5, z, by decide⟩
      · exact ⟨36, z, by decide⟩
    exact k d hd
  · rintro i _ hi ⟨d, x, hd, rfl⟩
    obtain ⟨w1, w2, w3, w4⟩ := hd.wrap (t := i) (by omega)
    refine hs_set (xe_ixMem (xs := [.tuple [d], .list [d], .tuple [.int (i : Nat), d], .dict [(.int (i : Nat), d)]]) (XN.d1 (xn_lst (xa_cons1 (xe_tup1 (xa_cons1 (xe_var rfl) xa_nil) (by simp)) (xa_cons1 (XN.d1 (xn_lst (xa_cons1 (xe_var rfl) xa_nil) (fun ds e => by subst e; simp)))
      (xa_cons1 (xe_tup1 (xa_cons1 (xe_var rfl) (xa_cons1 (xe_var rfl) xa_nil)) (by simp)) (xa_cons1 (xe_disp1 (k := .inl (i : Nat)) (xe_var rfl) (xe_var rfl) (fun d e => by subst e; rfl)) xa_nil)))) (fun ds e => by subst e; simp))) (xe_draw (p := p) (many := 4) rfl xe_int (by decide) (by decide))) fun y hy => ⟨y, .d (.int (i : Nat)), ?_, rfl⟩
    simp only [List.mem_cons, List.not_mem_nil, or_false] at hy
    rcases hy with z | z | z | z
    · rw [z]; exact w1
    · rw [z]; exact w2
    · rw [z]; exact w3
    · rw [z]; exact w4
  · rintro n _ hn ⟨d, x, hd, rfl⟩
    exact ⟨d, x, hd.mono hn, rfl⟩
  · rintro _ ⟨d, x, hd, rfl⟩
    exact hs_ret (xe_var rfl) fun y e => ⟨y, rfl, by rw [e]; exact hd, rfl⟩
theorem len_thing {vs : List V} {Q : VK} {E : XK} {H : Hp} (h : sp_thing K vs H Q E) : vs.length = 1 := len_H (fun ds e => by rw [e]; rfl) h
end HL
end

section
set_option Elab.async false
set_option linter.all false
set_option maxRecDepth 100000
set_option maxHeartbeats 4000000
/-! k00: the defs over the errors (printed by k00_print2.py) -/
namespace HL
open PySem L2 PySem.ErrX
abbrev ErQ := Str × Option Str
def errQ : List ErQ := nm1.map (fun q => (q.1, some q.2)) ++ nm0.map fun x => (x, none)
def names28 : List Str := errQ.map (·.1)
def all29 : List Str := "FieldError" :: names28
def others : List String := ["KeyError", "IndexError", "ArithmeticError", "TypeError", "AttributeError", "RuntimeError"]
/-- what the written part says of the classes -/
structure KF (K : PySem.W.Frag) : Prop where
  ek : ∀ x ∈ all29, ErrK K (He.ga K x)
  kinds : ∀ q ∈ all29, ∀ m ∈ names28, PySem.W.kitOne K (.ref (He.ga K q)) (.ref (He.ga K m)) = some (decide (m = q))
  fe : ∀ q ∈ names28, PySem.W.kitOne K (.ref (He.ga K q)) (.ref (He.ga K "FieldError")) = some true
  ve : ∀ q ∈ all29, PySem.W.kitOne K (.ref (He.ga K q)) (.type "ValueError") = some true
  ot : ∀ q ∈ names28, ∀ n ∈ others, PySem.W.kitOne K (.ref (He.ga K q)) (.type n) = some false
  no : ∀ q ∈ nm1, PySem.W.findIn K (.ref (He.ga K q.1)) q.2 = some none
  xm : ∀ q ∈ nm1, ∀ m ∈ nm1, PySem.W.exmOne K (.ref (He.ga K q.1)) (.ref (He.ga K m.1)) = some (decide (q.1 = m.1))
  xf : ∀ q ∈ nm1, PySem.W.exmOne K (.ref (He.ga K q.1)) (.ref (He.ga K "FieldError")) = some true
/-- an error of the list, its field the value w -/
def erR (K : PySem.W.Frag) (w : V) : ErQ → VP
  | (x, none) => Er0 (He.ga K x)
  | (x, some f) => Er1 (He.ga K x) f w
theorem mono_erR {K : PySem.W.Frag} {w : V} : ∀ q, Mono (erR K w q)
  | (_, none) => mono_er0
  | (_, some _) => mono_er1
abbrev sp_made (K : PySem.W.Frag) : Sp := spV (fun (w : V) vs _ => vs = [w]) fun w => RLs (erR K w) errQ
def kindR (q : Str) : List Bool := names28.map fun m => decide (m = q)
abbrev sp_kinds (K : PySem.W.Frag) : Sp := spV (fun (q : Str) vs G => q ∈ all29 ∧ ∃ v, vs = [v] ∧ ErA (He.ga K q) v G) fun q => RLs bR (kindR q)
abbrev sp_is_other (K : PySem.W.Frag) : Sp := spV (fun (q : Str) vs G => q ∈ names28 ∧ ∃ v, vs = [v] ∧ ErA (He.ga K q) v G) fun _ v _ => v = .bl false

abbrev t__law_made (K : PySem.W.Frag) : TS :=
  (tSeq (tAsg (tLst (tCons (tErr1 (He.ga K "BadField") "part" (tVar 0)) (tCons (tErr1 (He.ga K "BadText") "at" (tVar 0)) (tCons (tErr1 (He.ga K "NoName") "name" (tVar 0)) tNil)))) (gName 1))
    (tSeq (tAsg (tOp rCat (tVar 1) (tLst (tCons (tErr0 (He.ga K "NoElement")) (tCons (tErr0 (He.ga K "NoElements")) (tCons (tErr0 (He.ga K "Nought")) (tCons (tErr0 (He.ga K "NoNumber")) (tCons (tErr0 (He.ga K "NoTable")) (tCons (tErr0 (He.ga K "NoIdeal")) (tCons (tErr0 (He.ga K "NotWithin")) (tCons (tErr0 (He.ga K "NoPrime")) tNil)))))))))) (gName 1))
    (tSeq (tAsg (tOp rCat (tVar 1) (tLst (tCons (tErr0 (He.ga K "NotPrime")) (tCons (tErr0 (He.ga K "NoPrimes")) (tCons (tErr0 (He.ga K "TooLarge")) (tCons (tErr0 (He.ga K "NoEll")) (tCons (tErr0 (He.ga K "NoMark")) (tCons (tErr0 (He.ga K "NotClear")) (tCons (tErr0 (He.ga K "NoUnits")) (tCons (tErr0 (He.ga K "NoUnit")) (tCons (tErr0 (He.ga K "NoBook")) tNil))))))))))) (gName 1))
    (tSeq (tAsg (tOp rCat (tVar 1) (tLst (tCons (tErr0 (He.ga K "NoMakers")) (tCons (tErr0 (He.ga K "NoBase")) (tCons (tErr0 (He.ga K "NotMade")) (tCons (tErr0 (He.ga K "NoOrder")) (tCons (tErr0 (He.ga K "NoRow")) (tCons (tErr0 (He.ga K "NoRoot")) (tCons (tErr0 (He.ga K "NothingDone")) (tCons (tErr0 (He.ga K "NoLine")) tNil)))))))))) (gName 1))
    (tRet (tVar 1))))))

abbrev t__law_kinds (K : PySem.W.Frag) : TS :=
  (tSeq (tAsg (tLst (tCons (tCB (rIsz K) (tCons (tVar 0) (tCons (tC (.ref (He.ga K "BadField"))) tNil))) (tCons (tCB (rIsz K) (tCons (tVar 0) (tCons (tC (.ref (He.ga K "BadText"))) tNil))) (tCons (tCB (rIsz K) (tCons (tVar 0) (tCons (tC (.ref (He.ga K "NoName"))) tNil))) (tCons (tCB (rIsz K) (tCons (tVar 0) (tCons (tC (.ref (He.ga K "NoElement"))) tNil))) tNil))))) (gName 1))
    (tSeq (tAsg (tOp rCat (tVar 1) (tLst (tCons (tCB (rIsz K) (tCons (tVar 0) (tCons (tC (.ref (He.ga K "NoElements"))) tNil))) (tCons (tCB (rIsz K) (tCons (tVar 0) (tCons (tC (.ref (He.ga K "Nought"))) tNil))) (tCons (tCB (rIsz K) (tCons (tVar 0) (tCons (tC (.ref (He.ga K "NoNumber"))) tNil))) tNil))))) (gName 1))
    (tSeq (tAsg (tOp rCat (tVar 1) (tLst (tCons (tCB (rIsz K) (tCons (tVar 0) (tCons (tC (.ref (He.ga K "NoTable"))) tNil))) (tCons (tCB (rIsz K) (tCons (tVar 0) (tCons (tC (.ref (He.ga K "NoIdeal"))) tNil))) (tCons (tCB (rIsz K) (tCons (tVar 0) (tCons (tC (.ref (He.ga K "NotWithin"))) tNil))) tNil))))) (gName 1))
    (tSeq (tAsg (tOp rCat (tVar 1) (tLst (tCons (tCB (rIsz K) (tCons (tVar 0) (tCons (tC (.ref (He.ga K "NoPrime"))) tNil))) (tCons (tCB (rIsz K) (tCons (tVar 0) (tCons (tC (.ref (He.ga K "NotPrime"))) tNil))) (tCons (tCB (rIsz K) (tCons (tVar 0) (tCons (tC (.ref (He.ga K "NoPrimes"))) tNil))) tNil))))) (gName 1))
    (tSeq (tAsg (tOp rCat (tVar 1) (tLst (tCons (tCB (rIsz K) (tCons (tVar 0) (tCons (tC (.ref (He.ga K "TooLarge"))) tNil))) (tCons (tCB (rIsz K) (tCons (tVar 0) (tCons (tC (.ref (He.ga K "NoEll"))) tNil))) (tCons (tCB (rIsz K) (tCons (tVar 0) (tCons (tC (.ref (He.ga K "NoMark"))) tNil))) tNil))))) (gName 1))
    (tSeq (tAsg (tOp rCat (tVar 1) (tLst (tCons (tCB (rIsz K) (tCons (tVar 0) (tCons (tC (.ref (He.ga K "NotClear"))) tNil))) (tCons (tCB (rIsz K) (tCons (tVar 0) (tCons (tC (.ref (He.ga K "NoUnits"))) tNil))) (tCons (tCB (rIsz K) (tCons (tVar 0) (tCons (tC (.ref (He.ga K "NoUnit"))) tNil))) tNil))))) (gName 1))
    (tSeq (tAsg (tOp rCat (tVar 1) (tLst (tCons (tCB (rIsz K) (tCons (tVar 0) (tCons (tC (.ref (He.ga K "NoBook"))) tNil))) (tCons (tCB (rIsz K) (tCons (tVar 0) (tCons (tC (.ref (He.ga K "NoMakers"))) tNil))) (tCons (tCB (rIsz K) (tCons (tVar 0) (tCons (tC (.ref (He.ga K "NoBase"))) tNil))) tNil))))) (gName 1))
    (tSeq (tAsg (tOp rCat (tVar 1) (tLst (tCons (tCB (rIsz K) (tCons (tVar 0) (tCons (tC (.ref (He.ga K "NotMade"))) tNil))) (tCons (tCB (rIsz K) (tCons (tVar 0) (tCons (tC (.ref (He.ga K "NoOrder"))) tNil))) (tCons (tCB (rIsz K) (tCons (tVar 0) (tCons (tC (.ref (He.ga K "NoRow"))) tNil))) tNil))))) (gName 1))
    (tSeq (tAsg (tOp rCat (tVar 1) (tLst (tCons (tCB (rIsz K) (tCons (tVar 0) (tCons (tC (.ref (He.ga K "NoRoot"))) tNil))) (tCons (tCB (rIsz K) (tCons (tVar 0) (tCons (tC (.ref (He.ga K "NothingDone"))) tNil))) (tCons (tCB (rIsz K) (tCons (tVar 0) (tCons (tC (.ref (He.ga K "NoLine"))) tNil))) tNil))))) (gName 1))
    (tRet (tVar 1)))))))))))

abbrev t__law_is_other (K : PySem.W.Frag) : TS :=
  (tSeq (tAsg (tOrV (tCB (rIsz K) (tCons (tVar 0) (tCons (tC (.ty "KeyError")) tNil))) (tOrV (tCB (rIsz K) (tCons (tVar 0) (tCons (tC (.ty "IndexError")) tNil))) (tCB (rIsz K) (tCons (tVar 0) (tCons (tC (.ty "ArithmeticError")) tNil))))) (gName 1))
    (tRet (tOrV (tVar 1) (tOrV (tCB (rIsz K) (tCons (tVar 0) (tCons (tC (.ty "TypeError")) tNil))) (tOrV (tCB (rIsz K) (tCons (tVar 0) (tCons (tC (.ty "AttributeError")) tNil))) (tCB (rIsz K) (tCons (tVar 0) (tCons (tC (.ty "RuntimeError")) tNil))))))))

variable {K : PySem.W.Frag} {B : Bs} {G H G2 H2 : Hp} {σ : St} {ρ : List Sl} {ta tb tc te : TE} {t u : TT} {N N1 Bk Ct : LP} {Rr : Rt → LP} {ts us : TS}
/-! ### from a body to a promise by values -/
def RtR (K : PySem.W.Frag) (R : VP) : Rt → Prop
  | .d d => ∀ v G, Dt K G v d → R v G
  | .raw P => ∀ v G, P v G → R v G
  | .own _ => False
abbrev iniV (Ps : List VP) (n : Nat) : List Sl := Ps.map Sl.raw ++ List.replicate n .un
theorem env_startV {M : Addr → Prop} {N : List Str} {vs : List V} {Ps : List VP} (gh : Same G H) (r : AllR (fun P : VP => P) G Ps vs) (m : ∀ P ∈ Ps, Mono P) (h : vs.length ≤ N.length) : Env K ⟨G, H, M⟩ G H (L2.start N vs) (iniV Ps (N.length - Ps.length)) := by
  have hl := AllR.length r
  refine ⟨⟨gh, Same.refl _, fun _ _ _ e => e, fun _ _ e => e, fun _ _ e => .inl e⟩, by unfold L2.start; simp [hl], fun _ => [], ⟨fun i l q => ?_, fun _ _ => rfl, fun _ _ _ h => (by cases h), fun _ _ h => (by cases h)⟩⟩
  rw [List.getElem?_append, List.length_map] at q
  by_cases z : i < Ps.length
  · rw [if_pos z, List.getElem?_map] at q
    cases e : Ps[i]? with
    | none => rw [e] at q; cases q
    | some P =>
      rw [e] at q
      cases q
      obtain ⟨v, h1, h2⟩ := AllR.get' r e
      refine ⟨rfl, v, ?_, fun G G' s p => m P (List.mem_of_getElem? e) v G G' s p, h2⟩
      rw [start_at h, if_pos (by rw [hl]; exact z), h1]
      rfl
  · rw [if_neg z, List.getElem?_replicate] at q
    by_cases y : i - Ps.length < N.length - Ps.length
    · rw [if_pos y] at q; cases q; exact rfl
    · rw [if_neg y] at q; cases q
theorem body_V {γ : Type} {A : γ → List V → Hp → Prop} {R : γ → VP} {Ps : γ → List VP} {N : List Str} {vs : List V} {Q : VK} {E : XK} {H : Hp} (h : spV A R vs H Q E) (hA : ∀ g vs G, A g vs G → AllR (fun P : VP => P) G (Ps g) vs) (hm : ∀ g, ∀ P ∈ Ps g, Mono P) (hn : vs.length ≤ N.length)
    (hs : ∀ B g vs G, (∀ p, ¬ B.M p) → A g vs G → HS K B ts (iniV (Ps g) (N.length - (Ps g).length)) (fun _ => ∀ G, R g .non G) (fun r _ => RtR K (R g) r) nev nev) : ts { nx := fun _ H' => Q .non H', rt := Q } (L2.start N vs) H := by
  obtain ⟨G, g, gh, r, q⟩ := h
  have key : ∀ {v σ' G' H' ρ'}, R g v G' → Env K ⟨G, H, fun _ => False⟩ G' H' σ' ρ' → Q v H' := fun {v σ' G' H' ρ'} hr e => q v G' H' e.f.g0 e.f.gh (fun b o z => e.f.fr b o (fun y => y) z) e.f.nw hr
  refine hs ⟨G, H, fun _ => False⟩ g vs G (fun _ z => z) r _ _ G H (env_startV gh (hA g vs G r) (hm g) hn) (fun σ' G' H' ρ' _ hr e => key (hr G') e) (fun v r σ' G' H' ρ' hr e ro => ?_) (fun _ _ _ _ _ z => z.elim) (fun _ _ _ _ _ z => z.elim)
  cases r with
  | d d => exact key (hr v G' ro) e
  | raw P => exact key (hr v G' ro) e
  | own ds => exact hr.elim
theorem len_V {γ : Type} {A : γ → List V → Hp → Prop} {R : γ → VP} {n : Nat} {vs : List V} {Q : VK} {E : XK} {H : Hp} (hd : ∀ g vs G, A g vs G → vs.length = n) (h : spV A R vs H Q E) : vs.length = n := by
  obtain ⟨G, g, _, r, _⟩ := h
  exact hd g vs G r

theorem len_made {vs : List V} {Q : VK} {E : XK} {H : Hp} (h : sp_made K vs H Q E) : vs.length = 1 := len_V (fun g vs G e => by rw [e]; rfl) h
theorem body_made {vs : List V} {Q : VK} {E : XK} {H : Hp} (h : sp_made K vs H Q E) : t__law_made K { nx := fun _ H' => Q .non H', rt := Q } (L2.start ["thing", "found"] vs) H := by
  refine body_V (K := K) (Ps := fun w => [fun v _ => v = w]) h (fun w vs G e => by subst e; exact ⟨rfl, trivial⟩) (fun w P hP => by obtain rfl := List.mem_singleton.mp hP; exact mono_eq) (by rw [len_made h]; decide) ?_
  rintro B w _ G hM rfl
  show HS K B _ [.raw fun v _ => v = w, .un] _ _ _ _
  refine hs_seq (N1 := (· = [.raw fun v _ => v = w, .raw (RLs (erR K w) (([("BadField", some "part"), ("BadText", some "at"), ("NoName", some "name")] : List ErQ)))])) (hs_setV (P := RLs (erR K w) (([("BadField", some "part"), ("BadText", some "at"), ("NoName", some "name")] : List ErQ))) (xv_lst (R := erR K w) (qs := ([("BadField", some "part"), ("BadText", some "at"), ("NoName", some "name")] : List ErQ)) mono_erR (xva_cons mono_erR (xv_err1 (xv_raw (P := fun v _ => v = w) rfl)) (xva_cons mono_erR (xv_err1 (xv_raw (P := fun v _ => v = w) rfl)) (xva_cons mono_erR (xv_err1 (xv_raw (P := fun v _ => v = w) rfl)) xva_nil))) (by decide)) (mono_rls mono_erR) rfl) ?_
  rintro _ rfl
  refine hs_seq (N1 := (· = [.raw fun v _ => v = w, .raw (RLs (erR K w) ((([("BadField", some "part"), ("BadText", some "at"), ("NoName", some "name")] : List ErQ)) ++ ([("NoElement", none), ("NoElements", none), ("Nought", none), ("NoNumber", none), ("NoTable", none), ("NoIdeal", none), ("NotWithin", none), ("NoPrime", none)] : List ErQ)))])) (hs_setV (P := RLs (erR K w) ((([("BadField", some "part"), ("BadText", some "at"), ("NoName", some "name")] : List ErQ)) ++ ([("NoElement", none), ("NoElements", none), ("Nought", none), ("NoNumber", none), ("NoTable", none), ("NoIdeal", none), ("NotWithin", none), ("NoPrime", none)] : List ErQ))) (xv_cat mono_erR (xv_raw (P := RLs (erR K w) (([("BadField", some "part"), ("BadText", some "at"), ("NoName", some "name")] : List ErQ))) rfl) (xv_lst (R := erR K w) (qs := ([("NoElement", none), ("NoElements", none), ("Nought", none), ("NoNumber", none), ("NoTable", none), ("NoIdeal", none), ("NotWithin", none), ("NoPrime", none)] : List ErQ)) mono_erR (xva_cons mono_erR xv_err0 (xva_cons mono_erR xv_err0 (xva_cons mono_erR xv_err0 (xva_cons mono_erR xv_err0 (xva_cons mono_erR xv_err0 (xva_cons mono_erR xv_err0 (xva_cons mono_erR xv_err0 (xva_cons mono_erR xv_err0 xva_nil)))))))) (by decide)) (by decide)) (mono_rls mono_erR) rfl) ?_
  rintro _ rfl
  refine hs_seq (N1 := (· = [.raw fun v _ => v = w, .raw (RLs (erR K w) (((([("BadField", some "part"), ("BadText", some "at"), ("NoName", some "name")] : List ErQ)) ++ ([("NoElement", none), ("NoElements", none), ("Nought", none), ("NoNumber", none), ("NoTable", none), ("NoIdeal", none), ("NotWithin", none), ("NoPrime", none)] : List ErQ)) ++ ([("NotPrime", none), ("NoPrimes", none), ("TooLarge", none), ("NoEll", none), ("NoMark", none), ("NotClear", none), ("NoUnits", none), ("NoUnit", none), ("NoBook", none)] : List ErQ)))])) (hs_setV (P := RLs (erR K w) (((([("BadField", some "part"), ("BadText", some "at"), ("NoName", some "name")] : List ErQ)) ++ ([("NoElement", none), ("NoElements", none), ("Nought", none), ("NoNumber", none), ("NoTable", none), ("NoIdeal", none), ("NotWithin", none), ("NoPrime", none)] : List ErQ)) ++ ([("NotPrime", none), ("NoPrimes", none), ("TooLarge", none), ("NoEll", none), ("NoMark", none), ("NotClear", none), ("NoUnits", none), ("NoUnit", none), ("NoBook", none)] : List ErQ))) (xv_cat mono_erR (xv_raw (P := RLs (erR K w) ((([("BadField", some "part"), ("BadText", some "at"), ("NoName", some "name")] : List ErQ)) ++ ([("NoElement", none), ("NoElements", none), ("Nought", none), ("NoNumber", none), ("NoTable", none), ("NoIdeal", none), ("NotWithin", none), ("NoPrime", none)] : List ErQ))) rfl) (xv_lst (R := erR K w) (qs := ([("NotPrime", none), ("NoPrimes", none), ("TooLarge", none), ("NoEll", none), ("NoMark", none), ("NotClear", none), ("NoUnits", none), ("NoUnit", none), ("NoBook", none)] : List ErQ)) mono_erR (xva_cons mono_erR xv_err0 (xva_cons mono_erR xv_err0 (xva_cons mono_erR xv_err0 (xva_cons mono_erR xv_err0 (xva_cons mono_erR xv_err0 (xva_cons mono_erR xv_err0 (xva_cons mono_erR xv_err0 (xva_cons mono_erR xv_err0 (xva_cons mono_erR xv_err0 xva_nil))))))))) (by decide)) (by decide)) (mono_rls mono_erR) rfl) ?_
  rintro _ rfl
  refine hs_seq (N1 := (· = [.raw fun v _ => v = w, .raw (RLs (erR K w) ((((([("BadField", some "part"), ("BadText", some "at"), ("NoName", some "name")] : List ErQ)) ++ ([("NoElement", none), ("NoElements", none), ("Nought", none), ("NoNumber", none), ("NoTable", none), ("NoIdeal", none), ("NotWithin", none), ("NoPrime", none)] : List ErQ)) ++ ([("NotPrime", none), ("NoPrimes", none), ("TooLarge", none), ("NoEll", none), ("NoMark", none), ("NotClear", none), ("NoUnits", none), ("NoUnit", none), ("NoBook", none)] : List ErQ)) ++ ([("NoMakers", none), ("NoBase", none), ("NotMade", none), ("NoOrder", none), ("NoRow", none), ("NoRoot", none), ("NothingDone", none), ("NoLine", none)] : List ErQ)))])) (hs_setV (P := RLs (erR K w) ((((([("BadField", some "part"), ("BadText", some "at"), ("NoName", some "name")] : List ErQ)) ++ ([("NoElement", none), ("NoElements", none), ("Nought", none), ("NoNumber", none), ("NoTable", none), ("NoIdeal", none), ("NotWithin", none), ("NoPrime", none)] : List ErQ)) ++ ([("NotPrime", none), ("NoPrimes", none), ("TooLarge", none), ("NoEll", none), ("NoMark", none), ("NotClear", none), ("NoUnits", none), ("NoUnit", none), ("NoBook", none)] : List ErQ)) ++ ([("NoMakers", none), ("NoBase", none), ("NotMade", none), ("NoOrder", none), ("NoRow", none), ("NoRoot", none), ("NothingDone", none), ("NoLine", none)] : List ErQ))) (xv_cat mono_erR (xv_raw (P := RLs (erR K w) (((([("BadField", some "part"), ("BadText", some "at"), ("NoName", some "name")] : List ErQ)) ++ ([("NoElement", none), ("NoElements", none), ("Nought", none), ("NoNumber", none), ("NoTable", none), ("NoIdeal", none), ("NotWithin", none), ("NoPrime", none)] : List ErQ)) ++ ([("NotPrime", none), ("NoPrimes", none), ("TooLarge", none), ("NoEll", none), ("NoMark", none), ("NotClear", none), ("NoUnits", none), ("NoUnit", none), ("NoBook", none)] : List ErQ))) rfl) (xv_lst (R := erR K w) (qs := ([("NoMakers", none), ("NoBase", none), ("NotMade", none), ("NoOrder", none), ("NoRow", none), ("NoRoot", none), ("NothingDone", none), ("NoLine", none)] : List ErQ)) mono_erR (xva_cons mono_erR xv_err0 (xva_cons mono_erR xv_err0 (xva_cons mono_erR xv_err0 (xva_cons mono_erR xv_err0 (xva_cons mono_erR xv_err0 (xva_cons mono_erR xv_err0 (xva_cons mono_erR xv_err0 (xva_cons mono_erR xv_err0 xva_nil)))))))) (by decide)) (by decide)) (mono_rls mono_erR) rfl) ?_
  rintro _ rfl
  exact hs_retV (xv_raw (P := RLs (erR K w) ((((([("BadField", some "part"), ("BadText", some "at"), ("NoName", some "name")] : List ErQ)) ++ ([("NoElement", none), ("NoElements", none), ("Nought", none), ("NoNumber", none), ("NoTable", none), ("NoIdeal", none), ("NotWithin", none), ("NoPrime", none)] : List ErQ)) ++ ([("NotPrime", none), ("NoPrimes", none), ("TooLarge", none), ("NoEll", none), ("NoMark", none), ("NotClear", none), ("NoUnits", none), ("NoUnit", none), ("NoBook", none)] : List ErQ)) ++ ([("NoMakers", none), ("NoBase", none), ("NotMade", none), ("NoOrder", none), ("NoRow", none), ("NoRoot", none), ("NothingDone", none), ("NoLine", none)] : List ErQ))) rfl) fun v G h => h
theorem len_kinds {vs : List V} {Q : VK} {E : XK} {H : Hp} (h : sp_kinds K vs H Q E) : vs.length = 1 := len_V (fun g vs G ⟨_, v, e, _⟩ => by rw [e]; rfl) h
theorem xv_bool {te : TE} {b : Bool} (h : XE K B ρ te (· = .bool b)) : XV K B ρ te (bR b) := h.v.imp fun v G ⟨d, e, r⟩ => by subst e; exact dt_bl r
theorem body_kinds {vs : List V} {Q : VK} {E : XK} {H : Hp} (F : KF K) (h : sp_kinds K vs H Q E) : t__law_kinds K { nx := fun _ H' => Q .non H', rt := Q } (L2.start ["one", "found"] vs) H := by
  refine body_V (K := K) (Ps := fun q => [ErA (He.ga K q)]) h (fun q vs G ⟨_, v, e, hv⟩ => by subst e; exact ⟨hv, trivial⟩) (fun w P hP => by obtain rfl := List.mem_singleton.mp hP; exact mono_erA) (by rw [len_kinds h]; decide) ?_
  rintro B q _ G hM ⟨hq, _⟩
  have hk : ∀ {x : Sl} (c : Str), c ∈ names28 → XV K B [.raw (ErA (He.ga K q)), x] (tCB (rIsz K) (tCons (tVar 0) (tCons (tC (.ref (He.ga K c))) tNil))) (bR (decide (c = q))) := fun {x} c hc =>
    xv_bool (xe_isz (F.ek q hq) (xv_raw rfl) (.own _) (F.kinds q hq c hc))
  show HS K B _ [.raw (ErA (He.ga K q)), .un] _ _ _ _
  refine hs_seq (N1 := (· = [.raw (ErA (He.ga K q)), .raw (RLs bR ((["BadField", "BadText", "NoName", "NoElement"] : List Str).map (fun m => decide (m = q))))])) (hs_setV (P := RLs bR ((["BadField", "BadText", "NoName", "NoElement"] : List Str).map (fun m => decide (m = q)))) (xv_lst (R := bR) (qs := (["BadField", "BadText", "NoName", "NoElement"] : List Str).map (fun m => decide (m = q))) mono_bR (xva_cons mono_bR (hk "BadField" (by decide +kernel)) (xva_cons mono_bR (hk "BadText" (by decide +kernel)) (xva_cons mono_bR (hk "NoName" (by decide +kernel)) (xva_cons mono_bR (hk "NoElement" (by decide +kernel)) xva_nil)))) (by simp)) (mono_rls mono_bR) rfl) ?_
  rintro _ rfl
  refine hs_seq (N1 := (· = [.raw (ErA (He.ga K q)), .raw (RLs bR (((["BadField", "BadText", "NoName", "NoElement"] : List Str).map (fun m => decide (m = q))) ++ (["NoElements", "Nought", "NoNumber"] : List Str).map (fun m => decide (m = q))))])) (hs_setV (P := RLs bR (((["BadField", "BadText", "NoName", "NoElement"] : List Str).map (fun m => decide (m = q))) ++ (["NoElements", "Nought", "NoNumber"] : List Str).map (fun m => decide (m = q)))) (xv_cat mono_bR (xv_raw (P := RLs bR ((["BadField", "BadText", "NoName", "NoElement"] : List Str).map (fun m => decide (m = q)))) rfl) (xv_lst (R := bR) (qs := (["NoElements", "Nought", "NoNumber"] : List Str).map (fun m => decide (m = q))) mono_bR (xva_cons mono_bR (hk "NoElements" (by decide +kernel)) (xva_cons mono_bR (hk "Nought" (by decide +kernel)) (xva_cons mono_bR (hk "NoNumber" (by decide +kernel)) xva_nil))) (by simp)) (by simp)) (mono_rls mono_bR) rfl) ?_
  rintro _ rfl
  refine hs_seq (N1 := (· = [.raw (ErA (He.ga K q)), .raw (RLs bR ((((["BadField", "BadText", "NoName", "NoElement"] : List Str).map (fun m => decide (m = q))) ++ (["NoElements", "Nought", "NoNumber"] : List Str).map (fun m => decide (m = q))) ++ (["NoTable", "NoIdeal", "NotWithin"] : List Str).map (fun m => decide (m = q))))])) (hs_setV (P := RLs bR ((((["BadField", "BadText", "NoName", "NoElement"] : List Str).map (fun m => decide (m = q))) ++ (["NoElements", "Nought", "NoNumber"] : List Str).map (fun m => decide (m = q))) ++ (["NoTable", "NoIdeal", "NotWithin"] : List Str).map (fun m => decide (m = q)))) (xv_cat mono_bR (xv_raw (P := RLs bR (((["BadField", "BadText", "NoName", "NoElement"] : List Str).map (fun m => decide (m = q))) ++ (["NoElements", "Nought", "NoNumber"] : List Str).map (fun m => decide (m = q)))) rfl) (xv_lst (R := bR) (qs := (["NoTable", "NoIdeal", "NotWithin"] : List Str).map (fun m => decide (m = q))) mono_bR (xva_cons mono_bR (hk "NoTable" (by decide +kernel)) (xva_cons mono_bR (hk "NoIdeal" (by decide +kernel)) (xva_cons mono_bR (hk "NotWithin" (by decide +kernel)) xva_nil))) (by simp)) (by simp)) (mono_rls mono_bR) rfl) ?_
  rintro _ rfl
  refine hs_seq (N1 := (· = [.raw (ErA (He.ga K q)), .raw (RLs bR (((((["BadField", "BadText", "NoName", "NoElement"] : List Str).map (fun m => decide (m = q))) ++ (["NoElements", "Nought", "NoNumber"] : List Str).map (fun m => decide (m = q))) ++ (["NoTable", "NoIdeal", "NotWithin"] : List Str).map (fun m => decide (m = q))) ++ (["NoPrime", "NotPrime", "NoPrimes"] : List Str).map (fun m => decide (m = q))))])) (hs_setV (P := RLs bR (((((["BadField", "BadText", "NoName", "NoElement"] : List Str).map (fun m => decide (m = q))) ++ (["NoElements", "Nought", "NoNumber"] : List Str).map (fun m => decide (m = q))) ++ (["NoTable", "NoIdeal", "NotWithin"] : List Str).map (fun m => decide (m = q))) ++ (["NoPrime", "NotPrime", "NoPrimes"] : List Str).map (fun m => decide (m = q)))) (xv_cat mono_bR (xv_raw (P := RLs bR ((((["BadField", "BadText", "NoName", "NoElement"] : List Str).map (fun m => decide (m = q))) ++ (["NoElements", "Nought", "NoNumber"] : List Str).map (fun m => decide (m = q))) ++ (["NoTable", "NoIdeal", "NotWithin"] : List Str).map (fun m => decide (m = q)))) rfl) (xv_lst (R := bR) (qs := (["NoPrime", "NotPrime", "NoPrimes"] : List Str).map (fun m => decide (m = q))) mono_bR (xva_cons mono_bR (hk "NoPrime" (by decide +kernel)) (xva_cons mono_bR (hk "NotPrime" (by decide +kernel)) (xva_cons mono_bR (hk "NoPrimes" (by decide +kernel)) xva_nil))) (by simp)) (by simp)) (mono_rls mono_bR) rfl) ?_
  rintro _ rfl
  refine hs_seq (N1 := (· = [.raw (ErA (He.ga K q)), .raw (RLs bR ((((((["BadField", "BadText", "NoName", "NoElement"] : List Str).map (fun m => decide (m = q))) ++ (["NoElements", "Nought", "NoNumber"] : List Str).map (fun m => decide (m = q))) ++ (["NoTable", "NoIdeal", "NotWithin"] : List Str).map (fun m => decide (m = q))) ++ (["NoPrime", "NotPrime", "NoPrimes"] : List Str).map (fun m => decide (m = q))) ++ (["TooLarge", "NoEll", "NoMark"] : List Str).map (fun m => decide (m = q))))])) (hs_setV (P := RLs bR ((((((["BadField", "BadText", "NoName", "NoElement"] : List Str).map (fun m => decide (m = q))) ++ (["NoElements", "Nought", "NoNumber"] : List Str).map (fun m => decide (m = q))) ++ (["NoTable", "NoIdeal", "NotWithin"] : List Str).map (fun m => decide (m = q))) ++ (["NoPrime", "NotPrime", "NoPrimes"] : List Str).map (fun m => decide (m = q))) ++ (["TooLarge", "NoEll", "NoMark"] : List Str).map (fun m => decide (m = q)))) (xv_cat mono_bR (xv_raw (P := RLs bR (((((["BadField", "BadText", "NoName", "NoElement"] : List Str).map (fun m => decide (m = q))) ++ (["NoElements", "Nought", "NoNumber"] : List Str).map (fun m => decide (m = q))) ++ (["NoTable", "NoIdeal", "NotWithin"] : List Str).map (fun m => decide (m = q))) ++ (["NoPrime", "NotPrime", "NoPrimes"] : List Str).map (fun m => decide (m = q)))) rfl) (xv_lst (R := bR) (qs := (["TooLarge", "NoEll", "NoMark"] : List Str).map (fun m => decide (m = q))) mono_bR (xva_cons mono_bR (hk "TooLarge" (by decide +kernel)) (xva_cons mono_bR (hk "NoEll" (by decide +kernel)) (xva_cons mono_bR (hk "NoMark" (by decide +kernel)) xva_nil))) (by simp)) (by simp)) (mono_rls mono_bR) rfl) ?_
  rintro _ rfl
  refine hs_seq (N1 := (· = [.raw (ErA (He.ga K q)), .raw (RLs bR (((((((["BadField", "BadText", "NoName", "NoElement"] : List Str).map (fun m => decide (m = q))) ++ (["NoElements", "Nought", "NoNumber"] : List Str).map (fun m => decide (m = q))) ++ (["NoTable", "NoIdeal", "NotWithin"] : List Str).map (fun m => decide (m = q))) ++ (["NoPrime", "NotPrime", "NoPrimes"] : List Str).map (fun m => decide (m = q))) ++ (["TooLarge", "NoEll", "NoMark"] : List Str).map (fun m => decide (m = q))) ++ (["NotClear", "NoUnits", "NoUnit"] : List Str).map (fun m => decide (m = q))))])) (hs_setV (P := RLs bR (((((((["BadField", "BadText", "NoName", "NoElement"] : List Str).map (fun m => decide (m = q))) ++ (["NoElements", "Nought", "NoNumber"] : List Str).map (fun m => decide (m = q))) ++ (["NoTable", "NoIdeal", "NotWithin"] : List Str).map (fun m => decide (m = q))) ++ (["NoPrime", "NotPrime", "NoPrimes"] : List Str).map (fun m => decide (m = q))) ++ (["TooLarge", "NoEll", "NoMark"] : List Str).map (fun m => decide (m = q))) ++ (["NotClear", "NoUnits", "NoUnit"] : List Str).map (fun m => decide (m = q)))) (xv_cat mono_bR (xv_raw (P := RLs bR ((((((["BadField", "BadText", "NoName", "NoElement"] : List Str).map (fun m => decide (m = q))) ++ (["NoElements", "Nought", "NoNumber"] : List Str).map (fun m => decide (m = q))) ++ (["NoTable", "NoIdeal", "NotWithin"] : List Str).map (fun m => decide (m = q))) ++ (["NoPrime", "NotPrime", "NoPrimes"] : List Str).map (fun m => decide (m = q))) ++ (["TooLarge", "NoEll", "NoMark"] : List Str).map (fun m => decide (m = q)))) rfl) (xv_lst (R := bR) (qs := (["NotClear", "NoUnits", "NoUnit"] : List Str).map (fun m => decide (m = q))) mono_bR (xva_cons mono_bR (hk "NotClear" (by decide +kernel)) (xva_cons mono_bR (hk "NoUnits" (by decide +kernel)) (xva_cons mono_bR (hk "NoUnit" (by decide +kernel)) xva_nil))) (by simp)) (by simp)) (mono_rls mono_bR) rfl) ?_
  rintro _ rfl
  refine hs_seq (N1 := (· = [.raw (ErA (He.ga K q)), .raw (RLs bR ((((((((["BadField", "BadText", "NoName", "NoElement"] : List Str).map (fun m => decide (m = q))) ++ (["NoElements", "Nought", "NoNumber"] : List Str).map (fun m => decide (m = q))) ++ (["NoTable", "NoIdeal", "NotWithin"] : List Str).map (fun m => decide (m = q))) ++ (["NoPrime", "NotPrime", "NoPrimes"] : List Str).map (fun m => decide (m = q))) ++ (["TooLarge", "NoEll", "NoMark"] : List Str).map (fun m => decide (m = q))) ++ (["NotClear", "NoUnits", "NoUnit"] : List Str).map (fun m => decide (m = q))) ++ (["NoBook", "NoMakers", "NoBase"] : List Str).map (fun m => decide (m = q))))])) (hs_setV (P := RLs bR ((((((((["BadField", "BadText", "NoName", "NoElement"] : List Str).map (fun m => decide (m = q))) ++ (["NoElements", "Nought", "NoNumber"] : List Str).map (fun m => decide (m = q))) ++ (["NoTable", "NoIdeal", "NotWithin"] : List Str).map (fun m => decide (m = q))) ++ (["NoPrime", "NotPrime", "NoPrimes"] : List Str).map (fun m => decide (m = q))) ++ (["TooLarge", "NoEll", "NoMark"] : List Str).map (fun m => decide (m = q))) ++ (["NotClear", "NoUnits", "NoUnit"] : List Str).map (fun m => decide (m = q))) ++ (["NoBook", "NoMakers", "NoBase"] : List Str).map (fun m => decide (m = q)))) (xv_cat mono_bR (xv_raw (P := RLs bR (((((((["BadField", "BadText", "NoName", "NoElement"] : List Str).map (fun m => decide (m = q))) ++ (["NoElements", "Nought", "NoNumber"] : List Str).map (fun m => decide (m = q))) ++ (["NoTable", "NoIdeal", "NotWithin"] : List Str).map (fun m => decide (m = q))) ++ (["NoPrime", "NotPrime", "NoPrimes"] : List Str).map (fun m => decide (m = q))) ++ (["TooLarge", "NoEll", "NoMark"] : List Str).map (fun m => decide (m = q))) ++ (["NotClear", "NoUnits", "NoUnit"] : List Str).map (fun m => decide (m = q)))) rfl) (xv_lst (R := bR) (qs := (["NoBook", "NoMakers", "NoBase"] : List Str).map (fun m => decide (m = q))) mono_bR (xva_cons mono_bR (hk "NoBook" (by decide +kernel)) (xva_cons mono_bR (hk "NoMakers" (by decide +kernel)) (xva_cons mono_bR (hk "NoBase" (by decide +kernel)) xva_nil))) (by simp)) (by simp)) (mono_rls mono_bR) rfl) ?_
  rintro _ rfl
  refine hs_seq (N1 := (· = [.raw (ErA (He.ga K q)), .raw (RLs bR (((((((((["BadField", "BadText", "NoName", "NoElement"] : List Str).map (fun m => decide (m = q))) ++ (["NoElements", "Nought", "NoNumber"] : List Str).map (fun m => decide (m = q))) ++ (["NoTable", "NoIdeal", "NotWithin"] : List Str).map (fun m => decide (m = q))) ++ (["NoPrime", "NotPrime", "NoPrimes"] : List Str).map (fun m => decide (m = q))) ++ (["TooLarge", "NoEll", "NoMark"] : List Str).map (fun m => decide (m = q))) ++ (["NotClear", "NoUnits", "NoUnit"] : List Str).map (fun m => decide (m = q))) ++ (["NoBook", "NoMakers", "NoBase"] : List Str).map (fun m => decide (m = q))) ++ (["NotMade", "NoOrder", "NoRow"] : List Str).map (fun m => decide (m = q))))])) (hs_setV (P := RLs bR (((((((((["BadField", "BadText", "NoName", "NoElement"] : List Str).map (fun m => decide (m = q))) ++ (["NoElements", "Nought", "NoNumber"] : List Str).map (fun m => decide (m = q))) ++ (["NoTable", "NoIdeal", "NotWithin"] : List Str).map (fun m => decide (m = q))) ++ (["NoPrime", "NotPrime", "NoPrimes"] : List Str).map (fun m => decide (m = q))) ++ (["TooLarge", "NoEll", "NoMark"] : List Str).map (fun m => decide (m = q))) ++ (["NotClear", "NoUnits", "NoUnit"] : List Str).map (fun m => decide (m = q))) ++ (["NoBook", "NoMakers", "NoBase"] : List Str).map (fun m => decide (m = q))) ++ (["NotMade", "NoOrder", "NoRow"] : List Str).map (fun m => decide (m = q)))) (xv_cat mono_bR (xv_raw (P := RLs bR ((((((((["BadField", "BadText", "NoName", "NoElement"] : List Str).map (fun m => decide (m = q))) ++ (["NoElements", "Nought", "NoNumber"] : List Str).map (fun m => decide (m = q))) ++ (["NoTable", "NoIdeal", "NotWithin"] : List Str).map (fun m => decide (m = q))) ++ (["NoPrime", "NotPrime", "NoPrimes"] : List Str).map (fun m => decide (m = q))) ++ (["TooLarge", "NoEll", "NoMark"] : List Str).map (fun m => decide (m = q))) ++ (["NotClear", "NoUnits", "NoUnit"] : List Str).map (fun m => decide (m = q))) ++ (["NoBook", "NoMakers", "NoBase"] : List Str).map (fun m => decide (m = q)))) rfl) (xv_lst (R := bR) (qs := (["NotMade", "NoOrder", "NoRow"] : List Str).map (fun m => decide (m = q))) mono_bR (xva_cons mono_bR (hk "NotMade" (by decide +kernel)) (xva_cons mono_bR (hk "NoOrder" (by decide +kernel)) (xva_cons mono_bR (hk "NoRow" (by decide +kernel)) xva_nil))) (by simp)) (by simp)) (mono_rls mono_bR) rfl) ?_
  rintro _ rfl
  refine hs_seq (N1 := (· = [.raw (ErA (He.ga K q)), .raw (RLs bR ((((((((((["BadField", "BadText", "NoName", "NoElement"] : List Str).map (fun m => decide (m = q))) ++ (["NoElements", "Nought", "NoNumber"] : List Str).map (fun m => decide (m = q))) ++ (["NoTable", "NoIdeal", "NotWithin"] : List Str).map (fun m => decide (m = q))) ++ (["NoPrime", "NotPrime", "NoPrimes"] : List Str).map (fun m => decide (m = q))) ++ (["TooLarge", "NoEll", "NoMark"] : List Str).map (fun m => decide (m = q))) ++ (["NotClear", "NoUnits", "NoUnit"] : List Str).map (fun m => decide (m = q))) ++ (["NoBook", "NoMakers", "NoBase"] : List Str).map (fun m => decide (m = q))) ++ (["NotMade", "NoOrder", "NoRow"] : List Str).map (fun m => decide (m = q))) ++ (["NoRoot", "NothingDone", "NoLine"] : List Str).map (fun m => decide (m = q))))])) (hs_setV (P := RLs bR ((((((((((["BadField", "BadText", "NoName", "NoElement"] : List Str).map (fun m => decide (m = q))) ++ (["NoElements", "Nought", "NoNumber"] : List Str).map (fun m => decide (m = q))) ++ (["NoTable", "NoIdeal", "NotWithin"] : List Str).map (fun m => decide (m = q))) ++ (["NoPrime", "NotPrime", "NoPrimes"] : List Str).map (fun m => decide (m = q))) ++ (["TooLarge", "NoEll", "NoMark"] : List Str).map (fun m => decide (m = q))) ++ (["NotClear", "NoUnits", "NoUnit"] : List Str).map (fun m => decide (m = q))) ++ (["NoBook", "NoMakers", "NoBase"] : List Str).map (fun m => decide (m = q))) ++ (["NotMade", "NoOrder", "NoRow"] : List Str).map (fun m => decide (m = q))) ++ (["NoRoot", "NothingDone", "NoLine"] : List Str).map (fun m => decide (m = q)))) (xv_cat mono_bR (xv_raw (P := RLs bR (((((((((["BadField", "BadText", "NoName", "NoElement"] : List Str).map (fun m => decide (m = q))) ++ (["NoElements", "Nought", "NoNumber"] : List Str).map (fun m => decide (m = q))) ++ (["NoTable", "NoIdeal", "NotWithin"] : List Str).map (fun m => decide (m = q))) ++ (["NoPrime", "NotPrime", "NoPrimes"] : List Str).map (fun m => decide (m = q))) ++ (["TooLarge", "NoEll", "NoMark"] : List Str).map (fun m => decide (m = q))) ++ (["NotClear", "NoUnits", "NoUnit"] : List Str).map (fun m => decide (m = q))) ++ (["NoBook", "NoMakers", "NoBase"] : List Str).map (fun m => decide (m = q))) ++ (["NotMade", "NoOrder", "NoRow"] : List Str).map (fun m => decide (m = q)))) rfl) (xv_lst (R := bR) (qs := (["NoRoot", "NothingDone", "NoLine"] : List Str).map (fun m => decide (m = q))) mono_bR (xva_cons mono_bR (hk "NoRoot" (by decide +kernel)) (xva_cons mono_bR (hk "NothingDone" (by decide +kernel)) (xva_cons mono_bR (hk "NoLine" (by decide +kernel)) xva_nil))) (by simp)) (by simp)) (mono_rls mono_bR) rfl) ?_
  rintro _ rfl
  exact hs_retV (xv_raw (P := RLs bR ((((((((((["BadField", "BadText", "NoName", "NoElement"] : List Str).map (fun m => decide (m = q))) ++ (["NoElements", "Nought", "NoNumber"] : List Str).map (fun m => decide (m = q))) ++ (["NoTable", "NoIdeal", "NotWithin"] : List Str).map (fun m => decide (m = q))) ++ (["NoPrime", "NotPrime", "NoPrimes"] : List Str).map (fun m => decide (m = q))) ++ (["TooLarge", "NoEll", "NoMark"] : List Str).map (fun m => decide (m = q))) ++ (["NotClear", "NoUnits", "NoUnit"] : List Str).map (fun m => decide (m = q))) ++ (["NoBook", "NoMakers", "NoBase"] : List Str).map (fun m => decide (m = q))) ++ (["NotMade", "NoOrder", "NoRow"] : List Str).map (fun m => decide (m = q))) ++ (["NoRoot", "NothingDone", "NoLine"] : List Str).map (fun m => decide (m = q)))) rfl) fun v G h => h
theorem len_is_other {vs : List V} {Q : VK} {E : XK} {H : Hp} (h : sp_is_other K vs H Q E) : vs.length = 1 := len_V (fun g vs G ⟨_, v, e, _⟩ => by rw [e]; rfl) h
theorem body_is_other {vs : List V} {Q : VK} {E : XK} {H : Hp} (F : KF K) (h : sp_is_other K vs H Q E) : t__law_is_other K { nx := fun _ H' => Q .non H', rt := Q } (L2.start ["one", "first"] vs) H := by
  refine body_V (K := K) (Ps := fun q => [ErA (He.ga K q)]) h (fun q vs G ⟨_, v, e, hv⟩ => by subst e; exact ⟨hv, trivial⟩) (fun w P hP => by obtain rfl := List.mem_singleton.mp hP; exact mono_erA) (by rw [len_is_other h]; decide) ?_
  rintro B q _ G hM ⟨hq, _⟩
  have hk : ∀ {x : Sl} (c : String), c ∈ others → XE K B [.raw (ErA (He.ga K q)), x] (tCB (rIsz K) (tCons (tVar 0) (tCons (tC (.ty c)) tNil))) (· = .bool false) := fun {x} c hc =>
    xe_isz (F.ek q (List.mem_cons_of_mem _ hq)) (xv_raw rfl) (.ty c) (F.ot q hq c hc)
  show HS K B _ [.raw (ErA (He.ga K q)), .un] _ _ _ _
  refine hs_seq (N1 := (· = [.raw (ErA (He.ga K q)), .d (.bool false)])) (hs_set (xe_orV1 (a := false) (b := false) (hk "KeyError" (by decide)) fun _ => xe_orV1 (a := false) (b := false) (hk "IndexError" (by decide)) fun _ => hk "ArithmeticError" (by decide)) (fun d e => by subst e; rfl)) ?_
  rintro _ rfl
  exact hs_ret (xe_orV1 (a := false) (b := false) (xe_var rfl) fun _ => xe_orV1 (a := false) (b := false) (hk "TypeError" (by decide)) fun _ => xe_orV1 (a := false) (b := false) (hk "AttributeError" (by decide)) fun _ => hk "RuntimeError" (by decide)) fun d e v G r => by subst e; exact dt_bl r
end HL
end

section
set_option Elab.async false
set_option linter.all false
set_option maxRecDepth 100000
set_option maxHeartbeats 4000000
/-! k00: raising, catching, the law (printed by k00_print3.py from K00L.txt) -/
namespace HL
open PySem L2 PySem.ErrX
variable {K : PySem.W.Frag} {B : Bs} {G H G2 H2 : Hp} {σ : St} {ρ : List Sl} {ta tb tc te : TE} {t u : TT} {N N1 Bk Ct : LP} {Rr : Rt → LP} {ts us : TS}
/-! ### raising -/
abbrev sp_raise (K : PySem.W.Frag) : Sp := fun vs H _ E => ∃ (i : Nat) (w : V) (q : Str × Str), nm1[i]? = some q ∧ vs = [.int (i : Nat), w] ∧ ∀ d H2, Same H H2 → H2 d = some (.xd [(q.2, w)]) → H d = none → E (.ref (He.ga K q.1)) (some d) H2
theorem len_raise {vs : List V} {Q : VK} {E : XK} {H : Hp} (h : sp_raise K vs H Q E) : vs.length = 2 := by
  obtain ⟨i, w, q, _, rfl, _⟩ := h
  rfl
/-- raise C(thing) -/
def tRai (H0 : Hp) (Ra : Value → Prop) (E : XK) (C : Addr) (f : Str) : TS := fun _ σ H => tErr1 C f (tVar 1) σ H fun x H1 => ∃ (a C' : Addr) (d : Option Addr), x = .ref a ∧ H1 a = some (exo a C' d) ∧ L2.Fr0 H0 a ∧ Ra (.ref C') ∧ E (.ref C') d (delH H1 a)
theorem rai_ok {D : Ends} {Ra : Value → Prop} {E : XK} {C : Addr} {f : Str} {w : V} {σ : St} (h1 : σ[1]? = some (some w)) (hr : Ra (.ref C)) (h : ∀ d H2, Same H H2 → H2 d = some (.xd [(f, w)]) → H d = none → E (.ref C) (some d) H2) : tRai H Ra E C f D σ H := by
  refine ⟨w, h1, fun a d ha hd hne => ⟨a, C, some d, rfl, upd_same, fr0_none ha, hr, ?_⟩⟩
  rw [delH_new (by rw [upd_ne hne.symm]; exact ha)]
  exact h d _ (same_upd hd) upd_same hd
abbrev t__law_raise (K : PySem.W.Frag) (H0 : Hp) (Ra : Value → Prop) (E : XK) : TS :=
  tSeq (tIfS (tTest (tOp rEq (tVar 0) (tC (.int 0)))) (tRai H0 Ra E (He.ga K "BadField") "part") tNext)
    (tSeq (tIfS (tTest (tOp rEq (tVar 0) (tC (.int 1)))) (tRai H0 Ra E (He.ga K "BadText") "at") tNext) (tRai H0 Ra E (He.ga K "NoName") "name"))
theorem tst_eq {i j : Int} {σ : St} {Q : Bool → Hp → Prop} (h : σ[0]? = some (some (.int i))) (q : Q (decide (i = j)) H) : tTest (tOp rEq (tVar 0) (tC (.int j))) σ H Q := by
  refine ⟨_, h, rfl, _, rfl, ?_⟩
  rw [dec_int']
  exact q
theorem body_raise {vs : List V} {Q : VK} {E : XK} {H : Hp} {Ra : Value → Prop} (hra : ∀ q ∈ nm1, Ra (.ref (He.ga K q.1))) (h : sp_raise K vs H Q E) : t__law_raise K H Ra E { nx := fun _ H' => Q .non H', rt := Q } (L2.start ["which", "thing"] vs) H := by
  obtain ⟨i, w, q, hq, rfl, he⟩ := h
  match i, hq with
  | 0, hq =>
    cases hq
    refine tst_eq rfl ?_
    exact rai_ok (D := { nx := fun _ H' => Q .non H', rt := Q }) (f := "part") rfl (hra ("BadField", "part") (by decide +kernel)) he
  | 1, hq =>
    cases hq
    refine tst_eq rfl ?_
    refine tst_eq rfl ?_
    exact rai_ok (D := { nx := fun _ H' => Q .non H', rt := Q }) (f := "at") rfl (hra ("BadText", "at") (by decide +kernel)) he
  | 2, hq =>
    cases hq
    refine tst_eq rfl ?_
    refine tst_eq rfl ?_
    exact rai_ok (D := { nx := fun _ H' => Q .non H', rt := Q }) (f := "name") rfl (hra ("NoName", "name") (by decide +kernel)) he
  | i + 3, hq => cases hq
abbrev GhC := Nat × V × (Str × Str)
abbrev CaA (g : GhC) (vs : List V) (_ : Hp) : Prop := nm1[g.1]? = some g.2.2 ∧ vs = [.int (g.1 : Nat), g.2.1]
abbrev CaR (g : GhC) : VP := fun v G => ∃ p, v = .ref p ∧ G p = some (.tup [.int (g.1 : Nat), g.2.1])
abbrev sp_caught (K : PySem.W.Frag) : Sp := spV CaA CaR
abbrev sp_is_based (K : PySem.W.Frag) : Sp := spV CaA fun _ v _ => v = .bl true
theorem mono_CaR {g : GhC} : Mono (CaR g) := fun _ _ _ s ⟨p, e, h⟩ => ⟨p, e, s _ _ h⟩
theorem len_caught {vs : List V} {Q : VK} {E : XK} {H : Hp} (h : sp_caught K vs H Q E) : vs.length = 2 := len_V (fun g vs G ⟨_, e⟩ => by rw [e]; rfl) h
theorem len_is_based {vs : List V} {Q : VK} {E : XK} {H : Hp} (h : sp_is_based K vs H Q E) : vs.length = 2 := len_V (fun g vs G ⟨_, e⟩ => by rw [e]; rfl) h
abbrev tTry (K : PySem.W.Frag) (W : WX) : TS := tDrop (tCallS (sp_raise K) (WE W) (tCons (tVar 0) (tCons (tVar 1) tNil)))
abbrev clC (K : PySem.W.Frag) (i : Int) (c f : Str) : Cl := (.ref (He.ga K c), some 2, fun a cls d => tRet (tTup (tCons (tC (.int i)) (tCons (tXf a cls d (He.ga K c) f (tVar 2)) tNil))))
abbrev t__law_caught (K : PySem.W.Frag) : TS := tSeq (fun D σ H => tTry K (wCl K (fun _ _ _ _ => False) D [clC K 0 "BadField" "part", clC K 1 "BadText" "at", clC K 2 "NoName" "name"]) D σ H) (tRet (tTup (tCons (tC (.int 3)) (tCons (tC .non) tNil))))
abbrev t__law_is_based (K : PySem.W.Frag) : TS := tSeq (fun D σ H => tTry K (wCl K (fun _ _ _ _ => False) D [(.ref (He.ga K "FieldError"), none, fun a cls d => tRet (tC (.bl true)))]) D σ H) (tRet (tC (.bl false)))
theorem xm_of (F : KF K) {q m : Str × Str} (hq : q ∈ nm1) (hm : m ∈ nm1) {b : Bool} (e : decide (q.1 = m.1) = b) : PySem.W.exmOne K (.ref (He.ga K q.1)) (.ref (He.ga K m.1)) = some b := by rw [← e]; exact F.xm q hq m hm
/-- the clause that takes it -/
theorem caught_end {D : Ends} {i : Nat} {w : V} {q : Str × Str} {c f : Str} {a dd : Addr} (hc : q.1 = c) (hf : q.2 = f) (Gk : Hp) (gh : Same Gk H) (s : Same H H2) (hd : H2 dd = some (.xd [(q.2, w)]))
    (k : ∀ v G2 H3, Same Gk G2 → Same G2 H3 → Same H H3 → Nw Gk H G2 → CaR (i, w, q) v G2 → D.rt v H3) :
    tRet (tTup (tCons (tC (.int (i : Nat))) (tCons (tXf a (.ref (He.ga K q.1)) (some dd) (He.ga K c) f (tVar 2)) tNil))) (offD D (some 2)) (onS (L2.start ["which", "thing", "error"] [.int (i : Nat), w]) a (some 2)) H2 := by
  subst hc hf
  refine ⟨.ref a, rfl, rfl, rfl, dd, _, w, rfl, hd, by simp [List.lookup], by rw [sizeLine_eq]; simp, fun p hp => ?_⟩
  have hpG : Gk p = none := by
    cases z : Gk p with
    | none => rfl
    | some o => rw [s _ _ (gh _ _ z)] at hp; cases hp
  have hpH : H p = none := by
    cases z : H p with
    | none => rfl
    | some o => rw [s _ _ z] at hp; cases hp
  refine k _ (upd Gk p (.tup [.int (i : Nat), w])) _ (same_upd hpG) (fun b o z => ?_) (s.trans (same_upd hp)) (fun b o z => ?_) ⟨p, rfl, upd_same⟩
  · by_cases hb : b = p
    · subst hb; rw [upd_same] at z ⊢; exact z
    · rw [upd_ne hb] at z ⊢; exact s _ _ (gh _ _ z)
  · by_cases hb : b = p
    · subst hb; exact .inr hpH
    · rw [upd_ne hb] at z; exact .inl z
theorem body_caught {vs : List V} {Q : VK} {E : XK} {H : Hp} (F : KF K) (h : sp_caught K vs H Q E) : t__law_caught K { nx := fun _ H' => Q .non H', rt := Q } (L2.start ["which", "thing", "error"] vs) H := by
  obtain ⟨Gk, ⟨i, w, q⟩, gh, ⟨hq, rfl⟩, k⟩ := h
  have hm : q ∈ nm1 := List.mem_of_getElem? hq
  refine ⟨_, rfl, _, rfl, i, w, q, hq, rfl, fun d H2 s hd hn => ?_⟩
  match i, hq with
  | 0, hq =>
    cases hq
    exact ⟨true, xm_of F (q := ("BadField", "part")) (m := ("BadField", "part")) (by decide +kernel) (by decide +kernel) (by decide +kernel), fun _ a _ => caught_end (i := 0) (q := ("BadField", "part")) rfl rfl Gk gh s hd k, fun z => nomatch z⟩
  | 1, hq =>
    cases hq
    refine ⟨false, xm_of F (q := ("BadText", "at")) (m := ("BadField", "part")) (by decide +kernel) (by decide +kernel) (by decide +kernel), fun z => (nomatch z), fun _ => ?_⟩
    exact ⟨true, xm_of F (q := ("BadText", "at")) (m := ("BadText", "at")) (by decide +kernel) (by decide +kernel) (by decide +kernel), fun _ a _ => caught_end (i := 1) (q := ("BadText", "at")) rfl rfl Gk gh s hd k, fun z => nomatch z⟩
  | 2, hq =>
    cases hq
    refine ⟨false, xm_of F (q := ("NoName", "name")) (m := ("BadField", "part")) (by decide +kernel) (by decide +kernel) (by decide +kernel), fun z => (nomatch z), fun _ => ?_⟩
    refine ⟨false, xm_of F (q := ("NoName", "name")) (m := ("BadText", "at")) (by decide +kernel) (by decide +kernel) (by decide +kernel), fun z => (nomatch z), fun _ => ?_⟩
    exact ⟨true, xm_of F (q := ("NoName", "name")) (m := ("NoName", "name")) (by decide +kernel) (by decide +kernel) (by decide +kernel), fun _ a _ => caught_end (i := 2) (q := ("NoName", "name")) rfl rfl Gk gh s hd k, fun z => nomatch z⟩
  | i + 3, hq => cases hq
theorem body_is_based {vs : List V} {Q : VK} {E : XK} {H : Hp} (F : KF K) (h : sp_is_based K vs H Q E) : t__law_is_based K { nx := fun _ H' => Q .non H', rt := Q } (L2.start ["which", "thing"] vs) H := by
  obtain ⟨Gk, ⟨i, w, q⟩, gh, ⟨hq, rfl⟩, k⟩ := h
  refine ⟨_, rfl, _, rfl, i, w, q, hq, rfl, fun d H2 s hd hn => ⟨true, F.xf q (List.mem_of_getElem? hq), fun _ a _ => ?_, fun z => nomatch z⟩⟩
  exact k (.bl true) Gk H2 (Same.refl _) (gh.trans s) s (fun b o z => .inl z) rfl
/-! ### the law -/
abbrev t_law (K : PySem.W.Frag) : TS :=
  (tSeq (tAsg (tCall (sp_hand K) [] E0 (tCons (tVar 0) tNil)) (gName 1))
    (tSeq (tFor (iRng1 (tCons (tC (.int 3)) tNil)) (gName 2) (tSeq (tAsg (tCall (sp_thing K) [] E0 (tCons (tVar 1) tNil)) (gName 3))
    (tSeq (tAsg (tTup (tCons (tCB (rRepr K) (tCons (tVar 3) tNil)) (tCons (tCall (sp_made K) [] E0 (tCons (tVar 3) tNil)) tNil))) (gTup K 2 (gCons (gName 4) (gCons (gName 5) gNil))))
    (tSeq (tFor (iEnum K (tCons (tVar 5) tNil)) (gTup K 2 (gCons (gName 6) (gCons (gName 7) gNil))) (tSeq (tIfS (tOr (tNot (tB (tCB (rIsz K) (tCons (tVar 7) (tCons (tC (.ref (He.ga K "FieldError"))) tNil))))) (tOr (tNot (tB (tCB (rIsz K) (tCons (tVar 7) (tCons (tC (.ty "ValueError")) tNil))))) (tB (tCall (sp_is_other K) [] E0 (tCons (tVar 7) tNil))))) (tRet (tC (.bl false))) tNext)
    (tSeq (tAsg (tCall (sp_kinds K) [] E0 (tCons (tVar 7) tNil)) (gName 8))
    (tIfS (tOr (tTest (tOp (rNeD K) (tLc (iEnum K (tCons (tVar 8) tNil)) (gTup K 2 (gCons (gName 13) (gCons (gName 14) gNil))) (tB (tVar 14)) (tVar 13) [13, 14]) (tLst (tCons (tVar 6) tNil)))) (tTest (tOp rNe (tCB (HL.rLen K) (tCons (tVar 8) tNil)) (tCB (HL.rLen K) (tCons (tVar 5) tNil))))) (tRet (tC (.bl false))) tNext))))
    (tSeq (tAsg (tLst (tCons (tHeld K "part" (tOp (rIxL K) (tVar 5) (tC (.int 0)))) (tCons (tHeld K "at" (tOp (rIxL K) (tVar 5) (tC (.int 1)))) (tCons (tHeld K "name" (tOp (rIxL K) (tVar 5) (tC (.int 2)))) tNil)))) (gName 9))
    (tSeq (tIfS (tB (tCB (rAny K) (tCons (tLc (iList K (tVar 9)) (gName 12) tYes (tOrV (tOp rNe (tCB (rRepr K) (tCons (tVar 12) tNil)) (tVar 4)) (tOp (rNeSame K) (tVar 12) (tVar 3))) [12]) tNil))) (tRet (tC (.bl false))) tNext)
    (tSeq (tAsg (tCall (sp_draw K) [] E0 (tCons (tVar 1) (tCons (tC (.int 3)) tNil))) (gName 10))
    (tSeq (tAsg (tCall (sp_caught K) [] E0 (tCons (tVar 10) (tCons (tVar 3) tNil))) (gName 11))
    (tIfS (tOr (tTest (tOp rNe (tOp (rIxT K) (tVar 11) (tC (.int 0))) (tVar 10))) (tOr (tTest (tOp rNe (tCB (rRepr K) (tCons (tOp (rIxT K) (tVar 11) (tC (.int 1))) tNil)) (tVar 4))) (tNot (tB (tCall (sp_is_based K) [] E0 (tCons (tVar 10) (tCons (tVar 3) tNil))))))) (tRet (tC (.bl false))) tNext)))))))))
    (tRet (tAndV (tCB (rIsz K) (tCons (tErr0 (He.ga K "FieldError")) (tCons (tC (.ty "ValueError")) tNil))) (tNotV (tCB (rAny K) (tCons (tCall (sp_kinds K) [] E0 (tCons (tErr0 (He.ga K "FieldError")) tNil)) tNil)))))))

/-- i, j = (a datum, another value) -/
theorem hs_asgT2 {i j : Nat} {d1 : PyData} {P2 : VP} (h1 : XE K B ρ ta (· = d1)) (h2 : XV K B ρ tb P2) (m : Mono P2) (hN : N ((ρ.set i (.d d1)).set j (.raw P2))) : HS K B (tAsg (tTup (tCons ta (tCons tb tNil))) (gTup K 2 (gCons (gName i) (gCons (gName j) gNil)))) ρ N Rr Bk Ct := fun D σ G H e n _ _ _ =>
  h1 σ G H e _ fun v d G1 H1 s1 p1 r1 => h2 σ G1 H1 s1.e _ fun w G2 H2 s2 p2 => ⟨by rw [sizeLine_eq]; simp, fun p hp => by
    subst p1
    have s3 := Stp.know (o := .tup [v, w]) s2.e hp
    refine ⟨p, [v, w], rfl, SqT.of upd_same, rfl, v, [w], rfl, w, [], rfl, rfl, ?_⟩
    exact n _ _ _ _ ((s1.trans s2).trans s3).g hN ((s3.e.putD (Dt.mono (s2.g.trans s3.g) r1)).putR (fun G G' s h => m w G G' s h) (m w _ _ s3.g p2))⟩
/-- .. and what stands in slot i -/
theorem xv_with {i : Nat} {P P2 : VP} (h : XV K B ρ te P) (hi : ρ[i]? = some (.raw P2)) : XV K B ρ te (fun v G => P v G ∧ ∃ u, P2 u G) := fun σ G H e Q q => h σ G H e _ fun v G2 H2 s p => by
  obtain ⟨u, _, _, hu⟩ := s.e.at_raw hi
  exact q v G2 H2 s ⟨p, u, hu⟩
/-- an item of a known pair -/
theorem xv_ixP {x : Int} {j : Nat} {a b c : V} (ha : XV K B ρ ta (fun v G => ∃ p, v = .ref p ∧ G p = some (.tup [a, b]))) (hb : XE K B ρ tb (· = .int x)) (hj : ixN 2 x = some j) (hc : [a, b][j]? = some c) : XV K B ρ (tOp (rIxT K) ta tb) (fun v _ => v = c) := fun σ G H e Q q =>
  ha σ G H e _ fun v G1 H1 s1 ⟨p, ev, gp⟩ => hb σ G1 H1 s1.e _ fun y d G2 H2 s2 p2 r2 => by
    subst ev p2
    refine ⟨p, [a, b], x, c, rfl, dt_int r2, SqT.of (s2.e.f.gh _ _ (s2.g _ _ gp)), ?_, q c G2 H2 (s1.trans s2) rfl⟩
    unfold atI
    rw [show ([a, b] : List V).length = 2 from rfl, hj]
    exact hc
theorem dp_ints : ∀ {xs : List V} {ns : List Int}, DtAll K G xs (ns.map PyData.int) → DpAll K G xs (ns.map PyData.int)
  | [], [], _ => .nil
  | [], _ :: _, h => by cases h
  | _ :: _, [], h => by cases h
  | _ :: _, _ :: _, h => by
    cases h with
    | cons a r =>
      rw [dt_int a]
      exact .cons (.int _) (dp_ints r)
theorem dp_mono_ints {xs : List V} {ns : List Int} (h : DpAll K G xs (ns.map PyData.int)) : DpAll K H xs (ns.map PyData.int) := by
  induction ns generalizing xs with
  | nil => cases h; exact .nil
  | cons n ns ih =>
    cases h with
    | cons a r => cases a; exact .cons (.int _) (ih r)
theorem shaped_ints {ns : List Int} : SeqAt.shaped (.list (ns.map PyData.int)) = true := by
  have h1 : ∀ ns : List Int, PyData.canLayAll0 (ns.map PyData.int) = true := fun ns => by
    induction ns with
    | nil => simp [PyData.canLayAll0]
    | cons n ns ih => simp [PyData.canLayAll0, PyData.canLay0, ih]
  have h2 : ∀ ns : List Int, PyData.depthAll (ns.map PyData.int) = 0 := fun ns => by
    induction ns with
    | nil => simp [PyData.depthAll]
    | cons n ns ih => simp [PyData.depthAll, PyData.depth, ih]
  unfold SeqAt.shaped
  simp [PyData.canLay0, PyData.depth, h1, h2]
theorem eqv_ints {ns : List Int} : PyData.eqv (.list (ns.map PyData.int)) (.list (ns.map PyData.int)) = true := by
  simp only [PyData.eqv]
  induction ns with
  | nil => simp [PyData.eqvAll]
  | cons n ns ih => simp [PyData.eqvAll, PyData.eqv, ih]
/-- the same ints on both sides -/
theorem xe_neLs {ns : List Int} (ha : XE K B ρ ta (· = .list (ns.map PyData.int))) (hb : XE K B ρ tb (· = .list (ns.map PyData.int))) : XE K B ρ (tOp (rNeD K) ta tb) (· = .bool false) := xe_op1 ha hb fun x y G H gh hx hy Q q => by
  obtain ⟨a, xs, rfl, h1, h2⟩ := dt_lst hx
  obtain ⟨b, ys, rfl, h3, h4⟩ := dt_lst hy
  refine ⟨_, _, .lst (sqL_mono gh h1) (dp_mono_ints (dp_ints h2)), .lst (sqL_mono gh h3) (dp_mono_ints (dp_ints h4)), shaped_ints, shaped_ints, ?_⟩
  rw [eqv_ints]
  exact q _ _ rfl (.bl false)
theorem names_of {k : Nat} {q : ErQ} (h : errQ[k]? = some q) : names28[k]? = some q.1 ∧ k < 28 := by
  refine ⟨by unfold names28; rw [List.getElem?_map, h]; rfl, ?_⟩
  have := (List.getElem?_eq_some_iff.mp h).1
  exact this
theorem kind_at {k n : Nat} {q : ErQ} {b : Bool} (h : errQ[k]? = some q) (hb : (kindR q.1)[n]? = some b) : b = decide (n = k) ∧ n < 28 := by
  obtain ⟨h1, hk⟩ := names_of h
  have hn : n < 28 := by
    have := (List.getElem?_eq_some_iff.mp hb).1
    unfold kindR at this
    rw [List.length_map] at this
    exact this
  have all : ∀ k n : Fin 28, decide (names28[n.val]? = names28[k.val]?) = decide (n = k) := by decide +kernel
  have z := all ⟨k, hk⟩ ⟨n, hn⟩
  unfold kindR at hb
  rw [List.getElem?_map] at hb
  cases e : names28[n]? with
  | none => rw [e] at hb; cases hb
  | some m =>
    rw [e] at hb
    have hb2 : decide (m = q.1) = b := by simpa using hb
    rw [e, h1] at z
    refine ⟨?_, hn⟩
    rw [← hb2]
    have e1 : decide (m = q.1) = decide (some m = some q.1) := by simp
    rw [e1, z]
    simp
theorem mem28 {k : Nat} {q : ErQ} (h : errQ[k]? = some q) : q.1 ∈ names28 := List.mem_of_getElem? (names_of h).1
theorem erR_any {q : ErQ} {w v : V} (h : erR K w q v G) : ErA (He.ga K q.1) v G := by
  obtain ⟨x, o⟩ := q
  cases o with
  | none => exact Er0.any h
  | some f => exact Er1.any h
abbrev TV (K : PySem.W.Frag) (w : V) (d : PyData) : VP := fun v G => v = w ∧ Dt K G v d
theorem mono_TV {w : V} {d : PyData} : Mono (TV K w d) := fun _ _ _ s h => ⟨h.1, Dt.mono s h.2⟩
abbrev spLaw (K : PySem.W.Frag) : Sp := fun vs H Q _ => ∃ (a : Addr) (ns : List Int), vs = [.ref a] ∧ SqL K H a (ns.map V.int) ∧ ∀ H', Q (.bl true) H'
theorem law_hl (F : KF K) {ns : List Int} : HS K B (t_law K) [.d (.list (ns.map PyData.int)), .un, .un, .un, .un, .un, .un, .un, .un, .un, .un, .un, .un, .un, .un] nev (fun r _ => r = .d (.bool true)) nev nev := by
  refine hs_seq (N1 := fun ρ' => ∃ p, ρ' = [.d (.list (ns.map PyData.int)), .hid p HandL, .un, .un, .un, .un, .un, .un, .un, .un, .un, .un, .un, .un, .un]) (hs_setH (HP := HandL) (xn_call (xa_cons1 (xe_var rfl) xa_nil) (fun ds e => ⟨ns, e⟩) (fun ds es _ h => h)) (fun ds h => h) fun p => ⟨p, rfl⟩) ?_
  rintro _ ⟨p, rfl⟩
  refine hs_seq (N1 := fun ρ' => ∃ x2 x3 x4 x5 x6 x7 x8 x9 x10 x11, ρ' = [.d (.list (ns.map PyData.int)), .hid p HandL, x2, x3, x4, x5, x6, x7, x8, x9, x10, x11, .un, .un, .un]) (hs_forR1 (hi := 3) (xa_cons1 xe_int xa_nil) (by decide)
    (fun _ ρ' => ∃ x2 x3 x4 x5 x6 x7 x8 x9 x10 x11, ρ' = [.d (.list (ns.map PyData.int)), .hid p HandL, x2, x3, x4, x5, x6, x7, x8, x9, x10, x11, .un, .un, .un]) ⟨_, _, _, _, _, _, _, _, _, _, rfl⟩ ?_ fun ρ' h => h) ?_
  · rintro i _ hi ⟨x2, x3, x4, x5, x6, x7, x8, x9, x10, x11, rfl⟩
    -- thing
    refine hs_seq (N1 := fun ρ' => ∃ d, Th 36 d ∧ ρ' = [.d (.list (ns.map PyData.int)), .hid p HandL, .d (.int (i : Nat)), .d d, x4, x5, x6, x7, x8, x9, x10, x11, .un, .un, .un]) (hs_set (xe_callH (i := 1) (p0 := p) (HP := HandL) (P := Th 36) rfl xa_nil (fun ds e => e) (fun ds d _ h => h)) fun d hd => ⟨d, hd, rfl⟩) ?_
    rintro _ ⟨d, hd, rfl⟩
    refine hs_fix (i := 3) (d := d) rfl fun w => ?_
    have due : ∀ {ρ : List Sl} {i : Nat}, ρ[i]? = some (.raw (TV K w d)) → XE K B ρ (tCB (rRepr K) (tCons (tVar i) tNil)) (· = .str d.shown) := fun {ρ i} h => xe_repr ((xv_raw h).e fun v G h => ⟨d, rfl, h.2⟩) hd.1 (by have := hd.2.1; omega) (by have := hd.2.2; omega)
    refine hs_seq (N1 := (· = [.d (.list (ns.map PyData.int)), .hid p HandL, .d (.int (i : Nat)), .raw (TV K w d), .d (.str d.shown), .raw (RLs (erR K w) errQ), x6, x7, x8, x9, x10, x11, .un, .un, .un])) (hs_asgT2 (P2 := RLs (erR K w) errQ) (due rfl) (xv_call (A := fun (w : V) vs _ => vs = [w]) (g := w) (xva_one (xv_raw rfl) fun v G h => by rw [h.1])) (mono_rls mono_erR) rfl) ?_
    rintro _ rfl
    -- the errors, one by one
    refine hs_seq (N1 := fun ρ' => ∃ x6 x7 x8, ρ' = [.d (.list (ns.map PyData.int)), .hid p HandL, .d (.int (i : Nat)), .raw (TV K w d), .d (.str d.shown), .raw (RLs (erR K w) errQ), x6, x7, x8, x9, x10, x11, .un, .un, .un]) (hs_forE (R := erR K w) (qs := errQ) mono_erR (xv_raw rfl) (fun _ ρ' => ∃ x6 x7 x8, ρ' = [.d (.list (ns.map PyData.int)), .hid p HandL, .d (.int (i : Nat)), .raw (TV K w d), .d (.str d.shown), .raw (RLs (erR K w) errQ), x6, x7, x8, x9, x10, x11, .un, .un, .un]) ⟨_, _, _, rfl⟩ ?_ fun ρ' h => h) ?_
    · rintro k q _ hq ⟨x6, x7, x8, rfl⟩
      have hm := mem28 hq
      have hm2 : q.1 ∈ all29 := List.mem_cons_of_mem _ hm
      have one : ∀ {ρ : List Sl}, ρ[7]? = some (.raw (erR K w q)) → XV K B ρ (tVar 7) (ErA (He.ga K q.1)) := fun {ρ} h => (xv_raw h).imp fun v G h => erR_any h
      refine hs_seq (N1 := (· = [.d (.list (ns.map PyData.int)), .hid p HandL, .d (.int (i : Nat)), .raw (TV K w d), .d (.str d.shown), .raw (RLs (erR K w) errQ), .d (.int (k : Nat)), .raw (erR K w q), x8, x9, x10, x11, .un, .un, .un])) (hs_if (Pb := (· = false)) ((xt_or1 (a := false) (b := false) (xt_not1 (a := true) (xt_B1 (xe_isz (F.ek q.1 hm2) (one rfl) (.own _) (F.fe q.1 hm)))) fun _ => xt_or1 (a := false) (b := false) (xt_not1 (a := true) (xt_B1 (xe_isz (F.ek q.1 hm2) (one rfl) (.ty _) (F.ve q.1 hm2)))) fun _ =>
        xt_B1 ((xv_call (A := fun (q : Str) vs G => q ∈ names28 ∧ ∃ v, vs = [v] ∧ ErA (He.ga K q) v G) (R := fun _ v _ => v = .bl false) (g := q.1) (xva_one (one rfl) fun v G h => ⟨hm, v, rfl, h⟩)).e fun v G h => ⟨_, rfl, by rw [h]; exact .bl false⟩))) (fun z => (nomatch z)) fun _ => hs_next rfl) ?_
      rintro _ rfl
      refine hs_seq (N1 := (· = [.d (.list (ns.map PyData.int)), .hid p HandL, .d (.int (i : Nat)), .raw (TV K w d), .d (.str d.shown), .raw (RLs (erR K w) errQ), .d (.int (k : Nat)), .raw (erR K w q), .raw (RLs bR (kindR q.1)), x9, x10, x11, .un, .un, .un])) (hs_setV (P := RLs bR (kindR q.1)) (xv_call (A := fun (q : Str) vs G => q ∈ all29 ∧ ∃ v, vs = [v] ∧ ErA (He.ga K q) v G) (R := fun q => RLs bR (kindR q)) (g := q.1) (xva_one (one rfl) fun v G h => ⟨hm2, v, rfl, h⟩)) (mono_rls mono_bR) rfl) ?_
      rintro _ rfl
      have l1 : (kindR q.1).length = 28 := by unfold kindR; rw [List.length_map]; rfl
      have l2 : errQ.length = 28 := rfl
      refine hs_if (Pb := (· = false)) (xt_or1 (a := false) (b := false) (xt_test1 (xe_neLs (ns := [(k : Int)]) (XN.d1 ((xn_lcE (R := bR) (qs := kindR q.1) mono_bR (xv_raw rfl) (by simp) (by simp) rfl (fun n es => es = if n ≤ k then [] else [PyData.int (k : Nat)]) (by simp) ?_ ?_).imp ?_)) (XN.d1 (xn_lst (xa_cons1 (xe_var rfl) xa_nil) (fun ds e => by subst e; simp)))))
        fun _ => xt_test1 (by
          have z := xe_ne (K := K) (B := B) (xe_lenR (R := bR) (qs := kindR q.1) (xv_raw (ρ := [.d (.list (ns.map PyData.int)), .hid p HandL, .d (.int (i : Nat)), .raw (TV K w d), .d (.str d.shown), .raw (RLs (erR K w) errQ), .d (.int (k : Nat)), .raw (erR K w q), .raw (RLs bR (kindR q.1)), x9, x10, x11, .un, .un, .un]) (i := 8) rfl)) (xe_lenR (R := erR K w) (qs := errQ) (xv_raw (i := 5) rfl))
          rw [l1, l2] at z
          exact z)) (fun z => (nomatch z)) fun _ => hs_next ⟨_, _, _, rfl⟩
      · rintro n es hn rfl
        split <;> simp
      · rintro n b es hb rfl
        obtain ⟨hbk, _⟩ := kind_at hq hb
        refine ⟨(· = b), xt_B1 ((xv_raw (P := bR b) rfl).e fun v G h => ⟨_, rfl, by rw [show v = V.bl b from h]; exact .bl b⟩), fun z => (xe_var (d := .int (n : Nat)) rfl).imp ?_, fun z => ?_⟩
        · rintro _ rfl
          have e : n = k := of_decide_eq_true (hbk.symm.trans z.symm)
          subst e
          rw [if_pos (Nat.le_refl _), if_neg (by omega)]
          rfl
        · have e : ¬ n = k := of_decide_eq_false (hbk.symm.trans z.symm)
          by_cases h : n ≤ k
          · rw [if_pos h, if_pos (by omega)]
          · rw [if_neg h, if_neg (by omega)]
      · rintro es rfl
        rw [l1]
        have := (names_of hq).2
        rw [if_neg (by omega)]
        rfl
    rintro _ ⟨x6, x7, x8, rfl⟩
    -- the fields
    have fld : ∀ {ρ : List Sl} {j : Nat} {c f : Str} {x : Int}, ρ[5]? = some (.raw (RLs (erR K w) errQ)) → ρ[3]? = some (.raw (TV K w d)) → (c, f) ∈ nm1 → ixN errQ.length x = some j → errQ[j]? = some (c, some f) → c ∈ all29 → XV K B ρ (tHeld K f (tOp (rIxL K) (tVar 5) (tC (.int x)))) (TV K w d) := fun {ρ j c f x} h5 h3 hc hx hj ha =>
      (xv_with (xv_held (F.ek c ha) (F.no (c, f) hc) (xv_ix (R := erR K w) (qs := errQ) (q := (c, some f)) mono_erR (xv_raw h5) xe_int hx hj)) h3).imp fun v G ⟨e, u, hu⟩ => ⟨e, by rw [e, ← hu.1]; exact hu.2⟩
    refine hs_seq (N1 := (· = [.d (.list (ns.map PyData.int)), .hid p HandL, .d (.int (i : Nat)), .raw (TV K w d), .d (.str d.shown), .raw (RLs (erR K w) errQ), x6, x7, x8, .raw (RLs (fun (_ : Unit) => TV K w d) [(), (), ()]), x10, x11, .un, .un, .un])) (hs_setV (P := RLs (fun (_ : Unit) => TV K w d) [(), (), ()]) (xv_lst (R := fun (_ : Unit) => TV K w d) (fun _ => mono_TV) (xva_cons (fun _ => mono_TV) (fld (c := "BadField") rfl rfl (by decide +kernel) rfl rfl (by decide +kernel)) (xva_cons (fun _ => mono_TV) (fld (c := "BadText") rfl rfl (by decide +kernel) rfl rfl (by decide +kernel)) (xva_cons (fun _ => mono_TV) (fld (c := "NoName") rfl rfl (by decide +kernel) rfl rfl (by decide +kernel)) xva_nil))) (by decide)) (mono_rls fun _ => mono_TV) rfl) ?_
    rintro _ rfl
    refine hs_seq (N1 := (· = [.d (.list (ns.map PyData.int)), .hid p HandL, .d (.int (i : Nat)), .raw (TV K w d), .d (.str d.shown), .raw (RLs (erR K w) errQ), x6, x7, x8, .raw (RLs (fun (_ : Unit) => TV K w d) [(), (), ()]), x10, x11, .un, .un, .un])) (hs_if (Pb := (· = false)) (xt_B1 (xe_any (bs := [false, false, false]) (XN.d1 (xn_lcV (R := fun (_ : Unit) => TV K w d) (qs := [(), (), ()]) (fun _ => mono_TV) (xv_raw rfl) (by simp) rfl (fun n es => es = List.replicate n (PyData.bool false)) rfl ?_ ?_)))) (fun z => (nomatch z)) fun _ => hs_next rfl) ?_
    · rintro n es hn rfl
      rw [List.length_replicate]
      have : n < 3 := hn
      omega
    · rintro n q es hq rfl
      refine ⟨_, xt_yes, fun _ => (xe_orV1 (a := false) (b := false) ((xe_neS (x := d.shown) (y := d.shown) (due rfl) (xe_var rfl)).cast (by simp)) fun _ => xe_neSame (xv_raw rfl) (xv_raw rfl)).imp ?_, fun z => (nomatch z)⟩
      rintro _ rfl
      exact (List.replicate_succ' (n := n) (a := PyData.bool false)).symm
    rintro _ rfl
    -- drawn: which
    refine hs_seq (N1 := fun ρ' => ∃ r : Nat, r < 3 ∧ ρ' = [.d (.list (ns.map PyData.int)), .hid p HandL, .d (.int (i : Nat)), .raw (TV K w d), .d (.str d.shown), .raw (RLs (erR K w) errQ), x6, x7, x8, .raw (RLs (fun (_ : Unit) => TV K w d) [(), (), ()]), .d (.int (r : Nat)), x11, .un, .un, .un]) (hs_set (xe_draw (p := p) (many := 3) rfl xe_int (by decide) (by decide)) (by
      rintro _ ⟨r, rfl, hr⟩
      exact ⟨r, hr, rfl⟩)) ?_
    rintro _ ⟨r, hr, rfl⟩
    obtain ⟨q, hq⟩ : ∃ q, nm1[r]? = some q := ⟨_, List.getElem?_eq_getElem (show r < nm1.length from hr)⟩
    have args : ∀ {ρ : List Sl}, ρ[10]? = some (.d (.int (r : Nat))) → ρ[3]? = some (.raw (TV K w d)) → XVA K B ρ (tCons (tVar 10) (tCons (tVar 3) tNil)) (CaA (r, w, q)) := fun {ρ} h10 h3 =>
      xva_two (P1 := fun v _ => v = .int (r : Nat)) mono_eq ((xe_var h10).v.imp fun v G ⟨x, e, h⟩ => by subst e; exact dt_int h) (xv_raw h3) fun v u G h1 h2 => ⟨hq, by rw [h1, h2.1]⟩
    refine hs_seq (N1 := (· = [.d (.list (ns.map PyData.int)), .hid p HandL, .d (.int (i : Nat)), .raw (TV K w d), .d (.str d.shown), .raw (RLs (erR K w) errQ), x6, x7, x8, .raw (RLs (fun (_ : Unit) => TV K w d) [(), (), ()]), .d (.int (r : Nat)), .raw (CaR (r, w, q)), .un, .un, .un])) (hs_setV (P := CaR (r, w, q)) (xv_call (A := CaA) (R := CaR) (g := (r, w, q)) (args rfl rfl)) mono_CaR rfl) ?_
    rintro _ rfl
    refine hs_if (Pb := (· = false)) (xt_or1 (a := false) (b := false) (xt_test1 ((xe_ne (x := (r : Nat)) (y := (r : Nat)) ((xv_ixP (a := .int (r : Nat)) (b := w) (c := .int (r : Nat)) (xv_raw (P := CaR (r, w, q)) rfl) xe_int rfl rfl).e fun v G h => ⟨_, rfl, by rw [h]; exact .int _⟩) (xe_var rfl)).cast (by simp))) fun _ =>
      xt_or1 (a := false) (b := false) (xt_test1 ((xe_neS (x := d.shown) (y := d.shown) (xe_repr (d := d) ((xv_with (xv_ixP (a := .int (r : Nat)) (b := w) (c := w) (xv_raw (P := CaR (r, w, q)) rfl) xe_int rfl rfl) (i := 3) (P2 := TV K w d) rfl).e fun v G ⟨e, u, hu⟩ => ⟨d, rfl, by rw [e, ← hu.1]; exact hu.2⟩) hd.1 (by have := hd.2.1; omega) (by have := hd.2.2; omega)) (xe_var rfl)).cast (by simp))) fun _ =>
        xt_not1 (a := true) (xt_B1 ((xv_call (A := CaA) (R := fun _ v _ => v = .bl true) (g := (r, w, q)) (args rfl rfl)).e fun v G h => ⟨_, rfl, by rw [h]; exact .bl true⟩))) (fun z => (nomatch z)) fun _ => hs_next ⟨_, _, _, _, _, _, _, _, _, _, rfl⟩
  · rintro _ ⟨x2, x3, x4, x5, x6, x7, x8, x9, x10, x11, rfl⟩
    have fe : ("FieldError" : Str) ∈ all29 := List.mem_cons_self
    have k0 : (kindR "FieldError").any id = false := by decide +kernel
    refine hs_ret (xe_andV1 (a := true) (b := true) (xe_isz (F.ek _ fe) (xv_err0.imp fun v G h => h.any) (.ty _) (F.ve _ fe)) fun _ => xe_notV1 (a := false) ((xe_anyR (bs := kindR "FieldError") (xv_call (A := fun (q : Str) vs G => q ∈ all29 ∧ ∃ v, vs = [v] ∧ ErA (He.ga K q) v G) (R := fun q => RLs bR (kindR q)) (g := "FieldError") (xva_one xv_err0 fun v G h => ⟨fe, v, rfl, h.any⟩))).cast (by rw [k0]))) fun d e => ?_
    rw [e]
    rfl
theorem law_pure {N : List Str} {vs : List V} {H : Hp} {Q : VK} {E : XK} (hN : N.length = 15) (F : KF K) (h : spLaw K vs H Q E) : t_law K { nx := fun _ H' => Q .non H', rt := Q } (L2.start N vs) H := by
  obtain ⟨a, ns, rfl, hS, q⟩ := h
  have r : DtAll K H [.ref a] [.list (ns.map PyData.int)] := by
    have cells : ∀ ns : List Int, DtAll K H (ns.map V.int) (ns.map PyData.int) := fun ns => by
      induction ns with
      | nil => exact .nil
      | cons n ns ih => exact .cons (.int n) ih
    exact .cons (.lst hS (cells ns)) .nil
  have e0 := env_start (K := K) (M := fun _ => False) (N := N) (Same.refl H) r (by rw [hN]; simp)
  rw [show (N.length - [PyData.list (ns.map PyData.int)].length) = 14 by rw [hN]; rfl] at e0
  refine law_hl (B := ⟨H, H, fun _ => False⟩) (ns := ns) F _ _ H H e0 (fun _ _ _ _ _ z => z.elim) (fun v r σ' G' H' ρ' e _ ro => ?_) (fun _ _ _ _ _ z => z.elim) (fun _ _ _ _ _ z => z.elim)
  subst e
  have e2 : v = .bl true := dt_bl ro
  subst e2
  exact q H'
end HL
end

section
set_option Elab.async false
set_option linter.all false
set_option maxRecDepth 100000
set_option maxHeartbeats 0
/-! k00: the walk over the row (printed by k00_print4.py) -/
namespace HL
namespace K00
open PySem L2 PySem.ErrX
def top (i : Nat) : Stmt := PySem.Challenge.pw_wholeclasses_k00_errors_of_the_package.main.body.getD i (.Pass ⟨0, 0, 0, 0⟩)
abbrev FnP (K : PySem.W.Frag) (x : Str) (st : Stmt) (f : Addr) (fd : FuncData) : Prop := FunD K x x (defArgs st) (defBody st) (defScope st) [] [] f fd
def frL : List Str := ["abs", "int", "len", "range", "isinstance", "enumerate", "any", "repr", "super", "ValueError", "KeyError", "IndexError", "ArithmeticError", "TypeError", "AttributeError", "RuntimeError"]
structure T (P : Program) (K : PySem.W.Frag) (mg : Str → Option Value) : Prop where
  fr : ∀ x : Str, x ∈ frL → mg x = none
  g : ∀ x : Str, x ∈ all29 → mg x = some (.ref (He.ga K x))
  e0 : ∀ x : Str, x ∈ nm0 → ErrT0 P K mg x (He.ga K x)
  e1 : ∀ q : Str × Str, q ∈ nm1 → ErrT1 P K mg q.1 q.2 (He.ga K q.1)
  feq : PySem.W.excIn K (He.ga K "FieldError") He.veBase "ValueError.__new__" = true
  fek : PySem.W.keepIn K (.ref (He.ga K "FieldError")) = true
  cg : ClsGet K
  sy : PySem.W.typeIn K (.ref sysModules) = some (.type "dict")
  kf : KF K
theorem T.su {P : Program} {K : PySem.W.Frag} {mg : Str → Option Value} (T : T P K mg) : mg "super" = none := T.fr "super" (by decide +kernel)
theorem unitsL {k : Nat} {A : Around} (hr : Room k A) : A.units < cLine := by have := hr.un; omega
theorem unitsR {k : Nat} {A : Around} (hr : Room k A) : A.units + 64 < cLine := by have := hr.un; omega
abbrev s__law_hand : Stmt := top 31
abbrev N__law_hand : List Str := ["script", "cells", "cell"]
theorem sc__law_hand : FnScope N__law_hand ["script"] (defScope s__law_hand) := ⟨rfl, rfl, rfl, by decide +kernel, rfl, by decide +kernel, by decide +kernel⟩
abbrev s__law_draw : Stmt := top 32
abbrev N__law_draw : List Str := ["hand", "many", "cell", "digit", "number"]
theorem sc__law_draw : FnScope N__law_draw ["hand", "many"] (defScope s__law_draw) := ⟨rfl, rfl, rfl, by decide +kernel, rfl, by decide +kernel, by decide +kernel⟩
abbrev s__law_ten : Stmt := top 33
abbrev N__law_ten : List Str := ["many", "found", "turn"]
theorem sc__law_ten : FnScope N__law_ten ["many"] (defScope s__law_ten) := ⟨rfl, rfl, rfl, by decide +kernel, rfl, by decide +kernel, by decide +kernel⟩
abbrev s__law_some : Stmt := top 34
abbrev N__law_some : List Str := ["hand", "things"]
theorem sc__law_some : FnScope N__law_some ["hand", "things"] (defScope s__law_some) := ⟨rfl, rfl, rfl, by decide +kernel, rfl, by decide +kernel, by decide +kernel⟩
abbrev s__law_thing : Stmt := top 35
abbrev N__law_thing : List Str := ["hand", "some", "thing", "turn"]
theorem sc__law_thing : FnScope N__law_thing ["hand"] (defScope s__law_thing) := ⟨rfl, rfl, rfl, by decide +kernel, rfl, by decide +kernel, by decide +kernel⟩
abbrev s__law_made : Stmt := top 36
abbrev N__law_made : List Str := ["thing", "found"]
theorem sc__law_made : FnScope N__law_made ["thing"] (defScope s__law_made) := ⟨rfl, rfl, rfl, by decide +kernel, rfl, by decide +kernel, by decide +kernel⟩
abbrev s__law_kinds : Stmt := top 37
abbrev N__law_kinds : List Str := ["one", "found"]
theorem sc__law_kinds : FnScope N__law_kinds ["one"] (defScope s__law_kinds) := ⟨rfl, rfl, rfl, by decide +kernel, rfl, by decide +kernel, by decide +kernel⟩
abbrev s__law_is_other : Stmt := top 38
abbrev N__law_is_other : List Str := ["one", "first"]
theorem sc__law_is_other : FnScope N__law_is_other ["one"] (defScope s__law_is_other) := ⟨rfl, rfl, rfl, by decide +kernel, rfl, by decide +kernel, by decide +kernel⟩
abbrev s__law_raise : Stmt := top 39
abbrev N__law_raise : List Str := ["which", "thing"]
theorem sc__law_raise : FnScope N__law_raise ["which", "thing"] (defScope s__law_raise) := ⟨rfl, rfl, rfl, by decide +kernel, rfl, by decide +kernel, by decide +kernel⟩
abbrev s__law_caught : Stmt := top 40
abbrev N__law_caught : List Str := ["which", "thing", "error"]
theorem sc__law_caught : FnScope N__law_caught ["which", "thing"] (defScope s__law_caught) := ⟨rfl, rfl, rfl, by decide +kernel, rfl, by decide +kernel, by decide +kernel⟩
abbrev s__law_is_based : Stmt := top 41
abbrev N__law_is_based : List Str := ["which", "thing"]
theorem sc__law_is_based : FnScope N__law_is_based ["which", "thing"] (defScope s__law_is_based) := ⟨rfl, rfl, rfl, by decide +kernel, rfl, by decide +kernel, by decide +kernel⟩
abbrev s_law : Stmt := top 42
abbrev N_law : List Str := ["script", "hand", "turn", "thing", "due", "errors", "place", "one", "kinds", "fields", "which", "caught", "kept", "at", "flag"]
theorem sc_law : FnScope N_law ["script"] (defScope s_law) := ⟨rfl, rfl, rfl, by decide +kernel, rfl, by decide +kernel, by decide +kernel⟩
section
variable {P : Program} {w : World} {K : PySem.W.Frag} {mg : Str → Option Value} {base : Heap} {f : Addr} {fd : FuncData}
theorem ok__law_hand (T : T P K mg)  (F : FnP K "_law_hand" s__law_hand f fd) : FnOk P w K mg base CX0 3 f fd ["script"] (sp_hand K) := by
  refine F.ok sc__law_hand (fun vs H Q E h => len_hand h) (fun cdv A outer s H vs Q E hr h => ⟨t__law_hand K, PSs.nox ?_, body_hand h⟩)
  exact (pss_cons (ps_setLc (i := 1) (own := [("cell", 2)]) rfl sc__law_hand.nd rfl rfl (sw_true rfl rfl rfl (by decide +kernel)) (pi_list (pe_slice sl_list (pv 0) po_none (po_some pe_int))) (blkOk_by (N := N__law_hand) (sc := defScope s__law_hand) (by decide +kernel)) (fun _ _ _ _ _ => (pg_name (i := 2) sc__law_hand.nd rfl (Or.inl rfl))) (fun _ _ _ _ _ => pts_nil) (fun _ _ _ _ _ => (pe_callB call_abs (by rfl) (T.fr "abs" (by decide +kernel)) (by decide +kernel) (pa_cons (pe_callTy call_int1 (by rfl) (T.fr "int" (by decide +kernel)) (by decide +kernel) (pa_cons (pv 2) pa_nil)) pa_nil))))
    (pss_one (ps_ret (pe_lst (pa_cons (pv 1) (pa_cons pe_int (pa_cons pe_int (pa_cons (pe_op op_add pe_int (pe_op op_mulA pe_int (pe_callB call_len_seq (by rfl) (T.fr "len" (by decide +kernel)) PySem.boot_len (pa_cons (pv 1) pa_nil)))) (pa_cons pe_int pa_nil)))))))))
theorem ok__law_draw (T : T P K mg)  (F : FnP K "_law_draw" s__law_draw f fd) : FnOk P w K mg base CX0 3 f fd ["hand", "many"] (sp_draw K) := by
  refine F.ok sc__law_draw (fun vs H Q E h => len_draw h) (fun cdv A outer s H vs Q E hr h => ⟨t__law_draw K, PSs.nox ?_, body_draw h⟩)
  exact (pss_cons (ps_if (PW.pt (pw_and (pt_cmpR op_eq (pe_ix ix_list (pv 0) pe_int (fun _ _ => rfl)) pe_int (nomark _)) (pw_and1 (pt_cmpR op_lt (pe_ix ix_list (pv 0) pe_int (fun _ _ => rfl)) (pe_callB call_len_seq (by rfl) (T.fr "len" (by decide +kernel)) PySem.boot_len (pa_cons (pe_ix ix_list (pv 0) pe_int (fun _ _ => rfl)) pa_nil)) (nomark _))))) (pss_cons (ps_set (i := 2) sc__law_draw.nd rfl (Or.inl rfl) (pe_ix ix_list (pe_ix ix_list (pv 0) pe_int (fun _ _ => rfl)) (pe_ix ix_list (pv 0) pe_int (fun _ _ => rfl)) (fun _ _ => rfl)))
    (pss_cons (ps_asg (pe_op op_add (pe_ix ix_list (pv 0) pe_int (fun _ _ => rfl)) pe_int) (pg_sub (pv 0) pe_int set_list))
    (pss_cons (ps_asg (pe_op op_modN (pe_callTy call_int1 (by rfl) (T.fr "int" (by decide +kernel)) (by decide +kernel) (pa_cons (pe_op op_add (pe_op op_add (pe_op op_mulA (pe_ix ix_list (pv 0) pe_int (fun _ _ => rfl)) pe_int) (pv 2)) pe_int) pa_nil)) pe_int) (pg_sub (pv 0) pe_int set_list))
    (pss_one (ps_if (pt_cmpR op_ge (pv 2) (pe_op op_pow pe_int pe_int) (nomark _)) (pss_one (ps_asg (pv 2) (pg_sub (pv 0) pe_int set_list))) pss_nil))))) pss_nil)
    (pss_cons (ps_if (pt_cmpR op_gt (pe_ix ix_list (pv 0) pe_int (fun _ _ => rfl)) pe_int (nomark _)) (pss_cons (ps_set (i := 3) sc__law_draw.nd rfl (Or.inl rfl) (pe_op op_modN (pe_callTy call_int1 (by rfl) (T.fr "int" (by decide +kernel)) (by decide +kernel) (pa_cons (pe_ix ix_list (pv 0) pe_int (fun _ _ => rfl)) pa_nil)) (pv 1)))
    (pss_cons (ps_asg (pe_op op_fdivA (pe_ix ix_list (pv 0) pe_int (fun _ _ => rfl)) (pv 1)) (pg_sub (pv 0) pe_int set_list))
    (pss_one (ps_ret (pv 3))))) pss_nil)
    (pss_cons (ps_asg (pe_op op_add (pe_ix ix_list (pv 0) pe_int (fun _ _ => rfl)) pe_int) (pg_sub (pv 0) pe_int set_list))
    (pss_cons (ps_set (i := 4) sc__law_draw.nd rfl (Or.inl rfl) (pe_op op_modN (pe_callTy call_int1 (by rfl) (T.fr "int" (by decide +kernel)) (by decide +kernel) (pa_cons (pe_op op_mulA (pe_callTy call_int1 (by rfl) (T.fr "int" (by decide +kernel)) (by decide +kernel) (pa_cons (pe_op op_add (pe_ix ix_list (pv 0) pe_int (fun _ _ => rfl)) (pe_op op_mulA pe_int (pe_ix ix_list (pv 0) pe_int (fun _ _ => rfl)))) pa_nil)) pe_int) pa_nil)) pe_int))
    (pss_cons (ps_set (i := 4) sc__law_draw.nd rfl (Or.inl rfl) (pe_op op_modN (pe_callTy call_int1 (by rfl) (T.fr "int" (by decide +kernel)) (by decide +kernel) (pa_cons (pe_op op_mulA (pv 4) (pe_op op_add (pe_op op_fdivA (pv 4) pe_int) pe_int)) pa_nil)) pe_int))
    (pss_cons (ps_set (i := 4) sc__law_draw.nd rfl (Or.inl rfl) (pe_op op_modN (pe_callTy call_int1 (by rfl) (T.fr "int" (by decide +kernel)) (by decide +kernel) (pa_cons (pe_op op_mulA (pv 4) (pe_op op_add (pe_op op_fdivA (pv 4) pe_int) pe_int)) pa_nil)) pe_int))
    (pss_one (ps_ret (pe_op op_modN (pe_callTy call_int1 (by rfl) (T.fr "int" (by decide +kernel)) (by decide +kernel) (pa_cons (pe_op op_fdivA (pv 4) pe_int) pa_nil)) (pv 1))))))))))
theorem ok__law_ten (T : T P K mg)  (F : FnP K "_law_ten" s__law_ten f fd) : FnOk P w K mg base CX0 3 f fd ["many"] (sp_ten K) := by
  refine F.ok sc__law_ten (fun vs H Q E h => len_ten h) (fun cdv A outer s H vs Q E hr h => ⟨t__law_ten K, PSs.nox ?_, body_ten h⟩)
  exact (pss_cons (ps_set (i := 1) sc__law_ten.nd rfl (Or.inl rfl) pe_int)
    (pss_cons (ps_for PassesOwn.never rfl (pi_range1 rfl (T.fr "range" (by decide +kernel)) (pa_cons (pv 0) pa_nil)) (pg_name (i := 2) sc__law_ten.nd rfl (Or.inl rfl)) (pss_one (ps_set (i := 1) sc__law_ten.nd rfl (Or.inl rfl) (pe_op op_mulA (pv 1) pe_int))))
    (pss_one (ps_ret (pv 1)))))
theorem ok__law_some (T : T P K mg) (C__law_draw : Has P w K mg base CX0 3 "_law_draw" ["hand", "many"] (sp_draw K)) (F : FnP K "_law_some" s__law_some f fd) : FnOk P w K mg base CX0 4 f fd ["hand", "things"] (sp_some K) := by
  refine F.ok sc__law_some (fun vs H Q E h => len_some h) (fun cdv A outer s H vs Q E hr h => ⟨t__law_some K, PSs.nox ?_, body_some h⟩)
  exact (pss_one (ps_ret (pe_ix ix_list (pv 1) (pe_has C__law_draw (hr.mono (by decide)) (pa_cons (pv 0) (pa_cons (pe_callB call_len_seq (by rfl) (T.fr "len" (by decide +kernel)) PySem.boot_len (pa_cons (pv 1) pa_nil)) pa_nil))) (fun _ _ => rfl))))
theorem ok__law_thing (T : T P K mg) (C__law_some : Has P w K mg base CX0 4 "_law_some" ["hand", "things"] (sp_some K)) (C__law_ten : Has P w K mg base CX0 3 "_law_ten" ["many"] (sp_ten K)) (C__law_draw : Has P w K mg base CX0 3 "_law_draw" ["hand", "many"] (sp_draw K)) (F : FnP K "_law_thing" s__law_thing f fd) : FnOk P w K mg base CX0 5 f fd ["hand"] (sp_thing K) := by
  refine F.ok sc__law_thing (fun vs H Q E h => len_thing h) (fun cdv A outer s H vs Q E hr h => ⟨t__law_thing K, PSs.nox ?_, body_thing h⟩)
  exact (pss_cons (ps_set (i := 1) sc__law_thing.nd rfl (Or.inl rfl) (pe_lst (pa_cons pe_non (pa_cons pe_bl (pa_cons pe_bl (pa_cons pe_int (pa_cons pe_int (pa_cons (pe_has C__law_ten (hr.mono (by decide)) (pa_cons pe_int pa_nil)) (pa_cons pe_str (pa_cons pe_str (pa_cons pe_str (pa_cons (pe_tup pa_nil) (pa_cons (pe_lst pa_nil) (pa_cons pe_dnewK (pa_cons (pe_tup (pa_cons pe_int (pa_cons pe_int pa_nil))) (pa_cons (pe_lst (pa_cons (pe_tup pa_nil) pa_nil)) (pa_cons (pe_disp (pps_cons pe_str pe_int pps_nil) rfl rfl (List.cons_ne_nil _ _) (by simp)) (pa_cons (pe_dispT1 (unitsL hr) (pe_tup (pa_cons pe_int (pa_cons pe_int pa_nil))) (pe_lst (pa_cons pe_int pa_nil))) pa_nil))))))))))))))))))
    (pss_cons (ps_set (i := 2) sc__law_thing.nd rfl (Or.inl rfl) (pe_has C__law_some (hr.mono (by decide)) (pa_cons (pv 0) (pa_cons (pe_op op_cat (pv 1) (pe_lst (pa_cons (pe_has C__law_draw (hr.mono (by decide)) (pa_cons (pv 0) (pa_cons (pe_op op_pow pe_int pe_int) pa_nil))) (pa_cons (pe_un un_neg pe_int) (pa_cons pe_str pa_nil))))) pa_nil))))
    (pss_cons (ps_for PassesOwn.never rfl (pi_range1 rfl (T.fr "range" (by decide +kernel)) (pa_cons (pe_has C__law_some (hr.mono (by decide)) (pa_cons (pv 0) (pa_cons (pe_lst (pa_cons pe_int (pa_cons pe_int (pa_cons pe_int (pa_cons pe_int (pa_cons pe_int (pa_cons pe_int pa_nil))))))) pa_nil))) pa_nil)) (pg_name (i := 3) sc__law_thing.nd rfl (Or.inl rfl)) (pss_one (ps_set (i := 2) sc__law_thing.nd rfl (Or.inl rfl) (pe_ix ix_list (pe_lst (pa_cons (pe_tup (pa_cons (pv 2) pa_nil)) (pa_cons (pe_lst (pa_cons (pv 2) pa_nil)) (pa_cons (pe_tup (pa_cons (pv 3) (pa_cons (pv 2) pa_nil))) (pa_cons (pe_disp (pps_cons (pv 3) (pv 2) pps_nil) rfl rfl (List.cons_ne_nil _ _) (by simp)) pa_nil))))) (pe_has C__law_draw (hr.mono (by decide)) (pa_cons (pv 0) (pa_cons pe_int pa_nil))) (fun _ _ => rfl)))))
    (pss_one (ps_ret (pv 2))))))
theorem ok__law_made (T : T P K mg)  (F : FnP K "_law_made" s__law_made f fd) : FnOk P w K mg base CX0 6 f fd ["thing"] (sp_made K) := by
  refine F.ok sc__law_made (fun vs H Q E h => len_made h) (fun cdv A outer s H vs Q E hr h => ⟨t__law_made K, PSs.nox ?_, body_made h⟩)
  exact (pss_cons (ps_set (i := 1) sc__law_made.nd rfl (Or.inl rfl) (pe_lst (pa_cons (pe_err1 (T.e1 ("BadField", "part") (by decide +kernel)) T.su hr (pv 0)) (pa_cons (pe_err1 (T.e1 ("BadText", "at") (by decide +kernel)) T.su hr (pv 0)) (pa_cons (pe_err1 (T.e1 ("NoName", "name") (by decide +kernel)) T.su hr (pv 0)) pa_nil)))))
    (pss_cons (ps_set (i := 1) sc__law_made.nd rfl (Or.inl rfl) (pe_op op_cat (pv 1) (pe_lst (pa_cons (pe_err0 (T.e0 "NoElement" (by decide +kernel)) T.su hr) (pa_cons (pe_err0 (T.e0 "NoElements" (by decide +kernel)) T.su hr) (pa_cons (pe_err0 (T.e0 "Nought" (by decide +kernel)) T.su hr) (pa_cons (pe_err0 (T.e0 "NoNumber" (by decide +kernel)) T.su hr) (pa_cons (pe_err0 (T.e0 "NoTable" (by decide +kernel)) T.su hr) (pa_cons (pe_err0 (T.e0 "NoIdeal" (by decide +kernel)) T.su hr) (pa_cons (pe_err0 (T.e0 "NotWithin" (by decide +kernel)) T.su hr) (pa_cons (pe_err0 (T.e0 "NoPrime" (by decide +kernel)) T.su hr) pa_nil)))))))))))
    (pss_cons (ps_set (i := 1) sc__law_made.nd rfl (Or.inl rfl) (pe_op op_cat (pv 1) (pe_lst (pa_cons (pe_err0 (T.e0 "NotPrime" (by decide +kernel)) T.su hr) (pa_cons (pe_err0 (T.e0 "NoPrimes" (by decide +kernel)) T.su hr) (pa_cons (pe_err0 (T.e0 "TooLarge" (by decide +kernel)) T.su hr) (pa_cons (pe_err0 (T.e0 "NoEll" (by decide +kernel)) T.su hr) (pa_cons (pe_err0 (T.e0 "NoMark" (by decide +kernel)) T.su hr) (pa_cons (pe_err0 (T.e0 "NotClear" (by decide +kernel)) T.su hr) (pa_cons (pe_err0 (T.e0 "NoUnits" (by decide +kernel)) T.su hr) (pa_cons (pe_err0 (T.e0 "NoUnit" (by decide +kernel)) T.su hr) (pa_cons (pe_err0 (T.e0 "NoBook" (by decide +kernel)) T.su hr) pa_nil))))))))))))
    (pss_cons (ps_set (i := 1) sc__law_made.nd rfl (Or.inl rfl) (pe_op op_cat (pv 1) (pe_lst (pa_cons (pe_err0 (T.e0 "NoMakers" (by decide +kernel)) T.su hr) (pa_cons (pe_err0 (T.e0 "NoBase" (by decide +kernel)) T.su hr) (pa_cons (pe_err0 (T.e0 "NotMade" (by decide +kernel)) T.su hr) (pa_cons (pe_err0 (T.e0 "NoOrder" (by decide +kernel)) T.su hr) (pa_cons (pe_err0 (T.e0 "NoRow" (by decide +kernel)) T.su hr) (pa_cons (pe_err0 (T.e0 "NoRoot" (by decide +kernel)) T.su hr) (pa_cons (pe_err0 (T.e0 "NothingDone" (by decide +kernel)) T.su hr) (pa_cons (pe_err0 (T.e0 "NoLine" (by decide +kernel)) T.su hr) pa_nil)))))))))))
    (pss_one (ps_ret (pv 1)))))))
theorem ok__law_kinds (T : T P K mg)  (F : FnP K "_law_kinds" s__law_kinds f fd) : FnOk P w K mg base CX0 3 f fd ["one"] (sp_kinds K) := by
  refine F.ok sc__law_kinds (fun vs H Q E h => len_kinds h) (fun cdv A outer s H vs Q E hr h => ⟨t__law_kinds K, PSs.nox ?_, body_kinds T.kf h⟩)
  exact (pss_cons (ps_set (i := 1) sc__law_kinds.nd rfl (Or.inl rfl) (pe_lst (pa_cons (pe_callB (call_isz T.cg) (by rfl) (T.fr "isinstance" (by decide +kernel)) (by decide +kernel) (pa_cons (pv 0) (pa_cons (pe_glob rfl (T.g "BadField" (by decide +kernel)) rfl) pa_nil))) (pa_cons (pe_callB (call_isz T.cg) (by rfl) (T.fr "isinstance" (by decide +kernel)) (by decide +kernel) (pa_cons (pv 0) (pa_cons (pe_glob rfl (T.g "BadText" (by decide +kernel)) rfl) pa_nil))) (pa_cons (pe_callB (call_isz T.cg) (by rfl) (T.fr "isinstance" (by decide +kernel)) (by decide +kernel) (pa_cons (pv 0) (pa_cons (pe_glob rfl (T.g "NoName" (by decide +kernel)) rfl) pa_nil))) (pa_cons (pe_callB (call_isz T.cg) (by rfl) (T.fr "isinstance" (by decide +kernel)) (by decide +kernel) (pa_cons (pv 0) (pa_cons (pe_glob rfl (T.g "NoElement" (by decide +kernel)) rfl) pa_nil))) pa_nil))))))
    (pss_cons (ps_set (i := 1) sc__law_kinds.nd rfl (Or.inl rfl) (pe_op op_cat (pv 1) (pe_lst (pa_cons (pe_callB (call_isz T.cg) (by rfl) (T.fr "isinstance" (by decide +kernel)) (by decide +kernel) (pa_cons (pv 0) (pa_cons (pe_glob rfl (T.g "NoElements" (by decide +kernel)) rfl) pa_nil))) (pa_cons (pe_callB (call_isz T.cg) (by rfl) (T.fr "isinstance" (by decide +kernel)) (by decide +kernel) (pa_cons (pv 0) (pa_cons (pe_glob rfl (T.g "Nought" (by decide +kernel)) rfl) pa_nil))) (pa_cons (pe_callB (call_isz T.cg) (by rfl) (T.fr "isinstance" (by decide +kernel)) (by decide +kernel) (pa_cons (pv 0) (pa_cons (pe_glob rfl (T.g "NoNumber" (by decide +kernel)) rfl) pa_nil))) pa_nil))))))
    (pss_cons (ps_set (i := 1) sc__law_kinds.nd rfl (Or.inl rfl) (pe_op op_cat (pv 1) (pe_lst (pa_cons (pe_callB (call_isz T.cg) (by rfl) (T.fr "isinstance" (by decide +kernel)) (by decide +kernel) (pa_cons (pv 0) (pa_cons (pe_glob rfl (T.g "NoTable" (by decide +kernel)) rfl) pa_nil))) (pa_cons (pe_callB (call_isz T.cg) (by rfl) (T.fr "isinstance" (by decide +kernel)) (by decide +kernel) (pa_cons (pv 0) (pa_cons (pe_glob rfl (T.g "NoIdeal" (by decide +kernel)) rfl) pa_nil))) (pa_cons (pe_callB (call_isz T.cg) (by rfl) (T.fr "isinstance" (by decide +kernel)) (by decide +kernel) (pa_cons (pv 0) (pa_cons (pe_glob rfl (T.g "NotWithin" (by decide +kernel)) rfl) pa_nil))) pa_nil))))))
    (pss_cons (ps_set (i := 1) sc__law_kinds.nd rfl (Or.inl rfl) (pe_op op_cat (pv 1) (pe_lst (pa_cons (pe_callB (call_isz T.cg) (by rfl) (T.fr "isinstance" (by decide +kernel)) (by decide +kernel) (pa_cons (pv 0) (pa_cons (pe_glob rfl (T.g "NoPrime" (by decide +kernel)) rfl) pa_nil))) (pa_cons (pe_callB (call_isz T.cg) (by rfl) (T.fr "isinstance" (by decide +kernel)) (by decide +kernel) (pa_cons (pv 0) (pa_cons (pe_glob rfl (T.g "NotPrime" (by decide +kernel)) rfl) pa_nil))) (pa_cons (pe_callB (call_isz T.cg) (by rfl) (T.fr "isinstance" (by decide +kernel)) (by decide +kernel) (pa_cons (pv 0) (pa_cons (pe_glob rfl (T.g "NoPrimes" (by decide +kernel)) rfl) pa_nil))) pa_nil))))))
    (pss_cons (ps_set (i := 1) sc__law_kinds.nd rfl (Or.inl rfl) (pe_op op_cat (pv 1) (pe_lst (pa_cons (pe_callB (call_isz T.cg) (by rfl) (T.fr "isinstance" (by decide +kernel)) (by decide +kernel) (pa_cons (pv 0) (pa_cons (pe_glob rfl (T.g "TooLarge" (by decide +kernel)) rfl) pa_nil))) (pa_cons (pe_callB (call_isz T.cg) (by rfl) (T.fr "isinstance" (by decide +kernel)) (by decide +kernel) (pa_cons (pv 0) (pa_cons (pe_glob rfl (T.g "NoEll" (by decide +kernel)) rfl) pa_nil))) (pa_cons (pe_callB (call_isz T.cg) (by rfl) (T.fr "isinstance" (by decide +kernel)) (by decide +kernel) (pa_cons (pv 0) (pa_cons (pe_glob rfl (T.g "NoMark" (by decide +kernel)) rfl) pa_nil))) pa_nil))))))
    (pss_cons (ps_set (i := 1) sc__law_kinds.nd rfl (Or.inl rfl) (pe_op op_cat (pv 1) (pe_lst (pa_cons (pe_callB (call_isz T.cg) (by rfl) (T.fr "isinstance" (by decide +kernel)) (by decide +kernel) (pa_cons (pv 0) (pa_cons (pe_glob rfl (T.g "NotClear" (by decide +kernel)) rfl) pa_nil))) (pa_cons (pe_callB (call_isz T.cg) (by rfl) (T.fr "isinstance" (by decide +kernel)) (by decide +kernel) (pa_cons (pv 0) (pa_cons (pe_glob rfl (T.g "NoUnits" (by decide +kernel)) rfl) pa_nil))) (pa_cons (pe_callB (call_isz T.cg) (by rfl) (T.fr "isinstance" (by decide +kernel)) (by decide +kernel) (pa_cons (pv 0) (pa_cons (pe_glob rfl (T.g "NoUnit" (by decide +kernel)) rfl) pa_nil))) pa_nil))))))
    (pss_cons (ps_set (i := 1) sc__law_kinds.nd rfl (Or.inl rfl) (pe_op op_cat (pv 1) (pe_lst (pa_cons (pe_callB (call_isz T.cg) (by rfl) (T.fr "isinstance" (by decide +kernel)) (by decide +kernel) (pa_cons (pv 0) (pa_cons (pe_glob rfl (T.g "NoBook" (by decide +kernel)) rfl) pa_nil))) (pa_cons (pe_callB (call_isz T.cg) (by rfl) (T.fr "isinstance" (by decide +kernel)) (by decide +kernel) (pa_cons (pv 0) (pa_cons (pe_glob rfl (T.g "NoMakers" (by decide +kernel)) rfl) pa_nil))) (pa_cons (pe_callB (call_isz T.cg) (by rfl) (T.fr "isinstance" (by decide +kernel)) (by decide +kernel) (pa_cons (pv 0) (pa_cons (pe_glob rfl (T.g "NoBase" (by decide +kernel)) rfl) pa_nil))) pa_nil))))))
    (pss_cons (ps_set (i := 1) sc__law_kinds.nd rfl (Or.inl rfl) (pe_op op_cat (pv 1) (pe_lst (pa_cons (pe_callB (call_isz T.cg) (by rfl) (T.fr "isinstance" (by decide +kernel)) (by decide +kernel) (pa_cons (pv 0) (pa_cons (pe_glob rfl (T.g "NotMade" (by decide +kernel)) rfl) pa_nil))) (pa_cons (pe_callB (call_isz T.cg) (by rfl) (T.fr "isinstance" (by decide +kernel)) (by decide +kernel) (pa_cons (pv 0) (pa_cons (pe_glob rfl (T.g "NoOrder" (by decide +kernel)) rfl) pa_nil))) (pa_cons (pe_callB (call_isz T.cg) (by rfl) (T.fr "isinstance" (by decide +kernel)) (by decide +kernel) (pa_cons (pv 0) (pa_cons (pe_glob rfl (T.g "NoRow" (by decide +kernel)) rfl) pa_nil))) pa_nil))))))
    (pss_cons (ps_set (i := 1) sc__law_kinds.nd rfl (Or.inl rfl) (pe_op op_cat (pv 1) (pe_lst (pa_cons (pe_callB (call_isz T.cg) (by rfl) (T.fr "isinstance" (by decide +kernel)) (by decide +kernel) (pa_cons (pv 0) (pa_cons (pe_glob rfl (T.g "NoRoot" (by decide +kernel)) rfl) pa_nil))) (pa_cons (pe_callB (call_isz T.cg) (by rfl) (T.fr "isinstance" (by decide +kernel)) (by decide +kernel) (pa_cons (pv 0) (pa_cons (pe_glob rfl (T.g "NothingDone" (by decide +kernel)) rfl) pa_nil))) (pa_cons (pe_callB (call_isz T.cg) (by rfl) (T.fr "isinstance" (by decide +kernel)) (by decide +kernel) (pa_cons (pv 0) (pa_cons (pe_glob rfl (T.g "NoLine" (by decide +kernel)) rfl) pa_nil))) pa_nil))))))
    (pss_one (ps_ret (pv 1))))))))))))
theorem ok__law_is_other (T : T P K mg)  (F : FnP K "_law_is_other" s__law_is_other f fd) : FnOk P w K mg base CX0 3 f fd ["one"] (sp_is_other K) := by
  refine F.ok sc__law_is_other (fun vs H Q E h => len_is_other h) (fun cdv A outer s H vs Q E hr h => ⟨t__law_is_other K, PSs.nox ?_, body_is_other T.kf h⟩)
  exact (pss_cons (ps_set (i := 1) sc__law_is_other.nd rfl (Or.inl rfl) (pe_or (pe_callB (call_isz T.cg) (by rfl) (T.fr "isinstance" (by decide +kernel)) (by decide +kernel) (pa_cons (pv 0) (pa_cons (pe_bltn (by rfl) (T.fr "KeyError" (by decide +kernel)) (by decide +kernel) rfl) pa_nil))) (pe_or (pe_callB (call_isz T.cg) (by rfl) (T.fr "isinstance" (by decide +kernel)) (by decide +kernel) (pa_cons (pv 0) (pa_cons (pe_bltn (by rfl) (T.fr "IndexError" (by decide +kernel)) (by decide +kernel) rfl) pa_nil))) (pe_one (pe_callB (call_isz T.cg) (by rfl) (T.fr "isinstance" (by decide +kernel)) (by decide +kernel) (pa_cons (pv 0) (pa_cons (pe_bltn (by rfl) (T.fr "ArithmeticError" (by decide +kernel)) (by decide +kernel) rfl) pa_nil)))))))
    (pss_one (ps_ret (pe_or (pv 1) (pe_or (pe_callB (call_isz T.cg) (by rfl) (T.fr "isinstance" (by decide +kernel)) (by decide +kernel) (pa_cons (pv 0) (pa_cons (pe_bltn (by rfl) (T.fr "TypeError" (by decide +kernel)) (by decide +kernel) rfl) pa_nil))) (pe_or (pe_callB (call_isz T.cg) (by rfl) (T.fr "isinstance" (by decide +kernel)) (by decide +kernel) (pa_cons (pv 0) (pa_cons (pe_bltn (by rfl) (T.fr "AttributeError" (by decide +kernel)) (by decide +kernel) rfl) pa_nil))) (pe_one (pe_callB (call_isz T.cg) (by rfl) (T.fr "isinstance" (by decide +kernel)) (by decide +kernel) (pa_cons (pv 0) (pa_cons (pe_bltn (by rfl) (T.fr "RuntimeError" (by decide +kernel)) (by decide +kernel) rfl) pa_nil))))))))))
theorem raises_K {X : Cx} (F : KF X.K) (q : Str × Str) (hq : q ∈ nm1) : Raises X (.ref (He.ga X.K q.1)) := by
  have hm : q.1 ∈ all29 := by
    have k : ∀ q ∈ nm1, q.1 ∈ all29 := by decide +kernel
    exact k q hq
  exact raises_own (F.ek _ hm).exC (F.ek _ hm).tC
theorem ok__law_raise (T : T P K mg) (F : FnP K "_law_raise" s__law_raise f fd) : FnOk P w K mg base (L2.CX P w) 3 f fd ["which", "thing"] (sp_raise K) := by
  refine F.ok sc__law_raise (fun vs H Q E h => len_raise h) (fun cdv A outer s H vs Q E hr h => ⟨t__law_raise K H (Raises (cxOf (L2.CX P w) P w K mg base N__law_raise "_law_raise" (defScope s__law_raise) f cdv A outer s H E)) E, ?_, body_raise (fun q hq => raises_K T.kf q hq) h⟩)
  exact (pss_cons (ps_if (pt_cmpR op_eq (pv 0) pe_int (nomark _)) (pss_one (ps_raise rfl (takes_of rfl rfl rfl rfl) (pmk_held rfl (pe_err1 (T.e1 ("BadField", "part") (by decide +kernel)) T.su hr (pv 1))))) pss_nil)
    (pss_cons (ps_if (pt_cmpR op_eq (pv 0) pe_int (nomark _)) (pss_one (ps_raise rfl (takes_of rfl rfl rfl rfl) (pmk_held rfl (pe_err1 (T.e1 ("BadText", "at") (by decide +kernel)) T.su hr (pv 1))))) pss_nil)
    (pss_one (ps_raise rfl (takes_of rfl rfl rfl rfl) (pmk_held rfl (pe_err1 (T.e1 ("NoName", "name") (by decide +kernel)) T.su hr (pv 1)))))))
theorem xfc {x : Str} (F : KF K) (h : x ∈ all29) : XfC K (He.ga K x) := ⟨(F.ek x h).ga, (F.ek x h).gg, (F.ek x h).exC, (F.ek x h).hdC⟩
theorem ok__law_caught (T : T P K mg) (C__law_raise : Has P w K mg base (L2.CX P w) 3 "_law_raise" ["which", "thing"] (sp_raise K)) (F : FnP K "_law_caught" s__law_caught f fd) : FnOk P w K mg base CX0 4 f fd ["which", "thing"] (sp_caught K) := by
  obtain ⟨f2, fd2, gm, kp, bd, F2⟩ := C__law_raise
  refine F.ok sc__law_caught (fun vs H Q E h => len_caught h) (fun cdv A outer s H vs Q E hr h => ⟨t__law_caught K, PSs.nox ?_, body_caught T.kf h⟩)
  exact (pss_cons (ps_try_cls rfl rfl sc__law_caught.nd takes_none5 (fun W pn xe tk pa => pss_one (ps_expr (pe_callS F2 (hr.mono (by decide)) rfl gm kp bd (fun σ => passAt tk σ) (pa_cons (pv 0) (pa_cons (pv 1) pa_nil))))) (.named ⟨rfl, by decide, .inl (T.g "BadField" (by decide +kernel))⟩ rfl rfl (fun a oe cls d pn hz hf => pss_one (ps_ret (pe_tup (pa_cons pe_int (pa_cons (pe_xf (xfc T.kf (by decide +kernel)) (T.kf.no ("BadField", "part") (by decide +kernel)) hz hf (pv 2)) pa_nil))))) (.named ⟨rfl, by decide, .inl (T.g "BadText" (by decide +kernel))⟩ rfl rfl (fun a oe cls d pn hz hf => pss_one (ps_ret (pe_tup (pa_cons pe_int (pa_cons (pe_xf (xfc T.kf (by decide +kernel)) (T.kf.no ("BadText", "at") (by decide +kernel)) hz hf (pv 2)) pa_nil))))) (.named ⟨rfl, by decide, .inl (T.g "NoName" (by decide +kernel))⟩ rfl rfl (fun a oe cls d pn hz hf => pss_one (ps_ret (pe_tup (pa_cons pe_int (pa_cons (pe_xf (xfc T.kf (by decide +kernel)) (T.kf.no ("NoName", "name") (by decide +kernel)) hz hf (pv 2)) pa_nil))))) .nil)))) (pss_one (ps_ret (pe_tup (pa_cons pe_int (pa_cons pe_non pa_nil))))))
theorem ok__law_is_based (T : T P K mg) (C__law_raise : Has P w K mg base (L2.CX P w) 3 "_law_raise" ["which", "thing"] (sp_raise K)) (F : FnP K "_law_is_based" s__law_is_based f fd) : FnOk P w K mg base CX0 4 f fd ["which", "thing"] (sp_is_based K) := by
  obtain ⟨f2, fd2, gm, kp, bd, F2⟩ := C__law_raise
  refine F.ok sc__law_is_based (fun vs H Q E h => len_is_based h) (fun cdv A outer s H vs Q E hr h => ⟨t__law_is_based K, PSs.nox ?_, body_is_based T.kf h⟩)
  exact (pss_cons (ps_try_cls rfl rfl sc__law_is_based.nd takes_none5 (fun W pn xe tk pa => pss_one (ps_expr (pe_callS F2 (hr.mono (by decide)) rfl gm kp bd (fun σ => passAt tk σ) (pa_cons (pv 0) (pa_cons (pv 1) pa_nil))))) (.bare ⟨rfl, by decide, .inl (T.g "FieldError" (by decide +kernel))⟩ (fun a oe cls d pn hz hf => pss_one (ps_ret pe_bl)) .nil)) (pss_one (ps_ret pe_bl)))
theorem ok_law (T : T P K mg) (C__law_hand : Has P w K mg base CX0 3 "_law_hand" ["script"] (sp_hand K)) (C__law_thing : Has P w K mg base CX0 5 "_law_thing" ["hand"] (sp_thing K)) (C__law_draw : Has P w K mg base CX0 3 "_law_draw" ["hand", "many"] (sp_draw K)) (C__law_caught : Has P w K mg base CX0 4 "_law_caught" ["which", "thing"] (sp_caught K)) (C__law_made : Has P w K mg base CX0 6 "_law_made" ["thing"] (sp_made K)) (C__law_kinds : Has P w K mg base CX0 3 "_law_kinds" ["one"] (sp_kinds K)) (C__law_is_other : Has P w K mg base CX0 3 "_law_is_other" ["one"] (sp_is_other K)) (C__law_is_based : Has P w K mg base CX0 4 "_law_is_based" ["which", "thing"] (sp_is_based K)) (F : FnP K "law" s_law f fd) : FnOkG P w K mg base CX0 7 f fd ["script"] (spLaw K) := by
  obtain ⟨oc, od, dV, kV, doc, pm, an, cdv, ct, osl, rfl, lk, hcd, _, _⟩ := F.ex
  refine fnG_of lk hcd sc_law (fun vs H Q E ⟨a, ns, e, _⟩ => by rw [e]; rfl) (fun A outer s H vs Q E hg hr h => ⟨t_law K, PSs.nox ?_, law_pure rfl T.kf h⟩)
  exact (pss_cons (ps_set (i := 1) sc_law.nd rfl (Or.inl rfl) (pe_has C__law_hand (hr.mono (by decide)) (pa_cons (pv 0) pa_nil)))
    (pss_cons (ps_for PassesOwn.never rfl (pi_range1 rfl (T.fr "range" (by decide +kernel)) (pa_cons pe_int pa_nil)) (pg_name (i := 2) sc_law.nd rfl (Or.inl rfl)) (pss_cons (ps_set (i := 3) sc_law.nd rfl (Or.inr rfl) (pe_has C__law_thing (hr.mono (by decide)) (pa_cons (pv 1) pa_nil)))
    (pss_cons (ps_asg (pe_tup (pa_cons (pe_callB (call_repr T.sy hg hr) (by rfl) (T.fr "repr" (by decide +kernel)) (by decide +kernel) (pa_cons (pv 3) pa_nil)) (pa_cons (pe_has C__law_made (hr.mono (by decide)) (pa_cons (pv 3) pa_nil)) pa_nil))) (pg_tup rfl (pgs_cons (pg_name (i := 4) sc_law.nd rfl (Or.inr rfl)) (pgs_cons (pg_name (i := 5) sc_law.nd rfl (Or.inl rfl)) pgs_nil))))
    (pss_cons (ps_for PassesOwn.never rfl (pi_enum (by rfl) (T.fr "enumerate" (by decide +kernel)) (pa_cons (pv 5) pa_nil)) (pg_tup rfl (pgs_cons (pg_name (i := 6) sc_law.nd rfl (Or.inl rfl)) (pgs_cons (pg_name (i := 7) sc_law.nd rfl (Or.inl rfl)) pgs_nil))) (pss_cons (ps_if (PW.pt (pw_or (pt_not (pt_val (pe_callB (call_isz T.cg) (by rfl) (T.fr "isinstance" (by decide +kernel)) (by decide +kernel) (pa_cons (pv 7) (pa_cons (pe_glob rfl (T.g "FieldError" (by decide +kernel)) rfl) pa_nil))))) (pw_or (pt_not (pt_val (pe_callB (call_isz T.cg) (by rfl) (T.fr "isinstance" (by decide +kernel)) (by decide +kernel) (pa_cons (pv 7) (pa_cons (pe_bltn (by rfl) (T.fr "ValueError" (by decide +kernel)) (by decide +kernel) rfl) pa_nil))))) (pw_or1 (pt_val (pe_has C__law_is_other (hr.mono (by decide)) (pa_cons (pv 7) pa_nil))))))) (pss_one (ps_ret pe_bl)) pss_nil)
    (pss_cons (ps_set (i := 8) sc_law.nd rfl (Or.inl rfl) (pe_has C__law_kinds (hr.mono (by decide)) (pa_cons (pv 7) pa_nil)))
    (pss_one (ps_if (PW.pt (pw_or (pt_cmpR (op_neD (unitsR hr)) (pe_lc (own := [("at", 13), ("flag", 14)]) rfl sc_law.nd (pi_enum (by rfl) (T.fr "enumerate" (by decide +kernel)) (pa_cons (pv 8) pa_nil)) (blkOk_by (N := N_law) (sc := defScope s_law) (by decide +kernel)) (fun _ _ _ _ _ => (pg_tup rfl (pgs_cons (pg_name (i := 13) sc_law.nd rfl (Or.inl rfl)) (pgs_cons (pg_name (i := 14) sc_law.nd rfl (Or.inl rfl)) pgs_nil)))) (fun _ _ _ _ _ => (pts_one (pt_val (pv 14)))) (fun _ _ _ _ _ => (pv 13))) (pe_lst (pa_cons (pv 6) pa_nil)) (nomark _)) (pw_or1 (pt_cmpR op_ne (pe_callB call_len_seq (by rfl) (T.fr "len" (by decide +kernel)) PySem.boot_len (pa_cons (pv 8) pa_nil)) (pe_callB call_len_seq (by rfl) (T.fr "len" (by decide +kernel)) PySem.boot_len (pa_cons (pv 5) pa_nil)) (nomark _))))) (pss_one (ps_ret pe_bl)) pss_nil)))))
    (pss_cons (ps_set (i := 9) sc_law.nd rfl (Or.inl rfl) (pe_lst (pa_cons (pe_held (pe_ix ix_list (pv 5) pe_int (fun _ _ => rfl))) (pa_cons (pe_held (pe_ix ix_list (pv 5) pe_int (fun _ _ => rfl))) (pa_cons (pe_held (pe_ix ix_list (pv 5) pe_int (fun _ _ => rfl))) pa_nil)))))
    (pss_cons (ps_if (pt_val (pe_callB (cr_any rfl) (by rfl) (T.fr "any" (by decide +kernel)) (by decide +kernel) (pa_cons (pe_lc (own := [("kept", 12)]) rfl sc_law.nd (pi_list (pv 9)) (blkOk_by (N := N_law) (sc := defScope s_law) (by decide +kernel)) (fun _ _ _ _ _ => (pg_name (i := 12) sc_law.nd rfl (Or.inl rfl))) (fun _ _ _ _ _ => pts_nil) (fun _ _ _ _ _ => (pe_or (pe_cmpR op_ne (pe_callB (call_repr T.sy hg hr) (by rfl) (T.fr "repr" (by decide +kernel)) (by decide +kernel) (pa_cons (pv 12) pa_nil)) (pv 4) (nomark _)) (pe_one (pe_cmpR (op_neSame (unitsR hr)) (pv 12) (pv 3) (nomark _)))))) pa_nil))) (pss_one (ps_ret pe_bl)) pss_nil)
    (pss_cons (ps_set (i := 10) sc_law.nd rfl (Or.inl rfl) (pe_has C__law_draw (hr.mono (by decide)) (pa_cons (pv 1) (pa_cons pe_int pa_nil))))
    (pss_cons (ps_set (i := 11) sc_law.nd rfl (Or.inl rfl) (pe_has C__law_caught (hr.mono (by decide)) (pa_cons (pv 10) (pa_cons (pv 3) pa_nil))))
    (pss_one (ps_if (PW.pt (pw_or (pt_cmpR op_ne (pe_ix ix_tup (pv 11) pe_int (fun _ _ => rfl)) (pv 10) (nomark _)) (pw_or (pt_cmpR op_ne (pe_callB (call_repr T.sy hg hr) (by rfl) (T.fr "repr" (by decide +kernel)) (by decide +kernel) (pa_cons (pe_ix ix_tup (pv 11) pe_int (fun _ _ => rfl)) pa_nil)) (pv 4) (nomark _)) (pw_or1 (pt_not (pt_val (pe_has C__law_is_based (hr.mono (by decide)) (pa_cons (pv 10) (pa_cons (pv 3) pa_nil))))))))) (pss_one (ps_ret pe_bl)) pss_nil))))))))))
    (pss_one (ps_ret (pe_and (pe_callB (call_isz T.cg) (by rfl) (T.fr "isinstance" (by decide +kernel)) (by decide +kernel) (pa_cons (pe_exc0 PySem.F.excBase_ValueError T.feq (T.g "FieldError" (by decide +kernel)) T.fek) (pa_cons (pe_bltn (by rfl) (T.fr "ValueError" (by decide +kernel)) (by decide +kernel) rfl) pa_nil))) (pe_one (pe_not (pe_callB (cr_any rfl) (by rfl) (T.fr "any" (by decide +kernel)) (by decide +kernel) (pa_cons (pe_has C__law_kinds (hr.mono (by decide)) (pa_cons (pe_exc0 PySem.F.excBase_ValueError T.feq (T.g "FieldError" (by decide +kernel)) T.fek) pa_nil)) pa_nil)))))))))
end
/-! ### the head -/
abbrev L : PySem.W.OpenLaw := PySem.Challenge.rw_wholeclasses_k00_errors_of_the_package
def fn : List He.DefD := [⟨("_law_hand", none), "_law_hand", "_law_hand", defArgs s__law_hand, defBody s__law_hand, defScope s__law_hand, [], []⟩, ⟨("_law_draw", none), "_law_draw", "_law_draw", defArgs s__law_draw, defBody s__law_draw, defScope s__law_draw, [], []⟩, ⟨("_law_ten", none), "_law_ten", "_law_ten", defArgs s__law_ten, defBody s__law_ten, defScope s__law_ten, [], []⟩, ⟨("_law_some", none), "_law_some", "_law_some", defArgs s__law_some, defBody s__law_some, defScope s__law_some, [], []⟩, ⟨("_law_thing", none), "_law_thing", "_law_thing", defArgs s__law_thing, defBody s__law_thing, defScope s__law_thing, [], []⟩, ⟨("_law_made", none), "_law_made", "_law_made", defArgs s__law_made, defBody s__law_made, defScope s__law_made, [], []⟩, ⟨("_law_kinds", none), "_law_kinds", "_law_kinds", defArgs s__law_kinds, defBody s__law_kinds, defScope s__law_kinds, [], []⟩, ⟨("_law_is_other", none), "_law_is_other", "_law_is_other", defArgs s__law_is_other, defBody s__law_is_other, defScope s__law_is_other, [], []⟩, ⟨("_law_raise", none), "_law_raise", "_law_raise", defArgs s__law_raise, defBody s__law_raise, defScope s__law_raise, [], []⟩, ⟨("_law_caught", none), "_law_caught", "_law_caught", defArgs s__law_caught, defBody s__law_caught, defScope s__law_caught, [], []⟩, ⟨("_law_is_based", none), "_law_is_based", "_law_is_based", defArgs s__law_is_based, defBody s__law_is_based, defScope s__law_is_based, [], []⟩, ⟨("law", none), "law", "law", defArgs s_law, defBody s_law, defScope s_law, [], []⟩]
def fa : List He.Fa := [.glo "_law_hand", .glo "_law_draw", .glo "_law_ten", .glo "_law_some", .glo "_law_thing", .glo "_law_made", .glo "_law_kinds", .glo "_law_is_other", .glo "_law_raise", .glo "_law_caught", .glo "_law_is_based", .glo "law", .free "abs", .free "int", .free "len", .free "range", .free "isinstance", .free "enumerate", .free "any", .free "repr", .free "super", .free "ValueError", .free "KeyError", .free "IndexError", .free "ArithmeticError", .free "TypeError", .free "AttributeError", .free "RuntimeError", .glo "FieldError", .glo "BadField", .glo "BadText", .glo "NoName", .glo "NoElement", .glo "NoElements", .glo "Nought", .glo "NoNumber", .glo "NoTable", .glo "NoIdeal", .glo "NotWithin", .glo "NoPrime", .glo "NotPrime", .glo "NoPrimes", .glo "TooLarge", .glo "NoEll", .glo "NoMark", .glo "NotClear", .glo "NoUnits", .glo "NoUnit", .glo "NoBook", .glo "NoMakers", .glo "NoBase", .glo "NotMade", .glo "NoOrder", .glo "NoRow", .glo "NoRoot", .glo "NothingDone", .glo "NoLine", .exc "FieldError"]
def kfB (K : PySem.W.Frag) : Bool := all29.all (fun x => errKB K (He.ga K x)) && ((all29.all fun q => names28.all fun m => decide (PySem.W.kitOne K (.ref (He.ga K q)) (.ref (He.ga K m)) = some (decide (m = q)))) &&
  ((names28.all fun q => decide (PySem.W.kitOne K (.ref (He.ga K q)) (.ref (He.ga K "FieldError")) = some true)) && ((all29.all fun q => decide (PySem.W.kitOne K (.ref (He.ga K q)) (.type "ValueError") = some true)) &&
  ((names28.all fun q => others.all fun n => decide (PySem.W.kitOne K (.ref (He.ga K q)) (.type n) = some false)) && ((nm1.all fun q => He.eqO (PySem.W.findIn K (.ref (He.ga K q.1)) q.2) (some none)) &&
  ((nm1.all fun q => nm1.all fun m => decide (PySem.W.exmOne K (.ref (He.ga K q.1)) (.ref (He.ga K m.1)) = some (decide (q.1 = m.1)))) && nm1.all fun q => decide (PySem.W.exmOne K (.ref (He.ga K q.1)) (.ref (He.ga K "FieldError")) = some true)))))))
theorem kf_ok {K : PySem.W.Frag} (h : kfB K = true) : KF K := by
  obtain ⟨h1, h⟩ := and2 h
  obtain ⟨h2, h⟩ := and2 h
  obtain ⟨h3, h⟩ := and2 h
  obtain ⟨h4, h⟩ := and2 h
  obtain ⟨h5, h⟩ := and2 h
  obtain ⟨h6, h⟩ := and2 h
  obtain ⟨h7, h8⟩ := and2 h
  exact ⟨fun x hx => errKB_ok (List.all_eq_true.mp h1 x hx), fun q hq m hm => of_decide_eq_true (List.all_eq_true.mp (List.all_eq_true.mp h2 q hq) m hm), fun q hq => of_decide_eq_true (List.all_eq_true.mp h3 q hq), fun q hq => of_decide_eq_true (List.all_eq_true.mp h4 q hq),
    fun q hq n hn => of_decide_eq_true (List.all_eq_true.mp (List.all_eq_true.mp h5 q hq) n hn), fun q hq => He.eqO_ok (List.all_eq_true.mp h6 q hq), fun q hq m hm => of_decide_eq_true (List.all_eq_true.mp (List.all_eq_true.mp h7 q hq) m hm), fun q hq => of_decide_eq_true (List.all_eq_true.mp h8 q hq)⟩
def exB (K : PySem.W.Frag) : Bool := nm0.all (fun x => err0B L.prog K x) && (nm1.all (fun q => err1B L.prog K q.1 q.2) && (clsGetB K && (decide (PySem.W.typeIn K (.ref sysModules) = some (.type "dict")) && kfB K)))
def asX (g : Addr → Option Obj) : List Addr := sysModules :: cStatics :: He.asD g 5
def obsX (g : Addr → Option Obj) : He.AlD := ((He.obsD fa fn (He.frG g (asX g))).1 && exB (He.frG g (asX g)), (He.obsD fa fn (He.frG g (asX g))).2)
def hk : PySem.W.Hook where
  α := He.AlD
  obs := fun s => obsX s.heap.get?
  val := fun _ => He.valD fn
  says := fun _ h => ∃ K : PySem.W.Frag, K.In h ∧ He.SaysD fa fn K ∧ exB K = true
  of := fun _ s e => by
    have h1 := congrArg Prod.fst e
    have h2 := congrArg Prod.snd e
    obtain ⟨h3, h4⟩ := Bool.and_eq_true_iff.mp (show ((He.obsD fa fn (He.frG s.heap.get? (asX s.heap.get?))).1 && exB (He.frG s.heap.get? (asX s.heap.get?))) = true from h1)
    exact ⟨_, He.frG_in, Prod.ext h3 h2, h4⟩
  keeps := fun _ _ _ ⟨K, hK, c⟩ k => ⟨K, PySem.W.Frag.In.keeps hK k, c⟩
def ob (s : PySem.W.SharedT) : He.AlD := obsX (HandSHeadRun.getT s)
theorem ob_eq (s : PySem.W.SharedT) : ob s = hk.obs s.abs := by
  have e : HandSHeadRun.getT s = s.abs.heap.get? := funext (HandSHeadRun.getT_eq s)
  show obsX (HandSHeadRun.getT s) = obsX s.abs.heap.get?
  rw [e]
theorem facts_T {K : PySem.W.Frag} {mg : Str → Option Value} {h : Heap} (X : K.In h) (G : h.Ns mainGlobals mg) (c : He.SaysD fa fn K) (x : exB K = true) : T L.prog K mg := by
  obtain ⟨h0, x⟩ := and2 x
  obtain ⟨h1, x⟩ := and2 x
  obtain ⟨h2, x⟩ := and2 x
  obtain ⟨h3, h4⟩ := and2 x
  have fact : ∀ f ∈ fa, f.ok K = true := fun f hf => by
    have c1 := (He.ba (show ((fa.all fun f => f.ok K) && fn.all fun d => d.ok K) = true from congrArg (fun z : He.AlD => z.1) c)).1
    exact List.all_eq_true.mp c1 f hf
  have fx := fact (.exc "FieldError") (by simp [fa])
  obtain ⟨q1, fx⟩ := He.ba (show (PySem.W.excIn K (He.ga K "FieldError") He.veBase "ValueError.__new__" && (PySem.W.keepIn K (.ref (He.ga K "FieldError")) && (decide (PySem.W.subIn K (.ref (He.ga K "FieldError")) (.type "BaseException") = some true) && decide (PySem.W.typeIn K (.ref (He.ga K "FieldError")) = some (.type "type"))))) = true from fx)
  obtain ⟨q2, _⟩ := He.ba fx
  refine ⟨fun y hy => ?_, fun y hy => ?_, fun y hy => err0_ok X G (List.all_eq_true.mp h0 y hy), fun q hq => ?_, q1, q2, clsGet_ok h2, of_decide_eq_true h3, kf_ok h4⟩
  · have k : frL.map He.Fa.free ⊆ fa := by
      intro z hz
      simp only [frL, List.map_cons, List.map_nil, List.mem_cons, List.not_mem_nil, or_false] at hz
      simp only [fa, List.mem_cons, List.not_mem_nil, or_false]
      rcases hz with rfl | rfl | rfl | rfl | rfl | rfl | rfl | rfl | rfl | rfl | rfl | rfl | rfl | rfl | rfl | rfl <;> simp
    exact He.free_ok X G (fact (.free y) (k (List.mem_map.mpr ⟨y, hy, rfl⟩)))
  · have k : ∀ y ∈ all29, He.eqO (PySem.W.nsIn K mainGlobals y) (some (some (.ref (He.ga K y)))) = true := by
      have big : ((fa.filterMap fun f => match f with | .glo x => some x | _ => none).filter fun x => all29.contains x) = all29 := by decide +kernel
      intro y hy
      have hy2 : y ∈ (fa.filterMap fun f => match f with | .glo x => some x | _ => none) := by
        rw [← big] at hy
        exact (List.mem_filter.mp hy).1
      obtain ⟨f, hf, e⟩ := List.mem_filterMap.mp hy2
      cases f with
      | glo x =>
        cases e
        exact fact (.glo y) hf
      | _ => cases e
    exact PySem.W.mg_of X G (He.eqO_ok (k y hy))
  · have z := List.all_eq_true.mp h1 q hq
    have b : BindF q.2 := by
      simp only [nm1, List.mem_cons, List.not_mem_nil, or_false] at hq
      rcases hq with rfl | rfl | rfl
      · exact bindF_part
      · exact bindF_at
      · exact bindF_name
    exact err1_ok b X G z
theorem facts {w : World} {K : PySem.W.Frag} {h : Heap} {mg : Str → Option Value} {f : Addr} (X : K.In h) (G : h.Ns mainGlobals mg) (hfa : mg ("law" : Str) = some (.ref f)) (c : He.SaysD fa fn K) (x : exB K = true) :
    ∃ fd : FuncData, (∀ (s : Shared) (v : Value), BindsTo s fd ⟨[v], []⟩ [("script", v)]) ∧ ∀ base : Heap, K.In base → base.Ns mainGlobals mg → FnOkG L.prog w K mg base CX0 7 f fd ["script"] (spLaw K) := by
  have T := facts_T X G c x
  obtain ⟨fd__law_hand, F__law_hand⟩ := c.def_ 0 rfl
  obtain ⟨fd__law_draw, F__law_draw⟩ := c.def_ 1 rfl
  obtain ⟨fd__law_ten, F__law_ten⟩ := c.def_ 2 rfl
  obtain ⟨fd__law_some, F__law_some⟩ := c.def_ 3 rfl
  obtain ⟨fd__law_thing, F__law_thing⟩ := c.def_ 4 rfl
  obtain ⟨fd__law_made, F__law_made⟩ := c.def_ 5 rfl
  obtain ⟨fd__law_kinds, F__law_kinds⟩ := c.def_ 6 rfl
  obtain ⟨fd__law_is_other, F__law_is_other⟩ := c.def_ 7 rfl
  obtain ⟨fd__law_raise, F__law_raise⟩ := c.def_ 8 rfl
  obtain ⟨fd__law_caught, F__law_caught⟩ := c.def_ 9 rfl
  obtain ⟨fd__law_is_based, F__law_is_based⟩ := c.def_ 10 rfl
  obtain ⟨fd_law, F_law⟩ := c.def_ 11 rfl
  have g__law_hand : mg "_law_hand" = some (.ref (He.ga K "_law_hand")) := He.glo_ok X G (c.fact 0 (f := .glo "_law_hand") rfl)
  have b__law_hand : Binds K fd__law_hand ["script"] [] := FunD.bindsN F__law_hand fun _ _ _ _ _ _ us hl => match us, hl with | [_], _ => rfl
  have g__law_draw : mg "_law_draw" = some (.ref (He.ga K "_law_draw")) := He.glo_ok X G (c.fact 1 (f := .glo "_law_draw") rfl)
  have b__law_draw : Binds K fd__law_draw ["hand", "many"] [] := FunD.bindsN F__law_draw fun _ _ _ _ _ _ us hl => match us, hl with | [_, _], _ => rfl
  have g__law_ten : mg "_law_ten" = some (.ref (He.ga K "_law_ten")) := He.glo_ok X G (c.fact 2 (f := .glo "_law_ten") rfl)
  have b__law_ten : Binds K fd__law_ten ["many"] [] := FunD.bindsN F__law_ten fun _ _ _ _ _ _ us hl => match us, hl with | [_], _ => rfl
  have g__law_some : mg "_law_some" = some (.ref (He.ga K "_law_some")) := He.glo_ok X G (c.fact 3 (f := .glo "_law_some") rfl)
  have b__law_some : Binds K fd__law_some ["hand", "things"] [] := FunD.bindsN F__law_some fun _ _ _ _ _ _ us hl => match us, hl with | [_, _], _ => rfl
  have g__law_thing : mg "_law_thing" = some (.ref (He.ga K "_law_thing")) := He.glo_ok X G (c.fact 4 (f := .glo "_law_thing") rfl)
  have b__law_thing : Binds K fd__law_thing ["hand"] [] := FunD.bindsN F__law_thing fun _ _ _ _ _ _ us hl => match us, hl with | [_], _ => rfl
  have g__law_made : mg "_law_made" = some (.ref (He.ga K "_law_made")) := He.glo_ok X G (c.fact 5 (f := .glo "_law_made") rfl)
  have b__law_made : Binds K fd__law_made ["thing"] [] := FunD.bindsN F__law_made fun _ _ _ _ _ _ us hl => match us, hl with | [_], _ => rfl
  have g__law_kinds : mg "_law_kinds" = some (.ref (He.ga K "_law_kinds")) := He.glo_ok X G (c.fact 6 (f := .glo "_law_kinds") rfl)
  have b__law_kinds : Binds K fd__law_kinds ["one"] [] := FunD.bindsN F__law_kinds fun _ _ _ _ _ _ us hl => match us, hl with | [_], _ => rfl
  have g__law_is_other : mg "_law_is_other" = some (.ref (He.ga K "_law_is_other")) := He.glo_ok X G (c.fact 7 (f := .glo "_law_is_other") rfl)
  have b__law_is_other : Binds K fd__law_is_other ["one"] [] := FunD.bindsN F__law_is_other fun _ _ _ _ _ _ us hl => match us, hl with | [_], _ => rfl
  have g__law_raise : mg "_law_raise" = some (.ref (He.ga K "_law_raise")) := He.glo_ok X G (c.fact 8 (f := .glo "_law_raise") rfl)
  have b__law_raise : Binds K fd__law_raise ["which", "thing"] [] := FunD.bindsN F__law_raise fun _ _ _ _ _ _ us hl => match us, hl with | [_, _], _ => rfl
  have g__law_caught : mg "_law_caught" = some (.ref (He.ga K "_law_caught")) := He.glo_ok X G (c.fact 9 (f := .glo "_law_caught") rfl)
  have b__law_caught : Binds K fd__law_caught ["which", "thing"] [] := FunD.bindsN F__law_caught fun _ _ _ _ _ _ us hl => match us, hl with | [_, _], _ => rfl
  have g__law_is_based : mg "_law_is_based" = some (.ref (He.ga K "_law_is_based")) := He.glo_ok X G (c.fact 10 (f := .glo "_law_is_based") rfl)
  have b__law_is_based : Binds K fd__law_is_based ["which", "thing"] [] := FunD.bindsN F__law_is_based fun _ _ _ _ _ _ us hl => match us, hl with | [_, _], _ => rfl
  have e := hfa.symm.trans (He.glo_ok X G (c.fact 11 (f := .glo "law") rfl))
  cases e
  have b := FunD.bindsA (ps := ["script"]) F_law fun _ _ _ _ _ _ us hl => match us, hl with | [_], _ => rfl
  refine ⟨fd_law, fun s v => b s [v] rfl, fun base _ _ => ?_⟩
  have C__law_hand : Has L.prog w K mg base CX0 3 "_law_hand" ["script"] (sp_hand K) := ⟨_, fd__law_hand, g__law_hand, F__law_hand.kp, b__law_hand, ok__law_hand T  F__law_hand⟩
  have C__law_draw : Has L.prog w K mg base CX0 3 "_law_draw" ["hand", "many"] (sp_draw K) := ⟨_, fd__law_draw, g__law_draw, F__law_draw.kp, b__law_draw, ok__law_draw T  F__law_draw⟩
  have C__law_ten : Has L.prog w K mg base CX0 3 "_law_ten" ["many"] (sp_ten K) := ⟨_, fd__law_ten, g__law_ten, F__law_ten.kp, b__law_ten, ok__law_ten T  F__law_ten⟩
  have C__law_some : Has L.prog w K mg base CX0 4 "_law_some" ["hand", "things"] (sp_some K) := ⟨_, fd__law_some, g__law_some, F__law_some.kp, b__law_some, ok__law_some T C__law_draw F__law_some⟩
  have C__law_thing : Has L.prog w K mg base CX0 5 "_law_thing" ["hand"] (sp_thing K) := ⟨_, fd__law_thing, g__law_thing, F__law_thing.kp, b__law_thing, ok__law_thing T C__law_some C__law_ten C__law_draw F__law_thing⟩
  have C__law_made : Has L.prog w K mg base CX0 6 "_law_made" ["thing"] (sp_made K) := ⟨_, fd__law_made, g__law_made, F__law_made.kp, b__law_made, ok__law_made T  F__law_made⟩
  have C__law_kinds : Has L.prog w K mg base CX0 3 "_law_kinds" ["one"] (sp_kinds K) := ⟨_, fd__law_kinds, g__law_kinds, F__law_kinds.kp, b__law_kinds, ok__law_kinds T  F__law_kinds⟩
  have C__law_is_other : Has L.prog w K mg base CX0 3 "_law_is_other" ["one"] (sp_is_other K) := ⟨_, fd__law_is_other, g__law_is_other, F__law_is_other.kp, b__law_is_other, ok__law_is_other T  F__law_is_other⟩
  have C__law_raise : Has L.prog w K mg base (L2.CX L.prog w) 3 "_law_raise" ["which", "thing"] (sp_raise K) := ⟨_, fd__law_raise, g__law_raise, F__law_raise.kp, b__law_raise, ok__law_raise T  F__law_raise⟩
  have C__law_caught : Has L.prog w K mg base CX0 4 "_law_caught" ["which", "thing"] (sp_caught K) := ⟨_, fd__law_caught, g__law_caught, F__law_caught.kp, b__law_caught, ok__law_caught T C__law_raise F__law_caught⟩
  have C__law_is_based : Has L.prog w K mg base CX0 4 "_law_is_based" ["which", "thing"] (sp_is_based K) := ⟨_, fd__law_is_based, g__law_is_based, F__law_is_based.kp, b__law_is_based, ok__law_is_based T C__law_raise F__law_is_based⟩
  exact ok_law T C__law_hand C__law_thing C__law_draw C__law_caught C__law_made C__law_kinds C__law_is_other C__law_is_based F_law
end K00
end HL
end

section
set_option Elab.async false
set_option linter.all false
set_option maxRecDepth 100000
set_option maxHeartbeats 0
/-! k00: the run of the head, the end (printed by k00_print4.py) -/
namespace HL
namespace K00
open PySem L2 PySem.ErrX
abbrev R : PySem.W.OpenRow := PySem.W.OpenLaw.row L
def loose : List Str := (["FieldError", "BadField", "BadText", "NoName", "NoElement", "NoElements", "Nought", "NoNumber", "NoTable", "NoIdeal", "NotWithin", "NoPrime", "NotPrime", "NoPrimes", "TooLarge", "NoEll", "NoMark", "NotClear", "NoUnits", "NoUnit"] : List Str) ++ (["NoBook", "NoMakers", "NoBase", "NotMade", "NoOrder", "NoRow", "NoRoot", "NothingDone", "NoLine", "_law_hand", "_law_draw", "_law_ten", "_law_some", "_law_thing", "_law_made", "_law_kinds", "_law_is_other", "_law_raise", "_law_caught", "_law_is_based"] : List Str)
theorem run (w : World) : HandSHeadRun.RunEq R (PySem.W.view R.prog [42]) hk ob 9000 loose w := by
  intro os
  kernel_rfl
end K00
end HL
open PySem PySem.W PySem.Calls PyProof.Rows
theorem PySem.Challenge.cw_wholeclasses_k00_errors_of_the_package_holds : PySem.Challenge.rw_wholeclasses_k00_errors_of_the_package.Holds := by
  w_on; o_law
  refine HandSHeadRun.head_any (r := OpenLaw.row PySem.Challenge.rw_wholeclasses_k00_errors_of_the_package) (q := view (OpenLaw.row PySem.Challenge.rw_wholeclasses_k00_errors_of_the_package).prog [42]) (H := HL.K00.hk) (ob := HL.K00.ob) (M := 9000) (loose := HL.K00.loose) (d := HandSHeadRun.topDef (OpenLaw.row PySem.Challenge.rw_wholeclasses_k00_errors_of_the_package).prog 42) (kwd := []) HL.K00.ob_eq
    (by kernel_rfl) (fun s => by kernel_rfl) HL.K00.run (by kernel_rfl) (by kernel_rfl) (by kernel_rfl) (by rfl) (by first | assumption | decide +kernel) (by decide +kernel) ⟨rfl, rfl, rfl, rfl, rfl, by decide +kernel⟩ ?hw ?hc
  case hw => w_witness2
  case hc =>
    refine L2.walkG_of (l := PySem.Challenge.rw_wholeclasses_k00_errors_of_the_package) (n := 63) (k := 7) (x := "script") (CX := L2.CX0) rfl (by decide) (by kernel_rfl) ⟨rfl, by decide, by decide⟩ ?F (fun _ _ _ _ z => z)
    intro w mg fa h Y G hmg0
    obtain ⟨K, KX, c, x⟩ := Y
    have hmg : mg ("law" : PySem.Str) = some (.ref fa) := by
      have e : (HandSHeadRun.topDef (OpenLaw.row PySem.Challenge.rw_wholeclasses_k00_errors_of_the_package).prog 42).name = ("law" : PySem.Str) := by kernel_rfl
      rw [← e]
      exact hmg0
    obtain ⟨fd, hb, hF⟩ := HL.K00.facts (w := w) KX G hmg c x
    exact ⟨K, fd, HL.spLaw K, KX, hb, fun H a ns hl _ hS => ⟨a, ns, rfl, hS, fun _ => rfl⟩, hF⟩
end
