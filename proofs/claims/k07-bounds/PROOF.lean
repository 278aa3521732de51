import PyProof.Rows.All
import Wide.All
import OpenK.AllK
import Wide.FinOn
import KE.KExcSuper
import HandS.ForMost
import HandS.ForExc
import HandS.ExcInit
import HandS.Slots
import HandS.ClsMeth
import HandS.SlotsOwn
import HandS.TryMany
import HandS.ExcIs
import HandS.ExcField
import HandS.IsInst
import HandS.Wide
import HandS.Codes
import HandS.Defaults
import HandS.HeadHook1
import HandS.Style
import KE.KExcIs
import HandS.HeadNt
import HandS.Ends
import HandS.EndBits
import HandS.Head2
import PySem.Challenge.RW_steadylooks_k07_bounds_made_and_refused
set_option Elab.async false
set_option linter.all false
set_option maxRecDepth 100000
set_option maxHeartbeats 4000000
/-! Own exceptions whose __init__ says super().__init__('..') and then stores one or two fields. -/
namespace SX
open PySem PySem.W PySem.Calls PyProof.Rows PySem.HandSPX
abbrev nameInit : Str := "__init__"
/-- the __init__ at f: defined in the class at D; its one cell cc holds D -/
structure SupFn (P : Program) (K : Frag) (D fI : Addr) (qual : Str) (st : Stmt) : Prop where
  fn : ∃ (oc : Value) (od : Option Addr) (doc pm kV : Value) (an : Option Addr) (cda cc : Addr) (ct : Value) (osl : Array (Option Value)) (c1 : Value) (c2 : Option Addr) (vs : Array Value) (c3 : Array (Option Value)) (file : Str) (tf : Tok) (e1 : Value) (e2 : Option Addr) (e3 : Array (Option Value)),
    K.lookup fI = some ⟨oc, od, .func (fnX "__init__" qual (L2.defArgs st) (L2.defBody st) (L2.defScope st) [("__class__", cc)] .none kV doc pm an (.ref cda) ct), osl⟩ ∧ codeIn K (.ref cda) qual = true ∧
    K.lookup cda = some ⟨c1, c2, .fields vs, c3⟩ ∧ vs[2]? = some (.str file tf) ∧ ((P.main.file : Str) == file) = true ∧ K.lookup cc = some ⟨e1, e2, .cell (some (.ref D)), e3⟩
  dcl : ∃ cd, clsIn K D = some cd
  sup : nsIn K mainGlobals "super" = some none
  top : (P.main.scope.names.lookup ("super" : Str)).isSome = false
  noany : nsIn K cStatics "thirdparty.any" = some none
structure SupCls (K : Frag) (C D fI : Addr) (fs : List Str) : Prop where
  cls : ∃ nm q N bs bm sn sub ab col dd k0 k1 k2 k3 k5, K.lookup C = some (excClassObj nm q C N bs bm true sn sub ab col dd k0 k1 k2 k3 k5 "ValueError.__new__") ∧ refsVE bm = true
  sa : findIn K (.ref C) "__setattr__" = some (some (.builtin "object.__setattr__"))
  ga : findIn K (.ref C) "__getattribute__" = some (some (.builtin "BaseException.__getattribute__"))
  gg : findIn K (.ref C) "__getattr__" = some none
  noF : ∀ f ∈ fs, findIn K (.ref C) f = some none
  iC : findIn K (.ref C) "__init__" = some (some (.ref fI))
  tC : typeIn K (.ref fI) = some (.type "function")
  kC : keepIn K (.ref C) = true
  exC : subIn K (.ref C) (.type "BaseException") = some true
  exV : subIn K (.ref C) (.type "ValueError") = some true
  tyC : typeIn K (.ref C) = some (.type "type")
  hdC : hasDictIn K C = true
  supI : ks_superIn K C D "__init__" = some (some (.builtin "ValueError.__init__"))
  sub : mroIn K C (.ref D) = some true
theorem one_size (v : Value) : [v].length ≤ sizeLine := by
  rw [sizeLine_eq]
  exact (by decide : 1 ≤ 16777216)
theorem two_size (v u : Value) : [v, u].length ≤ sizeLine := by
  rw [sizeLine_eq]
  exact (by decide : 2 ≤ 16777216)
section
variable {prog : Program} {w : World} {A : Around} {E : Value → Shared → Prop} {R : Result → Shared → Prop} {h : Heap} {g : Array GenState} {d : Drawn} {t : Nat} {os : OsState} {K : Frag} {mg mb : Str → Option Value} {C D fI : Addr} {fs : List Str} {qual : Str} {st : Stmt}
/-- super().__init__(..) called -/
theorem call_mw {u e t0 : Addr} {rest : List Value} {Q : Value → Shared → Prop} {nm q : Str} {N : Addr} {bs bm : List Value} {hdct : Bool} {sn : List Str} {sub : List Value} {ab : Bool} {col : Option Bool} {dd : Option Addr} {k0 k1 k2 k3 k5 : Option Value}
    (hC : h.get? C = some (excClassObj nm q C N bs bm hdct sn sub ab col dd k0 k1 k2 k3 k5 "ValueError.__new__")) (he : h.get? e = some (excO C t0)) (hu : h.get? u = some (kxs_mw "ValueError.__init__" e)) (hrest : rest.length ≤ sizeLine)
    (hq : ∀ h', (∀ b o, b ≠ e → h.get? b = some o → h'.get? b = some o) → h'.get? e = some (excO C h.objs.size) → h.objs.size < h'.objs.size → Q .none ⟨h', g, d, t, os⟩) :
    wpAny (model prog w) A (call (.ref u) rest) Q E ⟨h, g, d, t, os⟩ := by
  refine wpAny_call (codeAny_of_tree ?_)
  show wpAny _ A.in1 (callAny (.ref u) ⟨rest, []⟩) _ _ _
  simp only [callAny]
  refine wpAny_bind (wpAny_load hu ?_)
  simp only [kxs_mw, show (Value.type "method-wrapper" == Value.type "method" || Value.type "method-wrapper" == Value.type "builtin_function_or_method" || Value.type "method-wrapper" == Value.type "method-wrapper") = true by decide, if_true]
  refine KFB.if_so (by decide) ?_
  refine wpAny_bind (check_bound_init F.excBase_ValueError.toExcCallFacts hC he rfl ?_)
  refine wpAny_bind (wpAny_pure (wpAny_pure ?_))
  refine ⟨plainId_quiet F.excBase_ValueError.init.plain _, codeAny_builtin F.excBase_ValueError.initEntry ?_⟩
  exact exc_init_tree (cls := .ref C) (t0 := t0) (dv := none) (c2 := .none) (c3 := .none) (b4 := .bool false) he hrest fun h' k e' t' => hq h' k e' (Heap.lt_size t')
/-- what lies there behind the first statement of __init__ -/
theorem super_stmt {Q : Flow → Shared → Prop} {L x t0 : Addr} {m : Str → Option Value} {cda cc : Addr} {body : List Stmt} {p0 p1 p2 p3 p4 p5 : Pos} {j : Nat} {txt : Str} {fd : FuncData} {ar : Arg}
    {oc : Value} {od : Option Addr} {osl : Array (Option Value)} {c1 : Value} {c2 : Option Addr} {vs : Array Value} {c3 : Array (Option Value)} {file : Str} {tf : Tok} {e1 : Value} {e2 : Option Addr} {e3 : Array (Option Value)} {sc : Scope}
    (S : SupFn prog K D fI qual st) (T : SupCls K C D fI fs) (X : K.In h) (hg : h.Ns mainGlobals mg) (hb : h.Ns builtinsNs mb) (hmb : ∀ y : Str, y ≠ "__name__" → mb y = bootBuiltins y)
    (hf : K.lookup fI = some ⟨oc, od, .func fd, osl⟩) (hp : (fd.params.posonlyargs ++ fd.params.args).head? = some ar) (hcode : K.lookup cda = some ⟨c1, c2, .fields vs, c3⟩) (hvs : vs[2]? = some (.str file tf)) (hfile : ((prog.main.file : Str) == file) = true)
    (hcell : K.lookup cc = some ⟨e1, e2, .cell (some (.ref D)), e3⟩)
    (hn : h.Ns L m) (hv : m ar.arg = some (.ref x)) (hx : h.get? x = some (excO C t0)) (hxL : x ≠ L)
    (hks : sc.names.lookup ("super" : Str) = some .globalImplicit) (hkc : sc.names.lookup ("__class__" : Str) = some .free) (hka : sc.names.lookup ar.arg = some .local) (hk : sc.kind = .function) {pl : Sem Bool}
    (he : eval (.Call (.Attribute (.Call (.Name "super" p0) [] [] p1) "__init__" p2) [.Constant (.str txt) j p3] [] p4) (ksEnv qual sc L fI (.ref cda) cc) = (do
      let ov ← attributeBase (.Call (.Name "super" p0) [] [] p1) "__init__" (ksEnv qual sc L fI (.ref cda) cc) (eval (.Call (.Name "super" p0) [] [] p1) (ksEnv qual sc L fI (.ref cda) cc))
      standAt p2.atName
      let (f, first) ← holding [ov] (getMethod ov "__init__" pl)
      callWith p4 f first (backTo p4 (starEach [.Constant (.str txt) j p3] (ksEnv qual sc L fI (.ref cda) cc))) []))
    (hsw : swapsWith (.Call (.Attribute (.Call (.Name "super" p0) [] [] p1) "__init__" p2) [.Constant (.str txt) j p3] [] p4) none p5.line (ksEnv qual sc L fI (.ref cda) cc) = pure false)
    (hst : starEach [.Constant (.str txt) j p3] (ksEnv qual sc L fI (.ref cda) cc) = [(false, eval (.Constant (.str txt) j p3) (ksEnv qual sc L fI (.ref cda) cc))])
    (hq : ∀ h' tk t1, (∀ b o, b ≠ x → h.get? b = some o → h'.get? b = some o) → h'.get? x = some (excO C t1) → h.objs.size ≤ h'.objs.size → Q .next ⟨h', g, d, tk, os⟩) :
    _root_.PySem.wpAt (model prog w) A (.func body (ksEnv qual sc L fI (.ref cda) cc)) (exec (.Expr (.Call (.Attribute (.Call (.Name "super" p0) [] [] p1) "__init__" p2) [.Constant (.str txt) j p3] [] p4) p5) (ksEnv qual sc L fI (.ref cda) cc)) Q E ⟨h, g, d, t, os⟩ := by
  obtain ⟨nm, q, N, bs, bm, sn, sub, ab, col, dd, k0, k1, k2, k3, k5, hC, hbm⟩ := T.cls
  obtain ⟨cdD, hD⟩ := S.dcl
  obtain ⟨oD, hD1, hD2⟩ : ∃ oD, h.get? D = some oD ∧ oD.data = .cls cdD := by
    unfold clsIn at hD
    split at hD
    · rename_i c d cd' sl ho
      cases hD
      exact ⟨_, X _ _ ho, rfl⟩
    · cases hD
  have hcl : clsIn K C = some { name := nm, bases := bs, mro := .ref C :: bm, ns := N, qualname := q, hasDict := true, slotNames := sn, subclasses := sub, abstract := ab, collection := col, hasDel := false } := by unfold clsIn; rw [hC] <;> rfl
  have hm : alongIn K "__init__" (((Value.ref C :: bm).dropWhile (· != .ref D)).drop 1) = some (some (.builtin "ValueError.__init__")) := by
    have z := T.supI
    unfold ks_superIn at z
    rw [hcl] at z
    exact z
  have hxC : x ≠ C := by
    intro z
    have y := X _ _ hC
    rw [← z, hx] at y
    cases y
  refine ks_wpAt_Expr_any ?_ (by simp [interactive, hk]) hsw
  refine ks_wpAt_MethodCall ?_ he
  refine ks_wpAt_super_base (env := ksEnv qual sc L fI (.ref cda) cc) hks hkc (by decide) rfl (X _ _ hf) rfl hp rfl (X _ _ hcode) rfl hvs hfile S.top ?_
  refine ks_loadName_global hk hks (loadGlobal_builtin (env := ksEnv qual sc L fI (.ref cda) cc) hg (mg_none_of X hg S.sup) hb ((hmb _ (by decide)).trans (by decide +kernel : bootBuiltins "super" = some (.type "super"))) ⟨rfl, ?_⟩)
  refine wpAny_loadName_free hk hkc rfl ⟨_, X _ _ hcell, rfl⟩ ?_
  refine wpAny_loadName_local hk hka hn hv ?_
  refine ks_wpAny_isType_cls hD1 hD2 ⟨rfl, ?_⟩
  refine ks_wpAny_call_super hD1 hD2 hx rfl (fun c e => by cases e) (looks_mroIn X T.sub) (fun h1 e1 k1 => ?_)
  -- the method off it
  have X1 : K.In h1 := X.keeps k1
  have hx1 := k1 _ _ hx
  have I1 : InstAt h1 x (excO C t0) C none := ⟨hx1, rfl, rfl, trivial⟩
  have hI : Looks (model prog w) h1 (isInstance (.ref x) (.type "ValueError")) true := I1.type.andThen (looks_subIn X1 T.exV)
  refine kxs_getMethod kxs_ValueError e1 (looks_opaque X1 S.noany) (l₀ := .ref C :: bm) (fun A Q E s k q => wpAny_bind ((looks_clsIn X1 hcl) A _ E s k (wpAny_pure q))) rfl X1 hm hI hxC (by decide) ?_
  have k2 : ∀ b o, h1.get? b = some o → (h1.push (kxs_mw "ValueError.__init__" x)).get? b = some o := fun b o e => Heap.get?_push_of_some _ e
  have hu : (h1.push (kxs_mw "ValueError.__init__" x)).get? h1.objs.size = some (kxs_mw "ValueError.__init__" x) := Heap.get?_push_at rfl rfl
  dsimp only
  refine kxs_callWith (i := "ValueError.__init__") (x := x) (by rw [hst]; rfl) ?_
  rw [hst]
  refine evalArgs_plain ?_
  refine spliced_cons ?_
  show wpAny _ _ (eval (.Constant (.str txt) j p3) _) _ _ _
  refine Constant_str (spliced_nil ⟨hu, ?_⟩)
  have ks : ∀ b o, h.get? b = some o → (h1.push (kxs_mw "ValueError.__init__" x)).get? b = some o := fun b o e => k2 b o (k1 b o e)
  refine call_mw (X _ _ hC |> ks _ _) (ks _ _ hx) hu (one_size _) fun h' k' e' l' => ?_
  refine hq h' _ _ (fun b o hb e => k' b o hb (ks b o e)) e' ?_
  have l1 := Heap.lt_size e1
  have l2 := Heap.lt_size hu
  have z : (h1.push (kxs_mw "ValueError.__init__" x)).objs.size < h'.objs.size := l'
  exact Nat.le_of_lt (Nat.lt_trans l1 (Nat.lt_trans l2 z))
end
/-! ### the shape of such an __init__ -/
def supCall (p0 p1 p2 p3 p4 : Pos) (j : Nat) (txt : Str) : PySem.Expr := .Call (.Attribute (.Call (.Name "super" p0) [] [] p1) "__init__" p2) [.Constant (.str txt) j p3] [] p4
structure SupLine (sc : Scope) (qual : Str) (p0 p1 p2 p3 p4 p5 : Pos) (j : Nat) (txt : Str) : Prop where
  he : ∃ pl : Sem Bool, ∀ (L fI cda cc : Addr), eval (supCall p0 p1 p2 p3 p4 j txt) (ksEnv qual sc L fI (.ref cda) cc) = (do
      let ov ← attributeBase (.Call (.Name "super" p0) [] [] p1) "__init__" (ksEnv qual sc L fI (.ref cda) cc) (eval (.Call (.Name "super" p0) [] [] p1) (ksEnv qual sc L fI (.ref cda) cc))
      standAt p2.atName
      let (f, first) ← holding [ov] (getMethod ov "__init__" pl)
      callWith p4 f first (backTo p4 (starEach [.Constant (.str txt) j p3] (ksEnv qual sc L fI (.ref cda) cc))) [])
  sw : ∀ (L fI cda cc : Addr), swapsWith (supCall p0 p1 p2 p3 p4 j txt) none p5.line (ksEnv qual sc L fI (.ref cda) cc) = pure false
  st : ∀ (L fI cda cc : Addr), starEach [.Constant (.str txt) j p3] (ksEnv qual sc L fI (.ref cda) cc) = [(false, eval (.Constant (.str txt) j p3) (ksEnv qual sc L fI (.ref cda) cc))]
  ks : sc.names.lookup ("super" : Str) = some .globalImplicit
  kc : sc.names.lookup ("__class__" : Str) = some .free
  ka : sc.names.lookup ("self" : Str) = some .local
  k : sc.kind = .function
  co : sc.isCoroutine = false
  ge : sc.isGenerator = false
  ce : ∀ x ∈ sc.names, x.2 ≠ .cell
/-- self.f = p -/
def storeLine (f p : Str) (b1 b2 b3 b4 : Pos) : Stmt := .Assign [.Attribute (.Name "self" b1) f b2] (.Name p b3) b4
structure Init1 (qual : Str) (st : Stmt) (f p : Str) : Prop where
  body : ∃ p0 p1 p2 p3 p4 p5 j txt b1 b2 b3 b4, L2.defBody st = [.Expr (supCall p0 p1 p2 p3 p4 j txt) p5, storeLine f p b1 b2 b3 b4] ∧ SupLine (L2.defScope st) qual p0 p1 p2 p3 p4 p5 j txt ∧
    ∀ env : Env, swapsWith (.Name p b3) (some (.Attribute (.Name "self" b1) f b2)) b4.line env = pure false
  par : ∃ q, (L2.defArgs st).posonlyargs ++ (L2.defArgs st).args = { arg := "self", annotation := none, pos := q } :: ((L2.defArgs st).posonlyargs ++ (L2.defArgs st).args).tail
  kp : (L2.defScope st).names.lookup p = some .local
  np : p ≠ "self"
  nd : (p == ("__debug__" : Str)) = false
  bind : ∀ (s : Shared) (u v : Value) (cc : Addr) (kV doc pm : Value) (an : Option Addr) (cdv ct : Value), BindsTo s (fnX "__init__" qual (L2.defArgs st) (L2.defBody st) (L2.defScope st) [("__class__", cc)] .none kV doc pm an cdv ct) ⟨[u, v], []⟩ [("self", u), (p, v)]
/-- what __init__ leaves of a fresh exception at x -/
structure InitEnd (h h' : Heap) (x C dx t1 : Addr) (m : Str → Option Value) : Prop where
  keep : ∀ b o, b ≠ x → h.get? b = some o → h'.get? b = some o
  obj : h'.get? x = some { cls := .ref C, dict := some dx, data := .fields #[.ref t1, .none, .none, .none, .bool false, .none] }
  dbig : h.objs.size ≤ dx
  dne : dx ≠ x
  ns : h'.Ns1 dx m
structure OwnMade (h h' : Heap) (e C d : Addr) (m : Str → Option Value) : Prop where
  keep : ∀ b o, h.get? b = some o → h'.get? b = some o
  new : h.objs.size ≤ e
  obj : ∃ oe vs, h'.get? e = some oe ∧ oe.cls = .ref C ∧ oe.dict = some d ∧ oe.data = .fields vs ∧ vs[1]? = some .none
  dbig : h.objs.size ≤ d
  dne : d ≠ e
  ns : h'.Ns1 d m
section
variable {prog : Program} {w : World} {A : Around} {E : Value → Shared → Prop} {R : Result → Shared → Prop} {s : Shared} {K : Frag} {mg mb : Str → Option Value} {C D fI : Addr} {fs : List Str} {qual : Str} {st : Stmt}
theorem ldC {M : Model} {s : Shared} {env : Env} {m : Str → Option Value} {x : Str} {pos : Pos} {v : Value} {Q : Value → Shared → Prop} (hn : s.heap.Ns env.locals m) (hv : m x = some v) (h : Q v s)
    (hk : env.scope.kind = .function) (hl : env.kindOf x = some .local) (hd : (x == ("__debug__" : Str)) = false) :
    wpAny M A (eval (.Name x pos) env) Q E s := wpAny_Name (wpAny_loadName_local hk hl hn hv h) hd
theorem init1 {f p : Str} (S : SupFn prog K D fI qual st) (T : SupCls K C D fI fs) (hf : f ∈ fs) (J : Init1 qual st f p) {x t0 : Addr} {v : Value} (X : K.In s.heap) (hlim : s.heap.NoLimit) (hg : s.heap.Ns mainGlobals mg) (hb : s.heap.Ns builtinsNs mb) (hmb : ∀ y : Str, y ≠ "__name__" → mb y = bootBuiltins y)
    (hx : s.heap.get? x = some (excO C t0)) (hnx : K.lookup x = none) (hroom : A.depth < recursionLimit)
    (hq : ∀ h' tk dx t1, InitEnd s.heap h' x C dx t1 (fun y => if y = f then some v else none) → R (.ok (.ret .none)) { s with heap := h', toks := tk }) :
    codeAny (model prog w) A (.call (.ref fI) ⟨[.ref x, v], []⟩) R s := by
  obtain ⟨oc, od, doc, pm, kV, an, cda, cc, ct, osl, c1, c2, vs, c3, file, tf, e1, e2, e3, hfn, hcd, hcda, hvs, hfile, hcell⟩ := S.fn
  obtain ⟨nm, q, N, bs, bm, sn, sub, ab, col, dd, k0, k1, k2, k3, k5, hC, hbm⟩ := T.cls
  obtain ⟨p0, p1, p2, p3, p4, p5, j, txt, b1, b2, b3, b4, hB, SL, hsw⟩ := J.body
  obtain ⟨pl, hpl⟩ := SL.he
  obtain ⟨qq, hpar⟩ := J.par
  have hcl : clsIn K C = some { name := nm, bases := bs, mro := .ref C :: bm, ns := N, qualname := q, hasDict := true, slotNames := sn, subclasses := sub, abstract := ab, collection := col, hasDel := false } := by unfold clsIn; rw [hC] <;> rfl
  refine ks_codeAny_call_defAt (fd := fnX "__init__" qual (L2.defArgs st) (L2.defBody st) (L2.defScope st) [("__class__", cc)] .none kV doc pm an (.ref cda) ct) (body := L2.defBody st) (binds := [("self", .ref x), (p, v)]) hroom (X _ _ hfn) rfl hlim (codeRec_of X hcd) rfl (J.bind _ _ _ _ _ _ _ _ _ _)
    SL.ce (fun y hy => ?_) (fun h₁ hns hk₁ => ?_) SL.co SL.ge SL.k
  · rcases List.mem_cons.mp hy with rfl | hy
    · exact SL.ka
    · rcases List.mem_cons.mp hy with rfl | hy
      · exact J.kp
      · cases hy
  have hL : ∀ b o, s.heap.get? b = some o → b ≠ s.heap.objs.size := fun b o e => Nat.ne_of_lt (Heap.lt_size e)
  have X₁ : K.In h₁ := X.keeps hk₁
  have hself : (fun y => List.lookup y ([("self", Value.ref x), (p, v)] : List (Str × Value)).reverse) ("self" : Str) = some (.ref x) := by
    show List.lookup ("self" : Str) [(p, v), ("self", Value.ref x)] = _
    have z : (("self" : Str) == p) = false := by simpa using fun q => J.np q.symm
    simp [List.lookup, z]
  have hpv : (fun y => List.lookup y ([("self", Value.ref x), (p, v)] : List (Str × Value)).reverse) p = some v := by
    show List.lookup p [(p, v), ("self", Value.ref x)] = _
    simp [List.lookup]
  rw [hB]
  refine ks_wpAt_execs_cons ?_
  refine super_stmt (fs := fs) (m := fun y => List.lookup y ([("self", Value.ref x), (p, v)] : List (Str × Value)).reverse) S T X₁ (hg.keeps hk₁) (hb.keeps hk₁) hmb hfn (ar := { arg := "self", annotation := none, pos := qq }) (by show ((L2.defArgs st).posonlyargs ++ (L2.defArgs st).args).head? = _; rw [hpar]; rfl) hcda hvs hfile hcell hns hself (hk₁ _ _ hx) (hL _ _ hx) SL.ks SL.kc SL.ka SL.k (hpl _ _ _ _) (SL.sw _ _ _ _) (SL.st _ _ _ _) (fun h2 tk2 t2 k2 hx2 l2 => ?_)
  have X2 : K.In h2 := fun a o e => k2 a o (fun z => by rw [z, hnx] at e; cases e) (X₁ a o e)
  have hns2 : h2.Ns s.heap.objs.size (fun y => List.lookup y ([("self", Value.ref x), (p, v)] : List (Str × Value)).reverse) := by
    obtain ⟨o, es, ep, ho, r⟩ := hns
    exact ⟨o, es, ep, k2 _ o (Ne.symm (hL _ _ hx)) ho, r⟩
  show _root_.PySem.wpAt _ _ _ (execs [storeLine f p b1 b2 b3 b4] _) _ _ _
  refine wpAt_of_wpAny (wpAny_execs_cons (plainObj_wpAny_Assign_Attribute ?_ (hsw _)))
  refine ldC (v := v) hns2 hpv (ldC (v := .ref x) hns2 hself ?_ SL.k SL.ka (by decide)) SL.k J.kp J.nd
  refine set_plain X2 (ox := excO C t2) (od := none) ⟨hx2, rfl, rfl, trivial⟩ T.sa ?_
  refine exc_osa X2 hx2 hcl (show refsVE (.ref C :: bm) = true from hbm) rfl (T.noF f hf) (fun h₃ tk₃ dx k₃ dn dne hx₃ hn₃ => ?_)
  show wpAny _ _ (execs _ _) _ _ _
  have z := hns.lt
  exact wpAny_execs_nil (hq h₃ tk₃ dx t2 ⟨fun b o hb e => k₃ b o hb (k2 b o hb (hk₁ b o e)), hx₃, Nat.le_of_lt (Nat.lt_of_lt_of_le (Nat.lt_of_lt_of_le z l2) dn), dne, hn₃⟩)
theorem made1 {f p : Str} (S : SupFn prog K D fI qual st) (T : SupCls K C D fI fs) (hf : f ∈ fs) (J : Init1 qual st f p) {v : Value} (X : K.In s.heap) (hlim : s.heap.NoLimit) (hg : s.heap.Ns mainGlobals mg) (hb : s.heap.Ns builtinsNs mb) (hmb : ∀ y : Str, y ≠ "__name__" → mb y = bootBuiltins y) (hroom : A.depth + 1 < recursionLimit)
    (hq : ∀ h' tk e d, OwnMade s.heap h' e C d (fun y => if y = f then some v else none) → R (.ok (.ret (.ref e))) { s with heap := h', toks := tk }) :
    codeAny (model prog w) A (.call (.ref C) ⟨[v], []⟩) R s := by
  obtain ⟨nm, q, N, bs, bm, sn, sub, ab, col, dd, k0, k1, k2, k3, k5, hC, hbm⟩ := T.cls
  obtain ⟨hp, g, dr, tk, os⟩ := s
  have k : ∀ b o, hp.get? b = some o → ((hp.push (kdv_tup [v])).push (excO C hp.objs.size)).get? b = some o := fun b o e => Heap.get?_push_of_some _ (Heap.get?_push_of_some _ e)
  have hget : ((hp.push (kdv_tup [v])).push (excO C hp.objs.size)).get? (hp.objs.size + 1) = some (excO C hp.objs.size) := by heap_get
  have hnx : K.lookup (hp.objs.size + 1) = none := by
    cases e : K.lookup (hp.objs.size + 1) with
    | none => rfl
    | some o =>
      have z : hp.get? (hp.objs.size + 1) = some o := X _ _ e
      exact absurd (Nat.lt_of_succ_lt (Heap.lt_size z)) (Nat.lt_irrefl _)
  refine call_own F.excBase_ValueError (fun X => refsVE_contains X bm hbm) (X _ _ hC) (looks_findIn X T.iC) (fun self => bind_fn X self T.tC) (one_size v) ?_
  refine init1 (s := ⟨(hp.push (kdv_tup [v])).push (excO C hp.objs.size), g, dr, tk, os⟩) S T hf J (X.keeps k) (hlim.keeps k) (hg.keeps k) (hb.keeps k) hmb hget hnx ?_ fun h' tk' dx t1 ⟨k', hx, dn, dne, hns⟩ => ?_
  · show A.depth + 1 < recursionLimit
    exact hroom
  · have old : ∀ b o, hp.get? b = some o → h'.get? b = some o := fun b o e => k' b o (Nat.ne_of_lt (Nat.lt_succ_of_lt (Heap.lt_size e))) (k b o e)
    have z : hp.objs.size + 1 + 1 ≤ dx := by
      first
        | (simpa only [Heap.size_push] using dn)
        | exact dn
        | (have q := dn; rw [Heap.size_push, Heap.size_push] at q; exact q)
    exact ⟨rfl, hq h' tk' (hp.objs.size + 1) dx ⟨old, Nat.le_succ _, ⟨_, _, hx, rfl, rfl, rfl, rfl⟩, Nat.le_trans (Nat.le_trans (Nat.le_succ _) (Nat.le_succ _)) z, dne, hns⟩⟩
end
end SX

namespace L2
open PySem PySem.Spec PyProof.Rows
theorem relO_one {v : V} {v' : Value} (r : RelV v v') (n f : Str) : RelO (List.lookup f [(n, v)]) (if f = n then some v' else none) := by
  by_cases hw : f = n
  · subst hw
    rw [if_pos rfl]
    have q : List.lookup f [(f, v)] = some v := by simp [List.lookup]
    rw [q]
    exact r
  · rw [if_neg hw]
    have qw : (f == n) = false := by simpa using hw
    have q2 : List.lookup f [(n, v)] = none := by simp [List.lookup, qw]
    rw [q2]
    trivial
section
variable {X : Cx} {C D fI : Addr} {fs : List Str} {qual : Str} {st : Stmt}
/-- an exception with the fields of its one argument -/
def tMkSup (C : Addr) (f : Str) (ta : TA) : St → Hp → XK → Prop := fun σ H Q => ta σ H fun vs H1 => ∃ v, vs = [v] ∧ ∀ d, H1 d = none → Q (.ref C) (some d) (upd H1 d (.xd [(f, v)]))
theorem pmk_sup1 {x f pn : Str} {a : Expr} {ta : TA} {p pos : Pos} {k : Nat} (S : SX.SupFn X.prog X.K D fI qual st) (T : SX.SupCls X.K C D fI fs) (hf : f ∈ fs) (J : SX.Init1 qual st f pn) (hr : Room k X.A) (gC : X.mg x = some (.ref C)) (ha : PA X [a] ta) (hg : Gl X x)
    (hdb : (x == ("__debug__" : Str)) = false := by decide)
    (he : starEach (a :: []) X.env = (false, eval a X.env) :: starEach [] X.env := by rfl) (hpl : (backTo pos (starEach [] X.env)).any (·.1) = false := by rfl) :
    PMk X (.Call (.Name x p) [a] [] pos) (tMkSup C f ta) := by
  intro pins s σ H Q I h
  refine wpAny_Call_Name_kw (ld_glob I hg gC ?_ hdb)
  refine PySem.W.callWith_K (h₀ := X.base) I.ok.mod.kin T.kC (thn (ha.run pos pins s σ H _ I h) fun us s1 hh => ?_) he hpl
  obtain ⟨vs, H1, I1, r1, v, ev, q1⟩ := hh
  subst ev
  refine ⟨I1.kIn, ?_⟩
  cases r1 with
  | cons rv rn =>
    rename_i v' us'
    cases rn
    show wpAny _ _ (call (.ref C) [v']) _ _ _
    have hlim := I1.nolimit
    obtain ⟨mb, hmb1, hmb2⟩ := I1.mod.blt
    have hgl : s1.heap.Ns mainGlobals X.mg := I1.mod.glob.keeps I1.bk
    have hbl : s1.heap.Ns builtinsNs mb := hmb1.keeps I1.bk
    have kin := I1.kIn
    obtain ⟨hp, g, dr, tk, os⟩ := s1
    refine wpAny_call (SX.made1 S T hf J kin hlim hgl hbl hmb2 (by have := hr.dp; omega) fun h' tk' e d M => ?_)
    show MkP X pins σ Q (.ref e) ⟨h', g, dr, tk', os⟩
    obtain ⟨oe, fv, hoe, hc, hd, hdat, h1⟩ := M.obj
    have hns := M.ns
    obtain ⟨G', g1, g2⟩ := restrict h' fun b => decide (b ≠ e)
    have gk : ∀ b, b ≠ e → G'.get? b = h'.get? b := fun b hb => g1 b (decide_eq_true hb)
    have ge : G'.get? e = none := g2 e (by simp)
    have old : ∀ b o, hp.get? b = some o → G'.get? b = some o := fun b o q => (gk b (Nat.ne_of_lt (Nat.lt_of_lt_of_le (Heap.lt_size q) M.new))).trans (M.keep b o q)
    have ob : ObjOk X.prog X.w (upd H1 d (.xd [(f, v)])) G' d (.xd [(f, v)]) :=
      ⟨_, hns.at (fun o q => (gk d M.dne).trans q), fun f' => relO_one rv f f'⟩
    have J1 : Inv X pins σ (upd H1 d (.xd [(f, v)])) ⟨G', g, dr, tk', os⟩ := I1.laid (t' := tk') old M.dbig ob
    refine ⟨e, oe, fv, ⟨G', g, dr, tk', os⟩, _, .ref C, some d, rfl, J1, fun b o q => ?_, ge, hoe, ⟨hc, hd⟩, hdat, h1, ?_, rfl, I1.bare, raises_own T.exC T.tyC, q1 d (I1.hok.fresh M.dbig)⟩
    · by_cases hb : b = e
      · have q' : G'.get? b = some o := q
        rw [hb, ge] at q'; cases q'
      · exact (gk b hb).symm.trans q
    · rw [upd_ne (Ne.symm M.dne)]
      exact I1.hok.fresh M.new
end
end L2

/-! Values as deep immutable data, over the hand layer. -/
namespace DD
open PySem PySem.Spec PyProof.Rows L2

/-- data: what never changes, whole; adr: a thing that may change, by its place -/
inductive D where
  | non | bl (b : Bool) | int (i : Int) | str (x : Str)
  | tup (l : List D) | lst (l : List D)
  | ins (c : Nat) (sl : List D) (ks : List Str) (vs : List D)
  | adr (a : Addr)
/-- what may change: a list; an instance; a dict -/
inductive MO where
  | lst (l : List D)
  | ins (c : Nat) (fs : List (Str × D))
  | sl (c : Nat) (vs : List (Option D))
  | dK (kvs : List (Key × D))
abbrev MM := Addr → Option MO
def updM (M : MM) (a : Addr) (o : MO) : MM := fun b => if b = a then some o else M b
def delM (M : MM) (a : Addr) : MM := fun b => if b = a then none else M b
theorem updM_same {M : MM} {a : Addr} {o : MO} : updM M a o a = some o := by unfold updM; rw [if_pos rfl]
theorem updM_ne {M : MM} {a b : Addr} {o : MO} (h : b ≠ a) : updM M a o b = M b := by unfold updM; rw [if_neg h]
theorem updM_updM {M : MM} {a : Addr} {o u : MO} : updM (updM M a o) a u = updM M a u := by
  funext b; unfold updM; split <;> rfl
theorem delM_updM {M : MM} {a : Addr} {o : MO} (h : M a = none) : delM (updM M a o) a = M := by
  funext b; unfold delM updM; split
  · next e => rw [e, h]
  · rfl
theorem updM_comm {M : MM} {a b : Addr} {o u : MO} (h : a ≠ b) : updM (updM M a o) b u = updM (updM M b u) a o := by
  funext c; unfold updM
  by_cases h1 : c = b
  · have h2 : c ≠ a := fun z => h (z.symm.trans h1)
    rw [if_pos h1, if_neg h2, if_pos h1]
  · rw [if_neg h1]
    by_cases h2 : c = a
    · rw [if_pos h2, if_pos h2]
    · rw [if_neg h2, if_neg h2, if_neg h1]
/-- an exception: its class by number, its fields -/
structure Exc where
  c : Nat
  fs : List (Str × D)
abbrev Rho := List (Option D)

/-! ### the relation -/
/-- classes by number -/
abbrev CAd := Nat → Addr
mutual
def Rep (C : CAd) (H : Hp) : D → V → Prop
  | .non, v => v = .non
  | .bl b, v => v = .bl b
  | .int i, v => v = .int i
  | .str x, v => v = .str x
  | .tup l, v => ∃ a vs, v = .ref a ∧ H a = some (.tup vs) ∧ Reps C H l vs
  | .lst l, v => ∃ a o vs, v = .ref a ∧ H a = some (.frz o (.lst vs)) ∧ Reps C H l vs
  | .ins c sl ks fv, v => ∃ a dx oa xs ys, v = .ref a ∧ dx ≠ a ∧ H a = some (.frz oa (SlX.SlO a (C c) dx (xs.map some))) ∧ H dx = some (.xd (ks.zip ys)) ∧ ks.length = fv.length ∧ Reps C H sl xs ∧ Reps C H fv ys
  | .adr a, v => v = .ref a
def Reps (C : CAd) (H : Hp) : List D → List V → Prop
  | [], vs => vs = []
  | d :: l, vs => ∃ v r, vs = v :: r ∧ Rep C H d v ∧ Reps C H l r
end
/-- what is frozen stays -/
structure Fz (H H' : Hp) : Prop where
  t : ∀ a xs, H a = some (.tup xs) → H' a = some (.tup xs)
  f : ∀ a o u, H a = some (.frz o u) → H' a = some (.frz o u)
  x : ∀ a fs, H a = some (.xd fs) → H' a = some (.xd fs)
theorem Fz.refl {H : Hp} : Fz H H := ⟨fun _ _ h => h, fun _ _ _ h => h, fun _ _ h => h⟩
theorem Fz.trans {H H1 H2 : Hp} (a : Fz H H1) (b : Fz H1 H2) : Fz H H2 := ⟨fun p xs h => b.t p xs (a.t p xs h), fun p o u h => b.f p o u (a.f p o u h), fun p xs h => b.x p xs (a.x p xs h)⟩
mutual
theorem Rep.fz {C : CAd} {H H' : Hp} (z : Fz H H') : ∀ (d : D) {v : V}, Rep C H d v → Rep C H' d v
  | .non, _, h => h
  | .bl _, _, h => h
  | .int _, _, h => h
  | .str _, _, h => h
  | .tup l, _, ⟨a, vs, e, h, r⟩ => ⟨a, vs, e, z.t _ _ h, Reps.fz z l r⟩
  | .lst l, _, ⟨a, o, vs, e, h, r⟩ => ⟨a, o, vs, e, z.f _ _ _ h, Reps.fz z l r⟩
  | .ins _ sl _ fv, _, ⟨a, dx, oa, xs, ys, e, n, h1, h2, k, r1, r2⟩ => ⟨a, dx, oa, xs, ys, e, n, z.f _ _ _ h1, z.x _ _ h2, k, Reps.fz z sl r1, Reps.fz z fv r2⟩
  | .adr _, _, h => h
theorem Reps.fz {C : CAd} {H H' : Hp} (z : Fz H H') : ∀ (l : List D) {vs : List V}, Reps C H l vs → Reps C H' l vs
  | [], _, h => h
  | d :: l, _, ⟨v, r, e, h1, h2⟩ => ⟨v, r, e, Rep.fz z d h1, Reps.fz z l h2⟩
end
theorem Reps.length {C : CAd} {H : Hp} : ∀ {l : List D} {vs : List V}, Reps C H l vs → l.length = vs.length
  | [], _, h => by rw [show _ = [] from h]; rfl
  | d :: l, _, ⟨v, r, e, _, h2⟩ => by rw [e, List.length_cons, List.length_cons, Reps.length h2]
theorem Reps.get {C : CAd} {H : Hp} : ∀ {l : List D} {vs : List V} {i : Nat} {d : D}, Reps C H l vs → l[i]? = some d → ∃ v, vs[i]? = some v ∧ Rep C H d v
  | [], _, i, d, _, e => by simp at e
  | d0 :: l, _, 0, d, ⟨v, r, e, h1, _⟩, e' => by
    simp at e'; subst e'; subst e; exact ⟨v, by simp, h1⟩
  | d0 :: l, _, i + 1, d, ⟨v, r, e, _, h2⟩, e' => by
    subst e
    obtain ⟨u, h3, h4⟩ := Reps.get (i := i) h2 (by simpa using e')
    exact ⟨u, by simpa using h3, h4⟩
theorem Reps.append {C : CAd} {H : Hp} : ∀ {l l' : List D} {vs vs' : List V}, Reps C H l vs → Reps C H l' vs' → Reps C H (l ++ l') (vs ++ vs')
  | [], _, _, _, h, h' => by rw [show _ = [] from h]; exact h'
  | d :: l, _, _, _, ⟨v, r, e, h1, h2⟩, h' => by subst e; exact ⟨v, r ++ _, rfl, h1, Reps.append h2 h'⟩
theorem Reps.set {C : CAd} {H : Hp} {d : D} {v : V} (hd : Rep C H d v) : ∀ {l : List D} {vs : List V} (i : Nat), Reps C H l vs → Reps C H (l.set i d) (vs.set i v)
  | [], _, _, h => by rw [show _ = [] from h]; exact rfl
  | d0 :: l, _, 0, ⟨v0, r, e, h1, h2⟩ => by subst e; exact ⟨v, r, rfl, hd, h2⟩
  | d0 :: l, _, i + 1, ⟨v0, r, e, h1, h2⟩ => by subst e; exact ⟨v0, r.set i v, rfl, h1, Reps.set hd i h2⟩
theorem Reps.take {C : CAd} {H : Hp} : ∀ {l : List D} {vs : List V} (n : Nat), Reps C H l vs → Reps C H (l.take n) (vs.take n)
  | [], _, n, h => by rw [show _ = [] from h]; cases n <;> exact rfl
  | d :: l, _, 0, _ => rfl
  | d :: l, _, n + 1, ⟨v, r, e, h1, h2⟩ => by subst e; exact ⟨v, r.take n, rfl, h1, Reps.take n h2⟩
theorem Reps.drop {C : CAd} {H : Hp} : ∀ {l : List D} {vs : List V} (n : Nat), Reps C H l vs → Reps C H (l.drop n) (vs.drop n)
  | [], _, n, h => by rw [show _ = [] from h]; cases n <;> exact rfl
  | d :: l, _, 0, h => h
  | d :: l, _, n + 1, ⟨v, r, e, h1, h2⟩ => by subst e; exact Reps.drop n h2
theorem Reps.reverse {C : CAd} {H : Hp} : ∀ {l : List D} {vs : List V}, Reps C H l vs → Reps C H l.reverse vs.reverse
  | [], _, h => by rw [show _ = [] from h]; exact rfl
  | d :: l, _, ⟨v, r, e, h1, h2⟩ => by
    subst e
    rw [List.reverse_cons, List.reverse_cons]
    exact Reps.append (Reps.reverse h2) ⟨v, [], rfl, h1, rfl⟩

/-- slots, some of them empty -/
def RepOs (C : CAd) (H : Hp) : List (Option D) → List (Option V) → Prop
  | [], xs => xs = []
  | none :: l, xs => ∃ r, xs = none :: r ∧ RepOs C H l r
  | some d :: l, xs => ∃ v r, xs = some v :: r ∧ Rep C H d v ∧ RepOs C H l r
theorem RepOs.fz {C : CAd} {H H' : Hp} (z : Fz H H') : ∀ (l : List (Option D)) {xs : List (Option V)}, RepOs C H l xs → RepOs C H' l xs
  | [], _, h => h
  | none :: l, _, ⟨r, e, h⟩ => ⟨r, e, RepOs.fz z l h⟩
  | some d :: l, _, ⟨v, r, e, h1, h2⟩ => ⟨v, r, e, h1.fz z, RepOs.fz z l h2⟩
/-- what may change, held -/
def RepM (C : CAd) (H : Hp) (a : Addr) : MO → Prop
  | .lst l => ∃ vs, H a = some (.lst vs) ∧ Reps C H l vs
  | .ins c fs => ∃ dx ys, H a = some (.ins (C c) dx ((fs.map (·.1)).zip ys)) ∧ Reps C H (fs.map (·.2)) ys
  | .sl c vs => ∃ dx xs, dx ≠ a ∧ ((H a = some (.ins (C c) dx []) ∧ H dx = some (.own a) ∧ xs = []) ∨ (H a = some (SlX.SlO a (C c) dx xs) ∧ H dx = some (.xd []))) ∧ RepOs C H vs xs
  | .dK kvs => ∃ ys, H a = some (.dK ((kvs.map (·.1)).zip ys)) ∧ Reps C H (kvs.map (·.2)) ys
def RM (C : CAd) (H : Hp) (M : MM) : Prop := ∀ a o, M a = some o → RepM C H a o
def Sub (M M' : MM) : Prop := ∀ a o, M a = some o → M' a = some o
theorem Sub.refl {M : MM} : Sub M M := fun _ _ h => h
theorem Sub.trans {M M1 M2 : MM} (a : Sub M M1) (b : Sub M1 M2) : Sub M M2 := fun _ _ h => b _ _ (a _ _ h)
theorem Sub.upd {M : MM} {a : Addr} {o : MO} (h : M a = none) : Sub M (updM M a o) := fun b u e => by
  by_cases hb : b = a
  · rw [hb, h] at e; cases e
  · rw [updM_ne hb]; exact e
theorem RM.sub {C : CAd} {H : Hp} {M M' : MM} (h : RM C H M') (s : Sub M M') : RM C H M := fun a o e => h a o (s a o e)
theorem RM.fresh {C : CAd} {H : Hp} {M : MM} (h : RM C H M) {p : Addr} (n : H p = none) : M p = none := by
  cases e : M p with
  | none => rfl
  | some o =>
    have z := h p o e
    cases o with
    | lst l => obtain ⟨vs, z, _⟩ := z; rw [n] at z; cases z
    | ins c fs => obtain ⟨dx, ys, z, _⟩ := z; rw [n] at z; cases z
    | sl c vs =>
      obtain ⟨dx, xs, _, z, _⟩ := z
      rcases z with ⟨z, _⟩ | ⟨z, _⟩ <;> (rw [n] at z; cases z)
    | dK kvs => obtain ⟨ys, z, _⟩ := z; rw [n] at z; cases z
/-- .. the same objects in a heap that has grown -/
theorem RepM.same {C : CAd} {H H' : Hp} {a : Addr} (z : Fz H H') (e : ∀ o, H a = some o → H' a = some o) (w : ∀ q, H q = some (.own a) → H' q = some (.own a)) : ∀ {o : MO}, RepM C H a o → RepM C H' a o
  | .lst l, ⟨vs, h, r⟩ => ⟨vs, e _ h, Reps.fz z _ r⟩
  | .ins c fs, ⟨dx, ys, h, r⟩ => ⟨dx, ys, e _ h, Reps.fz z _ r⟩
  | .sl c vs, ⟨dx, xs, n, h, r⟩ => ⟨dx, xs, n, h.imp (fun ⟨h1, h2, h3⟩ => ⟨e _ h1, w _ h2, h3⟩) (fun ⟨h1, h2⟩ => ⟨e _ h1, z.x _ _ h2⟩), RepOs.fz z _ r⟩
  | .dK kvs, ⟨ys, h, r⟩ => ⟨ys, e _ h, Reps.fz z _ r⟩
def Sm (H H' : Hp) : Prop := ∀ a o, H a = some o → H' a = some o
theorem Sm.fz {H H' : Hp} (s : Sm H H') : Fz H H' := ⟨fun a _ h => s a _ h, fun a _ _ h => s a _ h, fun a _ h => s a _ h⟩
theorem Sm.new {H : Hp} {p : Addr} {o : HO} (h : H p = none) : Sm H (upd H p o) := fun a u e => by
  rw [upd_ne (ne_of_none e h)]; exact e
theorem RM.same {C : CAd} {H H' : Hp} {M : MM} (h : RM C H M) (s : Sm H H') : RM C H' M := fun a o e => (h a o e).same s.fz (s a) (fun q => s q _)
/-- a step: what is held by the heap and not by M stays as it is, and out of M (an instance's own dict aside) -/
structure Stp (H : Hp) (M : MM) (H' : Hp) (M' : MM) : Prop where
  k : ∀ a o, H a = some o → M a = none → (∀ y, o ≠ .own y) → H' a = some o ∧ M' a = none
theorem Stp.refl {H : Hp} {M : MM} : Stp H M H M := ⟨fun _ _ h m _ => ⟨h, m⟩⟩
theorem Stp.trans {H H1 H2 : Hp} {M M1 M2 : MM} (a : Stp H M H1 M1) (b : Stp H1 M1 H2 M2) : Stp H M H2 M2 := ⟨fun p o h m w => by
  obtain ⟨h1, m1⟩ := a.k p o h m w
  exact b.k p o h1 m1 w⟩
theorem Stp.sub {H H1 : Hp} {M M1 M2 : MM} (a : Stp H M H1 M1) (s : Sub M2 M1) : Stp H M H1 M2 := ⟨fun p o h m w => by
  obtain ⟨h1, m1⟩ := a.k p o h m w
  refine ⟨h1, ?_⟩
  cases e : M2 p with
  | none => rfl
  | some u => rw [s p u e] at m1; cases m1⟩
/-- what M may hold -/
theorem RM.off {C : CAd} {H : Hp} {M : MM} (m : RM C H M) {p : Addr} {o : HO} (h : H p = some o) (n1 : ∀ l, o ≠ .lst l) (n2 : ∀ c d f, o ≠ .ins c d f) (n3 : ∀ l, o ≠ .dK l) (n4 : ∀ f, o ≠ .ext f) : M p = none := by
  cases e : M p with
  | none => rfl
  | some u =>
    have z := m p u e
    cases u with
    | lst l => obtain ⟨vs, z, _⟩ := z; rw [h] at z; exact absurd (Option.some.inj z) (n1 _)
    | ins c fs => obtain ⟨dx, ys, z, _⟩ := z; rw [h] at z; exact absurd (Option.some.inj z) (n2 _ _ _)
    | sl c vs =>
      obtain ⟨dx, xs, _, z, _⟩ := z
      rcases z with ⟨z, _⟩ | ⟨z, _⟩
      · rw [h] at z; exact absurd (Option.some.inj z) (n2 _ _ _)
      · rw [h] at z; exact absurd (Option.some.inj z) (n4 _)
    | dK kvs => obtain ⟨ys, z, _⟩ := z; rw [h] at z; exact absurd (Option.some.inj z) (n3 _)
theorem Stp.fz {C : CAd} {H H' : Hp} {M M' : MM} (a : Stp H M H' M') (m : RM C H M) : Fz H H' := by
  refine ⟨fun p xs h => (a.k p _ h (m.off h ?_ ?_ ?_ ?_) ?_).1, fun p o u h => (a.k p _ h (m.off h ?_ ?_ ?_ ?_) ?_).1, fun p xs h => (a.k p _ h (m.off h ?_ ?_ ?_ ?_) ?_).1⟩ <;> (intros; intro z; cases z)
/-- a new object, out of M | in M -/
theorem Stp.new {H : Hp} {M : MM} {p : Addr} {o : HO} (h : H p = none) : Stp H M (upd H p o) M := ⟨fun a u e m _ => ⟨by rw [upd_ne (ne_of_none e h)]; exact e, m⟩⟩
theorem Stp.newM {H : Hp} {M : MM} {p : Addr} {o : HO} {u : MO} (h : H p = none) : Stp H M (upd H p o) (updM M p u) := ⟨fun a x e m _ => ⟨by rw [upd_ne (ne_of_none e h)]; exact e, by rw [updM_ne (ne_of_none e h)]; exact m⟩⟩
/-- an object of M written -/
theorem Stp.write {H : Hp} {M : MM} {p : Addr} {o : HO} {u v : MO} (h : M p = some v) : Stp H M (upd H p o) (updM M p u) := ⟨fun a x e m _ => by
  have n : a ≠ p := fun z => by rw [z, h] at m; cases m
  exact ⟨by rw [upd_ne n]; exact e, by rw [updM_ne n]; exact m⟩⟩
theorem Stp.del {H : Hp} {M : MM} {p : Addr} {o : HO} {v : MO} (h : M p = some v) : Stp H M (upd H p o) (delM M p) := ⟨fun a x e m _ => by
  have n : a ≠ p := fun z => by rw [z, h] at m; cases m
  exact ⟨by rw [upd_ne n]; exact e, by unfold delM; rw [if_neg n]; exact m⟩⟩

/-- the slots -/
def RepS (C : CAd) (H : Hp) : L2.St → Rho → Prop
  | [], [] => True
  | x :: σ, d :: ρ => (match d with | none => True | some d => ∃ v, x = some v ∧ Rep C H d v) ∧ RepS C H σ ρ
  | _, _ => False
theorem RepS.fz {C : CAd} {H H' : Hp} (z : Fz H H') : ∀ {σ : L2.St} {ρ : Rho}, RepS C H σ ρ → RepS C H' σ ρ
  | [], [], _ => trivial
  | [], _ :: _, h => h
  | _ :: _, [], h => h
  | x :: σ, none :: ρ, ⟨h1, h2⟩ => ⟨trivial, RepS.fz z h2⟩
  | x :: σ, some d :: ρ, ⟨⟨v, e, h1⟩, h2⟩ => ⟨⟨v, e, Rep.fz z d h1⟩, RepS.fz z h2⟩
def nth : Rho → Nat → Option D
  | [], _ => none
  | d :: _, 0 => d
  | _ :: ρ, n + 1 => nth ρ n
def put : Rho → Nat → Option D → Rho
  | [], _, _ => []
  | _ :: ρ, 0, d => d :: ρ
  | x :: ρ, n + 1, d => x :: put ρ n d
theorem RepS.get {C : CAd} {H : Hp} : ∀ {σ : L2.St} {ρ : Rho} {i : Nat} {d : D}, RepS C H σ ρ → nth ρ i = some d → ∃ v, σ[i]? = some (some v) ∧ Rep C H d v
  | [], [], _, _, _, e => by cases e
  | [], _ :: _, _, _, h, _ => h.elim
  | _ :: _, [], _, _, h, _ => h.elim
  | x :: σ, y :: ρ, 0, d, ⟨h1, _⟩, e => by
    have e' : y = some d := e
    subst e'
    obtain ⟨v, rfl, r⟩ := h1
    exact ⟨v, by simp, r⟩
  | x :: σ, y :: ρ, i + 1, d, ⟨_, h2⟩, e => by
    obtain ⟨v, h3, h4⟩ := RepS.get (i := i) h2 e
    exact ⟨v, by simpa using h3, h4⟩
theorem RepS.set {C : CAd} {H : Hp} {d : D} {v : V} (hd : Rep C H d v) : ∀ {σ : L2.St} {ρ : Rho} (i : Nat), RepS C H σ ρ → RepS C H (σ.set i (some v)) (put ρ i (some d))
  | [], [], _, _ => trivial
  | [], _ :: _, _, h => h.elim
  | _ :: _, [], _, h => h.elim
  | x :: σ, y :: ρ, 0, ⟨_, h2⟩ => ⟨⟨v, rfl, hd⟩, h2⟩
  | x :: σ, y :: ρ, i + 1, ⟨h1, h2⟩ => ⟨h1, RepS.set hd i h2⟩
def startR (n : Nat) (ds : List D) : Rho := ds.map some ++ List.replicate (n - ds.length) none
theorem RepS.nones {C : CAd} {H : Hp} : ∀ n : Nat, RepS C H (List.replicate n none) (List.replicate n none)
  | 0 => trivial
  | n + 1 => ⟨trivial, RepS.nones n⟩
theorem RepS.start {C : CAd} {H : Hp} {N : List Str} : ∀ {ds : List D} {vs : List V}, Reps C H ds vs → RepS C H (L2.start N vs) (startR N.length ds) := by
  intro ds vs h
  unfold L2.start startR
  rw [h.length]
  have go : ∀ {ds : List D} {vs : List V} (t : L2.St) (u : Rho), Reps C H ds vs → RepS C H t u → RepS C H (vs.map some ++ t) (ds.map some ++ u) := by
    intro ds
    induction ds with
    | nil => intro vs t u h k; rw [show vs = [] from h]; exact k
    | cons d l ih =>
      intro vs t u h k
      obtain ⟨v, r, e, h1, h2⟩ := h
      subst e
      exact ⟨⟨v, rfl, h1⟩, ih t u h2 k⟩
  exact go _ _ h (RepS.nones _)
/-- an exception's class and dict -/
def RepE (C : CAd) (H : Hp) (cls : Value) (d : Option Addr) (e : Exc) : Prop :=
  cls = .ref (C e.c) ∧ ((e.fs = [] ∧ d = none) ∨ ∃ dd ys, d = some dd ∧ H dd = some (.xd ((e.fs.map (·.1)).zip ys)) ∧ Reps C H (e.fs.map (·.2)) ys)
end DD

/-! Judgements over data. -/
namespace DD
open PySem PySem.Spec PyProof.Rows L2
abbrev EXK := Exc → Rho → MM → Prop
abbrev TED := EXK → Rho → MM → (D → MM → Prop) → Prop
abbrev TTD := EXK → Rho → MM → (Bool → MM → Prop) → Prop
abbrev TAD := EXK → Rho → MM → (List D → MM → Prop) → Prop
structure EndsD where
  nx : Rho → MM → Prop
  rt : D → MM → Prop
  bk : Rho → MM → Prop := fun _ _ => False
  ct : Rho → MM → Prop := fun _ _ => False
abbrev TSD := EXK → EndsD → Rho → MM → Prop
/-- the context: the entry, what is wished of exceptions -/
structure DC (C : CAd) (X : Cx) where
  H0 : Hp
  M0 : MM
  W : WX
  ED : EXK
  tk : Takes X W
  br : ∀ cls d σ H e ρ M, Stp H0 M0 H M → RepS C H σ ρ → RM C H M → RepE C H cls d e → ED e ρ M → W cls d σ H
section
variable {C : CAd} {X : Cx}
structure Now (c : DC C X) (σ : L2.St) (H : Hp) (ρ : Rho) (M : MM) : Prop where
  st : Stp c.H0 c.M0 H M
  s : RepS C H σ ρ
  m : RM C H M
theorem Now.step {c : DC C X} {σ : L2.St} {H H' : Hp} {ρ : Rho} {M M' : MM} (n : Now c σ H ρ M) (z : Stp H M H' M') (m : RM C H' M') : Now c σ H' ρ M' := ⟨n.st.trans z, n.s.fz (z.fz n.m), m⟩
def KE (C : CAd) (H : Hp) (M : MM) (Qd : D → MM → Prop) (Q : VK) : Prop := ∀ v H' d M', Stp H M H' M' → Rep C H' d v → RM C H' M' → Qd d M' → Q v H'
def KT (C : CAd) (H : Hp) (M : MM) (Qd : Bool → MM → Prop) (Q : Bool → Hp → Prop) : Prop := ∀ b H' M', Stp H M H' M' → RM C H' M' → Qd b M' → Q b H'
def KA (C : CAd) (H : Hp) (M : MM) (Qd : List D → MM → Prop) (Q : List V → Hp → Prop) : Prop := ∀ vs H' ds M', Stp H M H' M' → Reps C H' ds vs → RM C H' M' → Qd ds M' → Q vs H'
def cE (c : DC C X) (td : TED) : TE := fun σ H Q => ∃ ρ M Qd, Now c σ H ρ M ∧ td c.ED ρ M Qd ∧ KE C H M Qd Q
def cT (c : DC C X) (td : TTD) : TT := fun σ H Q => ∃ ρ M Qd, Now c σ H ρ M ∧ td c.ED ρ M Qd ∧ KT C H M Qd Q
def cA (c : DC C X) (td : TAD) : TA := fun σ H Q => ∃ ρ M Qd, Now c σ H ρ M ∧ td c.ED ρ M Qd ∧ KA C H M Qd Q
/-- ends at V-level, no stronger -/
structure ELe (C : CAd) (H : Hp) (M : MM) (D : EndsD) (Dv : Ends) : Prop where
  nx : ∀ σ H' ρ M', Stp H M H' M' → RepS C H' σ ρ → RM C H' M' → D.nx ρ M' → Dv.nx σ H'
  rt : ∀ v H' d M', Stp H M H' M' → Rep C H' d v → RM C H' M' → D.rt d M' → Dv.rt v H'
  bk : ∀ σ H' ρ M', Stp H M H' M' → RepS C H' σ ρ → RM C H' M' → D.bk ρ M' → Dv.bk σ H'
  ct : ∀ σ H' ρ M', Stp H M H' M' → RepS C H' σ ρ → RM C H' M' → D.ct ρ M' → Dv.ct σ H'
theorem ELe.step {H H' : Hp} {M M' : MM} {D : EndsD} {Dv : Ends} (l : ELe C H M D Dv) (z : Stp H M H' M') : ELe C H' M' D Dv :=
  ⟨fun σ K ρ M f => l.nx σ K ρ M (z.trans f), fun v K d M f => l.rt v K d M (z.trans f), fun σ K ρ M f => l.bk σ K ρ M (z.trans f), fun σ K ρ M f => l.ct σ K ρ M (z.trans f)⟩
def cS (c : DC C X) (td : TSD) : TS := fun Dv σ H => ∃ ρ M D, Now c σ H ρ M ∧ td c.ED D ρ M ∧ ELe C H M D Dv
abbrev PD (c : DC C X) (e : Expr) (td : TED) : Prop := PE X e (cE c td)
abbrev PDT (c : DC C X) (e : Expr) (td : TTD) : Prop := PT X e (cT c td)
abbrev PDW (c : DC C X) (e : Expr) (td : TTD) : Prop := PW X e (cT c td)
abbrev PDA (c : DC C X) (es : List Expr) (td : TAD) : Prop := PA X es (cA c td)
abbrev PDS (c : DC C X) (st : Stmt) (td : TSD) : Prop := PS X st (cS c td)
abbrev PDSs (c : DC C X) (st : List Stmt) (td : TSD) : Prop := PSs X st (cS c td)
variable {c : DC C X} {e : Expr} {es : List Expr} {st : Stmt} {sts : List Stmt}
theorem PD.mk {t : TE} {td : TED} (h : PE X e t) (k : ∀ σ H ρ M Qd Q, Now c σ H ρ M → td c.ED ρ M Qd → KE C H M Qd Q → t σ H Q) : PD c e td :=
  ⟨fun pins s σ H Q I ⟨ρ, M, Qd, n, h1, k1⟩ => h.run pins s σ H Q I (k σ H ρ M Qd Q n h1 k1)⟩
theorem PDT.mk {t : TT} {td : TTD} (h : PT X e t) (k : ∀ σ H ρ M Qd Q, Now c σ H ρ M → td c.ED ρ M Qd → KT C H M Qd Q → t σ H Q) : PDT c e td :=
  ⟨fun pins s σ H Q I ⟨ρ, M, Qd, n, h1, k1⟩ => h.run pins s σ H Q I (k σ H ρ M Qd Q n h1 k1)⟩
theorem PDW.mk {t : TT} {td : TTD} (h : PW X e t) (k : ∀ σ H ρ M Qd Q, Now c σ H ρ M → td c.ED ρ M Qd → KT C H M Qd Q → t σ H Q) : PDW c e td :=
  ⟨fun wh pins s σ H Q I ⟨ρ, M, Qd, n, h1, k1⟩ => h.run wh pins s σ H Q I (k σ H ρ M Qd Q n h1 k1)⟩
theorem PDA.mk {t : TA} {td : TAD} (h : PA X es t) (k : ∀ σ H ρ M Qd Q, Now c σ H ρ M → td c.ED ρ M Qd → KA C H M Qd Q → t σ H Q) : PDA c es td :=
  ⟨fun pos pins s σ H Q I ⟨ρ, M, Qd, n, h1, k1⟩ => h.run pos pins s σ H Q I (k σ H ρ M Qd Q n h1 k1)⟩
theorem PDS.mk {t : TS} {td : TSD} (h : PS X st t) (k : ∀ σ H ρ M D Dv, Now c σ H ρ M → td c.ED D ρ M → ELe C H M D Dv → t Dv σ H) : PDS c st td :=
  ⟨fun pins s σ H Dv I ⟨ρ, M, D, n, h1, k1⟩ => h.run pins s σ H Dv I (k σ H ρ M D Dv n h1 k1)⟩
theorem PDSs.mk {t : TS} {td : TSD} (h : PSs X sts t) (k : ∀ σ H ρ M D Dv, Now c σ H ρ M → td c.ED D ρ M → ELe C H M D Dv → t Dv σ H) : PDSs c sts td :=
  ⟨fun pins s σ H Dv I ⟨ρ, M, D, n, h1, k1⟩ => h.run pins s σ H Dv I (k σ H ρ M D Dv n h1 k1)⟩
end

/-! ### names, constants -/
section
variable {C : CAd} {X : Cx} {c : DC C X} {pos : Pos}
def dVar (i : Nat) : TED := fun _ ρ M Q => match nth ρ i with
  | some d => Q d M
  | none => False
def dC (d : D) : TED := fun _ _ M Q => Q d M
theorem pd_var (i : Nat) {x : Str} (hN : X.N[i]? = some x := by rfl) (hv : Vis X.env.scope x := by first | exact Or.inl rfl | exact Or.inr (Or.inl rfl) | exact Or.inr (Or.inr rfl)) (hd : (x == ("__debug__" : Str)) = false := by decide)
    (hcd : (x == ("__classdict__" : Str)) = false := by decide) : PD c (.Name x pos) (dVar i) := by
  refine PD.mk (pe_var hN hv hd hcd) fun σ H ρ M Qd Q n h k => ?_
  unfold dVar at h
  split at h
  · next d e =>
    obtain ⟨v, ev, r⟩ := n.s.get e
    exact ⟨v, ev, k v H d M .refl r n.m h⟩
  · exact h.elim
theorem pd_c {e : Expr} {v : V} {d : D} (h : PE X e (tC v)) (r : ∀ H, Rep C H d v) : PD c e (dC d) := PD.mk h fun σ H ρ M Qd Q n h k => k v H d M .refl (r H) n.m h
theorem pd_int {i j} : PD c (.Constant (.int i) j pos) (dC (.int i)) := pd_c pe_int fun _ => rfl
theorem pd_bl {b j} : PD c (.Constant (.bool b) j pos) (dC (.bl b)) := pd_c pe_bl fun _ => rfl
theorem pd_non {j} : PD c (.Constant .none j pos) (dC .non) := pd_c pe_non fun _ => rfl
theorem pd_str {x j} : PD c (.Constant (.str x) j pos) (dC (.str x)) := pd_c pe_str fun _ => rfl
/-- a module's constant that is an int | a text -/
theorem pd_gint {x : Str} {i : Int} (hg : Gl X x) (hm : ∃ t, X.mg x = some (.int i t)) (hd : (x == ("__debug__" : Str)) = false := by decide) : PD c (.Name x pos) (dC (.int i)) := by
  obtain ⟨t, hm⟩ := hm
  exact pd_c (pe_glob (v := .int i) hg hm ⟨t, rfl⟩ hd) fun _ => rfl
theorem pd_gstr {x : Str} {i : Str} (hg : Gl X x) (hm : ∃ t, X.mg x = some (.str i t)) (hd : (x == ("__debug__" : Str)) = false := by decide) : PD c (.Name x pos) (dC (.str i)) := by
  obtain ⟨t, hm⟩ := hm
  exact pd_c (pe_glob (v := .str i) hg hm ⟨t, rfl⟩ hd) fun _ => rfl
/-- a name that stands for an object (a class) -/
theorem pd_gref {x : Str} {a : Addr} (hg : Gl X x) (hm : X.mg x = some (.ref a)) (hd : (x == ("__debug__" : Str)) = false := by decide) : PD c (.Name x pos) (dC (.adr a)) :=
  pd_c (pe_glob (v := .ref a) hg hm rfl hd) fun _ => rfl

/-! ### operators by values -/
abbrev R2D := D → D → MM → (D → MM → Prop) → Prop
def OpD (C : CAd) (X : Cx) (f : Value → Value → Sem Value) (rd : R2D) : Prop :=
  ∃ r : R2, OpR X f r ∧ ∀ H M x y dx dy Qd Q, Rep C H dx x → Rep C H dy y → RM C H M → rd dx dy M Qd → KE C H M Qd Q → r x y H Q
def dOp (rd : R2D) (ta tb : TED) : TED := fun ex ρ M Q => ta ex ρ M fun x M1 => tb ex ρ M1 fun y M2 => rd x y M2 Q
variable {a b e : Expr} {ta tb te : TED}
theorem KE.step {H H1 : Hp} {M M1 : MM} {Qd : D → MM → Prop} {Q : VK} (k : KE C H M Qd Q) (z : Stp H M H1 M1) : KE C H1 M1 Qd Q := fun v H' d M' z' => k v H' d M' (z.trans z')
theorem KT.step {H H1 : Hp} {M M1 : MM} {Qd : Bool → MM → Prop} {Q : Bool → Hp → Prop} (k : KT C H M Qd Q) (z : Stp H M H1 M1) : KT C H1 M1 Qd Q := fun b H' M' z' => k b H' M' (z.trans z')
theorem two {σ : L2.St} {H : Hp} {ρ : Rho} {M : MM} {R : D → D → MM → Prop} {Rv : V → V → Hp → Prop} (n : Now c σ H ρ M) (h : ta c.ED ρ M fun x M1 => tb c.ED ρ M1 fun y M2 => R x y M2)
    (k : ∀ x y H' dx dy M', Stp H M H' M' → Rep C H' dx x → Rep C H' dy y → RM C H' M' → R dx dy M' → Rv x y H') : cE c ta σ H fun x H1 => cE c tb σ H1 fun y H2 => Rv x y H2 :=
  ⟨ρ, M, _, n, h, fun x H1 dx M1 z1 r1 m1 q1 => ⟨ρ, M1, _, n.step z1 m1, q1, fun y H2 dy M2 z2 r2 m2 q2 => k x y H2 dx dy M2 (z1.trans z2) (r1.fz (z2.fz m1)) r2 m2 q2⟩⟩
theorem pd_op {op : Operator} {rd : R2D} (ho : OpD C X (binaryOp op) rd) (ha : PD c a ta) (hb : PD c b tb) : PD c (.BinOp a op b pos) (dOp rd ta tb) := by
  obtain ⟨r, o1, o2⟩ := ho
  exact PD.mk (pe_op o1 ha hb) fun σ H ρ M Qd Q n h k => two n h fun x y H' dx dy M' z rx ry m g => o2 H' M' x y dx dy Qd Q rx ry m g (k.step z)
theorem pd_cmp {op : CmpOp} {rd : R2D} (ho : OpD C X (compareOp op) rd) (ha : PD c a ta) (hb : PD c b tb) (hm : behindInMarks op b = false := by first | exact nomark _ | rfl) : PD c (.Compare a [op] [b] pos) (dOp rd ta tb) := by
  obtain ⟨r, o1, o2⟩ := ho
  exact PD.mk (pe_cmpR o1 ha hb hm) fun σ H ρ M Qd Q n h k => two n h fun x y H' dx dy M' z rx ry m g => o2 H' M' x y dx dy Qd Q rx ry m g (k.step z)
/-- a bool asked -/
def asB (Q : Bool → MM → Prop) : D → MM → Prop := fun d M => match d with
  | .bl b => Q b M
  | _ => False
def dTest (t : TED) : TTD := fun ex ρ M Q => t ex ρ M (asB Q)
theorem asB_of {H : Hp} {Q : Bool → MM → Prop} {d : D} {M : MM} {v : V} (h : asB Q d M) (r : Rep C H d v) : ∃ b, v = .bl b ∧ Q b M := by
  cases d with
  | bl b => exact ⟨b, r, h⟩
  | _ => exact h.elim
theorem KT.asB {H : Hp} {M : MM} {Qd : Bool → MM → Prop} {Q : Bool → Hp → Prop} (k : KT C H M Qd Q) : KE C H M (asB Qd) (fun x H' => ∃ k, x = .bl k ∧ Q k H') := fun v H' d M' z r m q => by
  obtain ⟨b, rfl, qb⟩ := asB_of q r
  exact ⟨b, rfl, k b H' M' z m qb⟩
theorem pdt_cmp {op : CmpOp} {rd : R2D} (ho : OpD C X (compareOp op) rd) (ha : PD c a ta) (hb : PD c b tb) (hm : behindInMarks op b = false := by first | exact nomark _ | rfl) : PDT c (.Compare a [op] [b] pos) (dTest (dOp rd ta tb)) := by
  obtain ⟨r, o1, o2⟩ := ho
  exact PDT.mk (pt_cmpR o1 ha hb hm) fun σ H ρ M Qd Q n h k => two n h fun x y H' dx dy M' z rx ry m g => o2 H' M' x y dx dy _ _ rx ry m g (k.step z).asB
/-- an expression that gives a bool, as a test -/
theorem pdt_val (h : PD c e te) (he : ∀ whole, isTrue e X.env whole = (do let v ← whole; standAt e.pos; holding [v] (truthy v)) := by intro _; rfl) : PDT c e (dTest te) :=
  PDT.mk (pt_val h he) fun σ H ρ M Qd Q n h k => ⟨ρ, M, _, n, h, k.asB⟩
/-! ### and, or, not -/
variable {tA tB : TTD} {rest : List Expr}
def dAnd (t u : TTD) : TTD := fun ex ρ M Q => t ex ρ M fun b M1 => match b with
  | true => u ex ρ M1 Q
  | false => Q false M1
def dOr (t u : TTD) : TTD := fun ex ρ M Q => t ex ρ M fun b M1 => match b with
  | true => Q true M1
  | false => u ex ρ M1 Q
def dNot (t : TTD) : TTD := fun ex ρ M Q => t ex ρ M fun b M1 => Q (!b) M1
theorem pdw_and1 (ha : PDT c a tA) : PDW c (.BoolOp .And [a] pos) tA := pw_and1 ha
theorem pdw_or1 (ha : PDT c a tA) : PDW c (.BoolOp .Or [a] pos) tA := pw_or1 ha
theorem pdw_and (ha : PDT c a tA) (hb : PDW c (.BoolOp .And (b :: rest) pos) tB) : PDW c (.BoolOp .And (a :: b :: rest) pos) (dAnd tA tB) := by
  refine PDW.mk (pw_and ha hb) fun σ H ρ M Qd Q n h k => ⟨ρ, M, _, n, h, fun b H1 M1 z1 m1 g => ?_⟩
  cases b with
  | true => exact iteT ⟨ρ, M1, Qd, n.step z1 m1, g, k.step z1⟩
  | false => exact iteF (k false H1 M1 z1 m1 g)
theorem pdw_or (ha : PDT c a tA) (hb : PDW c (.BoolOp .Or (b :: rest) pos) tB) : PDW c (.BoolOp .Or (a :: b :: rest) pos) (dOr tA tB) := by
  refine PDW.mk (pw_or ha hb) fun σ H ρ M Qd Q n h k => ⟨ρ, M, _, n, h, fun b H1 M1 z1 m1 g => ?_⟩
  cases b with
  | true => exact iteT (k true H1 M1 z1 m1 g)
  | false => exact iteF ⟨ρ, M1, Qd, n.step z1 m1, g, k.step z1⟩
theorem pdt_not (ha : PDT c a tA) : PDT c (.UnaryOp .Not a pos) (dNot tA) :=
  PDT.mk (pt_not ha) fun σ H ρ M Qd Q n h k => ⟨ρ, M, _, n, h, fun b H1 M1 z1 m1 g => k (!b) H1 M1 z1 m1 g⟩
/-- .. as values -/
def dAndV (t u : TED) : TED := fun ex ρ M Q => t ex ρ M (asB fun b M1 => match b with
  | true => u ex ρ M1 Q
  | false => Q (.bl false) M1)
def dOrV (t u : TED) : TED := fun ex ρ M Q => t ex ρ M (asB fun b M1 => match b with
  | true => Q (.bl true) M1
  | false => u ex ρ M1 Q)
def dNotV (t : TED) : TED := fun ex ρ M Q => t ex ρ M (asB fun b M1 => Q (.bl (!b)) M1)
theorem pd_one {op} (h : PD c a ta) : PD c (.BoolOp op [a] pos) ta := pe_one h
theorem pd_and (ha : PD c a ta) (hb : PD c (.BoolOp .And (b :: rest) pos) tb) : PD c (.BoolOp .And (a :: b :: rest) pos) (dAndV ta tb) := by
  refine PD.mk (pe_and ha hb) fun σ H ρ M Qd Q n h k => ⟨ρ, M, _, n, h, fun v H1 d M1 z1 r1 m1 g => ?_⟩
  obtain ⟨b, rfl, g⟩ := asB_of g r1
  refine ⟨b, rfl, ?_⟩
  cases b with
  | true => exact iteT ⟨ρ, M1, Qd, n.step z1 m1, g, k.step z1⟩
  | false => exact iteF (k _ H1 (.bl false) M1 z1 rfl m1 g)
theorem pd_or (ha : PD c a ta) (hb : PD c (.BoolOp .Or (b :: rest) pos) tb) : PD c (.BoolOp .Or (a :: b :: rest) pos) (dOrV ta tb) := by
  refine PD.mk (pe_or ha hb) fun σ H ρ M Qd Q n h k => ⟨ρ, M, _, n, h, fun v H1 d M1 z1 r1 m1 g => ?_⟩
  obtain ⟨b, rfl, g⟩ := asB_of g r1
  refine ⟨b, rfl, ?_⟩
  cases b with
  | true => exact iteT (k _ H1 (.bl true) M1 z1 rfl m1 g)
  | false => exact iteF ⟨ρ, M1, Qd, n.step z1 m1, g, k.step z1⟩
theorem pd_not (ha : PD c a ta) : PD c (.UnaryOp .Not a pos) (dNotV ta) := by
  refine PD.mk (pe_not ha) fun σ H ρ M Qd Q n h k => ⟨ρ, M, _, n, h, fun v H1 d M1 z1 r1 m1 g => ?_⟩
  obtain ⟨b, rfl, g⟩ := asB_of g r1
  exact ⟨b, rfl, k _ H1 (.bl (!b)) M1 z1 rfl m1 g⟩
def dIf (t : TTD) (ta tb : TED) : TED := fun ex ρ M Q => t ex ρ M fun b M1 => match b with
  | true => ta ex ρ M1 Q
  | false => tb ex ρ M1 Q
theorem pd_if {g : Expr} (hc : PDT c g tA) (ha : PD c a ta) (hb : PD c b tb) : PD c (.IfExp g a b pos) (dIf tA ta tb) := by
  refine PD.mk (pe_ifExp hc ha hb) fun σ H ρ M Qd Q n h k => ⟨ρ, M, _, n, h, fun b H1 M1 z1 m1 g => ?_⟩
  cases b with
  | true => exact iteT ⟨ρ, M1, Qd, n.step z1 m1, g, k.step z1⟩
  | false => exact iteF ⟨ρ, M1, Qd, n.step z1 m1, g, k.step z1⟩
/-! ### arguments, tuples -/
variable {es : List Expr} {tl : TAD}
def dNil : TAD := fun _ _ M Q => Q [] M
def dCons (t : TED) (u : TAD) : TAD := fun ex ρ M Q => t ex ρ M fun x M1 => u ex ρ M1 fun xs M2 => Q (x :: xs) M2
theorem pda_nil : PDA c [] dNil := PDA.mk pa_nil fun σ H ρ M Qd Q n h k => k [] H [] M .refl rfl n.m h
theorem pda_cons (ha : PD c e te) (hr : PDA c es tl) (hs : starEach (e :: es) X.env = (false, eval e X.env) :: starEach es X.env := by rfl) : PDA c (e :: es) (dCons te tl) :=
  PDA.mk (pa_cons ha hr hs) fun σ H ρ M Qd Q n h k => ⟨ρ, M, _, n, h, fun v H1 d M1 z1 r1 m1 g => ⟨ρ, M1, _, n.step z1 m1, g, fun vs H2 ds M2 z2 r2 m2 g2 =>
    k _ H2 (d :: ds) M2 (z1.trans z2) ⟨v, vs, rfl, r1.fz (z2.fz m1), r2⟩ m2 g2⟩⟩
theorem line6 {n : Nat} (h : n ≤ 1000000) : n ≤ sizeLine := by rw [sizeLine_eq]; omega
def dTup (t : TAD) : TED := fun ex ρ M Q => t ex ρ M fun ds M1 => ds.length ≤ 1000000 ∧ Q (.tup ds) M1
theorem pd_tup {x1} (h : PDA c es tl) : PD c (.Tuple es x1 pos) (dTup tl) :=
  PD.mk (pe_tup h) fun σ H ρ M Qd Q n h k => ⟨ρ, M, _, n, h, fun vs H1 ds M1 z1 r1 m1 ⟨g1, g2⟩ => ⟨by rw [← r1.length]; exact line6 g1, fun p hp =>
    k _ _ (.tup ds) M1 (z1.trans (.new hp)) ⟨p, vs, rfl, upd_same, Reps.fz (Sm.new hp).fz _ r1⟩ (m1.same (Sm.new hp)) g2⟩⟩
theorem RM.put {H : Hp} {M : MM} {p : Addr} {o : MO} {u : HO} (m : RM C H M) (hp : H p = none) (h : RepM C (upd H p u) p o) : RM C (upd H p u) (updM M p o) := fun a x e => by
  by_cases ha : a = p
  · subst ha; rw [updM_same] at e; cases e; exact h
  · rw [updM_ne ha] at e
    exact (m a x e).same (Sm.new hp).fz (fun o' h' => by rw [upd_ne ha]; exact h') fun q => Sm.new hp q _
/-- a list that may change -/
def dLstM (t : TAD) : TED := fun ex ρ M Q => t ex ρ M fun ds M1 => ds.length ≤ 1000000 ∧ ∀ p, M1 p = none → Q (.adr p) (updM M1 p (.lst ds))
theorem pd_lstM (h : PDA c es tl) : PD c (.List es pos) (dLstM tl) :=
  PD.mk (pe_lst h) fun σ H ρ M Qd Q n h k => ⟨ρ, M, _, n, h, fun vs H1 ds M1 z1 r1 m1 ⟨g1, g2⟩ => ⟨by rw [← r1.length]; exact line6 g1, fun p hp =>
    k _ _ (.adr p) _ (z1.trans (.newM hp)) rfl (m1.put (o := .lst ds) hp ⟨vs, upd_same, Reps.fz (Sm.new hp).fz _ r1⟩) (g2 p (m1.fresh hp))⟩⟩
end
end DD

/-! Statements, loops, calls, defs over data. -/
namespace DD
open PySem PySem.Spec PyProof.Rows L2
section
variable {C : CAd} {X : Cx} {c : DC C X} {pos : Pos} {e : Expr} {te : TED} {st : Stmt} {rest : List Stmt} {t u : TSD}
/-! ### small statements -/
def dNext : TSD := fun _ D ρ M => D.nx ρ M
def dSeq (t u : TSD) : TSD := fun ex D ρ M => t ex { D with nx := u ex D } ρ M
theorem pdss_nil : PDSs c [] dNext := PDSs.mk pss_nil fun σ H ρ M D Dv n h k => k.nx σ H ρ M .refl n.s n.m h
theorem pdss_cons (h1 : PDS c st t) (h2 : PDSs c rest u) : PDSs c (st :: rest) (dSeq t u) :=
  PDSs.mk (pss_cons h1 h2) fun σ H ρ M D Dv n h k => ⟨ρ, M, _, n, h, ⟨fun σ' H' ρ' M' z s m q => ⟨ρ', M', D, ⟨n.st.trans z, s, m⟩, q, k.step z⟩, k.rt, k.bk, k.ct⟩⟩
theorem pdss_one (h1 : PDS c st t) : PDSs c [st] t := PDSs.mk (pss_one h1) fun σ H ρ M D Dv n h k => ⟨ρ, M, D, n, h, k⟩
def dBreak : TSD := fun _ D ρ M => D.bk ρ M
def dCont : TSD := fun _ D ρ M => D.ct ρ M
theorem pds_pass : PDS c (.Pass pos) dNext := PDS.mk ps_pass fun σ H ρ M D Dv n h k => k.nx σ H ρ M .refl n.s n.m h
theorem pds_break : PDS c (.Break pos) dBreak := PDS.mk ps_break fun σ H ρ M D Dv n h k => k.bk σ H ρ M .refl n.s n.m h
theorem pds_continue : PDS c (.Continue pos) dCont := PDS.mk ps_continue fun σ H ρ M D Dv n h k => k.ct σ H ρ M .refl n.s n.m h
def dExpr (te : TED) : TSD := fun ex D ρ M => te ex ρ M fun _ M1 => D.nx ρ M1
theorem pds_expr (he : PD c e te) (hs : swapsWith e none pos.line X.env = pure false := by rfl) : PDS c (.Expr e pos) (dExpr te) :=
  PDS.mk (ps_expr he hs) fun σ H ρ M D Dv n h k => ⟨ρ, M, _, n, h, fun v H1 d M1 z r m g => k.nx σ H1 ρ M1 z (n.s.fz (z.fz n.m)) m g⟩
def dRet (te : TED) : TSD := fun ex D ρ M => te ex ρ M D.rt
theorem pds_ret (he : PD c e te) : PDS c (.Return (some e) pos) (dRet te) :=
  PDS.mk (ps_ret he) fun σ H ρ M D Dv n h k => ⟨ρ, M, _, n, h, fun v H1 d M1 z r m g => k.rt v H1 d M1 z r m g⟩
def dRetN : TSD := fun _ D _ M => D.rt .non M
theorem pds_retN : PDS c (.Return none pos) dRetN := PDS.mk ps_retN fun σ H ρ M D Dv n h k => k.rt _ H .non M .refl rfl n.m h
def dIfS (g : TTD) (t u : TSD) : TSD := fun ex D ρ M => g ex ρ M fun b M1 => match b with
  | true => t ex D ρ M1
  | false => u ex D ρ M1
theorem pds_if {g : Expr} {a b : List Stmt} {tg : TTD} (hc : PDT c g tg) (ha : PDSs c a t) (hb : PDSs c b u) : PDS c (.If g a b pos) (dIfS tg t u) :=
  PDS.mk (ps_if hc ha hb) fun σ H ρ M D Dv n h k => ⟨ρ, M, _, n, h, fun b H1 M1 z m g => by
    cases b with
    | true => exact iteT ⟨ρ, M1, D, n.step z m, g, k.step z⟩
    | false => exact iteF ⟨ρ, M1, D, n.step z m, g, k.step z⟩⟩
def dNever : TSD := fun _ _ _ _ => False
theorem pds_never : PDS c st dNever := PDS.mk ps_never fun _ _ _ _ _ _ _ h _ => h
theorem pdss_never {sts : List Stmt} : PDSs c sts dNever := PDSs.mk pss_never fun _ _ _ _ _ _ _ h _ => h
/-! ### targets -/
abbrev TGD := D → Rho → MM → (Rho → MM → Prop) → Prop
abbrev TGDs := List D → Rho → MM → (Rho → MM → Prop) → Prop
def KG (C : CAd) (H : Hp) (M : MM) (Qd : Rho → MM → Prop) (Q : L2.St → Hp → Prop) : Prop := ∀ σ H' ρ M', Stp H M H' M' → RepS C H' σ ρ → RM C H' M' → Qd ρ M' → Q σ H'
def cG (c : DC C X) (td : TGD) : TG := fun v σ H Q => ∃ d ρ M Qd, Now c σ H ρ M ∧ Rep C H d v ∧ td d ρ M Qd ∧ KG C H M Qd Q
def cGs (c : DC C X) (td : TGDs) : TGs := fun vs σ H Q => ∃ ds ρ M Qd, Now c σ H ρ M ∧ Reps C H ds vs ∧ td ds ρ M Qd ∧ KG C H M Qd Q
abbrev PDG (c : DC C X) (tg : Expr) (td : TGD) : Prop := PG X tg (cG c td)
abbrev PDGs (c : DC C X) (tgs : List Expr) (td : TGDs) : Prop := PGs X tgs (cGs c td)
theorem PDG.mk {tg : Expr} {t : TG} {td : TGD} (h : PG X tg t) (k : ∀ v d σ H ρ M Qd Q, Now c σ H ρ M → Rep C H d v → td d ρ M Qd → KG C H M Qd Q → t v σ H Q) : PDG c tg td :=
  ⟨fun pins s σ H v u Q I r ⟨d, ρ, M, Qd, n, rd, h1, k1⟩ => h.run pins s σ H v u Q I r (k v d σ H ρ M Qd Q n rd h1 k1)⟩
theorem PDGs.mk {tg : List Expr} {t : TGs} {td : TGDs} (h : PGs X tg t) (k : ∀ vs ds σ H ρ M Qd Q, Now c σ H ρ M → Reps C H ds vs → td ds ρ M Qd → KG C H M Qd Q → t vs σ H Q) : PDGs c tg td :=
  ⟨fun pins s σ H v u Q I r ⟨d, ρ, M, Qd, n, rd, h1, k1⟩ => h.run pins s σ H v u Q I r (k v d σ H ρ M Qd Q n rd h1 k1)⟩
def dName (i : Nat) : TGD := fun d ρ M Q => Q (put ρ i (some d)) M
theorem pdg_name {i : Nat} {x : Str} (hN : X.N.Nodup) (hi : X.N[i]? = some x) (hx : Loc X.env.scope x) (hf : X.fn x = true ∨ X.env.scope.names.lookup x = some .local := by first | exact .inl rfl | exact .inr rfl | assumption) : PDG c (.Name x pos) (dName i) :=
  PDG.mk (pg_name hN hi hx hf) fun v d σ H ρ M Qd Q n r h k => k _ H _ M .refl (n.s.set r i) n.m h
def dGNil : TGDs := fun ds ρ M Q => match ds with
  | [] => Q ρ M
  | _ => False
def dGCons (t : TGD) (u : TGDs) : TGDs := fun ds ρ M Q => match ds with
  | d :: r => t d ρ M fun ρ' M' => u r ρ' M' Q
  | [] => False
theorem pdgs_nil : PDGs c [] dGNil := PDGs.mk pgs_nil fun vs ds σ H ρ M Qd Q n r h k => by
  cases ds with
  | nil => exact ⟨r, k σ H ρ M .refl n.s n.m h⟩
  | cons _ _ => exact h.elim
theorem pdgs_cons {e : Expr} {es : List Expr} {t : TGD} {u : TGDs} (h1 : PDG c e t) (h2 : PDGs c es u)
    (hs : (assignEach (e :: es) X.env).map (·.2) = assign e X.env :: (assignEach es X.env).map (·.2) := by rfl) : PDGs c (e :: es) (dGCons t u) :=
  PDGs.mk (pgs_cons h1 h2 hs) fun vs ds σ H ρ M Qd Q n r h k => by
    cases ds with
    | nil => exact h.elim
    | cons d l =>
      obtain ⟨v, vr, rfl, r1, r2⟩ := r
      exact ⟨v, vr, rfl, d, ρ, M, _, n, r1, h, fun σ' H' ρ' M' z s m g => ⟨l, ρ', M', Qd, ⟨n.st.trans z, s, m⟩, Reps.fz (z.fz n.m) _ r2, g, fun σ2 H2 ρ2 M2 z2 => k σ2 H2 ρ2 M2 (z.trans z2)⟩⟩
def dGTup (n : Nat) (t : TGDs) : TGD := fun d ρ M Q => match d with
  | .tup ds => ds.length = n ∧ t ds ρ M Q
  | _ => False
theorem pdg_tup {es : List Expr} {k : Nat} {t : TGDs} {n : Nat} (hc : X.calm = true) (h : PDGs c es t)
    (hn : (assignEach es X.env).length = n := by rfl) (hst : (assignEach es X.env).findIdx? (·.1) = none := by rfl) : PDG c (.Tuple es k pos) (dGTup n t) :=
  PDG.mk (pg_tup hc h hn hst) fun v d σ H ρ M Qd Q n r h k => by
    cases d with
    | tup ds =>
      obtain ⟨a, vs, rfl, e, r⟩ := r
      exact ⟨a, vs, rfl, SqT.of e, by rw [← r.length]; exact h.1, ds, ρ, M, Qd, n, r, h.2, k⟩
    | _ => exact h.elim
/-- target = value -/
def dAsg (te : TED) (g : TGD) : TSD := fun ex D ρ M => te ex ρ M fun d M1 => g d ρ M1 D.nx
theorem pds_asg {tg : Expr} {g : TGD} (he : PD c e te) (hg : PDG c tg g) (hs : swapsWithSole [tg] e pos.line X.env = pure false := by rfl) (hw : swappedStores [tg] e X.env = pure none := by rfl)
    (h1 : (assignEach [tg] X.env).map (·.2) = [assign tg X.env] := by rfl) : PDS c (.Assign [tg] e pos) (dAsg te g) :=
  PDS.mk (ps_asg he hg hs hw h1) fun σ H ρ M D Dv n h k => ⟨ρ, M, _, n, h, fun v H1 d M1 z r m g => ⟨d, ρ, M1, _, n.step z m, r, g, fun σ2 H2 ρ2 M2 z2 s2 m2 q => k.nx σ2 H2 ρ2 M2 (z.trans z2) s2 m2 q⟩⟩
theorem pds_set {i : Nat} {x : Str} {pos' : Pos} (hN : X.N.Nodup) (hi : X.N[i]? = some x) (hx : Loc X.env.scope x) (he : PD c e te) (hs : swapsWith e (some (.Name x pos')) pos.line X.env = pure false := by rfl) (hf : X.fn x = true ∨ X.env.scope.names.lookup x = some .local := by first | exact .inl rfl | exact .inr rfl | assumption) :
    PDS c (.Assign [.Name x pos'] e pos) (dAsg te (dName i)) :=
  PDS.mk (ps_set hN hi hx he hs hf) fun σ H ρ M D Dv n h k => ⟨ρ, M, _, n, h, fun v H1 d M1 z r m g => k.nx _ H1 _ M1 z ((n.s.fz (z.fz n.m)).set r i) m g⟩
/-! ### while -/
def whileD (g : TTD) (b : TSD) (ex : EXK) (D : EndsD) : Nat → Rho → MM → Prop
  | 0 => fun _ _ => False
  | n + 1 => fun ρ M => g ex ρ M fun k M1 => match k with
    | true => b ex { D with nx := whileD g b ex D n, ct := whileD g b ex D n, bk := D.nx } ρ M1
    | false => D.nx ρ M1
def dWhile (g : TTD) (b : TSD) : TSD := fun ex D ρ M => ∃ n, whileD g b ex D n ρ M
theorem pds_while {g : Expr} {body : List Stmt} {tg : TTD} {tb : TSD} (hp : PassesOwn (model X.prog X.w) X.A X.env X.xe) (hc : PDT c g tg) (hb : PDSs c body tb) : PDS c (.While g body [] pos) (dWhile tg tb) :=
  PDS.mk (ps_while hp hc hb) fun σ H ρ M D Dv n ⟨k0, h⟩ k => by
    refine ⟨fun m σ' H' => ∃ ρ' M', Stp H M H' M' ∧ RepS C H' σ' ρ' ∧ RM C H' M' ∧ whileD tg tb c.ED D m ρ' M', ⟨k0, ρ, M, .refl, n.s, n.m, h⟩, ?_⟩
    rintro m σ1 H1 ⟨ρ1, M1, z1, s1, m1, w⟩
    cases m with
    | zero => exact w.elim
    | succ m =>
      refine ⟨ρ1, M1, _, ⟨n.st.trans z1, s1, m1⟩, w, fun b H2 M2 z2 m2 g => ?_⟩
      have s2 := s1.fz (z2.fz m1)
      cases b with
      | true =>
        refine iteT ⟨fun σ' H' => ∃ ρ' M', Stp H M H' M' ∧ RepS C H' σ' ρ' ∧ RM C H' M' ∧ whileD tg tb c.ED D m ρ' M', fun σ' H' q => ⟨m, Nat.lt_succ_self m, q⟩, ρ1, M2, _, ⟨n.st.trans (z1.trans z2), s2, m2⟩, g, ?_⟩
        exact ⟨fun σ' H' ρ' M' z s m q => ⟨ρ', M', (z1.trans z2).trans z, s, m, q⟩, fun v H' d M' z => k.rt v H' d M' ((z1.trans z2).trans z), fun σ' H' ρ' M' z => k.nx σ' H' ρ' M' ((z1.trans z2).trans z), fun σ' H' ρ' M' z s m q => ⟨ρ', M', (z1.trans z2).trans z, s, m, q⟩⟩
      | false => exact iteF (k.nx σ1 H2 ρ1 M2 (z1.trans z2) s2 m2 g)
/-! ### what is walked -/
abbrev TID := EXK → Rho → MM → (List D → MM → Prop) → Prop
/-- the iterator gives the items, whatever else changes -/
def ItR (C : CAd) (H0 : Hp) (J : It) (ds : List D) : Prop := ∀ (i : Nat) (H : Hp), Fz H0 H → (∀ d, ds[i]? = some d → J.go i H ∧ ∀ x H', J.yld i H x H' → Sm H H' ∧ Rep C H' d x) ∧ (ds.length ≤ i → J.stop i H)
def KI (C : CAd) (H : Hp) (M : MM) (Qd : List D → MM → Prop) (R : It → Hp → Prop) : Prop := ∀ J H' ds M', Stp H M H' M' → RM C H' M' → ItR C H' J ds → Qd ds M' → R J H'
def cI (c : DC C X) (td : TID) : TI := fun σ H R => ∃ ρ M Qd, Now c σ H ρ M ∧ td c.ED ρ M Qd ∧ KI C H M Qd R
abbrev PDI (c : DC C X) (tg iter : Expr) (td : TID) : Prop := PI X tg iter (cI c td)
theorem PDI.mk {tg iter : Expr} {wi : TI} {td : TID} (h : PI X tg iter wi) (k : ∀ σ H ρ M Qd R, Now c σ H ρ M → td c.ED ρ M Qd → KI C H M Qd R → wi σ H R) : PDI c tg iter td :=
  ⟨fun pins s σ H Q I ⟨ρ, M, Qd, n, h1, k1⟩ => h.run pins s σ H Q I (k σ H ρ M Qd Q n h1 k1)⟩
def loopD (g : TGD) (b : TSD) (ex : EXK) (E : EndsD) : List D → Rho → MM → Prop
  | [] => E.nx
  | d :: ds => fun ρ M => g d ρ M fun ρ1 M1 => b ex { E with nx := loopD g b ex E ds, ct := loopD g b ex E ds, bk := E.nx } ρ1 M1
def dFor (ti : TID) (g : TGD) (b : TSD) : TSD := fun ex D ρ M => ti ex ρ M fun ds M1 => loopD g b ex D ds ρ M1
theorem pds_for {tg iter : Expr} {body : List Stmt} {ti : TID} {g : TGD} {tb : TSD} (hp : PassesOwn (model X.prog X.w) X.A X.env X.xe) (hc : X.calm = true) (hi : PDI c tg iter ti) (hg : PDG c tg g) (hb : PDSs c body tb)
    (hs : ∀ x, foldedSetIterable iter X.env x = pure x := by intro _; rfl) : PDS c (.For tg iter body [] pos) (dFor ti g tb) :=
  PDS.mk (ps_for hp hc hi hg hb hs) fun σ H ρ M D Dv n h k => by
    refine ⟨ρ, M, _, n, h, fun J H1 ds M1 z1 m1 it w => ?_⟩
    refine ⟨fun i m σ' H' => m = ds.length - i ∧ i ≤ ds.length ∧ ∃ ρ' M', Stp H1 M1 H' M' ∧ RepS C H' σ' ρ' ∧ RM C H' M' ∧ loopD g tb c.ED D (ds.drop i) ρ' M', ⟨_, rfl, Nat.zero_le _, ρ, M1, .refl, n.s.fz (z1.fz n.m), m1, w⟩, ?_⟩
    rintro i m σ2 H2 ⟨rfl, hi, ρ2, M2, z2, s2, m2, w2⟩
    have z12 := z1.trans z2
    by_cases lt : i < ds.length
    · have e : ds.drop i = ds[i] :: ds.drop (i + 1) := (List.getElem_cons_drop lt).symm
      rw [e] at w2
      obtain ⟨go, yl⟩ := (it i H2 (z2.fz m1)).1 ds[i] (by simp [lt])
      refine .inr ⟨go, fun σ' H' => ∃ ρ' M', Stp H1 M1 H' M' ∧ RepS C H' σ' ρ' ∧ RM C H' M' ∧ loopD g tb c.ED D (ds.drop (i + 1)) ρ' M', fun σ' H' q => ⟨ds.length - (i + 1), by omega, rfl, lt, q⟩, fun x H3 y => ?_⟩
      obtain ⟨sm, rx⟩ := yl x H3 y
      have z3 : Stp H2 M2 H3 M2 := ⟨fun a o h m _ => ⟨sm a o h, m⟩⟩
      have m3 := m2.same sm
      refine ⟨ds[i], ρ2, M2, _, ⟨n.st.trans (z12.trans z3), s2.fz sm.fz, m3⟩, rx, w2, fun σ4 H4 ρ4 M4 z4 s4 m4 w4 => ?_⟩
      have z34 := (z2.trans z3).trans z4
      refine ⟨ρ4, M4, _, ⟨n.st.trans (z1.trans z34), s4, m4⟩, w4, ⟨fun σ' H' ρ' M' z s m q => ⟨ρ', M', z34.trans z, s, m, q⟩, fun v H' d M' z => k.rt v H' d M' (z1.trans (z34.trans z)), fun σ' H' ρ' M' z => k.nx σ' H' ρ' M' (z1.trans (z34.trans z)), fun σ' H' ρ' M' z s m q => ⟨ρ', M', z34.trans z, s, m, q⟩⟩⟩
    · have e : i = ds.length := by omega
      subst e
      rw [List.drop_length] at w2
      exact .inl ⟨(it _ H2 (z2.fz m1)).2 (Nat.le_refl _), k.nx σ2 H2 ρ2 M2 z12 s2 m2 w2⟩
/-- a frozen list | a tuple, walked -/
def dItems (te : TED) : TID := fun ex ρ M Q => te ex ρ M fun d M1 => match d with
  | .lst ds => Q ds M1
  | _ => False
def dItemsT (te : TED) : TID := fun ex ρ M Q => te ex ρ M fun d M1 => match d with
  | .tup ds => Q ds M1
  | _ => False
theorem pdi_lst {tg : Expr} (he : PD c e te) : PDI c tg e (dItems te) :=
  PDI.mk (pi_list he) fun σ H ρ M Qd R n h k => ⟨ρ, M, _, n, h, fun v H1 d M1 z r m g => by
    cases d with
    | lst ds =>
      obtain ⟨a, o, vs, rfl, ha, rs⟩ := r
      refine ⟨a, rfl, ⟨vs, .inl (.inr ⟨o, ha⟩)⟩, k _ H1 ds M1 z m (fun i H2 f => ⟨fun d hd => ?_, fun hl => ⟨vs, .inl (.inr ⟨o, f.f _ _ _ ha⟩), by rw [← rs.length]; exact hl⟩⟩) g⟩
      have q : SqL X.K H2 a vs := .inl (.inr ⟨o, f.f _ _ _ ha⟩)
      obtain ⟨v, hv, rv⟩ := rs.get hd
      exact ⟨⟨vs, v, q, hv⟩, fun x H' ⟨e, y⟩ => by
        subst e
        have hx := y vs q
        rw [hv] at hx
        cases hx
        exact ⟨fun _ _ h => h, rv.fz f⟩⟩
    | _ => exact g.elim⟩
theorem pdi_tup {tg : Expr} (he : PD c e te) : PDI c tg e (dItemsT te) :=
  PDI.mk (pi_tup he) fun σ H ρ M Qd R n h k => ⟨ρ, M, _, n, h, fun v H1 d M1 z r m g => by
    cases d with
    | tup ds =>
      obtain ⟨a, vs, rfl, ha, rs⟩ := r
      refine ⟨a, rfl, ⟨vs, .inl (.inl ha)⟩, k _ H1 ds M1 z m (fun i H2 f => ⟨fun d hd => ?_, fun hl => ⟨vs, .inl (.inl (f.t _ _ ha)), by rw [← rs.length]; exact hl⟩⟩) g⟩
      have q : SqT X.K H2 a vs := .inl (.inl (f.t _ _ ha))
      obtain ⟨v, hv, rv⟩ := rs.get hd
      exact ⟨⟨vs, v, q, hv⟩, fun x H' ⟨e, y⟩ => by
        subst e
        have hx := y vs q
        rw [hv] at hx
        cases hx
        exact ⟨fun _ _ h => h, rv.fz f⟩⟩
    | _ => exact g.elim⟩
/-- range(n) -/
def rngD (lo : Int) (n : Nat) : List D := (List.range n).map fun (i : Nat) => D.int (lo + (i : Int))
theorem ItR.rng {H : Hp} {lo : Int} {n : Nat} : ItR C H (Itr lo n) (rngD lo n) := by
  intro i H' f
  refine ⟨fun d hd => ?_, fun hl => ?_⟩
  · unfold rngD at hd
    rw [List.getElem?_map] at hd
    by_cases lt : i < n
    · rw [List.getElem?_range lt] at hd
      cases hd
      exact ⟨lt, fun x H2 ⟨e1, e2⟩ => by subst e1; exact ⟨fun _ _ h => h, e2⟩⟩
    · rw [List.getElem?_eq_none (by simpa using lt)] at hd
      cases hd
  · have z : n ≤ i := by
      unfold rngD at hl
      simpa using hl
    exact z
def dRng1 (ta : TAD) : TID := fun ex ρ M Q => ta ex ρ M fun ds M1 => match ds with
  | [.int j] => (-1000000000 ≤ j ∧ j ≤ 1000000000) ∧ Q (rngD 0 j.toNat) M1
  | _ => False
theorem Reps.one {H : Hp} {d : D} {vs : List V} (r : Reps C H [d] vs) : ∃ v, vs = [v] ∧ Rep C H d v := by
  obtain ⟨v, r, e, h1, h2⟩ := r
  have h2 : r = [] := h2
  subst h2
  exact ⟨v, e, h1⟩
theorem Reps.two {H : Hp} {d d' : D} {vs : List V} (r : Reps C H [d, d'] vs) : ∃ v v', vs = [v, v'] ∧ Rep C H d v ∧ Rep C H d' v' := by
  obtain ⟨v, r, e, h1, h2⟩ := r
  obtain ⟨v', rfl, h3⟩ := Reps.one h2
  exact ⟨v, v', e, h1, h3⟩
theorem small62 {j : Int} (h : -1000000000 ≤ j ∧ j ≤ 1000000000) : -(2 ^ 62) ≤ j ∧ j < 2 ^ 62 := by omega
theorem pdi_rng1 {tg a : Expr} {ta : TAD} {p : Pos} (hg : Gl X "range") (hm : X.mg "range" = none) (ha : PDA c [a] ta) (hs : starEach [a] X.env = [(false, eval a X.env)] := by rfl) : PDI c tg (.Call (.Name "range" p) [a] [] pos) (dRng1 ta) :=
  PDI.mk (pi_range1 hg hm ha hs) fun σ H ρ M Qd R n h k => ⟨ρ, M, _, n, h, fun vs H1 ds M1 z r m g => by
    split at g
    · next j =>
      obtain ⟨v, rfl, h1⟩ := r.one
      obtain ⟨g1, g2⟩ := g
      obtain ⟨b1, b2⟩ := small62 g1
      exact ⟨j, congrArg (fun z => [z]) h1, b1, b2, k _ H1 _ M1 z m .rng g2⟩
    · exact g.elim⟩
def dRng2 (ta : TAD) : TID := fun ex ρ M Q => ta ex ρ M fun ds M1 => match ds with
  | [.int i, .int j] => (-1000000000 ≤ i ∧ i ≤ 1000000000 ∧ -1000000000 ≤ j ∧ j ≤ 1000000000) ∧ Q (rngD i (j - i).toNat) M1
  | _ => False
theorem pdi_rng2 {tg a b : Expr} {ta : TAD} {p : Pos} (hg : Gl X "range") (hm : X.mg "range" = none) (ha : PDA c [a, b] ta) (hs : starEach [a, b] X.env = [(false, eval a X.env), (false, eval b X.env)] := by rfl) (hs2 : starEach [b] X.env = [(false, eval b X.env)] := by rfl) :
    PDI c tg (.Call (.Name "range" p) [a, b] [] pos) (dRng2 ta) :=
  PDI.mk (pi_range2 hg hm ha hs hs2) fun σ H ρ M Qd R n h k => ⟨ρ, M, _, n, h, fun vs H1 ds M1 z r m g => by
    split at g
    · next i j =>
      obtain ⟨v, v', rfl, h1, h2⟩ := r.two
      obtain ⟨⟨g1, g2, g3, g4⟩, g5⟩ := g
      obtain ⟨b1, b2⟩ := small62 ⟨g1, g2⟩
      obtain ⟨b3, b4⟩ := small62 ⟨g3, g4⟩
      have h1 : v = .int i := h1
      have h2 : v' = .int j := h2
      exact ⟨i, j, by rw [h1, h2], ⟨b1, b2, b3, b4⟩, k _ H1 _ M1 z m .rng g5⟩
    · exact g.elim⟩
/-! ### freezing -/
theorem frozen {pins : List (Addr × Obj)} {σ : L2.St} {H : Hp} {s : Shared} {a : Addr} {u : HO} (I : Inv X pins σ H s) (h : H a = some u) (n1 : ∀ xs, u ≠ .tup xs) (n2 : ∀ o x, u ≠ .frz o x) (n3 : ∀ ps, u ≠ .tbl ps) (n4 : ∀ x, u ≠ .own x) :
    ∃ o, Inv X pins σ (upd H a (.frz o u)) s := by
  obtain ⟨o, ho⟩ := objOk_get (I.hok a u h)
  refine ⟨o, I.un (h' := s.heap) (t' := s.toks) ⟨fun b ob q _ _ _ => q, fun b ob q _ _ _ => ⟨ob.slots, q⟩, fun b ob q nb _ => ?_, fun b ob q _ => ⟨ob, q⟩, fun b xs q => ?_, fun b ob x q => ?_, fun b ps q => ⟨#[], ?_⟩⟩ fun b x q => ?_⟩
  · rw [upd_ne (fun z => by rw [z, h] at nb; cases nb)]; exact nb
  · rw [upd_ne (fun z => by rw [z, h] at q; exact n1 _ (Option.some.inj q))]; exact q
  · rw [upd_ne (fun z => by rw [z, h] at q; exact n2 _ _ (Option.some.inj q))]; exact q
  · rw [upd_ne (fun z => by rw [z, h] at q; exact n3 _ (Option.some.inj q)), q]; simp
  · have ho' : ∀ y b, H b = some (.own y) → upd H a (.frz o u) b = some (.own y) := fun y b q => by
      rw [upd_ne (fun z => by rw [z, h] at q; exact n4 _ (Option.some.inj q))]; exact q
    have ht' : ∀ b xs, H b = some (.tup xs) → upd H a (.frz o u) b = some (.tup xs) := fun b xs q => by
      rw [upd_ne (fun z => by rw [z, h] at q; exact n1 _ (Option.some.inj q))]; exact q
    by_cases hb : b = a
    · subst hb
      rw [upd_same] at q
      cases q
      exact ⟨ho, (I.hok b u h).stay (fun _ _ _ q => q) (ho' b) ht'⟩
    · rw [upd_ne hb] at q
      exact (I.hok b x q).stay (fun _ _ _ q => q) (ho' b) ht'
def frzK (Q : D → MM → Prop) : D → MM → Prop := fun d M => match d with
  | .adr a => (match M a with
    | some (.lst l) => Q (.lst l) (delM M a)
    | _ => False)
  | d => Q d M
def dFrz (te : TED) : TED := fun ex ρ M Q => te ex ρ M (frzK Q)
theorem pd_frz (he : PD c e te) : PD c e (dFrz te) := by
  refine ⟨fun pins s σ H Q I ⟨ρ, M, Qd, n, h, k⟩ => ?_⟩
  refine thn (he.run pins s σ H (fun v H1 => ∃ d M1, Stp H M H1 M1 ∧ Rep C H1 d v ∧ RM C H1 M1 ∧ frzK Qd d M1) I ⟨ρ, M, _, n, h, fun v H1 d M1 z r m g => ⟨d, M1, z, r, m, g⟩⟩) fun u s1 ⟨v, H1, I1, rv, d, M1, z, r, m, g⟩ => ?_
  unfold frzK at g
  split at g
  · next a =>
    split at g
    · next l e =>
      obtain ⟨vs, ha, rs⟩ := m a _ e
      obtain ⟨o, I2⟩ := frozen I1 ha (fun _ z => by cases z) (fun _ _ z => by cases z) (fun _ z => by cases z) (fun _ z => by cases z)
      have z2 : Stp H1 M1 (upd H1 a (.frz o (.lst vs))) (delM M1 a) := .del e
      have f2 := z2.fz m
      have r' : v = .ref a := r
      refine ⟨v, _, I2, rv, k v _ (.lst l) _ (z.trans z2) ⟨a, o, vs, r', upd_same, Reps.fz f2 _ rs⟩ (fun b x q => ?_) g⟩
      unfold delM at q
      by_cases hb : b = a
      · rw [if_pos hb] at q; cases q
      · rw [if_neg hb] at q
        exact (m b x q).same f2 (fun o' h' => by rw [upd_ne hb]; exact h') fun y hy => by rw [upd_ne (fun z => by rw [z, ha] at hy; cases hy)]; exact hy
    · exact g.elim
  · exact ⟨v, H1, I1, rv, k v H1 _ M1 z r m g⟩
end
end DD

/-! try with clauses that may name the exception. -/
namespace L2
open PySem PySem.Spec PyProof.Rows
/-- one clause: the class it names, the slot of its name (if any), its suite -/
structure Cl where
  c : Value
  i : Option Nat
  ts : Addr → Value → Option Addr → TS
def clSt (i : Option Nat) (a : Addr) (σ : St) : St := match i with
  | some j => σ.set j (some (.ref a))
  | none => σ
def clEnd (i : Option Nat) (σ : St) : St := match i with
  | some j => σ.set j none
  | none => σ
def clEnds (i : Option Nat) (D : Ends) : Ends := ⟨fun σ H => D.nx (clEnd i σ) H, D.rt, fun σ H => D.bk (clEnd i σ) H, fun σ H => D.ct (clEnd i σ) H⟩
def wCl (K : PySem.W.Frag) (Wo : WX) (D : Ends) : List Cl → WX
  | [] => Wo
  | q :: r => fun cls d σ H => ∃ b, PySem.W.exmOne K cls q.c = some b ∧ (b = true → ∀ a, H a = none → q.ts a cls d (clEnds q.i D) (clSt q.i a σ) H) ∧ (b = false → wCl K Wo D r cls d σ H)
/-- the clauses of the text -/
inductive ClOk (X : Cx) : List ExceptHandler → List Cl → Prop
  | nil : ClOk X [] []
  | plain {x : Str} {q : Cl} {b₀ : Stmt} {bs : List Stmt} {p1 p2 : Pos} {hs : List ExceptHandler} {l : List Cl} (hq : q.i = none) (hc : Names X x q.c)
      (hb : ∀ (a : Addr) (ob : Obj) (cls : Value) (d : Option Addr) (ps : List (Addr × Obj)), Zc cls d ob → (∃ vs, ob.data = .fields vs) → PSs (X.suite a ((a, ob) :: ps)) (b₀ :: bs) (q.ts a cls d)) (r : ClOk X hs l) : ClOk X (.ExceptHandler (some (.Name x p1)) none (b₀ :: bs) p2 :: hs) (q :: l)
  | named {x n : Str} {j : Nat} {q : Cl} {b₀ : Stmt} {bs : List Stmt} {p1 p2 : Pos} {hs : List ExceptHandler} {l : List Cl} (hq : q.i = some j) (hi : X.N[j]? = some n) (hl : X.env.kindOf n = some .local) (hc : Names X x q.c)
      (hb : ∀ (a : Addr) (ob : Obj) (cls : Value) (d : Option Addr) (ps : List (Addr × Obj)), Zc cls d ob → (∃ vs, ob.data = .fields vs) → PSs (X.suite a ((a, ob) :: ps)) (b₀ :: bs) (q.ts a cls d)) (r : ClOk X hs l) : ClOk X (.ExceptHandler (some (.Name x p1)) (some n) (b₀ :: bs) p2 :: hs) (q :: l)
section
variable {X : Cx} {body : List Stmt} {h1 : ExceptHandler} {hs : List ExceptHandler} {l : List Cl} {pos : Pos} {tb : WX → TS} {Wo : WX}
theorem ps_try_cl (es : X.stack = X.env :: X.outer) (ef : X.env.frame = some X.env.locals) (nd : X.N.Nodup) (tk : Takes X Wo)
    (hb : ∀ (W : WX) (ps : List (Addr × Obj)) (xe : Value → Shared → Prop), Takes (X.tr ps xe) W → PassesOwn (model X.prog X.w) X.A X.env xe → PSs (X.tr ps xe) body (tb W))
    (hk : ClOk X (h1 :: hs) l) : PS X (.Try body (h1 :: hs) [] [] pos) (fun D σ H => tb (wCl X.K Wo D l) D σ H) := by
  refine ⟨fun pins s σ H D I hyp => ?_⟩
  have iok := I.ok
  have afr : X.A.frames = some (X.env :: X.outer) := iok.frames.trans (congrArg some es)
  refine wpAny_Try_except (wpAny_mono ((hb (wCl X.K Wo D l) (X.pn ++ pins) (fun e s₁ => wpAny (model X.prog X.w) X.A (noteFrame e X.env) (fun _ s₂ => wpAny (model X.prog X.w) X.A (setFlight e none) (fun _ s₃ =>
    wpAny (model X.prog X.w) X.A (handleBy e X.env (h1 :: hs)) (SP X pins D) X.xe s₃) X.xe s₂) X.xe s₁) (fun u s' air => ?_) PassesOwn.looking).run [] s σ H D (I.toTry _) hyp) (fun f s1 hf => ?_) fun _ _ z => z)
  · obtain ⟨a, B, sI, pins', σ', H', cls, d, rfl, J', nb, up, sky, na, os, ag, w⟩ := air
    have J : Inv X pins σ' H' sI := J'.ofTry iok
    refine Sky.land Zc.steady afr ef (es ▸ sky : Sky B (X.env :: X.outer) a (Zc cls d) X.env.locals s'.heap) fun g3 fly up3 => ?_
    have J3 : Inv X pins σ' H' { s' with heap := g3 } := J.landed nb fly.1 (up.trans up3) os ag
    obtain ⟨ob3, vs3, got3, zc3, dat3⟩ := fly.there
    have off : a ∉ frs (X.env :: X.outer) := fun hm => by
      obtain ⟨_, o2, got2, nf⟩ := fly.2.2.1.mem hm
      rw [got3] at got2; cases got2
      exact nf _ dat3
    have nl : a ≠ X.env.locals := fun z => off (List.mem_filterMap.mpr ⟨X.env, List.mem_cons_self, by rw [ef, z]⟩)
    have nfs : a ∉ X.fs := fun hm => by
      obtain ⟨en, hen, q⟩ := List.mem_filterMap.mp hm
      exact off (List.mem_filterMap.mpr ⟨en, List.mem_cons_of_mem _ hen, q⟩)
    have S3 := J3.suite got3 dat3 na nl nfs
    have look : PySem.W.Looks (model X.prog X.w) g3 (typeOf (.ref a)) cls := fun _ _ _ _ kk q => wpAny_typeOf_ref (kk _ _ got3) (by rw [zc3.1]; exact q)
    have asks : ∀ {x : Str} {cv : Value} {p1 : Pos}, Names X x cv → ∀ {Q : Value → Shared → Prop} {E : Value → Shared → Prop}, Q cv { s' with heap := g3 } → wpAny (model X.prog X.w) (X.A.mark (some (.ref a))) (eval (.Name x p1) X.env) Q E { s' with heap := g3 } := fun {x cv p1} hc {Q E} q => by
      obtain ⟨hg, hdbg, hm | ⟨hm, hv, hnn⟩⟩ := hc
      · exact ld_glob (X := X.suite a ((a, ob3) :: (X.pn ++ pins))) S3 hg hm q hdbg
      · exact ld_blt (X := X.suite a ((a, ob3) :: (X.pn ++ pins))) S3 hg hm hv q hnn hdbg
    have go : ∀ {hs' : List ExceptHandler} {l' : List Cl}, ClOk X hs' l' → wCl X.K Wo D l' cls d σ' H' → wpAny (model X.prog X.w) X.A (handleBy (.ref a) X.env hs') (SP X pins D) X.xe { s' with heap := g3 } := by
      intro hs' l' hk'
      induction hk' with
      | nil =>
        intro w
        obtain ⟨_, _, _, oe, vs, T, _, _, he, _, hd, ht, _⟩ := id fly
        refine wpAny_handleBy_nil ?_
        unfold PySem.passOn
        refine wpAny_bind (wpAny_field he hd ht ?_)
        rw [if_neg (show ¬ ((Value.ref T == Value.none) = true) by simp)]
        have out : wpAny (model X.prog X.w) X.A (setFlight (.ref a) X.env.frame) (fun _ s4 => wpAny (model X.prog X.w) X.A (throw (.ref a) : Sem Flow) (SP X pins D) X.xe s4) X.xe { s' with heap := g3 } := by
          rw [ef]
          exact HandSPX.setFlight_upZ fly fun g4 held up4 => wpAny_throw (tk _ _ ⟨a, B, sI, pins, σ', H', cls, d, rfl, J, nb, (up.trans up3).trans up4, .inr (.inr (by rw [es]; exact held)), na, os, ag, w⟩)
        first
          | exact wpAny_bind (wpAny_pure (wpAny_bind out))
          | exact wpAny_bind out
      | @plain x q b₀ bs p1 p2 hs2 l2 hq hc hsu r ih =>
        rintro ⟨b, hb1, yes, no⟩
        refine wpAny_handleBy_cons (codeAny_handlers_test (asks hc ((PySem.W.exm_one (M := model X.prog X.w) J3.kIn look hb1).here ?_))) (by intro q; cases q)
        cases b with
        | true =>
          refine codeAny_handlers_suite (HandSPX.lands_againZ fly fun g4 fl4 up4 => ?_)
          obtain ⟨ob4, vs4, got4, zc4, dat4⟩ := fl4.there
          have S4 := (J.landed (s' := { s' with heap := g4 }) nb fl4.1 ((up.trans up3).trans up4) os ag).suite got4 dat4 na nl nfs
          have y := yes rfl a na
          rw [hq] at y
          refine wpAny_mono ((hsu a ob4 cls d (X.pn ++ pins) zc4 ⟨_, dat4⟩).run [] _ _ H' _ S4 y) (fun f s6 h6 => ?_) fun _ _ z => z.elim
          cases f with
          | ret u => obtain ⟨v6, σ6, H6, S6, r6, q6⟩ := h6; exact ⟨_, _, _, S6.unsuite iok, r6, q6⟩
          | _ => obtain ⟨σ6, H6, S6, q6⟩ := h6; exact ⟨_, _, S6.unsuite iok, q6⟩
        | false => exact ih (no rfl)
      | @named x nm j q b₀ bs p1 p2 hs2 l2 hq hi hl hc hsu r ih =>
        rintro ⟨b, hb1, yes, no⟩
        refine wpAny_handleBy_cons (codeAny_handlers_test (asks hc ((PySem.W.exm_one (M := model X.prog X.w) J3.kIn look hb1).here ?_))) (by intro q; cases q)
        cases b with
        | true =>
          refine codeAny_handlers_suite_as (HandSPX.lands_againZ fly fun g4 fl4 up4 => ?_)
          obtain ⟨ob4, vs4, got4, zc4, dat4⟩ := fl4.there
          have S4 := (J.landed (s' := { s' with heap := g4 }) nb fl4.1 ((up.trans up3).trans up4) os ag).suite got4 dat4 na nl nfs
          have y := yes rfl a na
          rw [hq] at y
          refine store_ok (X := X.suite a ((a, ob4) :: (X.pn ++ pins))) (v := .ref a) S4 nd hi (.inl hl) rfl (fun s5 S5 => ?_) (.inr hl)
          refine wpAny_mono ((hsu a ob4 cls d (X.pn ++ pins) zc4 ⟨_, dat4⟩).run [] s5 _ H' _ S5 y) (fun f s6 h6 => ?_) fun _ _ z => z.elim
          have bye : ∀ {σ6 : St} {H6 : Hp} {Q : Shared → Prop}, Inv (X.suite a ((a, ob4) :: (X.pn ++ pins))) [] σ6 H6 s6 → (∀ s7, Inv X pins (σ6.set j none) H6 s7 → Q s7) →
              wpAny (model X.prog X.w) X.A (do bindName X.env nm .none; unbindBehindTheSuite X.env nm p2) (fun _ s7 => Q s7) X.xe s6 := fun {σ6 H6 Q} S6 hq => gone_ok (S6.unsuite iok) nd hi hl hq
          cases f with
          | next => obtain ⟨σ6, H6, S6, q6⟩ := h6; exact bye S6 fun s7 J7 => ⟨_, _, J7, q6⟩
          | brk => obtain ⟨σ6, H6, S6, q6⟩ := h6; exact bye S6 fun s7 J7 => ⟨_, _, J7, q6⟩
          | cont => obtain ⟨σ6, H6, S6, q6⟩ := h6; exact bye S6 fun s7 J7 => ⟨_, _, J7, q6⟩
          | ret u => obtain ⟨v6, σ6, H6, S6, r6, q6⟩ := h6; exact bye S6 fun s7 J7 => ⟨_, _, _, J7, r6, q6⟩
        | false => exact ih (no rfl)
    exact go hk w
  · cases f with
    | next => obtain ⟨σ', H', J', q⟩ := hf; exact wpAny_execs_nil ⟨σ', H', J'.ofTry iok, q⟩
    | brk => obtain ⟨σ', H', J', q⟩ := hf; exact ⟨σ', H', J'.ofTry iok, q⟩
    | cont => obtain ⟨σ', H', J', q⟩ := hf; exact ⟨σ', H', J'.ofTry iok, q⟩
    | ret u => obtain ⟨v, σ', H', J', r, q⟩ := hf; exact ⟨v, σ', H', J'.ofTry iok, r, q⟩
end
end L2

/-! Calls, defs, exceptions over data. -/
namespace DD
open PySem PySem.Spec PyProof.Rows L2
abbrev SpD := List D → MM → (D → MM → Prop) → (Exc → MM → Prop) → Prop
def toSp (C : CAd) (sp : SpD) : Sp := fun vs H Q E => ∃ ds M Qd Xd, Reps C H ds vs ∧ RM C H M ∧ sp ds M Qd Xd ∧ KE C H M Qd Q ∧ ∀ cls d H' e M', Stp H M H' M' → RepE C H' cls d e → RM C H' M' → Xd e M' → E cls d H'
/-- a def of the module that keeps its promise -/
structure Cal (P : Program) (w : World) (K : PySem.W.Frag) (mg : Str → Option Value) (base : Heap) (C : CAd) (x : Str) (k : Nat) (ps : List Str) (sp : SpD) : Prop where
  ex : ∃ f fd, FnOk P w K mg base (L2.CX P w) k f fd ps (toSp C sp) ∧ mg x = some (.ref f) ∧ PySem.W.keepIn K (.ref f) = true ∧ Binds K fd ps []
section
variable {C : CAd} {X : Cx} {c : DC C X} {pos p : Pos} {e : Expr} {es : List Expr} {te : TED} {tl : TAD}
def dCall (sp : SpD) (t : TAD) : TED := fun ex ρ M Q => t ex ρ M fun ds M1 => sp ds M1 Q fun e M2 => ex e ρ M2
theorem toSp_of {sp : SpD} {σ : L2.St} {H : Hp} {ρ : Rho} {M : MM} {ds : List D} {vs : List V} {Qd : D → MM → Prop} {Q : VK} (n : Now c σ H ρ M) (r : Reps C H ds vs) (h : sp ds M Qd fun e M2 => c.ED e ρ M2) (k : KE C H M Qd Q) : toSp C sp vs H Q (WE c.W σ) :=
  ⟨ds, M, Qd, _, r, n.m, h, k, fun cls d H2 e M2 z re m x => c.br cls d σ H2 e ρ M2 (n.st.trans z) (n.s.fz (z.fz n.m)) m re x⟩
theorem pd_call {x : Str} {k : Nat} {ps : List Str} {sp : SpD} (G : Cal X.prog X.w X.K X.mg X.base C x k ps sp) (hr : Room k X.A) (hg : Gl X x) (ha : PDA c (e :: es) tl) (hdb : (x == ("__debug__" : Str)) = false := by decide)
    (he : starEach (e :: es) X.env = (false, eval e X.env) :: starEach es X.env := by rfl) (hpl : (backTo pos (starEach es X.env)).any (·.1) = false := by rfl) : PD c (.Call (.Name x p) (e :: es) [] pos) (dCall sp tl) := by
  obtain ⟨f, fd, F, hm, hk, hb⟩ := G.ex
  exact PD.mk (pe_callS F hr hg hm hk hb (fun σ => passAt c.tk σ) ha hdb he hpl) fun σ H ρ M Qd Q n h k => ⟨ρ, M, _, n, h, fun vs H1 ds M1 z r m g => toSp_of (n.step z m) r g (k.step z)⟩
end
/-! ### a def -/
section
variable {P : Program} {w : World} {K : PySem.W.Frag} {mg : Str → Option Value} {base : Heap} {C : CAd}
def exitX (E : Exc → MM → Prop) : EXK := fun e _ M' => ∃ M'', Sub M'' M' ∧ E e M''
def exitE (Q : D → MM → Prop) : EndsD := { nx := fun _ M' => ∃ M'', Sub M'' M' ∧ Q .non M'', rt := fun d M' => ∃ M'', Sub M'' M' ∧ Q d M'' }
theorem fnD {x qual : Str} {st : Stmt} {f : Addr} {fd : FuncData} {N ps : List Str} {k : Nat} {sp : SpD} {body : TSD} (F : Fun K x qual st f fd) (S : FnScope N ps (defScope st)) (len : ∀ ds M Q E, sp ds M Q E → ds.length = ps.length)
    (hb : ∀ (cdv : Value) (A : Around) (outer : List Env) (s : Shared) (H : Hp) (E : XK), Room k (A.deeper (envOfC qual (defScope st) s.heap.objs.size f cdv)) →
      ∀ c : DC C (cxOf (L2.CX P w) P w K mg base N qual (defScope st) f cdv A outer s H E), PDSs c (defBody st) body)
    (hr : ∀ ds M Q E, sp ds M Q E → body (exitX E) (exitE Q) (startR N.length ds) M) : FnOk P w K mg base (L2.CX P w) (k + 1) f fd ps (toSp C sp) := by
  refine F.okX S (fun vs H Q E ⟨ds, M, Qd, Xd, r, _, h, _⟩ => by rw [← r.length]; exact len _ _ _ _ h) fun cdv A outer s H vs Q E hrm ⟨ds, M, Qd, Xd, r, m, h, kE, kX⟩ => ?_
  let c : DC C (cxOf (L2.CX P w) P w K mg base N qual (defScope st) f cdv A outer s H E) :=
    { H0 := H, M0 := M, W := fun cls d _ H => E cls d H, ED := exitX Xd, tk := takes_of rfl rfl rfl rfl,
      br := fun cls d σ H' e ρ M' z _ m' re ⟨M'', sb, y⟩ => kX cls d H' e M'' (z.sub sb) re (m'.sub sb) y }
  refine ⟨_, hb cdv A outer s H E hrm c, startR N.length ds, M, exitE Qd, ⟨.refl, RepS.start r, m⟩, hr ds M Qd Xd h, ?_⟩
  exact ⟨fun σ' H' ρ' M' z _ m' ⟨M'', sb, y⟩ => kE .non H' .non M'' (z.sub sb) rfl (m'.sub sb) y, fun v H' d M' z r' m' ⟨M'', sb, y⟩ => kE v H' d M'' (z.sub sb) r' (m'.sub sb) y,
    fun _ _ _ _ _ _ _ y => y.elim, fun _ _ _ _ _ _ _ y => y.elim⟩
end
/-! ### raise -/
section
variable {C : CAd} {X : Cx} {c : DC C X} {pos pos2 p p2 : Pos} {e : Expr} {te : TED}
def dRaise (cn : Nat) : TSD := fun ex _ ρ M => ex ⟨cn, []⟩ ρ M
def dRaise1 (cn : Nat) (f : Str) (te : TED) : TSD := fun ex _ ρ M => te ex ρ M fun d M1 => ex ⟨cn, [(f, d)]⟩ ρ M1
/-- an own exception without fields: what the written part says -/
structure PlainX (K : PySem.W.Frag) (C : CAd) (cn : Nat) : Prop where
  q : PySem.W.excIn K (C cn) He.veBase "ValueError.__new__" = true
  k : PySem.W.keepIn K (.ref (C cn)) = true
  b : PySem.W.subIn K (.ref (C cn)) (.type "BaseException") = some true
  t : PySem.W.typeIn K (.ref (C cn)) = some (.type "type")
theorem pds_raise {x m : Str} {j cn : Nat} (T : PlainX X.K C cn) (hc : X.calm = true) (gC : X.mg x = some (.ref (C cn))) (hg : Gl X x) (hdb : (x == ("__debug__" : Str)) = false := by decide) :
    PDS c (.Raise (some (.Call (.Name x p) [.Constant (.str m) j p2] [] pos)) none pos2) (dRaise cn) :=
  PDS.mk (ps_raise hc c.tk (pmk_own PySem.F.excBase_ValueError T.q gC T.k (raises_own T.b T.t) hg hdb)) fun σ H ρ M D Dv n h k => c.br _ _ σ H ⟨cn, []⟩ ρ M n.st n.s n.m ⟨rfl, .inl ⟨rfl, rfl⟩⟩ h
/-- .. with one field, by super().__init__ -/
structure SupX (P : Program) (K : PySem.W.Frag) (C : CAd) (cn : Nat) (f : Str) : Prop where
  ex : ∃ (D fI : Addr) (fs : List Str) (qual pn : Str) (st : Stmt), SX.SupFn P K D fI qual st ∧ SX.SupCls K (C cn) D fI fs ∧ f ∈ fs ∧ SX.Init1 qual st f pn
theorem pds_raise1 {x f : Str} {cn k : Nat} (T : SupX X.prog X.K C cn f) (hc : X.calm = true) (hr : Room k X.A) (gC : X.mg x = some (.ref (C cn))) (hg : Gl X x) (he : PD c e te) (hdb : (x == ("__debug__" : Str)) = false := by decide)
    (hs : starEach (e :: []) X.env = (false, eval e X.env) :: starEach [] X.env := by rfl) (hpl : (backTo pos (starEach [] X.env)).any (·.1) = false := by rfl) :
    PDS c (.Raise (some (.Call (.Name x p) [e] [] pos)) none pos2) (dRaise1 cn f te) := by
  obtain ⟨D, fI, fs, qual, pn, st, S, TC, hf, J⟩ := T.ex
  have ha : PDA c [e] (dCons te dNil) := pda_cons he pda_nil hs
  refine PDS.mk (ps_raise hc c.tk (pmk_sup1 S TC hf J hr gC ha hg hdb hs hpl)) fun σ H ρ M Dd Dv n h k => ⟨ρ, M, fun ds M1 => ∃ d, ds = [d] ∧ c.ED ⟨cn, [(f, d)]⟩ ρ M1, n, ?_, ?_⟩
  · show te c.ED ρ M fun d M1 => ∃ d', [d] = [d'] ∧ c.ED ⟨cn, [(f, d')]⟩ ρ M1
    have z : te c.ED ρ M fun d M1 => c.ED ⟨cn, [(f, d)]⟩ ρ M1 := h
    have e : (fun d M1 => ∃ d', [d] = [d'] ∧ c.ED ⟨cn, [(f, d')]⟩ ρ M1) = fun d M1 => c.ED ⟨cn, [(f, d)]⟩ ρ M1 := by
      funext d M1
      exact propext ⟨fun ⟨d', e, q⟩ => by cases e; exact q, fun q => ⟨d, rfl, q⟩⟩
    rw [e]
    exact z
  · intro vs H1 ds M1 z r m ⟨d, e1, q⟩
    subst e1
    obtain ⟨v, rfl, rv⟩ := r.one
    refine ⟨v, rfl, fun a ha => ?_⟩
    have sm : Sm H1 (upd H1 a (.xd [(f, v)])) := Sm.new ha
    exact c.br _ _ σ _ ⟨cn, [(f, d)]⟩ ρ M1 (n.st.trans (z.trans (.new ha))) ((n.s.fz (z.fz n.m)).fz sm.fz) (m.same sm) ⟨rfl, .inr ⟨a, [v], rfl, upd_same, v, [], rfl, rv.fz sm.fz, rfl⟩⟩ q
end
/-! ### try -/
section
variable {C : CAd} {X : Cx} {c : DC C X} {pos : Pos}
/-- a clause: its class, the slot of its name, its suite -/
structure ClD where
  c : Nat
  i : Option Nat
  ts : Addr → Exc → TSD
def noX : EXK := fun _ _ _ => False
def clPut (i : Option Nat) (a : Addr) (ρ : Rho) : Rho := match i with
  | some j => put ρ j (some (.adr a))
  | none => ρ
def clOut (i : Option Nat) (ρ : Rho) : Rho := match i with
  | some j => put ρ j none
  | none => ρ
def clEndD (i : Option Nat) (E : EndsD) : EndsD := ⟨fun ρ M => E.nx (clOut i ρ) M, E.rt, fun ρ M => E.bk (clOut i ρ) M, fun ρ M => E.ct (clOut i ρ) M⟩
def clsD (isa : Nat → Nat → Option Bool) (ex : EXK) (E : EndsD) : List ClD → EXK
  | [] => ex
  | q :: r => fun e ρ M => match isa e.c q.c with
    | some true => ∀ a, q.ts a e noX (clEndD q.i E) (clPut q.i a ρ) M
    | some false => clsD isa ex E r e ρ M
    | none => False
def dTry (isa : Nat → Nat → Option Bool) (tb : TSD) (l : List ClD) : TSD := fun ex E ρ M => tb (clsD isa ex E l) E ρ M
theorem RepS.unset {H : Hp} : ∀ {σ : L2.St} {ρ : Rho} (i : Nat), RepS C H σ ρ → RepS C H (σ.set i none) (put ρ i none)
  | [], [], _, _ => trivial
  | [], _ :: _, _, h => h.elim
  | _ :: _, [], _, h => h.elim
  | x :: σ, y :: ρ, 0, ⟨_, h2⟩ => ⟨trivial, h2⟩
  | x :: σ, y :: ρ, i + 1, ⟨h1, h2⟩ => ⟨h1, RepS.unset i h2⟩
theorem RepS.clOut {H : Hp} {σ : L2.St} {ρ : Rho} (i : Option Nat) (h : RepS C H σ ρ) : RepS C H (clEnd i σ) (clOut i ρ) := by
  cases i with
  | none => exact h
  | some j => exact h.unset j
/-- a suite's canonical reading -/
def sV (C : CAd) (ts : Addr → Exc → TSD) (a : Addr) (cls : Value) (d : Option Addr) : TS := fun Dv σ H => ∃ e ρ M E, RepE C H cls d e ∧ RepS C H σ ρ ∧ RM C H M ∧ ts a e noX E ρ M ∧ ELe C H M E Dv
/-- the suite of a clause in the text -/
def SuiteOk (C : CAd) (X : Cx) (sts : List Stmt) (ts : Addr → Exc → TSD) : Prop := ∀ (a : Addr) (ob : Obj) (cls : Value) (d : Option Addr) (ps : List (Addr × Obj)), Zc cls d ob → (∃ vs, ob.data = .fields vs) →
  ∀ (e : Exc) (c' : DC C (X.suite a ((a, ob) :: ps))), RepE C c'.H0 cls d e → RM C c'.H0 c'.M0 → c'.ED = noX → PDSs c' sts (ts a e)
theorem SuiteOk.v {sts : List Stmt} {ts : Addr → Exc → TSD} (h : SuiteOk C X sts ts) (a : Addr) (ob : Obj) (cls : Value) (d : Option Addr) (ps : List (Addr × Obj)) (hz : Zc cls d ob) (hd : ∃ vs, ob.data = .fields vs) : PSs (X.suite a ((a, ob) :: ps)) sts (sV C ts a cls d) :=
  ⟨fun pins s σ H Dv I ⟨e, ρ, M, E, re, rs, rm, hh, k⟩ => by
    let c' : DC C (X.suite a ((a, ob) :: ps)) := { H0 := H, M0 := M, W := fun _ _ _ _ => False, ED := noX, tk := takes0, br := fun _ _ _ _ _ _ _ _ _ _ _ h => h }
    exact (h a ob cls d ps hz hd e c' re rm rfl).run pins s σ H Dv I ⟨ρ, M, E, ⟨.refl, rs, rm⟩, hh, k⟩⟩
inductive ClsOk (C : CAd) (X : Cx) : List ExceptHandler → List ClD → Prop
  | nil : ClsOk C X [] []
  | plain {x : Str} {q : ClD} {b₀ : Stmt} {bs : List Stmt} {p1 p2 : Pos} {hs : List ExceptHandler} {l : List ClD} (hq : q.i = none) (hc : Names X x (.ref (C q.c))) (hb : SuiteOk C X (b₀ :: bs) q.ts) (r : ClsOk C X hs l) : ClsOk C X (.ExceptHandler (some (.Name x p1)) none (b₀ :: bs) p2 :: hs) (q :: l)
  | named {x n : Str} {j : Nat} {q : ClD} {b₀ : Stmt} {bs : List Stmt} {p1 p2 : Pos} {hs : List ExceptHandler} {l : List ClD} (hq : q.i = some j) (hi : X.N[j]? = some n) (hl : X.env.kindOf n = some .local) (hc : Names X x (.ref (C q.c))) (hb : SuiteOk C X (b₀ :: bs) q.ts) (r : ClsOk C X hs l) : ClsOk C X (.ExceptHandler (some (.Name x p1)) (some n) (b₀ :: bs) p2 :: hs) (q :: l)
def clV (C : CAd) (q : ClD) : Cl := ⟨.ref (C q.c), q.i, sV C q.ts⟩
theorem ClsOk.v {hs : List ExceptHandler} {l : List ClD} (h : ClsOk C X hs l) : ClOk X hs (l.map (clV C)) := by
  induction h with
  | nil => exact .nil
  | plain hq hc hb r ih => exact .plain (q := clV C _) hq hc (fun a ob cls d ps hz hd => hb.v a ob cls d ps hz hd) ih
  | named hq hi hl hc hb r ih => exact .named (q := clV C _) hq hi hl hc (fun a ob cls d ps hz hd => hb.v a ob cls d ps hz hd) ih
theorem clsD_ok {isa : Nat → Nat → Option Bool} (hisa : ∀ i j b, isa i j = some b → PySem.W.exmOne X.K (.ref (C i)) (.ref (C j)) = some b) {E : EndsD} {Dv : Ends} : ∀ (l : List ClD) {cls : Value} {d : Option Addr} {σ : L2.St} {H : Hp} {e : Exc} {ρ : Rho} {M : MM}, Stp c.H0 c.M0 H M → ELe C H M E Dv → RepS C H σ ρ → RM C H M → RepE C H cls d e →
    clsD isa c.ED E l e ρ M → wCl X.K c.W Dv (l.map (clV C)) cls d σ H
  | [], cls, d, σ, H, e, ρ, M, z, _, s, m, re, h => c.br cls d σ H e ρ M z s m re h
  | q :: r, cls, d, σ, H, e, ρ, M, z, k, s, m, re, h => by
    unfold clsD at h
    split at h
    · next hi =>
      refine ⟨true, by rw [re.1]; exact hisa _ _ _ hi, fun _ a ha => ?_, fun z => by cases z⟩
      refine ⟨e, clPut q.i a ρ, M, clEndD q.i E, re, ?_, m, h a, ?_⟩
      · show RepS C H (clSt q.i a σ) (clPut q.i a ρ)
        cases q.i with
        | none => exact s
        | some j => exact s.set (d := .adr a) rfl j
      · exact ⟨fun σ' H' ρ' M' z' s' m' y => k.nx _ H' _ M' z' (s'.clOut q.i) m' y, k.rt, fun σ' H' ρ' M' z' s' m' y => k.bk _ H' _ M' z' (s'.clOut q.i) m' y, fun σ' H' ρ' M' z' s' m' y => k.ct _ H' _ M' z' (s'.clOut q.i) m' y⟩
    · next hi => exact ⟨false, by rw [re.1]; exact hisa _ _ _ hi, ⟨fun y => Bool.noConfusion y, fun _ => clsD_ok hisa r z k s m re h⟩⟩
    · exact h.elim
theorem pds_try {isa : Nat → Nat → Option Bool} (hisa : ∀ i j b, isa i j = some b → PySem.W.exmOne X.K (.ref (C i)) (.ref (C j)) = some b) {body : List Stmt} {h1 : ExceptHandler} {hs : List ExceptHandler} {l : List ClD} {tb : TSD}
    (es : X.stack = X.env :: X.outer) (ef : X.env.frame = some X.env.locals) (nd : X.N.Nodup)
    (hb : ∀ (ps : List (Addr × Obj)) (xe : Value → Shared → Prop), PassesOwn (model X.prog X.w) X.A X.env xe → ∀ c' : DC C (X.tr ps xe), PDSs c' body tb)
    (hk : ClsOk C X (h1 :: hs) l) : PDS c (.Try body (h1 :: hs) [] [] pos) (dTry isa tb l) := by
  refine PDS.mk (ps_try_cl (tb := fun W Dv σ H => ∃ (H0 : Hp) (M0 : MM) (ED : EXK) (ρ : Rho) (M : MM) (E : EndsD), (∀ cls d σ H e ρ M, Stp H0 M0 H M → RepS C H σ ρ → RM C H M → RepE C H cls d e → ED e ρ M → W cls d σ H) ∧ Stp H0 M0 H M ∧ RepS C H σ ρ ∧ RM C H M ∧ tb ED E ρ M ∧ ELe C H M E Dv)
    es ef nd c.tk (fun W ps xe tk hp => ?_) hk.v) fun σ H ρ M E Dv n h k => ?_
  · exact ⟨fun pins s σ H Dv I ⟨H0, M0, ED, ρ, M, E, br, z, rs, rm, hh, k⟩ => (hb ps xe hp { H0 := H0, M0 := M0, W := W, ED := ED, tk := tk, br := br }).run pins s σ H Dv I ⟨ρ, M, E, ⟨z, rs, rm⟩, hh, k⟩⟩
  · exact ⟨H, M, clsD isa c.ED E l, ρ, M, E, fun cls d σ' H' e ρ' M' z s m re x => clsD_ok hisa l (n.st.trans z) (k.step z) s m re x, .refl, n.s, n.m, h, k⟩
end
end DD

/-! Operators, builtins, subscripts, methods over data. -/
namespace DD
open PySem PySem.Spec PyProof.Rows L2
section
variable {C : CAd} {X : Cx} {c : DC C X} {pos p p2 : Pos} {a b e : Expr} {es : List Expr} {ta tb te : TED} {tl : TAD}
/-! ### a new list may be frozen at once -/
def orF (Q : VK) : VK := fun v H1 => Q v H1 ∨ ∃ a vs, v = .ref a ∧ H1 a = some (.lst vs) ∧ ∀ o, Q v (upd H1 a (.frz o (.lst vs)))
theorem pe_orF {t : TE} (h : PE X e t) : PE X e (fun σ H Q => t σ H (orF Q)) := by
  refine ⟨fun pins s σ H Q I hh => thn (h.run pins s σ H (orF Q) I hh) fun u s1 ⟨v, H1, I1, rv, q⟩ => ?_⟩
  rcases q with q | ⟨a, vs, e1, ha, q⟩
  · exact ⟨v, H1, I1, rv, q⟩
  · obtain ⟨o, I2⟩ := frozen I1 ha (fun _ z => by cases z) (fun _ _ z => by cases z) (fun _ z => by cases z) (fun _ z => by cases z)
    exact ⟨v, _, I2, rv, q o⟩
/-- what a fresh list gives: frozen | held -/
theorem KE.newF {H : Hp} {M : MM} {Qd : D → MM → Prop} {Q : VK} {ds : List D} {vs : List V} (k : KE C H M Qd Q) (m : RM C H M) (r : Reps C H ds vs) (q : Qd (.lst ds) M) : ∀ p, H p = none → orF Q (.ref p) (upd H p (.lst vs)) := fun p hp => .inr ⟨p, vs, rfl, upd_same, fun o => by
  rw [upd_upd]
  exact k _ _ (.lst ds) M (.new hp) ⟨p, o, vs, rfl, upd_same, Reps.fz (Sm.new hp).fz _ r⟩ (m.same (Sm.new hp)) q⟩
theorem KE.newM {H : Hp} {M : MM} {Qd : D → MM → Prop} {Q : VK} {ds : List D} {vs : List V} (k : KE C H M Qd Q) (m : RM C H M) (r : Reps C H ds vs) (q : ∀ p, M p = none → Qd (.adr p) (updM M p (.lst ds))) : ∀ p, H p = none → Q (.ref p) (upd H p (.lst vs)) := fun p hp =>
  k _ _ (.adr p) _ (.newM hp) rfl (m.put (o := .lst ds) hp ⟨vs, upd_same, Reps.fz (Sm.new hp).fz _ r⟩) (q p (m.fresh hp))
theorem KE.newT {H : Hp} {M : MM} {Qd : D → MM → Prop} {Q : VK} {ds : List D} {vs : List V} (k : KE C H M Qd Q) (m : RM C H M) (r : Reps C H ds vs) (q : Qd (.tup ds) M) : ∀ p, H p = none → Q (.ref p) (upd H p (.tup vs)) := fun p hp =>
  k _ _ (.tup ds) M (.new hp) ⟨p, vs, rfl, upd_same, Reps.fz (Sm.new hp).fz _ r⟩ (m.same (Sm.new hp)) q
/-- no change -/
theorem KE.now {H : Hp} {M : MM} {Qd : D → MM → Prop} {Q : VK} {d : D} {v : V} (k : KE C H M Qd Q) (m : RM C H M) (r : Rep C H d v) (q : Qd d M) : Q v H := k v H d M .refl r m q
/-- a list of M written -/
theorem RM.wr {H : Hp} {M : MM} {p : Addr} {l l' : List D} {vs' : List V} (m : RM C H M) (h : M p = some (.lst l)) (r : Reps C H l' vs') : RM C (upd H p (.lst vs')) (updM M p (.lst l')) := by
  have z : Stp H M (upd H p (.lst vs')) (updM M p (.lst l')) := .write h
  have f := z.fz m
  intro b x q
  by_cases hb : b = p
  · subst hb; rw [updM_same] at q; cases q
    exact ⟨vs', upd_same, Reps.fz f _ r⟩
  · rw [updM_ne hb] at q
    obtain ⟨ws, hw, _⟩ := m p _ h
    exact (m b x q).same f (fun o' h' => by rw [upd_ne hb]; exact h') fun y hy => by rw [upd_ne (fun z => by rw [z, hw] at hy; cases hy)]; exact hy
theorem KE.wr {H : Hp} {M : MM} {Qd : D → MM → Prop} {Q : VK} {p : Addr} {l l' : List D} {vs' : List V} {d : D} {v : V} (k : KE C H M Qd Q) (m : RM C H M) (h : M p = some (.lst l)) (r : Reps C H l' vs') (rd : ∀ H', Fz H H' → Rep C H' d v) (q : Qd d (updM M p (.lst l'))) : Q v (upd H p (.lst vs')) := by
  have z : Stp H M (upd H p (.lst vs')) (updM M p (.lst l')) := .write h
  exact k v _ d _ z (rd _ (z.fz m)) (m.wr h r) q
/-- where a list stands -/
def isL (d : D) (M : MM) : Option (List D) := match d with
  | .lst l => some l
  | .adr a => (match M a with
    | some (.lst l) => some l
    | _ => none)
  | _ => none
theorem isL_sq {H : Hp} {M : MM} {d : D} {v : V} {l : List D} (K : PySem.W.Frag) (m : RM C H M) (r : Rep C H d v) (h : isL d M = some l) : ∃ a vs, v = .ref a ∧ SqL K H a vs ∧ Reps C H l vs := by
  unfold isL at h
  split at h
  · cases h
    obtain ⟨a, o, vs, rfl, ha, rs⟩ := r
    exact ⟨a, vs, rfl, .inl (.inr ⟨o, ha⟩), rs⟩
  · next a =>
    split at h
    · next l' e =>
      cases h
      obtain ⟨vs, ha, rs⟩ := m a _ e
      exact ⟨a, vs, r, .inl (.inl ha), rs⟩
    · cases h
  · cases h
/-! ### operators -/
theorem OpD.of {f : Value → Value → Sem Value} {rd : R2D} (r : R2) (h : OpR X f r) (k : ∀ H M x y dx dy Qd Q, Rep C H dx x → Rep C H dy y → RM C H M → rd dx dy M Qd → KE C H M Qd Q → r x y H Q) : OpD C X f rd := ⟨r, h, k⟩
def rI2 (g : Int → Int → D → Prop) : R2D := fun x y M Q => match x, y with
  | .int i, .int j => ∃ d, g i j d ∧ Q d M
  | _, _ => False
def dI (g : Int → Int → D) : R2D := fun x y M Q => match x, y with
  | .int i, .int j => Q (g i j) M
  | _, _ => False
def dIc (cd : Int → Int → Prop) (g : Int → Int → D) : R2D := fun x y M Q => match x, y with
  | .int i, .int j => cd i j ∧ Q (g i j) M
  | _, _ => False
theorem opI {f : Value → Value → Sem Value} {g : Int → Int → V} {gd : Int → Int → D} (h : OpR X f (rI0 g)) (hg : ∀ i j H, Rep C H (gd i j) (g i j)) : OpD C X f (dI gd) := .of _ h fun H M x y dx dy Qd Q rx ry m hh k => by
  unfold dI at hh
  split at hh
  · next i j => exact ⟨i, j, rx, ry, k.now m (hg i j H) hh⟩
  · exact hh.elim
theorem opIc {f : Value → Value → Sem Value} {cd cd' : Int → Int → Prop} {g : Int → Int → V} {gd : Int → Int → D} (h : OpR X f (rI cd' g)) (hc : ∀ i j, cd i j → cd' i j) (hg : ∀ i j H, cd i j → Rep C H (gd i j) (g i j)) : OpD C X f (dIc cd gd) := .of _ h fun H M x y dx dy Qd Q rx ry m hh k => by
  unfold dIc at hh
  split at hh
  · next i j => exact ⟨i, j, rx, ry, hc i j hh.1, k.now m (hg i j H hh.1) hh.2⟩
  · exact hh.elim
/-- + of ints, texts -/
def dAdd : R2D := fun x y M Q => match x, y with
  | .int i, .int j => Q (.int (i + j)) M
  | .str i, .str j => i.length + j.length ≤ 1000000 ∧ Q (.str (i ++ j)) M
  | _, _ => False
theorem opd_add : OpD C X (binaryOp .Add) dAdd := .of _ (op_add.or op_add_str) fun H M x y dx dy Qd Q rx ry m hh k => by
  unfold dAdd at hh
  split at hh
  · next i j => exact .inl ⟨i, j, rx, ry, k.now (d := .int (i + j)) m rfl hh⟩
  · next i j => exact .inr ⟨i, j, rx, ry, line6 hh.1, k.now (d := .str (i ++ j)) m rfl hh.2⟩
  · exact hh.elim
theorem opd_sub : OpD C X (binaryOp .Sub) (dI fun i j => .int (i - j)) := opI op_sub fun _ _ _ => rfl
def cMul (i j : Int) : Prop := (-(2 ^ 64) < i ∧ i < 2 ^ 64) ∨ (-(2 ^ 64) < j ∧ j < 2 ^ 64)
theorem opd_mul : OpD C X (binaryOp .Mult) (dIc cMul fun i j => .int (i * j)) := opIc op_mul (fun _ _ h => h) fun _ _ _ _ => rfl
theorem opd_fdiv : OpD C X (binaryOp .FloorDiv) (dIc (fun _ j => 0 < j ∧ j < 1073741824) fun i j => .int (i / j)) := opIc op_fdiv (fun _ _ h => h) fun _ _ _ _ => rfl
theorem opd_mod : OpD C X (binaryOp .Mod) (dIc (fun _ j => 0 < j) fun i j => .int (i % j)) := opIc op_mod (fun _ _ h => h) fun _ _ _ _ => rfl
theorem opd_pow : OpD C X (binaryOp .Pow) (dIc (fun i j => 0 ≤ j ∧ j ≤ 1000000 ∧ i.natAbs < 2 ^ 64) fun i j => .int (i ^ j.toNat)) := opIc op_pow (fun _ _ h => h) fun _ _ _ _ => rfl
theorem opd_lt : OpD C X (compareOp .Lt) (dI fun i j => .bl (decide (i < j))) := opI op_lt fun _ _ _ => rfl
theorem opd_le : OpD C X (compareOp .LtE) (dI fun i j => .bl (decide (i ≤ j))) := opI op_le fun _ _ _ => rfl
theorem opd_gt : OpD C X (compareOp .Gt) (dI fun i j => .bl (decide (j < i))) := opI op_gt fun _ _ _ => rfl
theorem opd_ge : OpD C X (compareOp .GtE) (dI fun i j => .bl (decide (j ≤ i))) := opI op_ge fun _ _ _ => rfl
/-- == of plain values -/
def eqS : D → D → Option Bool
  | .int i, .int j => some (decide (i = j))
  | .str i, .str j => some (decide (i = j))
  | .bl i, .bl j => some (decide (i = j))
  | .non, .non => some true
  | .int _, .str _ => some false
  | .str _, .int _ => some false
  | .int _, .non => some false
  | .str _, .non => some false
  | _, _ => none
def dEqS : R2D := fun x y M Q => match eqS x y with
  | some b => Q (.bl b) M
  | none => False
def dNeS : R2D := fun x y M Q => match eqS x y with
  | some b => Q (.bl (!b)) M
  | none => False
theorem eqS_ok {H : Hp} {x y : D} {v u : V} {b : Bool} (h : eqS x y = some b) (r : Rep C H x v) (r' : Rep C H y u) : scal v u = true ∧ decide (v = u) = b := by
  unfold eqS at h
  split at h <;> cases h
  · cases r; cases r'; exact ⟨rfl, by simp⟩
  · cases r; cases r'; exact ⟨rfl, by simp⟩
  · cases r; cases r'; exact ⟨rfl, by simp⟩
  · cases r; cases r'; exact ⟨rfl, by simp⟩
  · cases r; cases r'; exact ⟨rfl, by simp⟩
  · cases r; cases r'; exact ⟨rfl, by simp⟩
  · cases r; cases r'; exact ⟨rfl, by simp⟩
  · cases r; cases r'; exact ⟨rfl, by simp⟩
theorem opd_eqS : OpD C X (compareOp .Eq) dEqS := .of _ op_eq fun H M x y dx dy Qd Q rx ry m hh k => by
  unfold dEqS at hh
  split at hh
  · next b e =>
    obtain ⟨h1, h2⟩ := eqS_ok e rx ry
    exact ⟨h1, by rw [h2]; exact k.now (d := .bl b) m rfl hh⟩
  · exact hh.elim
theorem opd_neS : OpD C X (compareOp .NotEq) dNeS := .of _ op_ne fun H M x y dx dy Qd Q rx ry m hh k => by
  unfold dNeS at hh
  split at hh
  · next b e =>
    obtain ⟨h1, h2⟩ := eqS_ok e rx ry
    exact ⟨h1, by rw [h2]; exact k.now (d := .bl (!b)) m rfl hh⟩
  · exact hh.elim
/-- one sign in a text -/
def dInSign (neg : Bool) : R2D := fun x y M Q => match x, y with
  | .str x, .str z => (match x.cps.toList with
    | [c] => Q (.bl (if neg then !decide (c ∈ z.cps.toList) else decide (c ∈ z.cps.toList))) M
    | _ => False)
  | _, _ => False
theorem str_one {x : Str} {c : Nat} (h : x.cps.toList = [c]) : x = ⟨#[c]⟩ := by
  obtain ⟨l⟩ := x
  have e : l = #[c] := by
    apply Array.ext'
    simpa using h
  rw [e]
theorem opd_inSign : OpD C X (compareOp .In) (dInSign false) := .of _ op_in_sign fun H M x y dx dy Qd Q rx ry m hh k => by
  unfold dInSign at hh
  split at hh
  · split at hh
    · next e => exact ⟨_, _, by rw [show x = .str _ from rx, str_one e], ry, k.now (d := .bl _) m rfl hh⟩
    · exact hh.elim
  · exact hh.elim
theorem opd_notInSign : OpD C X (compareOp .NotIn) (dInSign true) := .of _ op_notIn_sign fun H M x y dx dy Qd Q rx ry m hh k => by
  unfold dInSign at hh
  split at hh
  · split at hh
    · next e => exact ⟨_, _, by rw [show x = .str _ from rx, str_one e], ry, k.now (d := .bl _) m rfl hh⟩
    · exact hh.elim
  · exact hh.elim
/-- is None, is True .. -/
def isNon : D → Bool
  | .non => true
  | _ => false
def dIsN : R2D := fun x y M Q => match y with
  | .non => Q (.bl (isNon x)) M
  | _ => False
theorem rep_non {H : Hp} {d : D} {v : V} (r : Rep C H d v) : decide (v = .non) = isNon d := by
  cases d with
  | non => cases r; rfl
  | bl b => cases r; rfl
  | int b => cases r; rfl
  | str b => cases r; rfl
  | tup l => obtain ⟨a, vs, rfl, _⟩ := r; rfl
  | lst l => obtain ⟨a, o, vs, rfl, _⟩ := r; rfl
  | ins c sl ks vs => obtain ⟨a, dx, oa, xs, ys, rfl, _⟩ := r; rfl
  | adr a => cases r; rfl
theorem opd_isN : OpD C X (compareOp .Is) dIsN := .of _ op_isN fun H M x y dx dy Qd Q rx ry m hh k => by
  unfold dIsN at hh
  split at hh
  · exact ⟨ry, by rw [rep_non rx]; exact k.now (d := .bl _) m rfl hh⟩
  · exact hh.elim
def dIsNotN : R2D := fun x y M Q => match y with
  | .non => Q (.bl (!isNon x)) M
  | _ => False
theorem opd_isNotN : OpD C X (compareOp .IsNot) dIsNotN := .of _ op_notN fun H M x y dx dy Qd Q rx ry m hh k => by
  unfold dIsNotN at hh
  split at hh
  · exact ⟨ry, by rw [rep_non rx]; exact k.now (d := .bl _) m rfl hh⟩
  · exact hh.elim
/-- x is True | False, any x -/
def isB (x : D) (b : Bool) : Bool := match x with
  | .bl a => decide (a = b)
  | _ => false
def dIsB : R2D := fun x y M Q => match y with
  | .bl b => Q (.bl (isB x b)) M
  | _ => False
theorem op_isAnyB : OpR X (compareOp .Is) (fun x y H Q => ∃ b : Bool, y = .bl b ∧ Q (.bl (decide (x = .bl b))) H) := by
  intro pins s σ H x y v u Q I rx ry h
  obtain ⟨b, rfl, q⟩ := h
  cases ry
  cases x with
  | bl a =>
    cases rx
    have hh := op_isBl (X := X) pins s σ H (.bl a) (.bl b) (.bool a) (.bool b) Q I rfl rfl
    refine hh ⟨a, b, rfl, rfl, ?_⟩
    have e : decide (a = b) = decide (V.bl a = V.bl b) := by simp
    rw [e]
    exact q
  | non => cases rx; exact wpAny_is_other rfl (fun z => by cases z) ⟨.bl false, H, I, rfl, by simpa using q⟩
  | int i => obtain ⟨t, rfl⟩ := rx; exact wpAny_is_other rfl (fun z => by cases z) ⟨.bl false, H, I, rfl, by simpa using q⟩
  | str i => obtain ⟨t, rfl⟩ := rx; exact wpAny_is_other rfl (fun z => by cases z) ⟨.bl false, H, I, rfl, by simpa using q⟩
  | byt i => obtain ⟨t, rfl⟩ := rx; exact wpAny_is_other rfl (fun z => by cases z) ⟨.bl false, H, I, rfl, by simpa using q⟩
  | flt i => obtain ⟨t, rfl⟩ := rx; exact wpAny_is_other rfl (fun z => by cases z) ⟨.bl false, H, I, rfl, by simpa using q⟩
  | ref i => cases rx; exact wpAny_is_other rfl (fun z => by cases z) ⟨.bl false, H, I, rfl, by simpa using q⟩
  | ty i => cases rx; exact wpAny_is_other rfl (fun z => by cases z) ⟨.bl false, H, I, rfl, by simpa using q⟩
theorem opd_isB : OpD C X (compareOp .Is) dIsB := .of _ op_isAnyB fun H M x y dx dy Qd Q rx ry m hh k => by
  unfold dIsB at hh
  split at hh
  · next b =>
    refine ⟨b, ry, ?_⟩
    have e : decide (x = .bl b) = isB dx b := by
      cases dx with
      | bl a => cases rx; simp [isB]
      | non => cases rx; rfl
      | int a => cases rx; rfl
      | str a => cases rx; rfl
      | tup l => obtain ⟨a, vs, rfl, _⟩ := rx; rfl
      | lst l => obtain ⟨a, o, vs, rfl, _⟩ := rx; rfl
      | ins c sl ks vs => obtain ⟨a, dx, oa, xs, ys, rfl, _⟩ := rx; rfl
      | adr a => cases rx; rfl
    rw [e]
    exact k.now (d := .bl _) m rfl hh
  · exact hh.elim
/-! ### calls of builtins, by values -/
abbrev RCD := List D → MM → (D → MM → Prop) → Prop
def CallD (C : CAd) (X : Cx) (f : Value) (rd : RCD) : Prop := ∃ r, CallR X f r ∧ ∀ H M vs ds Qd Q, Reps C H ds vs → RM C H M → rd ds M Qd → KE C H M Qd Q → r vs H (orF Q)
def dBlt (rd : RCD) (t : TAD) : TED := fun ex ρ M Q => t ex ρ M fun ds M1 => rd ds M1 Q
theorem pd_blt {id : String} {x : Str} {rd : RCD} (hc : CallD C X (.builtin id) rd) (hg : Gl X x) (hm : X.mg x = none) (hv : bootBuiltins x = some (.builtin id)) (ha : PDA c (e :: es) tl) (hn : x ≠ "__name__" := by decide) (hdb : (x == ("__debug__" : Str)) = false := by decide)
    (he : starEach (e :: es) X.env = (false, eval e X.env) :: starEach es X.env := by rfl) (hpl : (backTo pos (starEach es X.env)).any (·.1) = false := by rfl) : PD c (.Call (.Name x p) (e :: es) [] pos) (dBlt rd tl) := by
  obtain ⟨r, h1, h2⟩ := hc
  exact PD.mk (pe_orF (pe_callB h1 hg hm hv ha hn hdb he hpl)) fun σ H ρ M Qd Q n h k => ⟨ρ, M, _, n, h, fun vs H1 ds M1 z r m g => h2 H1 M1 vs ds Qd Q r m g (k.step z)⟩
theorem pd_ty {T : String} {x : Str} {rd : RCD} (hc : CallD C X (.type T) rd) (hg : Gl X x) (hm : X.mg x = none) (hv : bootBuiltins x = some (.type T)) (ha : PDA c (e :: es) tl) (hn : x ≠ "__name__" := by decide) (hdb : (x == ("__debug__" : Str)) = false := by decide)
    (he : starEach (e :: es) X.env = (false, eval e X.env) :: starEach es X.env := by rfl) (hpl : (backTo pos (starEach es X.env)).any (·.1) = false := by rfl) : PD c (.Call (.Name x p) (e :: es) [] pos) (dBlt rd tl) := by
  obtain ⟨r, h1, h2⟩ := hc
  exact PD.mk (pe_orF (pe_callTy h1 hg hm hv ha hn hdb he hpl)) fun σ H ρ M Qd Q n h k => ⟨ρ, M, _, n, h, fun vs H1 ds M1 z r m g => h2 H1 M1 vs ds Qd Q r m g (k.step z)⟩
/-- len -/
def lenD (d : D) (M : MM) : Option Nat := match d with
  | .str x => if x.length ≤ 1000000 then some x.length else none
  | .tup l => some l.length
  | d => (isL d M).map List.length
def dLen : RCD := fun ds M Q => match ds with
  | [d] => (match lenD d M with
    | some n => Q (.int n) M
    | none => False)
  | _ => False
theorem cd_len : CallD C X (.builtin "len") dLen := ⟨_, call_len, fun H M vs ds Qd Q r m hh k => by
  unfold dLen at hh
  split at hh
  · next d =>
    obtain ⟨v, rfl, rv⟩ := r.one
    split at hh
    · next n e =>
      refine ⟨v, n, rfl, ?_, .inl (k.now (d := .int n) m rfl hh)⟩
      cases d with
      | str x =>
        have e' : (if x.length ≤ 1000000 then some x.length else none) = some n := e
        split at e'
        · next hl => cases e'; cases rv; exact ⟨line6 hl, rfl⟩
        · cases e'
      | tup l =>
        have e' : some l.length = some n := e
        cases e'
        obtain ⟨a, vs, rfl, ha, rs⟩ := rv
        exact .inr ⟨vs, SqT.of ha, rs.length⟩
      | lst l =>
        have e' : some l.length = some n := e
        cases e'
        obtain ⟨a, o, vs, rfl, ha, rs⟩ := rv
        exact .inl ⟨vs, .inl (.inr ⟨o, ha⟩), rs.length⟩
      | adr a =>
        have e' : (isL (.adr a) M).map List.length = some n := e
        cases q : isL (.adr a) M with
        | none => rw [q] at e'; cases e'
        | some l =>
          rw [q] at e'
          cases e'
          obtain ⟨a', vs, rfl, hs, rs⟩ := isL_sq X.K m rv q
          exact .inl ⟨vs, hs, rs.length⟩
      | _ => cases e
    · exact hh.elim
  · exact hh.elim⟩
def dAbs : RCD := fun ds M Q => match ds with
  | [.int i] => Q (.int (if i < 0 then -i else i)) M
  | _ => False
theorem cd_abs : CallD C X (.builtin "abs") dAbs := ⟨_, call_abs, fun H M vs ds Qd Q r m hh k => by
  unfold dAbs at hh
  split at hh
  · next i =>
    obtain ⟨v, rfl, rv⟩ := r.one
    exact ⟨i, congrArg (fun z => [z]) rv, .inl (k.now (d := .int _) m rfl hh)⟩
  · exact hh.elim⟩
def dInt1 : RCD := fun ds M Q => match ds with
  | [.int i] => Q (.int i) M
  | _ => False
theorem cd_int : CallD C X (.type "int") dInt1 := ⟨_, call_int1, fun H M vs ds Qd Q r m hh k => by
  unfold dInt1 at hh
  split at hh
  · next i =>
    obtain ⟨v, rfl, rv⟩ := r.one
    exact .inl ⟨i, congrArg (fun z => [z]) rv, .inl (k.now (d := .int i) m rfl hh)⟩
  · exact hh.elim⟩
def dStrI : RCD := fun ds M Q => match ds with
  | [.int i] => i.natAbs.log2 < 1920 ∧ Q (.str (toString i)) M
  | _ => False
theorem cd_strI : CallD C X (.type "str") dStrI := ⟨_, call_str_int, fun H M vs ds Qd Q r m hh k => by
  unfold dStrI at hh
  split at hh
  · next i =>
    obtain ⟨v, rfl, rv⟩ := r.one
    exact ⟨i, congrArg (fun z => [z]) rv, hh.1, .inl (k.now (d := .str _) m rfl hh.2)⟩
  · exact hh.elim⟩
/-- tuple(a list | a tuple) -/
def dTupOf : RCD := fun ds M Q => match ds with
  | [.tup l] => Q (.tup l) M
  | [d] => (match isL d M with
    | some l => Q (.tup l) M
    | none => False)
  | _ => False
theorem cd_tup : CallD C X (.type "tuple") dTupOf := ⟨_, call_tuple_of, fun H M vs ds Qd Q r m hh k => by
  unfold dTupOf at hh
  split at hh
  · next l =>
    obtain ⟨v, rfl, rv⟩ := r.one
    obtain ⟨a, ws, rfl, ha, rs⟩ := rv
    exact ⟨a, ws, rfl, .inr ⟨SqT.of ha, .inl (k.now (d := .tup l) m ⟨a, ws, rfl, ha, rs⟩ hh)⟩⟩
  · next d _ =>
    obtain ⟨v, rfl, rv⟩ := r.one
    split at hh
    · next l e =>
      obtain ⟨a, ws, rfl, hs, rs⟩ := isL_sq X.K m rv e
      exact ⟨a, ws, rfl, .inl ⟨hs, fun p hp => .inl (k.newT m rs hh p hp)⟩⟩
    · exact hh.elim
  · exact hh.elim⟩
/-- list(..): frozen | a list that may change -/
def seqD (d : D) (M : MM) : Option (List D) := match d with
  | .tup l => some l
  | d => isL d M
theorem seqD_sq {H : Hp} {M : MM} {d : D} {v : V} {l : List D} (K : PySem.W.Frag) (m : RM C H M) (r : Rep C H d v) (h : seqD d M = some l) : ∃ a vs, v = .ref a ∧ (SqL K H a vs ∨ SqT K H a vs) ∧ Reps C H l vs := by
  unfold seqD at h
  split at h
  · cases h
    obtain ⟨a, ws, rfl, ha, rs⟩ := r
    exact ⟨a, ws, rfl, .inr (SqT.of ha), rs⟩
  · obtain ⟨a, ws, rfl, hs, rs⟩ := isL_sq K m r h
    exact ⟨a, ws, rfl, .inl hs, rs⟩
def dListOf : RCD := fun ds M Q => match ds with
  | [d] => (match seqD d M with
    | some l => Q (.lst l) M
    | none => False)
  | _ => False
theorem cd_list : CallD C X (.type "list") dListOf := ⟨_, call_list_of, fun H M vs ds Qd Q r m hh k => by
  unfold dListOf at hh
  split at hh
  · obtain ⟨v, rfl, rv⟩ := r.one
    split at hh
    · next l e =>
      obtain ⟨a, ws, rfl, hs, rs⟩ := seqD_sq X.K m rv e
      exact ⟨a, ws, rfl, hs, fun p hp => k.newF m rs hh p hp⟩
    · exact hh.elim
  · exact hh.elim⟩
def dListOfM : RCD := fun ds M Q => match ds with
  | [d] => (match seqD d M with
    | some l => ∀ p, M p = none → Q (.adr p) (updM M p (.lst l))
    | none => False)
  | _ => False
theorem cd_listM : CallD C X (.type "list") dListOfM := ⟨_, call_list_of, fun H M vs ds Qd Q r m hh k => by
  unfold dListOfM at hh
  split at hh
  · obtain ⟨v, rfl, rv⟩ := r.one
    split at hh
    · next l e =>
      obtain ⟨a, ws, rfl, hs, rs⟩ := seqD_sq X.K m rv e
      exact ⟨a, ws, rfl, hs, fun p hp => .inl (k.newM m rs hh p hp)⟩
    · exact hh.elim
  · exact hh.elim⟩
/-! ### a list display, frozen -/
def dLst (t : TAD) : TED := fun ex ρ M Q => t ex ρ M fun ds M1 => ds.length ≤ 1000000 ∧ Q (.lst ds) M1
theorem pd_lst (h : PDA c es tl) : PD c (.List es pos) (dLst tl) :=
  PD.mk (pe_orF (pe_lst h)) fun σ H ρ M Qd Q n h k => ⟨ρ, M, _, n, h, fun vs H1 ds M1 z r m ⟨g1, g2⟩ => ⟨by rw [← r.length]; exact line6 g1, (k.step z).newF m r g2⟩⟩
/-! ### subscripts -/
def ixD (d : D) (i : Int) (M : MM) : Option D := match d with
  | .tup l => atI l i
  | .str x => if x.length ≤ 1000000 then (atI x.cps.toList i).map fun c => .str ⟨#[c]⟩ else none
  | d => (isL d M).bind fun l => atI l i
def dIx : R2D := fun x y M Q => match y with
  | .int i => (match ixD x i M with
    | some d => Q d M
    | none => False)
  | _ => False
theorem atI_rep {H : Hp} {l : List D} {vs : List V} {i : Int} {d : D} (r : Reps C H l vs) (h : atI l i = some d) : ∃ v, atI vs i = some v ∧ Rep C H d v := by
  unfold atI at h ⊢
  rw [← r.length]
  cases e : ixN l.length i with
  | none => rw [e] at h; cases h
  | some j =>
    rw [e] at h
    exact r.get h
theorem pd_ix (ha : PD c a ta) (hb : PD c b tb) (hs : PlainIx b := by exact fun _ _ => rfl) : PD c (.Subscript a b pos) (dOp dIx ta tb) :=
  PD.mk (pe_ix ix_seq ha hb hs) fun σ H ρ M Qd Q n h k => two n h fun x y H' dx dy M' z rx ry m g => by
    unfold dIx at g
    split at g
    · next i =>
      split at g
      · next d e =>
        unfold ixD at e
        split at e
        · obtain ⟨p, vs, rfl, hp, rs⟩ := rx
          obtain ⟨v, hv, rv⟩ := atI_rep rs e
          exact .inr (.inl ⟨p, vs, i, v, rfl, ry, SqT.of hp, hv, (k.step z).now m rv g⟩)
        · next x =>
          split at e
          · next hl =>
            cases q : atI x.cps.toList i with
            | none => rw [q] at e; cases e
            | some c =>
              rw [q] at e
              cases e
              exact .inr (.inr ⟨x, i, c, rx, ry, line6 hl, q, (k.step z).now (d := .str ⟨#[c]⟩) m rfl g⟩)
          · cases e
        · cases q : isL dx M' with
          | none => rw [q] at e; cases e
          | some l =>
            rw [q] at e
            obtain ⟨p, vs, rfl, hs, rs⟩ := isL_sq X.K m rx q
            obtain ⟨v, hv, rv⟩ := atI_rep rs e
            exact .inl ⟨p, vs, i, v, rfl, ry, hs, hv, (k.step z).now m rv g⟩
      · exact g.elim
    · exact g.elim
/-! ### slices -/
abbrev TOD := EXK → Rho → MM → (Option Int → MM → Prop) → Prop
def KO (C : CAd) (H : Hp) (M : MM) (Qd : Option Int → MM → Prop) (Q : Option Int → Hp → Prop) : Prop := ∀ o H' M', Stp H M H' M' → RM C H' M' → Qd o M' → Q o H'
def cO (c : DC C X) (td : TOD) : TO := fun σ H Q => ∃ ρ M Qd, Now c σ H ρ M ∧ td c.ED ρ M Qd ∧ KO C H M Qd Q
abbrev PDO (c : DC C X) (o : Option Expr) (td : TOD) : Prop := PO X o (cO c td)
def dNoPart : TOD := fun _ _ M Q => Q none M
def dPart (t : TED) : TOD := fun ex ρ M Q => t ex ρ M fun d M1 => match d with
  | .int i => Q (some i) M1
  | _ => False
theorem pdo_none : PDO c none dNoPart := ⟨fun pins s σ H Q I ⟨ρ, M, Qd, n, h, k⟩ => po_none.run pins s σ H Q I (k none H M .refl n.m h)⟩
theorem pdo_some (h : PD c e te) : PDO c (some e) (dPart te) := ⟨fun pins s σ H Q I ⟨ρ, M, Qd, n, hh, k⟩ => (po_some h).run pins s σ H Q I ⟨ρ, M, _, n, hh, fun v H1 d M1 z r m g => by
    cases d with
    | int i => exact ⟨i, r, k (some i) H1 M1 z m g⟩
    | _ => exact g.elim⟩⟩
def cutL {α : Type} (xs : List α) (lo hi : Option Int) : List α := (xs.drop (HT.sIx xs.length 0 lo)).take (HT.sIx xs.length xs.length hi - HT.sIx xs.length 0 lo)
def dSlR (d : D) (lo hi : Option Int) (M : MM) (Q : D → MM → Prop) : Prop := match d with
  | .str x => x.length ≤ 1000000 ∧ Q (.str (cutS x lo hi)) M
  | .tup l => ¬ (HT.sIx l.length 0 lo = 0 ∧ HT.sIx l.length l.length hi = l.length) ∧ Q (.tup (cutL l lo hi)) M
  | d => (match isL d M with
    | some l => Q (.lst (cutL l lo hi)) M
    | none => False)
def dSl (t : TED) (tl th : TOD) : TED := fun ex ρ M Q => t ex ρ M fun d M1 => tl ex ρ M1 fun lo M2 => th ex ρ M2 fun hi M3 => dSlR d lo hi M3 Q
theorem cut_rep {H : Hp} {l : List D} {vs : List V} (r : Reps C H l vs) (lo hi : Option Int) : Reps C H (cutL l lo hi) (cutV vs lo hi) := by
  unfold cutL cutV
  rw [← r.length]
  exact (r.drop _).take _
theorem pd_slice {lo hi : Option Expr} {tlo thi : TOD} (he : PD c e te) (hl : PDO c lo tlo) (hu : PDO c hi thi) : PD c (.Subscript e (.Slice lo hi none p2) pos) (dSl te tlo thi) :=
  PD.mk (pe_orF (pe_slice (SlR.or sl_list (SlR.or sl_tup sl_str)) he hl hu)) fun σ H ρ M Qd Q n h k => ⟨ρ, M, _, n, h, fun v H1 d M1 z1 r1 m1 g1 => ⟨ρ, M1, _, n.step z1 m1, g1, fun lo H2 M2 z2 m2 g2 => ⟨ρ, M2, _, (n.step z1 m1).step z2 m2, g2, fun hi H3 M3 z3 m3 g3 => by
    have r3 := (r1.fz (z2.fz m1)).fz (z3.fz m2)
    have k3 := ((k.step z1).step z2).step z3
    unfold dSlR at g3
    split at g3
    · next x => exact .inr (.inr ⟨x, r3, line6 g3.1, .inl (k3.now (d := .str _) m3 rfl g3.2)⟩)
    · next l =>
      obtain ⟨p, vs, rfl, hp, rs⟩ := r3
      exact .inr (.inl ⟨p, vs, rfl, SqT.of hp, by rw [← rs.length]; exact g3.1, fun q hq => .inl (k3.newT m3 (cut_rep rs lo hi) g3.2 q hq)⟩)
    · split at g3
      · next l e =>
        obtain ⟨p, vs, rfl, hs, rs⟩ := isL_sq X.K m3 r3 e
        exact .inl ⟨p, vs, rfl, hs, k3.newF m3 (cut_rep rs lo hi) g3⟩
      · exact g3.elim⟩⟩⟩
end
end DD

/-! Instances of own classes over data. -/
namespace DD
open PySem PySem.Spec PyProof.Rows L2
section
variable {C : CAd} {X : Cx} {c : DC C X} {pins : List (Addr × Obj)} {σ : L2.St} {H : Hp} {s : Shared} {M : MM}
/-- an instance as it stands: its slots, its dict -/
structure IA (X : Cx) (s : Shared) (a D : Addr) (sl : List (Option V)) (kv : List (Str × V)) : Prop where
  ex : ∃ (ox od : Obj), PySem.W.InstAt s.heap a ox D (some od) ∧ SlX.SlR sl ox.slots ∧ ∀ f, ∃ o, PySem.W.lookIn f od = some o ∧ RelO (kv.lookup f) o
theorem IA.frz {a dx D : Addr} {oa : Obj} {sl : List (Option V)} {kv : List (Str × V)} (I : Inv X pins σ H s) (h1 : H a = some (.frz oa (SlX.SlO a D dx sl))) (h2 : H dx = some (.xd kv)) : IA X s a D sl kv := by
  obtain ⟨_, ⟨⟨sa, e, r⟩, _, _⟩⟩ := I.hok a _ h1
  obtain ⟨mA, n, r2⟩ := I.hok dx _ h2
  obtain ⟨ob, ho, hl⟩ := lookIn_ns n
  exact ⟨_, ob, ⟨e, rfl, rfl, ho⟩, r, fun f => ⟨_, hl f, r2 f⟩⟩
theorem IA.ins {a dx D : Addr} {kv : List (Str × V)} (I : Inv X pins σ H s) (h : H a = some (.ins D dx kv)) : IA X s a D [] kv := by
  obtain ⟨mA, O, r, _, _, _⟩ := ins_get I.hok h
  obtain ⟨od, J, hl⟩ := O.look
  exact ⟨_, od, J, SlX.SlR.nil _, fun f => ⟨_, hl f, r f⟩⟩
theorem IA.slt {a dx D : Addr} {sl : List (Option V)} (I : Inv X pins σ H s) (h : SlX.Slt H a D dx sl) : IA X s a D sl [] := by
  obtain ⟨sa, od, r, J, hl⟩ := SlX.slt_inst I h
  exact ⟨_, od, J, r, fun f => ⟨_, hl f, trivial⟩⟩
/-- an instance over data: of the class, its slots, its fields -/
def instD (cn : Nat) (d : D) (M : MM) : Option (List (Option D) × List (Str × D)) := match d with
  | .ins k sl ks vs => if k = cn then some (sl.map some, ks.zip vs) else none
  | .adr a => (match M a with
    | some (.ins k fs) => if k = cn then some ([], fs) else none
    | some (.sl k vs) => if k = cn then some (vs, []) else none
    | _ => none)
  | _ => none
theorem Reps.map_some {H : Hp} : ∀ {l : List D} {vs : List V}, Reps C H l vs → RepOs C H (l.map some) (vs.map some)
  | [], _, h => by rw [show _ = [] from h]; exact rfl
  | d :: l, _, ⟨v, r, e, h1, h2⟩ => by subst e; exact ⟨v, r.map some, rfl, h1, Reps.map_some h2⟩
/-- fields and their values -/
def RepF (C : CAd) (H : Hp) (fs : List (Str × D)) (kv : List (Str × V)) : Prop := ∃ ys, kv = (fs.map (·.1)).zip ys ∧ Reps C H (fs.map (·.2)) ys
theorem RepF.get {H : Hp} : ∀ {fs : List (Str × D)} {kv : List (Str × V)} {f : Str}, RepF C H fs kv → (∀ d, fs.lookup f = some d → ∃ v, kv.lookup f = some v ∧ Rep C H d v) ∧ (fs.lookup f = none → kv.lookup f = none)
  | [], kv, f, ⟨ys, e, r⟩ => by
    have h2 : ys = [] := r
    subst h2 e
    exact ⟨fun d h => by simp at h, fun _ => rfl⟩
  | (g, d0) :: fs, kv, f, ⟨ys, e, r⟩ => by
    obtain ⟨v, r', e', h1, h2⟩ := r
    subst e' e
    have ih := RepF.get (f := f) ⟨r', rfl, h2⟩
    have e2 : (List.map (fun x => x.fst) ((g, d0) :: fs)).zip (v :: r') = (g, v) :: (fs.map (·.1)).zip r' := rfl
    rw [e2]
    cases q : f == g with
    | true =>
      refine ⟨fun d h => ?_, fun h => ?_⟩
      · rw [List.lookup, q] at h
        cases h
        exact ⟨v, by rw [List.lookup, q], h1⟩
      · rw [List.lookup, q] at h
        cases h
    | false =>
      rw [List.lookup, List.lookup, q]
      exact ih
theorem zipF (fs : List (Str × D)) : (fs.map (·.1)).zip (fs.map (·.2)) = fs := by
  induction fs with
  | nil => rfl
  | cons p fs ih => obtain ⟨a, b⟩ := p; simp only [List.map_cons, List.zip_cons_cons, ih]
theorem instD_ia {cn : Nat} {d : D} {v : V} {sl : List (Option D)} {fs : List (Str × D)} (I : Inv X pins σ H s) (m : RM C H M) (r : Rep C H d v) (h : instD cn d M = some (sl, fs)) :
    ∃ a vs kv, v = .ref a ∧ IA X s a (C cn) vs kv ∧ RepOs C H sl vs ∧ RepF C H fs kv := by
  unfold instD at h
  split at h
  · next k l ks ws =>
    split at h
    · next e =>
      subst e
      cases h
      obtain ⟨a, dx, oa, xs, ys, rfl, _, h1, h2, hl, r1, r2⟩ := r
      have e1 : (ks.zip ws).map (·.1) = ks := List.map_fst_zip (by omega)
      have e2 : (ks.zip ws).map (·.2) = ws := List.map_snd_zip (by omega)
      exact ⟨a, xs.map some, ks.zip ys, rfl, IA.frz I h1 h2, Reps.map_some r1, ys, by rw [e1], by rw [e2]; exact r2⟩
    · cases h
  · next a =>
    have e0 : v = .ref a := r
    subst e0
    split at h
    · next k gs e =>
      split at h
      · next e2 =>
        subst e2
        cases h
        obtain ⟨dx, ys, ha, rs⟩ := m a _ e
        exact ⟨a, [], _, rfl, IA.ins I ha, rfl, ys, rfl, rs⟩
      · cases h
    · next k gs e =>
      split at h
      · next e2 =>
        subst e2
        cases h
        obtain ⟨dx, xs, ne, ha, rs⟩ := m a _ e
        refine ⟨a, xs, [], rfl, IA.slt (dx := dx) I ?_, rs, [], rfl, rfl⟩
        rcases ha with ⟨h1, _, h3⟩ | h1
        · exact .inl ⟨h1, h3⟩
        · exact .inr h1
      · cases h
    · cases h
  · cases h
variable {pos p : Pos} {e : Expr} {es : List Expr} {te : TED} {tl : TAD} {k : Nat}
/-! ### attributes read -/
structure SlotF (K : PySem.W.Frag) (D : Addr) (f : Str) (i : Nat) : Prop where
  ex : ∃ p, SlX.SCls K D ∧ SlX.Slot1 K D f p i
theorem RepOs.get {H : Hp} : ∀ {l : List (Option D)} {xs : List (Option V)} {i : Nat} {d : D}, RepOs C H l xs → l[i]? = some (some d) → ∃ v, xs[i]? = some (some v) ∧ Rep C H d v
  | [], _, i, d, _, e => by simp at e
  | none :: l, _, 0, d, _, e => by simp at e
  | some d0 :: l, _, 0, d, ⟨v, r, e, h1, _⟩, e' => by
    simp at e'; subst e'; subst e; exact ⟨v, by simp, h1⟩
  | none :: l, _, i + 1, d, ⟨r, e, h2⟩, e' => by
    subst e
    obtain ⟨u, h3, h4⟩ := RepOs.get (i := i) h2 (by simpa using e')
    exact ⟨u, by simpa using h3, h4⟩
  | some d0 :: l, _, i + 1, d, ⟨v, r, e, _, h2⟩, e' => by
    subst e
    obtain ⟨u, h3, h4⟩ := RepOs.get (i := i) h2 (by simpa using e')
    exact ⟨u, by simpa using h3, h4⟩
def dSlot (cn i : Nat) (te : TED) : TED := fun ex ρ M Q => te ex ρ M fun d M1 => match instD cn d M1 with
  | some (sl, _) => (match sl[i]? with
    | some (some v) => Q v M1
    | _ => False)
  | none => False
/-- a reading of an object's attribute -/
theorem pd_attr {f : Str} {rd : D → MM → (D → MM → Prop) → Prop} (he : PD c e te) (hb : attributeBase e f X.env (eval e X.env) = eval e X.env)
    (k : ∀ {pins σ H s M d v Qd Q}, Inv X pins σ H s → RM C H M → Rep C H d v → rd d M Qd → KE C H M Qd Q → ∀ u, RelV v u → wpAny (model X.prog X.w) X.A (getAttr u f true) (EP X pins σ Q) X.xe s) :
    PD c (.Attribute e f pos) (fun ex ρ M Q => te ex ρ M fun d M1 => rd d M1 Q) := by
  refine ⟨fun pins s σ H Q I ⟨ρ, M, Qd, n, h, kE⟩ => ?_⟩
  refine attr_of hb (thn (he.run pins s σ H (fun v H1 => ∃ d M1, Stp H M H1 M1 ∧ Rep C H1 d v ∧ RM C H1 M1 ∧ rd d M1 Qd) I ⟨ρ, M, _, n, h, fun v H1 d M1 z r m g => ⟨d, M1, z, r, m, g⟩⟩) fun u s1 ⟨v, H1, I1, rv, d, M1, z, r, m, g⟩ => ?_)
  exact k I1 m r g (kE.step z) u rv
theorem pd_slot {f : Str} {cn i : Nat} (T : SlotF X.K (C cn) f i) (he : PD c e te) (hb : attributeBase e f X.env (eval e X.env) = eval e X.env := by rfl) : PD c (.Attribute e f pos) (dSlot cn i te) :=
  pd_attr (rd := fun d M Q => match instD cn d M with
    | some (sl, _) => (match sl[i]? with
      | some (some v) => Q v M
      | _ => False)
    | none => False) he hb fun {pins σ H s M d v Qd Q} I m r g kE u ru => by
    obtain ⟨q, T1, T2⟩ := T.ex
    split at g
    · next sl fs e1 =>
      obtain ⟨a, vs, kv, rfl, A, rs, _⟩ := instD_ia I m r e1
      split at g
      · next y e2 =>
        obtain ⟨w, hw, rw'⟩ := rs.get e2
        obtain ⟨ox, od, J, sr, _⟩ := A.ex
        obtain ⟨z, ez, rz⟩ := sr i w hw
        cases ru
        obtain ⟨mm, F⟩ := I.fr
        refine PySem.W.get_slot F I.mod.kin J (T1.get f) T1.ic T2.at_ T2.get T2.tk T2.ix (v := z) ?_ (handed_of rz) ⟨w, H, I.tok _, rz, kE.now m rw' g⟩
        rw [ez]; rfl
      · exact g.elim
    · exact g.elim
/-- a field of the object's own dict -/
structure FldF (K : PySem.W.Frag) (D : Addr) (f : Str) : Prop where
  c : Cls K D
  n : NoAttr K D f
def dFld (cn : Nat) (f : Str) (te : TED) : TED := fun ex ρ M Q => te ex ρ M fun d M1 => match instD cn d M1 with
  | some (_, fs) => (match fs.lookup f with
    | some v => Q v M1
    | none => False)
  | none => False
theorem pd_fld {f : Str} {cn : Nat} (T : FldF X.K (C cn) f) (he : PD c e te) (hb : attributeBase e f X.env (eval e X.env) = eval e X.env := by rfl) : PD c (.Attribute e f pos) (dFld cn f te) :=
  pd_attr (rd := fun d M Q => match instD cn d M with
    | some (_, fs) => (match fs.lookup f with
      | some v => Q v M
      | none => False)
    | none => False) he hb fun {pins σ H s M d v Qd Q} I m r g kE u ru => by
    split at g
    · next sl fs e1 =>
      obtain ⟨a, vs, kv, rfl, A, _, rf⟩ := instD_ia I m r e1
      split at g
      · next y e2 =>
        obtain ⟨w, hw, rw'⟩ := rf.get.1 y e2
        obtain ⟨ox, od, J, _, lk⟩ := A.ex
        obtain ⟨o, ho, ro⟩ := lk f
        rw [hw] at ro
        obtain ⟨z, ez, rz⟩ := RelO.some_of ro
        cases ru
        exact PySem.W.get_value I.kIn J (PySem.W.plainGet_of (T.c.get f)).1 (PySem.W.findObj_own T.c.hd T.n rfl (by rw [ho, ez])) (handed_of rz) ⟨w, H, I.tok _, rz, kE.now m rw' g⟩
      · exact g.elim
    · exact g.elim
/-! ### methods, properties -/
/-- a def reached by its place alone -/
def FnA (P : Program) (w : World) (K : PySem.W.Frag) (mg : Str → Option Value) (base : Heap) (C : CAd) (k : Nat) (f : Addr) (sp : SpD) : Prop := FnR P w K mg base (L2.CX P w) k f (toSp C sp)
theorem run_fnA {k : Nat} {f : Addr} {sp : SpD} {Q : VK} {us : List Value} {vs : List V} {E : XK} (F : FnR X.prog X.w X.K X.mg X.base (L2.CX X.prog X.w) k f (toSp C sp)) (hr : Room k X.A) (hx : PassesAt (L2.CX X.prog X.w) X σ E) (I : Inv X pins σ H s) (r : Vals vs us) (h : toSp C sp vs H Q E) :
    codeAny (model X.prog X.w) X.A (.call (.ref f) ⟨us, []⟩) (fun r s' => match r with | .ok (.ret v) => EP X pins σ Q v s' | .ok _ => False | .error e => X.xe e s') s := by
  refine codeAny_mono (F X.A X.stack s H us vs Q E hr I.env0 r h) fun r s' hq => ?_
  cases r with
  | error e => exact hx pins H s e s' I hq
  | ok fl =>
    cases fl with
    | ret u => exact I.after hq
    | next => exact False.elim hq
    | brk => exact False.elim hq
    | cont => exact False.elim hq
/-- a method of a class of the module -/
structure MetF (P : Program) (w : World) (K : PySem.W.Frag) (mg : Str → Option Value) (base : Heap) (C : CAd) (cn : Nat) (m : Str) (k : Nat) (sp : SpD) : Prop where
  ex : ∃ f, FnA P w K mg base C k f sp ∧ Meth K (C cn) m f
  pg : PySem.W.plainGet K (C cn) Str.empty = true
theorem IA.meth {a D f : Addr} {sl : List (Option V)} {kv : List (Str × V)} {m : Str} {pl : Sem Bool} {A : Around} {E : Value → Shared → Prop} {Q : Value × List Value → Shared → Prop} (I : Inv X pins σ H s) (J : IA X s a D sl kv) (pg : PySem.W.plainGet X.K D m = true) (T : Meth X.K D m f) (hn : kv.lookup m = none) (h : Q (.ref f, [.ref a]) s) :
    wpAny (model X.prog X.w) A (getMethod (.ref a) m pl) Q E s := by
  obtain ⟨ox, od, J, _, lk⟩ := J.ex
  obtain ⟨o, ho, ro⟩ := lk m
  rw [hn] at ro
  refine PySem.W.method_fn I.kIn J (PySem.W.plainGet_of pg).1 (PySem.W.plainGet_of pg).2 T.at_ (beq_iff_eq.mp T.fn) ?_ h
  show (PySem.W.lookIn m od).map (·.isSome) = some false
  rw [ho, RelO.none_of ro]
  rfl
/-- what a method's call asks of its object -/
def objOk (cn : Nat) (m : Str) (d : D) (M : MM) : Prop := match instD cn d M with
  | some (_, fs) => fs.lookup m = none
  | none => False
def dMeth (cn : Nat) (m : Str) (sp : SpD) (te : TED) (tl : TAD) : TED := fun ex ρ M Q => te ex ρ M fun d M1 => objOk cn m d M1 ∧ tl ex ρ M1 fun ds M2 => sp (d :: ds) M2 Q fun x M3 => ex x ρ M3
theorem objOk_ia {cn : Nat} {m : Str} {d : D} {v : V} (I : Inv X pins σ H s) (rm : RM C H M) (r : Rep C H d v) (h : objOk cn m d M) : ∃ a vs kv, v = .ref a ∧ IA X s a (C cn) vs kv ∧ kv.lookup m = none := by
  unfold objOk at h
  split at h
  · next sl fs e1 =>
    obtain ⟨a, vs, kv, rfl, A, _, rf⟩ := instD_ia I rm r e1
    exact ⟨a, vs, kv, rfl, A, rf.get.2 h⟩
  · exact h.elim
theorem pd_meth {o : Expr} {m : Str} {apos : Pos} {cn : Nat} {sp : SpD} {pl : Sem Bool} (T : MetF X.prog X.w X.K X.mg X.base C cn m k sp) (hr : Room k X.A) (ho : PD c o te) (ha : PDA c (e :: es) tl)
    (hst : starEach (e :: es) X.env = (false, eval e X.env) :: starEach es X.env := by rfl) (hpl : (backTo pos (starEach es X.env)).any (·.1) = false := by rfl)
    (ht : eval (.Call (.Attribute o m apos) (e :: es) [] pos) X.env = (do
      let ov ← eval o X.env
      standAt apos.atName
      let (f, first) ← holding [ov] (getMethod ov m pl)
      callWith pos f first (backTo pos (starEach (e :: es) X.env)) (backToKw pos (keywordEach [] X.env))) := by rfl) :
    PD c (.Call (.Attribute o m apos) (e :: es) [] pos) (dMeth cn m sp te tl) := by
  obtain ⟨f, F, Tm⟩ := T.ex
  refine ⟨fun pins s σ H Q I ⟨ρ, M, Qd, n, h, kE⟩ => ?_⟩
  refine PySem.W.methodCall_KW (pl := pl) (thn (ho.run pins s σ H (fun v H1 => ∃ d M1, Stp H M H1 M1 ∧ Rep C H1 d v ∧ RM C H1 M1 ∧ objOk cn m d M1 ∧ tl c.ED ρ M1 fun ds M2 => sp (d :: ds) M2 Qd fun x M3 => c.ED x ρ M3) I
    ⟨ρ, M, _, n, h, fun v H1 d M1 z r m g => ⟨d, M1, z, r, m, g⟩⟩) fun u s1 ⟨v, H1, I1, rv, d, M1, z, r, rm, g1, g2⟩ => ?_) ht
  obtain ⟨a, vs, kv, rfl, J, hn⟩ := objOk_ia I1 rm r g1
  obtain rfl : u = Value.ref a := rv
  refine J.meth I1 (by exact T.pg) Tm hn ?_
  refine PySem.W.callWith_K (first := [.ref a]) (h₀ := X.base) I.ok.mod.kin Tm.kp (thn (ha.run pos pins s1 σ H1 (fun ws H2 => ∃ ds M2, Stp H1 M1 H2 M2 ∧ Reps C H2 ds ws ∧ RM C H2 M2 ∧ sp (d :: ds) M2 Qd fun x M3 => c.ED x ρ M3) I1
    ⟨ρ, M1, _, n.step z rm, g2, fun ws H2 ds M2 z2 r2 m2 q2 => ⟨ds, M2, z2, r2, m2, q2⟩⟩) fun us s2 ⟨ws, H2, I2, rw', ds, M2, z2, r2, m2, q2⟩ => ⟨I2.kIn, ?_⟩) hst hpl
  have n2 := (n.step z rm).step z2 m2
  exact wpAny_call (run_fnA (us := .ref a :: us) (vs := .ref a :: ws) F hr (passAt c.tk σ) I2 (.cons rfl rw') (toSp_of (ds := d :: ds) n2 ⟨.ref a, ws, rfl, r.fz (z2.fz rm), r2⟩ q2 ((kE.step z).step z2)))
theorem pd_meth0 {o : Expr} {m : Str} {apos : Pos} {cn : Nat} {sp : SpD} {pl : Sem Bool} (T : MetF X.prog X.w X.K X.mg X.base C cn m k sp) (hr : Room k X.A) (ho : PD c o te)
    (ht : eval (.Call (.Attribute o m apos) [] [] pos) X.env = (do
      let ov ← eval o X.env
      standAt apos.atName
      let (f, first) ← holding [ov] (getMethod ov m pl)
      callWith pos f first (backTo pos (starEach [] X.env)) (backToKw pos (keywordEach [] X.env))) := by rfl) :
    PD c (.Call (.Attribute o m apos) [] [] pos) (dMeth cn m sp te dNil) := by
  obtain ⟨f, F, Tm⟩ := T.ex
  refine ⟨fun pins s σ H Q I ⟨ρ, M, Qd, n, h, kE⟩ => ?_⟩
  refine PySem.W.methodCall_KW (pl := pl) (thn (ho.run pins s σ H (fun v H1 => ∃ d M1, Stp H M H1 M1 ∧ Rep C H1 d v ∧ RM C H1 M1 ∧ objOk cn m d M1 ∧ sp [d] M1 Qd fun x M3 => c.ED x ρ M3) I
    ⟨ρ, M, _, n, h, fun v H1 d M1 z r m g => ⟨d, M1, z, r, m, g⟩⟩) fun u s1 ⟨v, H1, I1, rv, d, M1, z, r, rm, g1, g2⟩ => ?_) ht
  obtain ⟨a, vs, kv, rfl, J, hn⟩ := objOk_ia I1 rm r g1
  obtain rfl : u = Value.ref a := rv
  refine J.meth I1 (by exact T.pg) Tm hn ?_
  exact PySem.W.callWith_K0 (first := [.ref a]) I1.kIn Tm.kp (wpAny_call (run_fnA (us := [.ref a]) (vs := [.ref a]) F hr (passAt c.tk σ) I1 (.cons rfl .nil) (toSp_of (ds := [d]) (n.step z rm) ⟨.ref a, [], rfl, r, rfl⟩ g2 (kE.step z))))
/-- a property -/
structure PropF (P : Program) (w : World) (K : PySem.W.Frag) (mg : Str → Option Value) (base : Heap) (C : CAd) (cn : Nat) (f : Str) (k : Nat) (sp : SpD) : Prop where
  ex : ∃ g q, FnA P w K mg base C k g sp ∧ PySem.W.plainGet K (C cn) Str.empty = true ∧ PySem.W.isClsIn K (C cn) = true ∧ PySem.W.findIn K (.ref (C cn)) f = some (some (.ref q)) ∧ PySem.W.specialIn K (.ref q) "__get__" = some (some (.builtin "property.__get__")) ∧
    PySem.W.takesIn K (.ref q) = some true ∧ ∃ rest, PySem.W.recIn K q "property" = some (.ref g :: rest)
def isInst (cn : Nat) (d : D) (M : MM) : Prop := (instD cn d M).isSome = true
def dProp (cn : Nat) (sp : SpD) (te : TED) : TED := fun ex ρ M Q => te ex ρ M fun d M1 => isInst cn d M1 ∧ sp [d] M1 Q fun _ _ => False
theorem pd_prop {f : Str} {cn : Nat} {sp : SpD} (T : PropF X.prog X.w X.K X.mg X.base C cn f k sp) (hr : Room (k + 1) X.A) (he : PD c e te) (hb : attributeBase e f X.env (eval e X.env) = eval e X.env := by rfl) : PD c (.Attribute e f pos) (dProp cn sp te) :=
  pd_attr (rd := fun d M Q => isInst cn d M ∧ sp [d] M Q fun _ _ => False) he hb fun {pins σ H s M d v Qd Q} I m r ⟨g1, g2⟩ kE u ru => by
    obtain ⟨g, q, F, pg, ic, at_, gt, tk, rest, hrec⟩ := T.ex
    obtain ⟨⟨sl, fs⟩, e1⟩ := Option.isSome_iff_exists.mp g1
    obtain ⟨a, vs, kv, rfl, A, _, _⟩ := instD_ia I m r e1
    obtain ⟨ox, od, J, _, _⟩ := A.ex
    cases ru
    have I1 : Inv X pins σ H { s with toks := s.toks + 1 } := I.tok (s.toks + 1)
    refine PySem.W.get_bind I.kIn J (PySem.W.plainGet_of pg).1 (PySem.W.findObj_data ic at_ gt tk) (PySem.W.plainGet_of pg).2 (wpAny_call (PySem.W.prop_get (s := { s with toks := s.toks + 1 }) I.kIn hrec ?_))
    refine codeAny_mono (F X.A.in1 X.stack { s with toks := s.toks + 1 } H [.ref a] [.ref a] Q E0 hr.in1 I1.env0.in1 (.cons rfl .nil) ⟨[d], M, Qd, fun _ _ => False, ⟨.ref a, [], rfl, r, rfl⟩, m, g2, kE, fun _ _ _ _ _ _ _ _ h => h.elim⟩) fun r s' hq => ?_
    cases r with
    | error e =>
      obtain ⟨_, _, _, _, _, _, _, _, _, _, _, _, z⟩ := hq
      exact z.elim
    | ok fl =>
      cases fl with
      | ret u =>
        obtain ⟨v, H', I2, rv, q⟩ := I1.after hq
        exact wpAny_of_eq (PySem.W.handedOut_of (handed_of rv)) ⟨v, H', I2, rv, q⟩
      | next => exact False.elim hq
      | brk => exact False.elim hq
      | cont => exact False.elim hq
end
end DD

/-! Instances made and stored; lists changed; comprehensions; suites. -/
namespace DD
open PySem PySem.Spec PyProof.Rows L2
section
variable {C : CAd} {X : Cx} {c : DC C X} {pins : List (Addr × Obj)} {σ : L2.St} {H : Hp} {s : Shared} {M : MM}
variable {pos pos' p : Pos} {e o v : Expr} {es : List Expr} {te to tv ti : TED} {tl : TAD} {k : Nat}
/-! ### fields stored -/
def putSO (i : Nat) (d : D) (vs : List (Option D)) : List (Option D) := (vs ++ List.replicate (i + 1 - vs.length) none).set i (some d)
theorem RepOs.length {H : Hp} : ∀ {l : List (Option D)} {xs : List (Option V)}, RepOs C H l xs → l.length = xs.length
  | [], _, h => by rw [show _ = [] from h]; rfl
  | none :: l, _, ⟨r, e, h⟩ => by subst e; simp [RepOs.length h]
  | some d :: l, _, ⟨v, r, e, _, h⟩ => by subst e; simp [RepOs.length h]
theorem RepOs.append {H : Hp} : ∀ {l l' : List (Option D)} {xs xs' : List (Option V)}, RepOs C H l xs → RepOs C H l' xs' → RepOs C H (l ++ l') (xs ++ xs')
  | [], _, _, _, h, h' => by rw [show _ = [] from h]; exact h'
  | none :: l, _, _, _, ⟨r, e, h⟩, h' => by subst e; exact ⟨r ++ _, rfl, RepOs.append h h'⟩
  | some d :: l, _, _, _, ⟨v, r, e, h1, h2⟩, h' => by subst e; exact ⟨v, r ++ _, rfl, h1, RepOs.append h2 h'⟩
theorem RepOs.nones {H : Hp} : ∀ n : Nat, RepOs C H (List.replicate n none) (List.replicate n none)
  | 0 => rfl
  | n + 1 => ⟨_, rfl, RepOs.nones n⟩
theorem RepOs.set {H : Hp} {d : D} {v : V} (hd : Rep C H d v) : ∀ {l : List (Option D)} {xs : List (Option V)} (i : Nat), RepOs C H l xs → RepOs C H (l.set i (some d)) (xs.set i (some v))
  | [], _, _, h => by rw [show _ = [] from h]; exact rfl
  | none :: l, _, 0, ⟨r, e, h⟩ => by subst e; exact ⟨v, r, rfl, hd, h⟩
  | some d0 :: l, _, 0, ⟨v0, r, e, _, h⟩ => by subst e; exact ⟨v, r, rfl, hd, h⟩
  | none :: l, _, i + 1, ⟨r, e, h⟩ => by subst e; exact ⟨r.set i (some v), rfl, RepOs.set hd i h⟩
  | some d0 :: l, _, i + 1, ⟨v0, r, e, h1, h⟩ => by subst e; exact ⟨v0, r.set i (some v), rfl, h1, RepOs.set hd i h⟩
theorem RepOs.put {H : Hp} {d : D} {v : V} (hd : Rep C H d v) {l : List (Option D)} {xs : List (Option V)} (i : Nat) (h : RepOs C H l xs) : RepOs C H (putSO i d l) (SlX.putS i v xs) := by
  unfold putSO SlX.putS
  rw [h.length]
  exact (h.append (RepOs.nones _)).set hd i
/-- self.f = e, a slot -/
def dSetSlot (cn i : Nat) (tv to : TED) : TSD := fun ex E ρ M => tv ex ρ M fun d M1 => to ex ρ M1 fun o M2 => match o with
  | .adr a => (match M2 a with
    | some (.sl k vs) => k = cn ∧ E.nx ρ (updM M2 a (.sl k (putSO i d vs)))
    | _ => False)
  | _ => False
theorem pds_slot {f : Str} {cn i : Nat} (T : SlotF X.K (C cn) f i) (ho : PD c o to) (hv : PD c v tv) (hs : swapsWith v (some (.Attribute o f pos')) pos.line X.env = pure false := by rfl) : PDS c (.Assign [.Attribute o f pos'] v pos) (dSetSlot cn i tv to) := by
  obtain ⟨q, T1, T2⟩ := T.ex
  refine PDS.mk (SlX.ps_sl ho hv hs) fun σ H ρ M E Ev n h k => two n h fun x y H1 dx dy M1 z1 r1 r2 m1 g => ?_
  split at g
  · next a =>
    split at g
    · next kk vs e1 =>
      obtain ⟨rfl, g⟩ := g
      have e0 : y = .ref a := r2
      obtain ⟨dd, xs, ne, ha, rs⟩ := m1 a _ e1
      have hsl : SlX.Slt H1 a (C kk) dd xs := by
        rcases ha with ⟨h1, _, h3⟩ | h1
        · exact .inl ⟨h1, h3⟩
        · exact .inr h1
      refine ⟨a, C kk, dd, q, xs, i, e0, hsl, T1, T2, ?_⟩
      have hdd : H1 dd = some (.own a) ∨ H1 dd = some (.xd []) := by
        rcases ha with ⟨_, h2, _⟩ | ⟨_, h2⟩
        · exact .inl h2
        · exact .inr h2
      have nod : ∀ b u, H1 b = some u → (∀ y, u ≠ .own y) → u ≠ .xd [] → b ≠ dd := fun b u hb w1 w2 z => by
        rw [z] at hb
        rcases hdd with w | w <;> rw [hb] at w
        · exact w1 _ (Option.some.inj w)
        · exact w2 (Option.some.inj w)
      have z2 : Stp H1 M1 (SlX.slH H1 a (C kk) dd (SlX.putS i x xs)) (updM M1 a (.sl kk (putSO i dx vs))) := ⟨fun b u hb hm w => by
        have n1 : b ≠ a := fun z => by rw [z, e1] at hm; cases hm
        refine ⟨?_, by rw [updM_ne n1]; exact hm⟩
        by_cases n2 : b = dd
        · subst n2
          unfold SlX.slH
          rw [upd_ne n1, upd_same]
          rcases hdd with w' | w'
          · rw [hb] at w'; exact absurd (Option.some.inj w') (w _)
          · rw [← hb, w']
        · rw [SlX.slH_ne n1 n2]; exact hb⟩
      have f2 := z2.fz m1
      refine k.nx σ _ ρ _ (z1.trans z2) ((n.s.fz (z1.fz n.m)).fz f2) (fun b u hb => ?_) g
      by_cases n1 : b = a
      · subst n1
        rw [updM_same] at hb; cases hb
        refine ⟨dd, _, ne, .inr ?_, (RepOs.fz f2 _ rs).put (r1.fz f2) i⟩
        rcases SlX.slH_slt (H := H1) (a := b) (C := C kk) (dx := dd) (vs := SlX.putS i x xs) ne with ⟨w, _⟩ | w
        · unfold SlX.slH at w
          rw [upd_same] at w
          have w' : HO.ext _ = HO.ins (C kk) dd [] := Option.some.inj w
          cases w'
        · exact w
      · rw [updM_ne n1] at hb
        refine (m1 b u hb).same f2 (fun o' h' => ?_) fun y hy => ?_
        · have n2 : b ≠ dd := fun z => by
            rw [z] at hb
            rcases hdd with w' | w'
            · rw [m1.off w' (by intros; intro z; cases z) (by intros; intro z; cases z) (by intros; intro z; cases z) (by intros; intro z; cases z)] at hb; cases hb
            · rw [m1.off w' (by intros; intro z; cases z) (by intros; intro z; cases z) (by intros; intro z; cases z) (by intros; intro z; cases z)] at hb; cases hb
          rw [SlX.slH_ne n1 n2]; exact h'
        · have n3 : y ≠ a := fun z => by
            rw [z] at hy
            rcases ha with ⟨w, _⟩ | ⟨w, _⟩
            · rw [hy] at w; cases w
            · rw [hy] at w
              have w' : HO.own b = HO.ext _ := Option.some.inj w
              cases w'
          have n4 : y ≠ dd := fun z => by
            rw [z] at hy
            rcases hdd with w | w <;> rw [hy] at w
            · exact n1 (by cases w; rfl)
            · cases w
          rw [SlX.slH_ne n3 n4]; exact hy
    · exact g.elim
  · exact g.elim
/-- self.f = e, in the own dict -/
def putFD (f : Str) (d : D) : List (Str × D) → List (Str × D)
  | [] => [(f, d)]
  | (g, x) :: r => if g = f then (f, d) :: r else (g, x) :: putFD f d r
def dSetFld (cn : Nat) (f : Str) (tv to : TED) : TSD := fun ex E ρ M => tv ex ρ M fun d M1 => to ex ρ M1 fun o M2 => match o with
  | .adr a => (match M2 a with
    | some (.ins k fs) => (k = cn ∧ fs.length < 1000) ∧ E.nx ρ (updM M2 a (.ins k (putFD f d fs)))
    | _ => False)
  | _ => False
theorem RepF.put {H : Hp} {f : Str} {d : D} {v : V} (hd : Rep C H d v) : ∀ {fs : List (Str × D)} {kv : List (Str × V)}, RepF C H fs kv → RepF C H (putFD f d fs) (putF f v kv)
  | [], kv, ⟨ys, e, r⟩ => by
    have h2 : ys = [] := r
    subst h2 e
    exact ⟨[v], rfl, v, [], rfl, hd, rfl⟩
  | (g, x) :: fs, kv, ⟨ys, e, r⟩ => by
    obtain ⟨w, r', e', h1, h2⟩ := r
    subst e' e
    obtain ⟨zs, e3, r3⟩ := RepF.put (f := f) hd (fs := fs) ⟨r', rfl, h2⟩
    unfold putFD
    show RepF C H _ (if g = f then _ else _)
    by_cases hg : g = f
    · subst hg
      rw [if_pos rfl, if_pos rfl]
      exact ⟨v :: r', rfl, v, r', rfl, hd, h2⟩
    · rw [if_neg hg, if_neg hg]
      refine ⟨w :: zs, ?_, w, zs, rfl, h1, r3⟩
      exact congrArg (fun z => (g, w) :: z) e3
theorem pds_fld {f : Str} {cn : Nat} (T : FldF X.K (C cn) f) (ho : PD c o to) (hv : PD c v tv) (hs : swapsWith v (some (.Attribute o f pos')) pos.line X.env = pure false := by rfl) : PDS c (.Assign [.Attribute o f pos'] v pos) (dSetFld cn f tv to) := by
  refine PDS.mk (ps_fld ho hv hs) fun σ H ρ M E Ev n h k => two n h fun x y H1 dx dy M1 z1 r1 r2 m1 g => ?_
  split at g
  · next a =>
    split at g
    · next kk fs e1 =>
      obtain ⟨⟨rfl, hl⟩, g⟩ := g
      have e0 : y = .ref a := r2
      obtain ⟨dd, ys, ha, rs⟩ := m1 a _ e1
      have hys : ys.length = fs.length := by rw [← rs.length, List.length_map]
      refine ⟨a, C kk, dd, _, e0, ha, T.c, T.n, by rw [List.length_zip, List.length_map]; omega, ?_⟩
      obtain ⟨zs, e3, r3⟩ := RepF.put (f := f) r1 (fs := fs) ⟨ys, rfl, rs⟩
      rw [e3]
      have z2 : Stp H1 M1 (upd H1 a (.ins (C kk) dd (((putFD f dx fs).map (·.1)).zip zs))) (updM M1 a (.ins kk (putFD f dx fs))) := .write e1
      have f2 := z2.fz m1
      refine k.nx σ _ ρ _ (z1.trans z2) ((n.s.fz (z1.fz n.m)).fz f2) (fun b u hb => ?_) g
      by_cases n1 : b = a
      · subst n1
        rw [updM_same] at hb; cases hb
        exact ⟨dd, zs, upd_same, Reps.fz f2 _ r3⟩
      · rw [updM_ne n1] at hb
        exact (m1 b u hb).same f2 (fun o' h' => by rw [upd_ne n1]; exact h') fun y hy => by rw [upd_ne (fun z => by rw [z, ha] at hy; cases hy)]; exact hy
    · exact g.elim
  · exact g.elim
/-! ### a new instance -/
theorem run_mkS {D f : Addr} {fd : FuncData} {ps : List Str} {sp : Sp} {E : XK} {Q : VK} {us : List Value} {vs : List V} (T : Mk X.K D f) (F : FnOk X.prog X.w X.K X.mg X.base (L2.CX X.prog X.w) k f fd ps sp) (hr : Room (k + 1) X.A) (hb : Binds X.K fd ps []) (hx : PassesAt (L2.CX X.prog X.w) X σ E) (I : Inv X pins σ H s) (r : Vals vs us)
    (h : ∀ x dx, H x = none → H dx = none → dx ≠ x → sp (.ref x :: vs) (upd (upd H dx (.own x)) x (.ins D dx [])) (fun v H2 => v = .non ∧ Q (.ref x) H2) E) : wpAny (model X.prog X.w) X.A (call (.ref D) us) (EP X pins σ Q) X.xe s := by
  have q0 := h (s.heap.objs.size + 1) s.heap.objs.size (I.hok.fresh (Nat.le_succ _)) (I.hok.fresh (Nat.le_refl _)) (Nat.ne_of_lt (Nat.lt_succ_self _))
  have J := Inv.made (C := D) I
  have rv : Vals (V.ref (s.heap.objs.size + 1) :: vs) (Value.ref (s.heap.objs.size + 1) :: us) := .cons rfl r
  have hl : (Value.ref (s.heap.objs.size + 1) :: us).length = ps.length := by rw [← rv.length]; exact F.len _ _ _ _ q0
  have b := hb _ (Value.ref (s.heap.objs.size + 1) :: us) J.kIn (by rw [List.append_nil]; exact hl)
  rw [List.append_nil] at b
  refine wpAny_call (make_map (f := f) I.kIn T.makes T.init (beq_iff_eq.mp T.fn) (codeAny_mono (F.run _ X.stack _ _ ⟨Value.ref (s.heap.objs.size + 1) :: us, []⟩ _ _ _ E (hr.make D us []) (J.env0.make D us []) b rv q0) fun r s' hq => ?_))
  cases r with
  | error e => exact hx pins _ _ e s' J hq
  | ok fl =>
    cases fl with
    | ret u =>
      obtain ⟨v, H', I3, rv, ev, q3⟩ := J.after hq
      subst ev
      exact ⟨rv, ⟨V.ref (s.heap.objs.size + 1), H', I3, rfl, q3⟩⟩
    | next => exact hq.elim
    | brk => exact hq.elim
    | cont => exact hq.elim
/-- freezing an instance with fields -/
theorem frozenI {a dx D : Addr} {kv : List (Str × V)} (I : Inv X pins σ H s) (h : H a = some (.ins D dx kv)) : H dx = some (.own a) ∧ dx ≠ a ∧ ∃ oa, Inv X pins σ (upd (upd H dx (.xd kv)) a (.frz oa (SlX.SlO a D dx []))) s := by
  obtain ⟨hd, hl, ne, hg, mA, hn, hr, hw⟩ := I.hok a _ h
  refine ⟨hd, ne, PySem.W.instObj D dx, I.un (h' := s.heap) (t' := s.toks) ⟨fun b ob q _ _ _ => q, fun b ob q _ _ _ => ⟨ob.slots, q⟩, fun b ob q nb _ => ?_, fun b ob q _ => ⟨ob, q⟩, fun b xs q => ?_, fun b ob x q => ?_, fun b ps q => ⟨#[], ?_⟩⟩ fun b x q => ?_⟩
  · rw [upd_ne (fun z => by rw [z, h] at nb; cases nb), upd_ne (fun z => by rw [z, hd] at nb; cases nb)]; exact nb
  · rw [upd_ne (fun z => by rw [z, h] at q; cases q), upd_ne (fun z => by rw [z, hd] at q; cases q)]; exact q
  · rw [upd_ne (fun z => by rw [z, h] at q; cases q), upd_ne (fun z => by rw [z, hd] at q; cases q)]; exact q
  · rw [upd_ne (fun z => by rw [z, h] at q; cases q), upd_ne (fun z => by rw [z, hd] at q; cases q), q]; simp
  · by_cases hb : b = a
    · subst hb
      rw [upd_same] at q
      cases q
      exact ⟨hg, ⟨⟨#[], hg, SlX.SlR.nil _⟩, ⟨_, hg⟩, fun h1 h2 ⟨sl, e1, e2⟩ k => ⟨sl, k _ e1, e2⟩⟩⟩
    · rw [upd_ne hb] at q
      by_cases hb2 : b = dx
      · subst hb2
        rw [upd_same] at q
        cases q
        exact ⟨mA, hn, hr⟩
      · rw [upd_ne hb2] at q
        refine (I.hok b x q).stay (fun _ _ _ q => q) (fun y hy => ?_) fun y xs hy => ?_
        · rw [upd_ne (fun z => by rw [z, h] at hy; cases hy), upd_ne (fun z => by rw [z, hd] at hy; cases hy; exact hb rfl)]; exact hy
        · rw [upd_ne (fun z => by rw [z, h] at hy; cases hy), upd_ne (fun z => by rw [z, hd] at hy; cases hy)]; exact hy
/-- .. over data -/
theorem fin_ins {a dx kk : Nat} {kv : List (Str × V)} {u : MO} {ks : List Str} {ws : List D} {ys : List V} {Qd : D → MM → Prop} {Q : VK} (I : Inv X pins σ H s) (m : RM C H M) (k : KE C H M Qd Q) (e1 : M a = some u) (h1 : H a = some (.ins (C kk) dx kv)) (ek : kv = ks.zip ys) (el : ks.length = ws.length) (ry : Reps C H ws ys)
    (q : Qd (.ins kk [] ks ws) (delM M a)) : EP X pins σ Q (.ref a) s := by
  obtain ⟨h2, ne, oa, I2⟩ := frozenI I h1
  have z : Stp H M (upd (upd H dx (.xd kv)) a (.frz oa (SlX.SlO a (C kk) dx []))) (delM M a) := ⟨fun b u hb hm w => by
    have n1 : b ≠ a := fun z => by rw [z, e1] at hm; cases hm
    have n2 : b ≠ dx := fun z => by rw [z, h2] at hb; exact w _ (Option.some.inj hb).symm
    exact ⟨by rw [upd_ne n1, upd_ne n2]; exact hb, by unfold delM; rw [if_neg n1]; exact hm⟩⟩
  have f := z.fz m
  refine ⟨.ref a, _, I2, rfl, k _ _ (.ins kk [] ks ws) _ z ⟨a, dx, oa, [], ys, rfl, ne, upd_same, by rw [upd_ne ne, upd_same, ek], el, rfl, Reps.fz f _ ry⟩ (fun b u hb => ?_) q⟩
  unfold delM at hb
  by_cases n1 : b = a
  · rw [if_pos n1] at hb; cases hb
  · rw [if_neg n1] at hb
    have n2 : b ≠ dx := fun z => by rw [z, m.off h2 (by intros; intro z; cases z) (by intros; intro z; cases z) (by intros; intro z; cases z) (by intros; intro z; cases z)] at hb; cases hb
    refine (m b u hb).same f (fun o' h' => by rw [upd_ne n1, upd_ne n2]; exact h') fun y hy => ?_
    rw [upd_ne (fun z => by rw [z, h1] at hy; cases hy), upd_ne (fun z => by rw [z, h2] at hy; cases hy; exact n1 rfl)]; exact hy
/-- the end of a making: frozen | held -/
def finF (Q : D → MM → Prop) (x : Addr) (M : MM) : Prop := match M x with
  | some (.sl k vs) => ∃ ws, vs = ws.map some ∧ Q (.ins k ws [] []) (delM M x)
  | some (.ins k fs) => Q (.ins k [] (fs.map (·.1)) (fs.map (·.2))) (delM M x)
  | _ => False
def finM (Q : D → MM → Prop) (x : Addr) (M : MM) : Prop := Q (.adr x) M
theorem RepOs.all {H : Hp} : ∀ {ws : List D} {xs : List (Option V)}, RepOs C H (ws.map some) xs → ∃ ys, xs = ys.map some ∧ Reps C H ws ys
  | [], _, h => ⟨[], by rw [show _ = [] from h]; rfl, rfl⟩
  | d :: l, _, ⟨v, r, e, h1, h2⟩ => by
    obtain ⟨ys, e2, h3⟩ := RepOs.all h2
    exact ⟨v :: ys, by rw [e, e2]; rfl, v, ys, rfl, h1, h3⟩
theorem fin_frz {x : Addr} {Qd : D → MM → Prop} {Q : VK} (I : Inv X pins σ H s) (m : RM C H M) (k : KE C H M Qd Q) (h : finF Qd x M) : EP X pins σ Q (.ref x) s := by
  unfold finF at h
  split at h
  · next kk vs e1 =>
    obtain ⟨ws, e2, q⟩ := h
    obtain ⟨dx, xs, ne, ha, rs⟩ := m x _ e1
    rw [e2] at rs
    obtain ⟨ys, e3, ry⟩ := rs.all
    subst e3
    rcases ha with ⟨h1, h2, h3⟩ | ⟨h1, h2⟩
    · have hys : ys = [] := by cases ys with | nil => rfl | cons _ _ => cases h3
      subst hys
      have hws : ws = [] := by cases ws with | nil => rfl | cons _ _ => obtain ⟨_, _, z, _⟩ := ry; cases z
      subst hws
      exact fin_ins (ks := []) (ws := []) (ys := []) I m k e1 h1 rfl rfl rfl q
    · obtain ⟨oa, I2⟩ := frozen I h1 (fun _ z => by cases z) (fun _ _ z => by cases z) (fun _ z => by cases z) (fun _ z => by cases z)
      have z : Stp H M (upd H x (.frz oa (SlX.SlO x (C kk) dx (ys.map some)))) (delM M x) := .del e1
      have f := z.fz m
      refine ⟨.ref x, _, I2, rfl, k _ _ (.ins kk ws [] []) _ z ⟨x, dx, oa, ys, [], rfl, ne, upd_same, by rw [upd_ne ne]; exact h2, rfl, Reps.fz f _ ry, rfl⟩ (fun b u hb => ?_) q⟩
      unfold delM at hb
      by_cases n1 : b = x
      · rw [if_pos n1] at hb; cases hb
      · rw [if_neg n1] at hb
        refine (m b u hb).same f (fun o' h' => by rw [upd_ne n1]; exact h') fun y hy => ?_
        rw [upd_ne (fun z => by rw [z, h1] at hy; have w' : HO.own b = HO.ext _ := (Option.some.inj hy).symm; cases w')]; exact hy
  · next kk fs e1 =>
    obtain ⟨dx, ys, ha, rs⟩ := m x _ e1
    exact fin_ins I m k e1 ha rfl (by rw [List.length_map, List.length_map]) rs h
  · exact h.elim
theorem fin_held {x : Addr} {Qd : D → MM → Prop} {Q : VK} (I : Inv X pins σ H s) (m : RM C H M) (k : KE C H M Qd Q) (h : finM Qd x M) : EP X pins σ Q (.ref x) s := ⟨.ref x, H, I, rfl, k _ H (.adr x) M .refl rfl m h⟩
/-- a class of the module that is called -/
structure NewF (P : Program) (w : World) (K : PySem.W.Frag) (mg : Str → Option Value) (base : Heap) (C : CAd) (cn : Nat) (x : Str) (k : Nat) (ps : List Str) (sp : SpD) : Prop where
  ex : ∃ f fd, FnOk P w K mg base (L2.CX P w) k f fd ps (toSp C sp) ∧ Mk K (C cn) f ∧ Binds K fd ps []
  g : mg x = some (.ref (C cn))
def mk0 (slot : Bool) (cn : Nat) : MO := match slot with
  | true => .sl cn []
  | false => .ins cn []
def finK (frz : Bool) (Q : D → MM → Prop) (x : Addr) (M : MM) : Prop := match frz with
  | true => finF Q x M
  | false => finM Q x M
def dMake (slot frz : Bool) (cn : Nat) (sp : SpD) (tl : TAD) : TED := fun ex ρ M Q => tl ex ρ M fun ds M1 => ∀ x, M1 x = none → sp (.adr x :: ds) (updM M1 x (mk0 slot cn)) (fun d M2 => d = .non ∧ finK frz Q x M2) fun e M2 => ∃ M3, Sub M3 M2 ∧ ex e ρ M3
theorem make_rep {dx x D : Addr} {cn : Nat} (slot : Bool) (e : D = C cn) (n1 : H x = none) (n2 : H dx = none) (ne : dx ≠ x) (m : RM C H M) : RM C (upd (upd H dx (.own x)) x (.ins D dx [])) (updM M x (mk0 slot cn)) ∧ Stp H M (upd (upd H dx (.own x)) x (.ins D dx [])) (updM M x (mk0 slot cn)) := by
  subst e
  have sm : Sm H (upd (upd H dx (.own x)) x (.ins (C cn) dx [])) := fun b u hb => by rw [upd_ne (ne_of_none hb n1), upd_ne (ne_of_none hb n2)]; exact hb
  refine ⟨fun b u hb => ?_, ⟨fun b u hb hm _ => ⟨sm b u hb, by rw [updM_ne (ne_of_none hb n1)]; exact hm⟩⟩⟩
  by_cases hbx : b = x
  · subst hbx
    rw [updM_same] at hb
    cases hb
    cases slot with
    | true => exact ⟨dx, [], ne, .inl ⟨upd_same, by rw [upd_ne ne, upd_same], rfl⟩, rfl⟩
    | false => exact ⟨dx, [], upd_same, rfl⟩
  · rw [updM_ne hbx] at hb
    exact (m b u hb).same sm.fz (sm b) fun q => sm q _
theorem pd_make {x : Str} {cn : Nat} {ps : List Str} {sp : SpD} (slot frz : Bool) (T : NewF X.prog X.w X.K X.mg X.base C cn x k ps sp) (hr : Room (k + 1) X.A) (hg : Gl X x) (ha : PDA c (e :: es) tl) (hdb : (x == ("__debug__" : Str)) = false := by decide)
    (he : starEach (e :: es) X.env = (false, eval e X.env) :: starEach es X.env := by rfl) (hpl : (backTo pos (starEach es X.env)).any (·.1) = false := by rfl) : PD c (.Call (.Name x p) (e :: es) [] pos) (dMake slot frz cn sp tl) := by
  obtain ⟨f, fd, F, Tm, hb⟩ := T.ex
  refine ⟨fun pins s σ H Q I ⟨ρ, M, Qd, n, h, kE⟩ => ?_⟩
  refine wpAny_Call_Name_kw (ld_glob I hg T.g ?_ hdb)
  refine PySem.W.callWith_K (h₀ := X.base) I.ok.mod.kin Tm.kp (thn (ha.run pos pins s σ H (fun vs H1 => ∃ ds M1, Stp H M H1 M1 ∧ Reps C H1 ds vs ∧ RM C H1 M1 ∧ ∀ x, M1 x = none → sp (.adr x :: ds) (updM M1 x (mk0 slot cn)) (fun d M2 => d = .non ∧ finK frz Qd x M2) fun e M2 => ∃ M3, Sub M3 M2 ∧ c.ED e ρ M3) I
    ⟨ρ, M, _, n, h, fun vs H1 ds M1 z r m g => ⟨ds, M1, z, r, m, g⟩⟩) fun us s1 ⟨vs, H1, I1, rv, ds, M1, z1, rs, m1, g⟩ => ⟨I1.kIn, ?_⟩) he hpl
  refine thn (run_mkS (Q := fun v H2 => ∃ x M2, v = .ref x ∧ Stp H1 M1 H2 (M2 : MM) ∧ RM C H2 M2 ∧ finK frz Qd x M2) Tm F hr hb (passAt c.tk σ) I1 rv fun x dx n1 n2 ne => ?_) fun u s2 ⟨v, H2, I2, r2, y, M2, ey, z2, m2, q2⟩ => ?_
  · obtain ⟨m3, z3⟩ := make_rep (cn := cn) slot rfl n1 n2 ne m1
    refine ⟨.adr x :: ds, updM M1 x (mk0 slot cn), fun d M' => d = .non ∧ finK frz Qd x M', fun e M2 => ∃ M3, Sub M3 M2 ∧ c.ED e ρ M3, ⟨.ref x, vs, rfl, rfl, Reps.fz (z3.fz m1) _ rs⟩, m3, g x (m1.fresh n1), fun v H' d M' z r m q => ?_, fun cls d H' e M' z re m ⟨M3, sb, q⟩ => ?_⟩
    · obtain ⟨rfl, q⟩ := q
      have e0 : v = .non := r
      exact ⟨e0, x, M', rfl, z3.trans z, m, q⟩
    · exact c.br cls d σ H' e ρ M3 (((n.st.trans z1).trans (z3.trans z)).sub sb) ((n.s.fz (z1.fz n.m)).fz ((z3.trans z).fz m1)) (m.sub sb) re q
  · subst ey
    obtain rfl : u = Value.ref y := r2
    cases frz with
    | true => exact fin_frz I2 m2 ((kE.step z1).step z2) q2
    | false => exact fin_held I2 m2 ((kE.step z1).step z2) q2
end
end DD

/-! Class methods; lists changed; comprehensions; isinstance; suites. -/
namespace DD
open PySem PySem.Spec PyProof.Rows L2
section
variable {C : CAd} {X : Cx} {c : DC C X} {pins : List (Addr × Obj)} {σ : L2.St} {H : Hp} {s : Shared} {M : MM}
variable {pos pos' p : Pos} {a b e o i v : Expr} {es : List Expr} {ta tb te to tv ti : TED} {tl : TAD} {k : Nat}
/-! ### C.m(..), m a classmethod; f(..), f a local name that is a class -/
structure CMetF (P : Program) (w : World) (K : PySem.W.Frag) (mg : Str → Option Value) (base : Heap) (C : CAd) (cn : Nat) (m : Str) (k : Nat) (sp : SpD) : Prop where
  ex : ∃ g q mc, FnA P w K mg base C k g sp ∧ ClX.CRead K (C cn) mc ∧ ClX.CMet K (C cn) mc m q g
def dCMeth (C : CAd) (cn : Nat) (sp : SpD) (te : TED) (tl : TAD) : TED := fun ex ρ M Q => te ex ρ M fun d M1 => d = .adr (C cn) ∧ tl ex ρ M1 fun ds M2 => sp (d :: ds) M2 Q fun x M3 => ex x ρ M3
theorem pd_cmeth {m : Str} {apos : Pos} {cn : Nat} {sp : SpD} {pl : Sem Bool} (T : CMetF X.prog X.w X.K X.mg X.base C cn m k sp) (hr : Room k X.A) (ho : PD c o te) (ha : PDA c (e :: es) tl)
    (hst : starEach (e :: es) X.env = (false, eval e X.env) :: starEach es X.env := by rfl) (hpl : (backTo pos (starEach es X.env)).any (·.1) = false := by rfl)
    (ht : eval (.Call (.Attribute o m apos) (e :: es) [] pos) X.env = (do
      let ov ← eval o X.env
      standAt apos.atName
      let (f, first) ← holding [ov] (getMethod ov m pl)
      callWith pos f first (backTo pos (starEach (e :: es) X.env)) (backToKw pos (keywordEach [] X.env))) := by rfl) :
    PD c (.Call (.Attribute o m apos) (e :: es) [] pos) (dCMeth C cn sp te tl) := by
  obtain ⟨g, q, mc, F, r, t⟩ := T.ex
  refine ⟨fun pins s σ H Q I ⟨ρ, M, Qd, n, h, kE⟩ => ?_⟩
  refine PySem.W.methodCall_KW (pl := pl) (thn (ho.run pins s σ H (fun v H1 => ∃ d M1, Stp H M H1 M1 ∧ Rep C H1 d v ∧ RM C H1 M1 ∧ d = .adr (C cn) ∧ tl c.ED ρ M1 fun ds M2 => sp (d :: ds) M2 Qd fun x M3 => c.ED x ρ M3) I
    ⟨ρ, M, _, n, h, fun v H1 d M1 z r m g => ⟨d, M1, z, r, m, g⟩⟩) fun u s1 ⟨v, H1, I1, rv, d, M1, z, rd, rm, g1, g2⟩ => ?_) ht
  subst g1
  have e0 : v = .ref (C cn) := rd
  subst e0
  obtain rfl : u = Value.ref (C cn) := rv
  refine ClX.getmethcm_ok I1 r t fun s2 I2 => ?_
  have n1 := n.step z rm
  refine ClX.callwith_cm I2 (ClX.base_none I1 (Nat.le_refl _)) t.fi (thn (ha.run pos _ s2 σ H1 (fun ws H2 => ∃ ds M2, Stp H1 M1 H2 M2 ∧ Reps C H2 ds ws ∧ RM C H2 M2 ∧ sp (.adr (C cn) :: ds) M2 Qd fun x M3 => c.ED x ρ M3) I2
    ⟨ρ, M1, _, n1, g2, fun ws H2 ds M2 z2 r2 m2 q2 => ⟨ds, M2, z2, r2, m2, q2⟩⟩) fun us s3 ⟨ws, H2, I3, rw', ds, M2, z2, r2, m2, q2⟩ => ⟨⟨ClX.pin_at I3, I3.kIn⟩, ?_⟩) hst hpl
  refine thn (wpAny_call (PySem.W.method_call (ClX.pin_at I3) (run_fnA (us := .ref (C cn) :: us) (vs := .ref (C cn) :: ws) F hr (passAt c.tk σ) I3 (.cons rfl rw') (toSp_of (ds := .adr (C cn) :: ds) (n1.step z2 m2) ⟨.ref (C cn), ws, rfl, rfl, r2⟩ q2 ((kE.step z).step z2))))) fun _ _ y => ClX.unpinE y
/-- cls(..), cls a local name that holds the class -/
def dMakeL (C : CAd) (slot frz : Bool) (cn i : Nat) (sp : SpD) (tl : TAD) : TED := fun ex ρ M Q => nth ρ i = some (.adr (C cn)) ∧ dMake slot frz cn sp tl ex ρ M Q
/-! ### lists that change -/
def dSetIx (tv to ti : TED) : TSD := fun ex E ρ M => tv ex ρ M fun d M1 => to ex ρ M1 fun o M2 => ti ex ρ M2 fun i M3 => match o, i with
  | .adr a, .int j => (match M3 a with
    | some (.lst l) => (match ixN l.length j with
      | some k => E.nx ρ (updM M3 a (.lst (l.set k d)))
      | none => False)
    | _ => False)
  | _, _ => False
theorem pds_setIx (ho : PD c o to) (hi : PD c i ti) (hv : PD c v tv) (ha : ∀ v, assign (.Subscript o i pos') X.env v = (do
      let ov ← holding [v] (eval o X.env)
      let iv ← holding [v, ov] (eval i X.env)
      standAt pos'
      holding [v, ov, iv] (setItem ov iv v)
      release [v, ov, iv] []) := by intro _; rfl) (hs : swapsWithSole [.Subscript o i pos'] v pos.line X.env = pure false := by rfl) (hw : swappedStores [.Subscript o i pos'] v X.env = pure none := by rfl)
    (h1 : (assignEach [.Subscript o i pos'] X.env).map (·.2) = [assign (.Subscript o i pos') X.env] := by rfl) : PDS c (.Assign [.Subscript o i pos'] v pos) (dSetIx tv to ti) :=
  PDS.mk (ps_asg hv (pg_sub ho hi set_list ha) hs hw h1) fun σ H ρ M E Ev n h k => ⟨ρ, M, _, n, h, fun x H1 d M1 z1 r1 m1 g1 => ⟨ρ, M1, _, n.step z1 m1, g1, fun y H2 o M2 z2 r2 m2 g2 => ⟨ρ, M2, _, (n.step z1 m1).step z2 m2, g2, fun w H3 j M3 z3 r3 m3 g3 => by
    split at g3
    · next a jj =>
      split at g3
      · next l e1 =>
        split at g3
        · next kk e2 =>
          obtain ⟨vs, hv, rs⟩ := m3 a _ e1
          have e3 : y = .ref a := r2
          refine ⟨a, vs, jj, kk, e3, r3, hv, by rw [← rs.length]; exact e2, ?_⟩
          have z4 : Stp H3 M3 (upd H3 a (.lst (vs.set kk x))) (updM M3 a (.lst (l.set kk d))) := .write e1
          have rd := (r1.fz (z2.fz m1)).fz (z3.fz m2)
          have zz := (z1.trans z2).trans (z3.trans z4)
          exact k.nx σ _ ρ _ zz (n.s.fz (zz.fz n.m)) (m3.wr e1 (rs.set rd kk)) g3
        · exact g3.elim
      · exact g3.elim
    · exact g3.elim⟩⟩⟩
/-- a method of a built-in type, by values -/
abbrev RMD := D → List D → MM → (D → MM → Prop) → Prop
def tyD (T : String) (d : D) (M : MM) : Prop := match d with
  | .str _ => T = "str"
  | d => T = "list" ∧ (isL d M).isSome = true
theorem tyD_ok {T : String} {d : D} {v : V} (m : RM C H M) (r : Rep C H d v) (h : tyD T d M) : tyV X.K T v H := by
  unfold tyD at h
  split at h
  · cases r; exact h
  · obtain ⟨rfl, h⟩ := h
    obtain ⟨l, e⟩ := Option.isSome_iff_exists.mp h
    obtain ⟨a, vs, rfl, hs, _⟩ := isL_sq X.K m r e
    exact .inl ⟨rfl, vs, hs⟩
def MtD (C : CAd) (X : Cx) (id : String) (rd : RMD) : Prop := ∃ r, MtR X id r ∧ ∀ H M x dx vs ds Qd Q, Rep C H dx x → Reps C H ds vs → RM C H M → rd dx ds M Qd → KE C H M Qd Q → r x vs H (orF Q)
def dBm (T : String) (rd : RMD) (te : TED) (tl : TAD) : TED := fun ex ρ M Q => te ex ρ M fun d M1 => tyD T d M1 ∧ tl ex ρ M1 fun ds M2 => rd d ds M2 Q
theorem pd_bm {T id : String} {name : Str} {rd : RMD} {apos : Pos} (hm : MtD C X id rd) (pa : PlainAttrs T) (slot : Slot T name id) (hty : typeOf (.builtin id) = pure (.type "method_descriptor")) (ho : PD c o to) (ha : PDA c (e :: es) tl)
    (hbase : attributeBase o name X.env (eval o X.env) = eval o X.env := by rfl)
    (hfew : ((backTo pos (starEach (e :: es) X.env)).all (fun x => !x.1) && (backToKw pos (keywordEach [] X.env)).all (fun x => x.1.isSome)
      && decide ((e :: es).length + ([] : List Keyword).length + (if ([] : List Keyword).isEmpty then 0 else 1) < 30)) = true := by rfl)
    (hline : (apos.endLine == pos.line) = true := by rfl) (hs : starEach (e :: es) X.env = (false, eval e X.env) :: starEach es X.env := by rfl) (hplain : (backTo pos (starEach es X.env)).any (·.1) = false := by rfl) :
    PD c (.Call (.Attribute o name apos) (e :: es) [] pos) (dBm T rd to tl) := by
  obtain ⟨r, h1, h2⟩ := hm
  exact PD.mk (pe_orF (pe_bm pa slot hty h1 ho ha hbase hfew hline hs hplain)) fun σ H ρ M Qd Q n h k => ⟨ρ, M, _, n, h, fun x H1 d M1 z1 r1 m1 ⟨g1, g2⟩ => ⟨tyD_ok m1 r1 g1, ρ, M1, _, n.step z1 m1, g2, fun vs H2 ds M2 z2 r2 m2 g3 =>
    h2 H2 M2 x d vs ds Qd Q (r1.fz (z2.fz m1)) r2 m2 g3 ((k.step z1).step z2)⟩⟩
theorem pd_bm0 {T id : String} {name : Str} {rd : RMD} {apos : Pos} (hm : MtD C X id rd) (pa : PlainAttrs T) (slot : Slot T name id) (hty : typeOf (.builtin id) = pure (.type "method_descriptor")) (ho : PD c o to)
    (hbase : attributeBase o name X.env (eval o X.env) = eval o X.env := by rfl) (hline : (apos.endLine == pos.line) = true := by rfl) : PD c (.Call (.Attribute o name apos) [] [] pos) (dBm T rd to dNil) := by
  obtain ⟨r, h1, h2⟩ := hm
  exact PD.mk (pe_orF (pe_bm0 pa slot hty h1 ho hbase hline)) fun σ H ρ M Qd Q n h k => ⟨ρ, M, _, n, h, fun x H1 d M1 z1 r1 m1 ⟨g1, g2⟩ => ⟨tyD_ok m1 r1 g1, h2 H1 M1 x d [] [] Qd Q r1 rfl m1 g2 (k.step z1)⟩⟩
/-- what stands at a list that may change -/
def atM (d : D) (M : MM) (k : Addr → List D → Prop) : Prop := match d with
  | .adr a => (match M a with
    | some (.lst l) => k a l
    | _ => False)
  | _ => False
theorem atM_ok {d : D} {v : V} {k : Addr → List D → Prop} (m : RM C H M) (r : Rep C H d v) (h : atM d M k) : ∃ a l vs, v = .ref a ∧ M a = some (.lst l) ∧ H a = some (.lst vs) ∧ Reps C H l vs ∧ k a l := by
  unfold atM at h
  split at h
  · next a =>
    split at h
    · next l e =>
      obtain ⟨vs, hv, rs⟩ := m a _ e
      exact ⟨a, l, vs, r, e, hv, rs, h⟩
    · exact h.elim
  · exact h.elim
theorem Reps.mk1 {d : D} {v : V} (h : Rep C H d v) : Reps C H [d] [v] := ⟨v, [], rfl, h, rfl⟩
def dAppend : RMD := fun d ds M Q => match ds with
  | [x] => atM d M fun a l => l.length < 1000000 ∧ Q .non (updM M a (.lst (l ++ [x])))
  | _ => False
theorem lt6 {n : Nat} (h : n < 1000000) : n < sizeLine := by rw [sizeLine_eq]; omega
theorem md_append : MtD C X "list.append" dAppend := ⟨_, mt_append, fun H M x dx vs ds Qd Q rx rs m g k => by
  unfold dAppend at g
  split at g
  · obtain ⟨v, rfl, rv⟩ := rs.one
    obtain ⟨a, l, ws, rfl, e1, hv, rl, g1, g2⟩ := atM_ok m rx g
    exact ⟨a, ws, v, rfl, rfl, hv, by rw [← rl.length]; exact lt6 g1, .inl (k.wr m e1 (rl.append (Reps.mk1 rv)) (d := .non) (fun _ _ => rfl) g2)⟩
  · exact g.elim⟩
def dInsert : RMD := fun d ds M Q => match ds with
  | [.int i, x] => atM d M fun a l => (l.length < 1000000 ∧ 0 ≤ i ∧ i < 1000000) ∧ Q .non (updM M a (.lst (l.take i.toNat ++ [x] ++ l.drop i.toNat)))
  | _ => False
theorem md_insert : MtD C X "list.insert" dInsert := ⟨_, mt_insert, fun H M x dx vs ds Qd Q rx rs m g k => by
  unfold dInsert at g
  split at g
  · next i y =>
    obtain ⟨v, v', rfl, r1, r2⟩ := rs.two
    obtain ⟨a, l, ws, rfl, e1, hv, rl, ⟨g1, g2, g3⟩, g4⟩ := atM_ok m rx g
    have e2 : v = .int i := r1
    refine ⟨a, ws, i, v', rfl, by rw [e2], hv, by rw [← rl.length]; exact lt6 g1, g2, by omega, .inl (k.wr m e1 (((rl.take _).append (Reps.mk1 r2)).append (rl.drop _)) (d := .non) (fun _ _ => rfl) g4)⟩
  · exact g.elim⟩
def dPop0 : RMD := fun d ds M Q => match ds with
  | [] => atM d M fun a l => match l[l.length - 1]? with
    | some x => Q x (updM M a (.lst l.dropLast))
    | none => False
  | _ => False
theorem Reps.dropLast : ∀ {l : List D} {vs : List V}, Reps C H l vs → Reps C H l.dropLast vs.dropLast := fun {l vs} r => by
  rw [List.dropLast_eq_take, List.dropLast_eq_take, ← r.length]
  exact r.take _
theorem md_pop0 : MtD C X "list.pop" dPop0 := ⟨_, mt_pop, fun H M x dx vs ds Qd Q rx rs m g k => by
  unfold dPop0 at g
  split at g
  · obtain ⟨a, l, ws, rfl, e1, hv, rl, g⟩ := atM_ok m rx g
    split at g
    · next y e2 =>
      obtain ⟨v, hv2, rv⟩ := rl.get e2
      have e3 : vs = [] := rs
      exact ⟨a, ws, v, rfl, e3, hv, by rw [← rl.length]; exact hv2, .inl (k.wr m e1 rl.dropLast (fun _ f => rv.fz f) g)⟩
    · exact g.elim
  · exact g.elim⟩
/-! ### a text, walked -/
def dSigns (te : TED) : TID := fun ex ρ M Q => te ex ρ M fun d M1 => match d with
  | .str x => Q (x.cps.toList.map fun c => .str ⟨#[c]⟩) M1
  | _ => False
theorem pdi_str {tg : Expr} (he : PD c e te) : PDI c tg e (dSigns te) :=
  PDI.mk (pi_str he) fun σ H ρ M Qd R n h k => ⟨ρ, M, _, n, h, fun v H1 d M1 z r m g => by
    cases d with
    | str x =>
      refine ⟨x, r, k _ H1 _ M1 z m (fun i H2 f => ⟨fun d hd => ?_, fun hl => ?_⟩) g⟩
      · rw [List.getElem?_map] at hd
        cases q : x.cps.toList[i]? with
        | none => rw [q] at hd; cases hd
        | some cc =>
          rw [q] at hd
          cases hd
          have hi : i < x.cps.size := by
            obtain ⟨h1, _⟩ := List.getElem?_eq_some_iff.mp q
            simpa using h1
          refine ⟨hi, fun y H' ⟨e1, c2, e2, e3⟩ => ?_⟩
          subst e1
          have q' : x.cps[i]? = some cc := by rw [← Array.getElem?_toList]; exact q
          rw [q'] at e2
          cases e2
          exact ⟨fun _ _ h => h, e3⟩
      · have z : x.cps.size ≤ i := by simpa using hl
        exact z
    | _ => exact g.elim⟩
/-! ### x in a list | a tuple of plain things -/
def flD : D → Bool
  | .non => true
  | .bl _ => true
  | .int _ => true
  | .str _ => true
  | _ => false
def eqFl : D → D → Bool
  | .non, .non => true
  | .bl a, .bl b => a == b
  | .bl a, .int b => (if a then 1 else 0) == b
  | .int a, .bl b => a == (if b then 1 else 0)
  | .int a, .int b => a == b
  | .str a, .str b => a == b
  | _, _ => false
theorem flD_v {d : D} {v : V} (r : Rep C H d v) (h : flD d = true) : flatV v = true := by
  cases d <;> first | (cases h; done) | (cases r; rfl)
theorem eqFl_v {x y : D} {v u : V} (r : Rep C H x v) (r' : Rep C H y u) (h : flD x = true) (h' : flD y = true) : eqV v u = eqFl x y := by
  cases x <;> first | (cases h; done) | (cases y <;> first | (cases h'; done) | (cases r; cases r'; rfl))
def dInFl (neg : Bool) : R2D := fun x y M Q => match seqD y M with
  | some l => (flD x = true ∧ l.all flD = true) ∧ Q (.bl (if neg then !(l.any fun z => eqFl z x) else l.any fun z => eqFl z x)) M
  | none => False
theorem any_fl {x : D} {v : V} (r : Rep C H x v) (h : flD x = true) : ∀ {l : List D} {vs : List V}, Reps C H l vs → l.all flD = true → vs.all flatV = true ∧ inV v vs = l.any fun z => eqFl z x
  | [], _, e, _ => by rw [show _ = [] from e]; exact ⟨rfl, rfl⟩
  | d :: l, _, ⟨w, ws, e, h1, h2⟩, ha => by
    subst e
    rw [List.all_cons, Bool.and_eq_true] at ha
    obtain ⟨i1, i2⟩ := any_fl r h h2 ha.2
    refine ⟨by rw [List.all_cons, i1, flD_v h1 ha.1]; rfl, ?_⟩
    show (eqV w v || inV v ws) = _
    rw [i2, eqFl_v h1 r ha.1 h, List.any_cons]
theorem opd_inFl : OpD C X (compareOp .In) (dInFl false) := .of _ op_in_seq fun H M x y dx dy Qd Q rx ry m g k => by
  unfold dInFl at g
  split at g
  · next l e =>
    obtain ⟨⟨g1, g2⟩, g3⟩ := g
    obtain ⟨a, vs, rfl, hs, rs⟩ := seqD_sq X.K m ry e
    obtain ⟨h1, h2⟩ := any_fl rx g1 rs g2
    refine ⟨a, vs, rfl, hs, flD_v rx g1, h1, ?_⟩
    rw [h2]
    exact k.now (d := .bl _) m rfl g3
  · exact g.elim
theorem opd_notInFl : OpD C X (compareOp .NotIn) (dInFl true) := .of _ op_notIn_seq fun H M x y dx dy Qd Q rx ry m g k => by
  unfold dInFl at g
  split at g
  · next l e =>
    obtain ⟨⟨g1, g2⟩, g3⟩ := g
    obtain ⟨a, vs, rfl, hs, rs⟩ := seqD_sq X.K m ry e
    obtain ⟨h1, h2⟩ := any_fl rx g1 rs g2
    refine ⟨a, vs, rfl, hs, flD_v rx g1, h1, ?_⟩
    rw [h2]
    exact k.now (d := .bl _) m rfl g3
  · exact g.elim
/-! ### comprehensions -/
def wipeR (ρ : Rho) : List Nat → Rho
  | [] => ρ
  | v :: vs => put (wipeR ρ vs) v none
theorem RepS.wipe {ρ : Rho} (h : RepS C H σ ρ) : ∀ vs : List Nat, RepS C H (L2.wipe σ vs) (wipeR ρ vs)
  | [] => h
  | v :: vs => (RepS.wipe h vs).unset v
def lcD (g : TGD) (tt : TTD) (te : TED) (ρ : Rho) (K : List D → MM → Prop) : List D → List D → MM → Prop
  | [], acc => K acc
  | d :: ds, acc => fun M => g d ρ M fun ρ1 M1 => tt noX ρ1 M1 fun b M2 => match b with
    | true => te noX ρ1 M2 fun y M3 => lcD g tt te ρ K ds (acc ++ [y]) M3
    | false => lcD g tt te ρ K ds acc M2
def dLc (ti : TID) (g : TGD) (tt : TTD) (te : TED) (own : List Nat) : TED := fun ex ρ M Q => ti ex ρ M fun ds M1 => ds.length ≤ 1000000 ∧ lcD g tt te (wipeR ρ own) (fun out M2 => Q (.lst out) M2) ds [] M1
/-- the context of a comprehension's block -/
def DC.blk (c : DC C X) (s : Shared) (H : Hp) (scope : Scope) (env : Env) (fp : List Addr) : DC C (X.blk s H scope env fp) := { H0 := c.H0, M0 := c.M0, W := fun _ _ _ _ => False, ED := noX, tk := takes0, br := fun _ _ _ _ _ _ _ _ _ _ _ h => h }
abbrev PDTs (c : DC C X) (es : List Expr) (td : TTD) : Prop := PTs X es (cT c td)
def dYes : TTD := fun _ _ M Q => Q true M
theorem pdts_nil : PDTs c [] dYes := ⟨fun pins s σ H Q I ⟨ρ, M, Qd, n, h, k⟩ => pts_nil.run pins s σ H Q I (k true H M .refl n.m h)⟩
theorem pdts_one {e : Expr} {t : TTD} (h : PDT c e t) : PDTs c [e] t := pts_one h
theorem idem_set {own : List Nat} {j : Nat} (hj : j ∈ own) (y : Option V) : ∀ {τ : L2.St}, L2.wipe (τ.set j y) own = L2.wipe τ own := by
  induction own with
  | nil => cases hj
  | cons v vs ih =>
    intro τ
    show (L2.wipe (τ.set j y) vs).set v none = (L2.wipe τ vs).set v none
    by_cases hm : j ∈ vs
    · rw [ih hm]
    · have e : j = v := by
        rcases List.mem_cons.mp hj with z | z
        · exact z
        · exact absurd z hm
      subst e
      have comm : ∀ (ws : List Nat), j ∉ ws → L2.wipe (τ.set j y) ws = (L2.wipe τ ws).set j y := by
        intro ws
        induction ws with
        | nil => intro _; rfl
        | cons w ws ih2 =>
          intro hn
          show (L2.wipe (τ.set j y) ws).set w none = ((L2.wipe τ ws).set w none).set j y
          rw [ih2 (fun z => hn (List.mem_cons_of_mem _ z)), List.set_comm _ _ (fun z => hn (by rw [z]; exact List.mem_cons_self))]
      rw [comm vs hm, List.set_set]
theorem wipe_sub : ∀ (vs ws : List Nat), (∀ j ∈ vs, j ∈ ws) → ∀ τ : L2.St, L2.wipe (L2.wipe τ vs) ws = L2.wipe τ ws
  | [], ws, _, τ => rfl
  | v :: vs, ws, hs, τ => by
    show L2.wipe ((L2.wipe τ vs).set v none) ws = _
    rw [idem_set (hs v List.mem_cons_self), wipe_sub vs ws (fun j hj => hs j (List.mem_cons_of_mem _ hj))]
theorem wipe_same {σ2 : L2.St} {i : Nat} {x : V} {own : List Nat} (hi : i ∈ own) (h : σ2 = (L2.wipe σ own).set i (some x)) : L2.wipe σ2 own = L2.wipe σ own := by
  subst h
  rw [idem_set hi, wipe_sub own own (fun _ h => h)]
/-- a target that stores the block's own names alone -/
def OwnG (C : CAd) (g : TG) (gd : TGD) (own : List Nat) : Prop := ∀ (σ : L2.St) (x : V) (H : Hp) (ρ : Rho) (M : MM) (d : D) (Qd : Rho → MM → Prop) (Q : L2.St → Hp → Prop), RepS C H (L2.wipe σ own) ρ → Rep C H d x → RM C H M → gd d ρ M Qd →
  (∀ σ2 ρ2, L2.wipe σ2 own = L2.wipe σ own → RepS C H σ2 ρ2 → Qd ρ2 M → Q σ2 H) → g x (L2.wipe σ own) H Q
theorem own_name {i : Nat} {own : List Nat} (h : i ∈ own) : OwnG C (gName i) (dName i) own := fun σ x H ρ M d Qd Q s r m q k => k _ _ (wipe_same h rfl) (s.set r i) q
theorem own_two {K : PySem.W.Frag} {i j : Nat} {own : List Nat} (hi : i ∈ own) (hj : j ∈ own) : OwnG C (gTup K 2 (gCons (gName i) (gCons (gName j) gNil))) (dGTup 2 (dGCons (dName i) (dGCons (dName j) dGNil))) own := fun σ x H ρ M d Qd Q s r m q k => by
  unfold dGTup at q
  split at q
  · next ds =>
    obtain ⟨ql, q⟩ := q
    match ds, ql, q, r with
    | [d1, d2], _, q, ⟨a, vs, e, ha, rs⟩ =>
      obtain ⟨v1, v2, rfl, r1, r2⟩ := rs.two
      refine ⟨a, [v1, v2], e, SqT.of ha, rfl, v1, [v2], rfl, v2, [], rfl, rfl, ?_⟩
      refine k _ _ ?_ ((s.set r1 i).set r2 j) q
      rw [idem_set hj, wipe_same hi rfl]
  · exact q.elim
def nE (c : DC C X) (td : TED) : TE := fun σ H Q => ∃ ρ M Qd, Stp c.H0 c.M0 H M ∧ RepS C H σ ρ ∧ RM C H M ∧ td noX ρ M Qd ∧ KE C H M Qd Q
def nT (c : DC C X) (td : TTD) : TT := fun σ H Q => ∃ ρ M Qd, Stp c.H0 c.M0 H M ∧ RepS C H σ ρ ∧ RM C H M ∧ td noX ρ M Qd ∧ KT C H M Qd Q
theorem RM.off_upd {p : Addr} {u u' : HO} (m : RM C H M) (hm : M p = none) (hp : H p = some u) (n1 : ∀ y, u ≠ .own y) (f : Fz H (upd H p u')) : RM C (upd H p u') M := fun b x q => by
  have hb : b ≠ p := fun z => by rw [z, hm] at q; cases q
  exact (m b x q).same f (fun o' h' => by rw [upd_ne hb]; exact h') fun y hy => by rw [upd_ne (fun z => by rw [z, hp] at hy; exact n1 _ (Option.some.inj hy))]; exact hy
theorem Fz.lst {p : Addr} {vs : List V} {u' : HO} (hp : H p = some (.lst vs)) : Fz H (upd H p u') :=
  ⟨fun a xs h => by rw [upd_ne (fun z => by rw [z, hp] at h; cases h)]; exact h, fun a o u h => by rw [upd_ne (fun z => by rw [z, hp] at h; cases h)]; exact h, fun a xs h => by rw [upd_ne (fun z => by rw [z, hp] at h; cases h)]; exact h⟩
theorem pd_lc {elt tg iter : Expr} {ifs : List Expr} {scope : Scope} {own : List (Str × Nat)} {tid : TID} {g : TG} {gd : TGD} {tt : TTD} (hc : X.calm = true) (hN : X.N.Nodup) (hi : PDI c tg iter tid) (ok : BlkOk X.N X.env.scope scope own) (og : OwnG C g gd (own.map (·.2)))
    (hg : ∀ (s : Shared) (H : Hp) (B : Addr) (cl : List (Str × Addr)) (fp : List Addr), PG (X.blk s H scope (compEnvC scope cl B X.env) fp) tg g)
    (ht : ∀ (s : Shared) (H : Hp) (B : Addr) (cl : List (Str × Addr)) (fp : List Addr), PDTs (c.blk s H scope (compEnvC scope cl B X.env) fp) ifs tt)
    (he : ∀ (s : Shared) (H : Hp) (B : Addr) (cl : List (Str × Addr)) (fp : List Addr), PD (c.blk s H scope (compEnvC scope cl B X.env) fp) elt te) (hs : ∀ x, foldedSetIterable iter X.env x = pure x := by intro _; rfl) :
    PD c (.ListComp elt [⟨tg, iter, ifs, 0⟩] scope pos) (dLc tid gd tt te (own.map (·.2))) := by
  refine PD.mk (pe_orF (pe_lc (tt := nT c tt) (te := nE c te) hc hN hi ok hg (fun s H B cl fp => ⟨fun pins s' σ H' Q I ⟨ρ, M, Qd, z, rs, rm, h, k⟩ => (ht s H B cl fp).run pins s' σ H' Q I ⟨ρ, M, Qd, ⟨z, rs, rm⟩, h, k⟩⟩)
    (fun s H B cl fp => ⟨fun pins s' σ H' Q I ⟨ρ, M, Qd, z, rs, rm, h, k⟩ => (he s H B cl fp).run pins s' σ H' Q I ⟨ρ, M, Qd, ⟨z, rs, rm⟩, h, k⟩⟩) hs)) fun σ H ρ M Qd Q n h k => ⟨ρ, M, _, n, h, fun J H1 ds M1 z1 m1 it ⟨hl, w⟩ L hL => ?_⟩
  have f1 := z1.fz n.m
  have s1 := n.s.fz f1
  have mL : M1 L = none := m1.fresh hL
  have go0 : Stp H1 M1 (upd H1 L (.lst [])) M1 := .new hL
  refine ⟨fun i m H' => m = ds.length - i ∧ i ≤ ds.length ∧ ∃ acc vacc M', H' L = some (.lst vacc) ∧ Reps C H' acc vacc ∧ acc.length ≤ i ∧ Stp H1 M1 H' M' ∧ RM C H' M' ∧ M' L = none ∧ lcD gd tt te (wipeR ρ (own.map (·.2))) (fun out M2 => Qd (.lst out) M2) (ds.drop i) acc M',
    ⟨_, rfl, Nat.zero_le _, [], [], M1, upd_same, rfl, Nat.zero_le _, go0, m1.same (Sm.new hL), mL, w⟩, ?_⟩
  rintro i m H2 ⟨rfl, hi2, acc, vacc, M2, hL2, ra, la, z2, m2, mL2, w2⟩
  have f2 := z2.fz m1
  have s2 := (s1.fz f2).wipe (own.map (·.2))
  by_cases lt : i < ds.length
  · have ed : ds.drop i = ds[i] :: ds.drop (i + 1) := (List.getElem_cons_drop lt).symm
    rw [ed] at w2
    obtain ⟨gg, yl⟩ := (it i H2 f2).1 ds[i] (by simp [lt])
    refine .inr ⟨gg, fun H' => ∃ acc vacc M', H' L = some (.lst vacc) ∧ Reps C H' acc vacc ∧ acc.length ≤ i + 1 ∧ Stp H1 M1 H' M' ∧ RM C H' M' ∧ M' L = none ∧ lcD gd tt te (wipeR ρ (own.map (·.2))) (fun out M2 => Qd (.lst out) M2) (ds.drop (i + 1)) acc M',
      fun H' q => ⟨ds.length - (i + 1), by omega, rfl, lt, q⟩, fun x H3 y => ?_⟩
    obtain ⟨sm, rx⟩ := yl x H3 y
    have z3 : Stp H2 M2 H3 M2 := ⟨fun a o h m _ => ⟨sm a o h, m⟩⟩
    have m3 := m2.same sm
    refine og σ x H3 _ M2 ds[i] _ _ (s2.fz sm.fz) rx m3 w2 fun σ4 ρ4 hw s4 q4 => ⟨hw, ρ4, M2, _, (n.st.trans z1).trans (z2.trans z3), s4, m3, q4, fun b H4 M4 z4 m4 q5 => ?_⟩
    have hL4 : H4 L = some (.lst vacc) ∧ M4 L = none := z4.k L _ (sm L _ hL2) mL2 (fun _ z => by cases z)
    have f4 := z4.fz m3
    cases b with
    | true =>
      refine iteT ⟨ρ4, M4, _, ((n.st.trans z1).trans (z2.trans z3)).trans z4, s4.fz f4, m4, q5, fun y2 H5 d5 M5 z5 r5 m5 q6 => ?_⟩
      have hL5 : H5 L = some (.lst vacc) ∧ M5 L = none := z5.k L _ hL4.1 hL4.2 (fun _ z => by cases z)
      have f5 := z5.fz m4
      have fu : Fz H5 (upd H5 L (.lst (vacc ++ [y2]))) := Fz.lst hL5.1
      have la2 : vacc.length < sizeLine := by rw [← ra.length]; exact lt6 (by omega)
      refine ⟨vacc, hL5.1, la2, acc ++ [d5], vacc ++ [y2], M5, upd_same, Reps.fz fu _ ((Reps.fz f5 _ (Reps.fz f4 _ (Reps.fz sm.fz _ ra))).append (Reps.mk1 r5)), by rw [List.length_append, List.length_singleton]; omega, ?_, m5.off_upd hL5.2 hL5.1 (fun _ z => by cases z) fu, hL5.2, q6⟩
      have zz := ((z2.trans z3).trans z4).trans z5
      exact ⟨fun a o h m w => by
        obtain ⟨h5, m5'⟩ := zz.k a o h m w
        exact ⟨by rw [upd_ne (ne_of_none h hL)]; exact h5, m5'⟩⟩
    | false =>
      exact iteF ⟨acc, vacc, M4, hL4.1, Reps.fz f4 _ (Reps.fz sm.fz _ ra), by omega, (z2.trans z3).trans z4, m4, hL4.2, q5⟩
  · have e : i = ds.length := by omega
    subst e
    rw [List.drop_length] at w2
    refine .inl ⟨(it _ H2 f2).2 (Nat.le_refl _), .inr ⟨L, vacc, rfl, hL2, fun o => ?_⟩⟩
    have fu : Fz H2 (upd H2 L (.frz o (.lst vacc))) := Fz.lst hL2
    refine k (.ref L) _ (.lst acc) M2 (z1.trans ⟨fun a o h m w => ?_⟩) ⟨L, o, vacc, rfl, upd_same, Reps.fz fu _ ra⟩ (m2.off_upd mL2 hL2 (fun _ z => by cases z) fu) w2
    obtain ⟨h5, m5'⟩ := z2.k a o h m w
    exact ⟨by rw [upd_ne (ne_of_none h hL)]; exact h5, m5'⟩
end
end DD

/-! isinstance; what suites ask of the caught error; calls of a class held by a local name. -/
namespace DD
open PySem PySem.Spec PyProof.Rows L2
/-- the built-in types that data has -/
inductive BT where | non | bl | int | str | tup | lst | dic
deriving DecidableEq
def BT.nm : BT → String
  | .non => "NoneType" | .bl => "bool" | .int => "int" | .str => "str" | .tup => "tuple" | .lst => "list" | .dic => "dict"
def isaB : BT → BT → Bool
  | .non, .non => true | .bl, .bl => true | .bl, .int => true | .int, .int => true | .str, .str => true | .tup, .tup => true | .lst, .lst => true | .dic, .dic => true
  | _, _ => false
theorem isaB_ok {K : PySem.W.Frag} : ∀ (a b : BT), PySem.W.kitOne K (.type a.nm) (.type b.nm) = some (isaB a b) := by
  intro a b
  cases a <;> cases b <;> exact kit_ty (by decide +kernel)
/-- a type: built in, or own by number -/
inductive TyN where | b (t : BT) | o (c : Nat)
def tyOfD (d : D) (M : MM) : Option TyN := match d with
  | .non => some (.b .non)
  | .bl _ => some (.b .bl)
  | .int _ => some (.b .int)
  | .str _ => some (.b .str)
  | .tup _ => some (.b .tup)
  | .lst _ => some (.b .lst)
  | .ins c _ _ _ => some (.o c)
  | .adr a => match M a with
    | some (.lst _) => some (.b .lst)
    | some (.dK _) => some (.b .dic)
    | some (.ins c _) => some (.o c)
    | some (.sl c _) => some (.o c)
    | none => none
def TyN.val (C : CAd) : TyN → Value
  | .b t => .type t.nm
  | .o c => .ref (C c)
def TyN.v (C : CAd) : TyN → V
  | .b t => .ty t.nm
  | .o c => .ref (C c)
theorem TyN.cls {C : CAd} (y : TyN) : ClsV (y.v C) (y.val C) := by
  cases y with
  | b t => exact .ty _
  | o c => exact .own _
/-- an own class, asked by isinstance -/
structure OwnI (K : PySem.W.Frag) (D : Addr) : Prop where
  ic : PySem.W.isClsIn K D = true
  pg : PySem.W.plainGet K D "__class__" = true
  i : SlX.SIsi K D
section
variable {C : CAd} {X : Cx} {c : DC C X} {pins : List (Addr × Obj)} {σ : L2.St} {H : Hp} {s : Shared} {M : MM} {pos p : Pos} {e cx : Expr} {te : TED}
/-- the answers of isinstance -/
def IsaOk (K : PySem.W.Frag) (C : CAd) (isa : TyN → TyN → Option Bool) : Prop := ∀ x y b, isa x y = some b → PySem.W.kitOne K (x.val C) (y.val C) = some b ∧ ∀ k, x = .o k → OwnI K (C k)
/-- what the library's rules ask -/
def KitD (X : Cx) (H : Hp) (v : V) (t : Value) : Prop := ∀ pins σ s u, Inv X pins σ H s → RelV v u → ∃ P : Heap → Prop, PySem.W.KitX X.K u t P ∧ P s.heap ∧ u ≠ .builtin "__main__.__loader__#opaque"
def rIsG (X : Cx) : List V → Hp → VK → Prop := fun xs H Q => ∃ (x cc : V) (t u : Value) (b : Bool), xs = [x, cc] ∧ ClsV cc u ∧ KitD X H x t ∧ PySem.W.kitOne X.K t u = some b ∧ Q (.bl b) H
theorem call_isG : CallR X (.builtin "isinstance") (rIsG X) := by
  intro pins s σ H xs us Q I r h
  obtain ⟨x, cc, t, u, b, rfl, k, ty, e, q⟩ := h
  obtain ⟨u1, u2, rfl, r1, r2⟩ := vals2 r
  have e2 := k.eq r2
  subst e2
  obtain ⟨P, Z, p, hx⟩ := ty pins σ s u1 I r1
  exact PySem.W.kia_one Z I.kIn p e hx fun tk => ⟨.bl b, H, I.tok tk, rfl, q⟩
theorem kitD_ty {v : V} {t : Value} (h : TyX X.K H v t) : KitD X H v t := fun pins σ s u I r => kit_of I r h
theorem kitD_ia {v : V} {cn : Nat} {d : D} {sl fs} (m : RM C H M) (r : Rep C H d v) (h : instD cn d M = some (sl, fs)) (o : OwnI X.K (C cn)) : KitD X H v (.ref (C cn)) := fun pins σ s u I ru => by
  obtain ⟨a, vs, kv, rfl, A, _, _⟩ := instD_ia I m r h
  cases ru
  obtain ⟨ox, od, J, _⟩ := A.ex
  exact ⟨_, OwX.kitx_slt o.ic o.pg o.i.ca o.i.cn o.i.ct o.i.cm, J, fun z => nomatch z⟩
theorem tyOfD_ok {v : V} {d : D} {x : TyN} (m : RM C H M) (r : Rep C H d v) (h : tyOfD d M = some x) (o : ∀ k, x = .o k → OwnI X.K (C k)) : KitD X H v (x.val C) := by
  cases d with
  | non => cases h; cases r; exact kitD_ty (.base .non)
  | bl b => cases h; cases r; exact kitD_ty (.base (.bl _))
  | int b => cases h; cases r; exact kitD_ty (.base (.int _))
  | str b => cases h; cases r; exact kitD_ty (.base (.str _))
  | tup l => cases h; obtain ⟨a, vs, rfl, ha, _⟩ := r; exact kitD_ty (.base (.tup ha))
  | lst l => cases h; obtain ⟨a, o, vs, rfl, ha, _⟩ := r; exact kitD_ty (.base (.frz ha))
  | ins k sl ks vs =>
    cases h
    exact kitD_ia m r (cn := k) (by show (if k = k then _ else _) = _; rw [if_pos rfl]) (o k rfl)
  | adr a =>
    have e0 : v = .ref a := r
    subst e0
    have hh : (match M a with
      | some (.lst _) => some (TyN.b .lst)
      | some (.dK _) => some (.b .dic)
      | some (.ins c _) => some (.o c)
      | some (.sl c _) => some (.o c)
      | none => none) = some x := h
    split at hh
    · next l e => cases hh; obtain ⟨vs, ha, _⟩ := m a _ e; exact kitD_ty (.base (.lst ha))
    · next l e => cases hh; obtain ⟨vs, ha, _⟩ := m a _ e; exact kitD_ty (.base (.dK ha))
    · next k fs e =>
      cases hh
      refine kitD_ia (cn := k) (sl := []) (fs := fs) m (d := .adr a) rfl ?_ (o k rfl)
      show (match M a with
    | some (.ins k' fs) => if k' = k then some ([], fs) else none
    | some (.sl k' vs) => if k' = k then some (vs, []) else none
    | _ => none) = _
      rw [e]
      show (if k = k then _ else _) = _
      rw [if_pos rfl]
    · next k fs e =>
      cases hh
      refine kitD_ia (cn := k) (sl := fs) (fs := []) m (d := .adr a) rfl ?_ (o k rfl)
      show (match M a with
    | some (.ins k' fs) => if k' = k then some ([], fs) else none
    | some (.sl k' vs) => if k' = k then some (vs, []) else none
    | _ => none) = _
      rw [e]
      show (if k = k then _ else _) = _
      rw [if_pos rfl]
    · cases hh
def dIsi (isa : TyN → TyN → Option Bool) (y : TyN) (te : TED) : TED := fun ex ρ M Q => te ex ρ M fun d M1 => match tyOfD d M1 with
  | some x => (match isa x y with
    | some b => Q (.bl b) M1
    | none => False)
  | none => False
theorem pd_isi {isa : TyN → TyN → Option Bool} (y : TyN) (T : IsaOk X.K C isa) (hg : Gl X "isinstance") (hm : X.mg "isinstance" = none) (he : PD c e te) (hc : PE X cx (tC (y.v C)))
    (h1 : starEach (e :: [cx]) X.env = (false, eval e X.env) :: starEach [cx] X.env := by rfl) (h2 : starEach (cx :: []) X.env = (false, eval cx X.env) :: starEach [] X.env := by rfl) (hpl : (backTo pos (starEach [cx] X.env)).any (·.1) = false := by rfl) :
    PD c (.Call (.Name "isinstance" p) [e, cx] [] pos) (dIsi isa y te) := by
  refine PD.mk (pe_callB call_isG hg hm rfl (pa_cons he (pa_cons hc pa_nil h2) h1) (by decide) (by decide) h1 hpl) fun σ H ρ M Qd Q n h k => ?_
  refine ⟨ρ, M, _, n, h, fun v H1 d M1 z r m g => ?_⟩
  show rIsG X [v, y.v C] H1 Q
  split at g
  · next x ex =>
    split at g
    · next b eb =>
      obtain ⟨k1, k2⟩ := T x y b eb
      exact ⟨v, y.v C, x.val C, y.val C, b, rfl, y.cls, tyOfD_ok m r ex k2, k1, k (.bl b) H1 (.bl b) M1 z rfl m g⟩
    · exact g.elim
  · exact g.elim
/-- a class's name in the text -/
theorem pe_cref {x : Str} {k : Nat} (hg : Gl X x) (hm : X.mg x = some (.ref (C k))) (hd : (x == ("__debug__" : Str)) = false := by decide) : PE X (.Name x pos) (tC (TyN.v C (.o k))) := pe_glob (v := .ref (C k)) hg hm rfl hd
theorem pe_cty {x : Str} (t : BT) (hg : Gl X x) (hm : X.mg x = none) (hv : bootBuiltins x = some (.type t.nm)) (hn : x ≠ "__name__" := by decide) (hd : (x == ("__debug__" : Str)) = false := by decide) : PE X (.Name x pos) (tC (TyN.v C (.b t))) := pe_bltn (v := .ty t.nm) hg hm hv rfl hn hd
/-! ### the caught error, in a suite -/
theorem RepE.fz {H H' : Hp} {cls : Value} {d : Option Addr} {er : Exc} (z : Fz H H') (h : RepE C H cls d er) : RepE C H' cls d er :=
  ⟨h.1, h.2.imp (fun h => h) fun ⟨dd, ys, e, h1, h2⟩ => ⟨dd, ys, e, z.x _ _ h1, Reps.fz z _ h2⟩⟩
/-- isinstance(e, T) -/
def rIsX (X : Cx) (C : CAd) (cls : Value) (d : Option Addr) (er : Exc) (a : Addr) : List V → Hp → VK → Prop := fun xs H Q => ∃ (cc : V) (u : Value) (b : Bool), xs = [.ref a, cc] ∧ ClsV cc u ∧ RepE C H cls d er ∧ ExcC X.K (C er.c) ∧ PySem.W.kitOne X.K (.ref (C er.c)) u = some b ∧ Q (.bl b) H
theorem call_isX {a : Addr} {oe : Obj} {d : Option Addr} {pn : List (Addr × Obj)} {cls : Value} {er : Exc} (hz : Zc cls d oe) (hf : ∃ vs, oe.data = .fields vs) : CallR (X.suite a ((a, oe) :: pn)) (.builtin "isinstance") (rIsX X C cls d er a) := by
  intro pins s σ H xs us Q I r h
  obtain ⟨cc, cv, b, rfl, hcv, re, T, e, q⟩ := h
  obtain ⟨u1, u2, rfl, r1, r2⟩ := vals2 r
  cases r1
  have ec := hcv.eq r2
  subst ec
  obtain ⟨hget, _⟩ := I.pin (a, oe) (List.mem_append.mpr (.inl List.mem_cons_self))
  obtain ⟨vs, hv⟩ := hf
  obtain ⟨e1, e2⟩ := re
  obtain ⟨oc, od, oda, osl⟩ := oe
  obtain ⟨h1, h2⟩ := hz
  dsimp only at h1 h2 hv
  subst h1 h2 hv
  obtain ⟨cd, hcd, _⟩ := PySem.W.any_some T.hd
  have J : ∃ odd, PySem.W.InstAt s.heap a ⟨oc, od, .fields vs, osl⟩ (C er.c) odd := by
    rcases e2 with ⟨_, e2⟩ | ⟨dd, ys, e2, h3, _⟩
    · subst e2
      exact ⟨none, hget, e1, rfl, trivial⟩
    · subst e2
      obtain ⟨mA, hn, hr⟩ := (show ObjOk X.prog X.w H s.heap dd (.xd _) from I.hok dd _ h3)
      obtain ⟨ob, ho, hl⟩ := lookIn_ns hn
      exact ⟨some ob, hget, e1, rfl, ho⟩
  obtain ⟨odd, J⟩ := J
  exact PySem.W.kia_one (PySem.W.kitx_exc (by rw [hcd]; rfl) T.hg T.hk T.hs T.ha T.hn T.ht T.hm) I.kIn J e (fun z => nomatch z) fun tk => ⟨.bl b, H, I.kept (t' := tk) fun _ _ z => z, rfl, q⟩
/-- the answers for own errors -/
def IsxOk (K : PySem.W.Frag) (C : CAd) (isx : Nat → TyN → Option Bool) : Prop := ∀ k y b, isx k y = some b → PySem.W.kitOne K (.ref (C k)) (y.val C) = some b ∧ ExcC K (C k)
def dIsX (isx : Nat → TyN → Option Bool) (y : TyN) (a : Addr) (er : Exc) (te : TED) : TED := fun ex ρ M Q => te ex ρ M fun d M1 => match d with
  | .adr b => b = a ∧ (match isx er.c y with
    | some b => Q (.bl b) M1
    | none => False)
  | _ => False
variable {a : Addr} {oe : Obj} {d : Option Addr} {pn : List (Addr × Obj)} {cls : Value} {er : Exc}
theorem pd_isX {c : DC C (X.suite a ((a, oe) :: pn))} {isx : Nat → TyN → Option Bool} (y : TyN) (T : IsxOk X.K C isx) (hz : Zc cls d oe) (hf : ∃ vs, oe.data = .fields vs) (re : RepE C c.H0 cls d er) (m0 : RM C c.H0 c.M0) (hg : Gl (X.suite a ((a, oe) :: pn)) "isinstance") (hm : X.mg "isinstance" = none) (he : PD c e te) (hc : PE (X.suite a ((a, oe) :: pn)) cx (tC (y.v C)))
    (h1 : starEach (e :: [cx]) X.env = (false, eval e X.env) :: starEach [cx] X.env := by rfl) (h2 : starEach (cx :: []) X.env = (false, eval cx X.env) :: starEach [] X.env := by rfl) (hpl : (backTo pos (starEach [cx] X.env)).any (·.1) = false := by rfl) :
    PD c (.Call (.Name "isinstance" p) [e, cx] [] pos) (dIsX isx y a er te) := by
  refine PD.mk (pe_callB (call_isX (C := C) (er := er) hz hf) hg hm rfl (pa_cons he (pa_cons hc pa_nil h2) h1) (by decide) (by decide) h1 hpl) fun σ H ρ M Qd Q n h k => ?_
  refine ⟨ρ, M, _, n, h, fun v H1 dd M1 z r m g => ?_⟩
  show rIsX X C cls d er a [v, y.v C] H1 Q
  split at g
  · next b0 =>
    obtain ⟨rfl, g⟩ := g
    split at g
    · next b eb =>
      obtain ⟨k1, k2⟩ := T er.c y b eb
      have e0 : v = .ref b0 := r
      subst e0
      exact ⟨y.v C, y.val C, b, rfl, y.cls, re.fz ((n.st.trans z).fz m0), k2, k1, k (.bl b) H1 (.bl b) M1 z rfl m g⟩
    · exact g.elim
  · exact g.elim
/-- e.f -/
def XfOk (K : PySem.W.Frag) (C : CAd) (f : Str) (xf : Nat → Bool) : Prop := ∀ k, xf k = true → XfC K (C k) ∧ PySem.W.findIn K (.ref (C k)) f = some none
def dXf (xf : Nat → Bool) (f : Str) (a : Addr) (er : Exc) (te : TED) : TED := fun ex ρ M Q => te ex ρ M fun d M1 => match d with
  | .adr b => b = a ∧ xf er.c = true ∧ (match er.fs.lookup f with
    | some v => Q v M1
    | none => False)
  | _ => False
theorem pd_xf {c : DC C (X.suite a ((a, oe) :: pn))} {xf : Nat → Bool} {f : Str} (T : XfOk X.K C f xf) (hz : Zc cls d oe) (hf : ∃ vs, oe.data = .fields vs) (re : RepE C c.H0 cls d er) (m0 : RM C c.H0 c.M0) (he : PD c e te) (hb : attributeBase e f X.env (eval e X.env) = eval e X.env := by rfl) :
    PD c (.Attribute e f pos) (dXf xf f a er te) := by
  cases hx : xf er.c with
  | false => 
    refine ⟨fun pins s σ H Q I ⟨ρ, M, Qd, n, h, k⟩ => ?_⟩
    refine attr_of hb (thn (he.run pins s σ H (fun v H1 => False) I ⟨ρ, M, _, n, h, fun v H1 dd M1 z r m g => ?_⟩) fun _ _ ⟨_, _, _, _, z⟩ => z.elim)
    split at g
    · rw [hx] at g; exact Bool.noConfusion g.2.1
    · exact g.elim
  | true =>
    obtain ⟨t1, t2⟩ := T er.c hx
    refine PD.mk (pe_xf t1 t2 hz hf he hb) fun σ H ρ M Qd Q n h k => ⟨ρ, M, _, n, h, fun v H1 dd M1 z r m g => ?_⟩
    split at g
    · next b0 =>
      obtain ⟨rfl, _, g⟩ := g
      split at g
      · next w ew =>
        have re1 := re.fz ((n.st.trans z).fz m0)
        obtain ⟨r1, r2⟩ := re1
        rcases r2 with ⟨r2, _⟩ | ⟨dd, ys, r2, r3, r4⟩
        · rw [r2] at ew; simp at ew
        · have rf : RepF C H1 er.fs ((er.fs.map (·.1)).zip ys) := ⟨ys, rfl, r4⟩
          obtain ⟨u, hu, ru⟩ := rf.get.1 w ew
          exact ⟨r, r1, dd, _, u, r2, r3, hu, k u H1 w M1 z ru m g⟩
      · exact g.elim
    · exact g.elim
/-! ### cls(..), a local name that holds the class -/
theorem pd_makeL {x : Str} {i cn k : Nat} {e1 : Expr} {es : List Expr} {tl : TAD} {ps : List Str} {nmC : Str} {sp : SpD} (slot frz : Bool) (T : NewF X.prog X.w X.K X.mg X.base C cn nmC k ps sp) (hr : Room (k + 1) X.A) (hN : X.N[i]? = some x) (hv : Vis X.env.scope x) (ha : PDA c (e1 :: es) tl) (hdb : (x == ("__debug__" : Str)) = false := by decide)
    (hcd : (x == ("__classdict__" : Str)) = false := by decide) (he : starEach (e1 :: es) X.env = (false, eval e1 X.env) :: starEach es X.env := by rfl) (hpl : (backTo pos (starEach es X.env)).any (·.1) = false := by rfl) : PD c (.Call (.Name x p) (e1 :: es) [] pos) (dMakeL C slot frz cn i sp tl) := by
  obtain ⟨f, fd, F, Tm, hb⟩ := T.ex
  refine ⟨fun pins s σ H Q I ⟨ρ, M, Qd, n, ⟨hi, h⟩, kE⟩ => ?_⟩
  obtain ⟨v0, hv0, r0⟩ := n.s.get hi
  have e0 : v0 = .ref (C cn) := r0
  subst e0
  refine wpAny_Call_Name_kw (thn ((pe_var (pos := p) hN hv hdb hcd).run pins s σ H (fun v H1 => v = .ref (C cn) ∧ H1 = H) I ⟨.ref (C cn), hv0, rfl, rfl⟩) fun u0 s0 ⟨v1, H1, I0, r1, q1⟩ => ?_)
  obtain ⟨rfl, rfl⟩ := q1
  cases r1
  refine PySem.W.callWith_K (h₀ := X.base) I0.ok.mod.kin Tm.kp (thn (ha.run pos pins s0 σ H1 (fun vs H2 => ∃ ds M1, Stp H1 M H2 M1 ∧ Reps C H2 ds vs ∧ RM C H2 M1 ∧ ∀ x, M1 x = none → sp (.adr x :: ds) (updM M1 x (mk0 slot cn)) (fun d M2 => d = .non ∧ finK frz Qd x M2) fun e M2 => ∃ M3, Sub M3 M2 ∧ c.ED e ρ M3) I0
    ⟨ρ, M, _, n, h, fun vs H2 ds M1 z r m g => ⟨ds, M1, z, r, m, g⟩⟩) fun us s1 ⟨vs, H2, I1, rv, ds, M1, z1, rs, m1, g⟩ => ⟨I1.kIn, ?_⟩) he hpl
  refine thn (run_mkS (Q := fun v H3 => ∃ x M2, v = .ref x ∧ Stp H2 M1 H3 (M2 : MM) ∧ RM C H3 M2 ∧ finK frz Qd x M2) Tm F hr hb (passAt c.tk σ) I1 rv fun x dx n1 n2 ne => ?_) fun u s2 ⟨v, H3, I2, r2, y, M2, ey, z2, m2, q2⟩ => ?_
  · obtain ⟨m3, z3⟩ := make_rep (cn := cn) slot rfl n1 n2 ne m1
    refine ⟨.adr x :: ds, updM M1 x (mk0 slot cn), fun d M' => d = .non ∧ finK frz Qd x M', fun e M2 => ∃ M3, Sub M3 M2 ∧ c.ED e ρ M3, ⟨.ref x, vs, rfl, rfl, Reps.fz (z3.fz m1) _ rs⟩, m3, g x (m1.fresh n1), fun v H' d M' z r m q => ?_, fun cls d H' e M' z re m ⟨M3, sb, q⟩ => ?_⟩
    · obtain ⟨rfl, q⟩ := q
      have e0 : v = .non := r
      exact ⟨e0, x, M', rfl, z3.trans z, m, q⟩
    · exact c.br cls d σ H' e ρ M3 (((n.st.trans z1).trans (z3.trans z)).sub sb) ((n.s.fz (z1.fz n.m)).fz ((z3.trans z).fz m1)) (m.sub sb) re q
  · subst ey
    obtain rfl : u = Value.ref y := r2
    cases frz with
    | true => exact fin_frz I2 m2 ((kE.step z1).step z2) q2
    | false => exact fin_held I2 m2 ((kE.step z1).step z2) q2
end
end DD

/-! The head's facts, as Bools over what is looked at; the law's end. -/
namespace DH
open PySem PySem.Spec PySem.W PyProof.Rows L2 He
/-! ### what is looked at: no lists -/
def noL (o : Obj) : Bool := !(o.cls == .type "list")
def frN (g : Addr → Option Obj) (as : List Addr) : Frag := as.filterMap fun a => match g a with
  | some o => (match noL o with
    | true => some (a, o)
    | false => none)
  | none => none
theorem frN_at {g : Addr → Option Obj} {a : Addr} {o : Obj} {as : List Addr} (e : (frN g as).lookup a = some o) : g a = some o ∧ noL o = true := by
  have m : (a, o) ∈ frN g as := by
    have go : ∀ {l : Frag}, l.lookup a = some o → (a, o) ∈ l := by
      intro l
      induction l with
      | nil => intro h; cases h
      | cons p l ih =>
        intro h
        obtain ⟨b, u⟩ := p
        rw [List.lookup] at h
        split at h
        · next q =>
          cases h
          rw [beq_iff_eq.mp q]
          exact List.mem_cons_self
        · exact List.mem_cons_of_mem _ (ih h)
    exact go e
  unfold frN at m
  rw [List.mem_filterMap] at m
  obtain ⟨b, _, h⟩ := m
  cases q : g b with
  | none => rw [q] at h; cases h
  | some u =>
    rw [q] at h
    have h' : (match noL u with
      | true => some (b, u)
      | false => none) = some (a, o) := h
    cases z : noL u with
    | false => rw [z] at h'; cases h'
    | true => rw [z] at h'; cases h'; exact ⟨q, z⟩
def NoList (K : Frag) : Prop := ∀ a o, K.lookup a = some o → o.cls ≠ .type "list"
theorem noL_ne {o : Obj} (h : noL o = true) : o.cls ≠ .type "list" := fun z => by
  unfold noL at h
  rw [z] at h
  simp at h
/-! ### defs with a closure cell of their class -/
structure SupD where
  cls : Str
  qual : Str
  st : Stmt
def supA (K : Frag) (d : SupD) : Addr := ma K (ga K d.cls) "__init__"
abbrev SupW : Type := Option (Str × Str × Arguments × FuncBody × Scope × Addr × List Str × Addr)
def supW (K : Frag) (a : Addr) : SupW := match K.lookup a with
  | some ⟨_, _, .func fd, _⟩ => some (fd.name, fd.qualname, fd.params, fd.body, fd.scope, fd.globals, fd.closure.map (·.1), fd.builtins)
  | _ => none
def SupD.val (d : SupD) : SupW := some ("__init__", d.qual, defArgs d.st, .stmts (defBody d.st), defScope d.st, mainGlobals, ["__class__"], builtinsNs)
def SupD.ok (P : Program) (K : Frag) (d : SupD) : Bool := (match K.lookup (supA K d) with
    | some ⟨_, _, .func fd, _⟩ => (match fd.defaults with
        | .none => true
        | _ => false) && (codeIn K fd.code d.qual && ((match fd.code with
        | .ref cda => (match K.lookup cda with
          | some ⟨_, _, .fields vs, _⟩ => (match (vs[2]? : Option Value) with
            | some (.str file _) => P.main.file == file
            | _ => false)
          | _ => false)
        | _ => false) && (match fd.closure with
        | [(_, cc)] => (match K.lookup cc with
          | some ⟨_, _, .cell (some (.ref D)), _⟩ => decide (D = ga K d.cls)
          | _ => false)
        | _ => false)))
    | _ => false) && ((clsIn K (ga K d.cls)).isSome && (eqO (nsIn K mainGlobals "super") (some none) && (!(P.main.scope.names.lookup ("super" : Str)).isSome && eqO (nsIn K cStatics "thirdparty.any") (some none))))
theorem SupD.fn {P : Program} {K : Frag} {d : SupD} (e : supW K (supA K d) = d.val) (c : d.ok P K = true) : SX.SupFn P K (ga K d.cls) (supA K d) d.qual d.st := by
  obtain ⟨c1, c⟩ := ba c
  obtain ⟨c2, c⟩ := ba c
  obtain ⟨c3, c⟩ := ba c
  obtain ⟨c4, c5⟩ := ba c
  refine ⟨?_, Option.isSome_iff_exists.mp c2, eqO_ok c3, by simpa using c4, eqO_ok c5⟩
  clear c2 c3 c4 c5 c
  unfold supW at e
  cases q : K.lookup (supA K d) with
  | none => rw [q] at c1; cases c1
  | some o =>
    obtain ⟨oc, od, dt, osl⟩ := o
    rw [q] at c1 e
    cases dt with
    | func fd =>
      obtain ⟨n1, n2, n3, n4, n5, n6, n7, n8, n9, n10, n11, n12, n13, n14, n15⟩ := fd
      have e2 : (some (n1, n2, n3, n4, n5, n6, n7.map (·.1), n15) : SupW) = some (("__init__" : Str), d.qual, defArgs d.st, FuncBody.stmts (defBody d.st), defScope d.st, mainGlobals, (["__class__"] : List Str), builtinsNs) := e
      simp only [Option.some.injEq, Prod.mk.injEq] at e2
      obtain ⟨h1, h2, h3, h4, h5, h6, h7, h8⟩ := e2
      subst h1 h2 h3 h4 h5 h6 h8
      obtain ⟨c1, c6⟩ := ba c1
      obtain ⟨c2, c3⟩ := ba c6
      obtain ⟨c3, c4⟩ := ba c3
      have h9 : n8 = .none := by
        cases n8 with
        | none => rfl
        | _ => cases c1
      subst h9
      cases n13 with
      | ref cda =>
        have c3' : (match K.lookup cda with
          | some ⟨_, _, .fields vs, _⟩ => (match (vs[2]? : Option Value) with
            | some (.str file _) => P.main.file == file
            | _ => false)
          | _ => false) = true := c3
        cases q2 : K.lookup cda with
        | none => rw [q2] at c3'; cases c3'
        | some o2 =>
          obtain ⟨oc2, od2, dt2, osl2⟩ := o2
          rw [q2] at c3'
          cases dt2 with
          | fields vs =>
            have c3'' : (match (vs[2]? : Option Value) with
              | some (.str file _) => P.main.file == file
              | _ => false) = true := c3'
            cases q3 : vs[2]? with
            | none => rw [q3] at c3''; cases c3''
            | some v3 =>
              rw [q3] at c3''
              cases v3 with
              | str file tf =>
                match n7, h7, c4 with
                | [(nm, cc)], h7, c4 =>
                  have h7' : nm = "__class__" := by simpa using h7
                  subst h7'
                  have c4' : (match K.lookup cc with
                    | some ⟨_, _, .cell (some (.ref D)), _⟩ => decide (D = ga K d.cls)
                    | _ => false) = true := c4
                  cases q4 : K.lookup cc with
                  | none => rw [q4] at c4'; cases c4'
                  | some o4 =>
                    obtain ⟨oc4, od4, dt4, osl4⟩ := o4
                    rw [q4] at c4'
                    cases dt4 with
                    | cell u =>
                      cases u with
                      | none => cases c4'
                      | some u =>
                        cases u with
                        | ref DD =>
                          have c5 : DD = ga K d.cls := of_decide_eq_true c4'
                          subst c5
                          exact ⟨oc, od, n10, n11, n9, n12, cda, cc, n14, osl, oc2, od2, vs, osl2, file, tf, oc4, od4, osl4, rfl, c2, q2, q3, c3'', q4⟩
                        | _ => cases c4'
                    | _ => cases c4'
              | _ => cases c3''
          | _ => cases c3'
      | _ => cases c3
    | _ => cases c1
/-- an exception class whose __init__ is D's -/
def supCB (K : Frag) (x : Str) (d : SupD) (fs : List Str) : Bool := (match K.lookup (ga K x) with
    | some ⟨.type t, _, .cls cd, sl⟩ => decide (t = "type") && (match cd.mro, sl.toList with
      | .ref C' :: bm, [_, _, _, _, some (.builtin n), _] => decide (C' = ga K x) && (decide (n = "ValueError.__new__") && (cd.hasDict && (!cd.hasDel && HandSPX.refsVE bm)))
      | _, _ => false)
    | _ => false) && (eqO (findIn K (.ref (ga K x)) "__setattr__") (some (some (.builtin "object.__setattr__"))) && (eqO (findIn K (.ref (ga K x)) "__getattribute__") (some (some (.builtin "BaseException.__getattribute__"))) && (eqO (findIn K (.ref (ga K x)) "__getattr__") (some none) &&
    ((fs.all fun f => eqO (findIn K (.ref (ga K x)) f) (some none)) && (eqO (findIn K (.ref (ga K x)) "__init__") (some (some (.ref (supA K d)))) && (decide (typeIn K (.ref (supA K d)) = some (.type "function")) && (keepIn K (.ref (ga K x)) &&
    (decide (subIn K (.ref (ga K x)) (.type "BaseException") = some true) && (decide (subIn K (.ref (ga K x)) (.type "ValueError") = some true) && (decide (typeIn K (.ref (ga K x)) = some (.type "type")) && (hasDictIn K (ga K x) &&
    (eqO (ks_superIn K (ga K x) (ga K d.cls) "__init__") (some (some (.builtin "ValueError.__init__"))) && decide (mroIn K (ga K x) (.ref (ga K d.cls)) = some true)))))))))))))
theorem supCB_ok {K : Frag} {x : Str} {d : SupD} {fs : List Str} (h : supCB K x d fs = true) : SX.SupCls K (ga K x) (ga K d.cls) (supA K d) fs := by
  obtain ⟨c0, h⟩ := ba h
  obtain ⟨c1, h⟩ := ba h
  obtain ⟨c2, h⟩ := ba h
  obtain ⟨c3, h⟩ := ba h
  obtain ⟨c4, h⟩ := ba h
  obtain ⟨c5, h⟩ := ba h
  obtain ⟨c6, h⟩ := ba h
  obtain ⟨c7, h⟩ := ba h
  obtain ⟨c8, h⟩ := ba h
  obtain ⟨c9, h⟩ := ba h
  obtain ⟨c10, h⟩ := ba h
  obtain ⟨c11, h⟩ := ba h
  obtain ⟨c12, c13⟩ := ba h
  refine ⟨?_, eqO_ok c1, eqO_ok c2, eqO_ok c3, fun f hf => eqO_ok (List.all_eq_true.mp c4 f hf), eqO_ok c5, of_decide_eq_true c6, c7, of_decide_eq_true c8, of_decide_eq_true c9, of_decide_eq_true c10, c11, eqO_ok c12, of_decide_eq_true c13⟩
  clear h c1 c2 c3 c4 c5 c6 c7 c8 c9 c10 c11 c12 c13
  cases q : K.lookup (ga K x) with
  | none => rw [q] at c0; cases c0
  | some o =>
    obtain ⟨oc, od, dt, osl⟩ := o
    rw [q] at c0
    cases oc with
    | type t =>
      cases dt with
      | cls cd =>
        obtain ⟨k1, k2⟩ := ba (show (decide (t = "type") && (match cd.mro, osl.toList with
          | .ref C' :: bm, [_, _, _, _, some (.builtin n), _] => decide (C' = ga K x) && (decide (n = "ValueError.__new__") && (cd.hasDict && (!cd.hasDel && HandSPX.refsVE bm)))
          | _, _ => false)) = true from c0)
        have k1' : t = "type" := of_decide_eq_true k1
        subst k1'
        obtain ⟨m1, m2, m3, m4, m5, m6, m7, m8, m9, m10, m11⟩ := cd
        split at k2
        · next _ _ C' bm g0 g1 g2 g3 n g5 e1 e2 =>
          obtain ⟨k2, k3⟩ := ba k2
          obtain ⟨k3, k4⟩ := ba k3
          obtain ⟨k4, k5⟩ := ba k4
          obtain ⟨k5, k6⟩ := ba k5
          refine ⟨m1, m5, m4, m2, bm, m7, m8, m9, m10, od, g0, g1, g2, g3, g5, ?_, k6⟩
          have e1' : m3 = _ := e1
          have f1 := of_decide_eq_true k2
          have f2 := of_decide_eq_true k3
          have f3 : m6 = true := k4
          have f4 : m11 = false := by simpa using k5
          subst f1 f2 f3 f4 e1'
          have e3 : osl = (osl.toList).toArray := by simp
          rw [e3, e2]
        · cases k2
      | _ => cases c0
    | _ => cases c0
/-! ### facts -/
/-- classes by number -/
def cad (cs : List Str) (K : Frag) : DD.CAd := fun n => ga K (cs.getD n "")
section
variable {K : Frag} {cs : List Str}
def sclsB (K : Frag) (D : Addr) : Bool := plainGet K D Str.empty && (isClsIn K D && (plainOver K D && eqO (findIn K (.ref D) "__setattr__") (some (some (.builtin "object.__setattr__")))))
theorem sclsB_ok {D : Addr} (h : sclsB K D = true) : SlX.SCls K D := by
  obtain ⟨c1, h⟩ := ba h
  obtain ⟨c2, h⟩ := ba h
  obtain ⟨c3, c4⟩ := ba h
  exact ⟨c1, c2, c3, eqO_ok c4⟩
def slotB (K : Frag) (D : Addr) (f : Str) (i : Nat) : Bool := eqO (findIn K (.ref D) f) (some (some (.ref (ma K D f)))) && (eqO (specialIn K (.ref (ma K D f)) "__get__") (some (some (.builtin "member_descriptor.__get__"))) && (decide (takesIn K (.ref (ma K D f)) = some true) &&
  (decide (typeIn K (.ref (ma K D f)) = some (.type "member_descriptor")) && (decide (slotIn K (ma K D f) D = some i) && decide (i < 1000)))))
theorem slotB_ok {D : Addr} {f : Str} {i : Nat} (h : slotB K D f i = true) : SlX.Slot1 K D f (ma K D f) i := by
  obtain ⟨c1, h⟩ := ba h
  obtain ⟨c2, h⟩ := ba h
  obtain ⟨c3, h⟩ := ba h
  obtain ⟨c4, h⟩ := ba h
  obtain ⟨c5, c6⟩ := ba h
  exact ⟨eqO_ok c1, eqO_ok c2, of_decide_eq_true c3, of_decide_eq_true c4, of_decide_eq_true c5, of_decide_eq_true c6⟩
theorem slotF_ok {D : Addr} {f : Str} {i : Nat} (h1 : sclsB K D = true) (h2 : slotB K D f i = true) : DD.SlotF K D f i := ⟨_, sclsB_ok h1, slotB_ok h2⟩
def ownB (K : Frag) (D : Addr) : Bool := isClsIn K D && (plainGet K D "__class__" && (eqO (findIn K (.ref D) "__class__") (some (some (.builtin "object.__class__"))) && (eqO (specialIn K (.builtin "object.__class__") "__get__") (some (some (.builtin "getset_descriptor.__get__"))) &&
  (decide (takesIn K (.builtin "object.__class__") = some true) && decide (mroIn K D (.type "object") = some true)))))
theorem ownB_ok {D : Addr} (h : ownB K D = true) : DD.OwnI K D := by
  obtain ⟨c1, h⟩ := ba h
  obtain ⟨c2, h⟩ := ba h
  obtain ⟨c3, h⟩ := ba h
  obtain ⟨c4, h⟩ := ba h
  obtain ⟨c5, c6⟩ := ba h
  exact ⟨c1, c2, eqO_ok c3, eqO_ok c4, of_decide_eq_true c5, of_decide_eq_true c6⟩
def methB (K : Frag) (D : Addr) (m : Str) : Bool := plainGet K D Str.empty && (eqO (findIn K (.ref D) m) (some (some (.ref (ma K D m)))) && (isFn K (.ref (ma K D m)) && keepIn K (.ref (ma K D m))))
theorem methB_ok {D : Addr} {m : Str} (h : methB K D m = true) : plainGet K D Str.empty = true ∧ Meth K D m (ma K D m) := by
  obtain ⟨c1, h⟩ := ba h
  obtain ⟨c2, h⟩ := ba h
  obtain ⟨c3, c4⟩ := ba h
  exact ⟨c1, eqO_ok c2, c3, c4⟩
def mkB (K : Frag) (D : Addr) : Bool := makesIn K D && (eqO (findIn K (.ref D) "__init__") (some (some (.ref (ma K D "__init__")))) && (isFn K (.ref (ma K D "__init__")) && keepIn K (.ref D)))
theorem mkB_ok {D : Addr} (h : mkB K D = true) : Mk K D (ma K D "__init__") := by
  obtain ⟨c1, h⟩ := ba h
  obtain ⟨c2, h⟩ := ba h
  obtain ⟨c3, c4⟩ := ba h
  exact ⟨c1, eqO_ok c2, c3, c4⟩
def cmetB (K : Frag) (D : Addr) (m : Str) : Bool := readsIn K D (.type "type") && (eqO (specialIn K (.ref D) "__getattribute__") (some (some (.builtin "type.__getattribute__"))) && (He5.wrapB K D "classmethod" "classmethod.__get__" m && fnIn K (He5.wf K D "classmethod" m)))
theorem cmetB_ok {D : Addr} {m : Str} (h : cmetB K D m = true) : ClX.CRead K D (.type "type") ∧ ClX.CMet K D (.type "type") m (ma K D m) (He5.wf K D "classmethod" m) := by
  obtain ⟨c1, h⟩ := ba h
  obtain ⟨c2, h⟩ := ba h
  obtain ⟨c3, c4⟩ := ba h
  exact ⟨⟨c1, eqO_ok c2⟩, He5.cmet_of c3 c4⟩
def propB (K : Frag) (D : Addr) (f : Str) : Bool := plainGet K D Str.empty && (isClsIn K D && (eqO (findIn K (.ref D) f) (some (some (.ref (ma K D f)))) && (eqO (specialIn K (.ref (ma K D f)) "__get__") (some (some (.builtin "property.__get__"))) && (decide (takesIn K (.ref (ma K D f)) = some true) &&
  (match recIn K (ma K D f) "property" with
    | some (.ref _ :: _) => true
    | _ => false)))))
theorem propB_ok {D : Addr} {f : Str} (h : propB K D f = true) : plainGet K D Str.empty = true ∧ isClsIn K D = true ∧ findIn K (.ref D) f = some (some (.ref (ma K D f))) ∧ specialIn K (.ref (ma K D f)) "__get__" = some (some (.builtin "property.__get__")) ∧
    takesIn K (.ref (ma K D f)) = some true ∧ ∃ rest, recIn K (ma K D f) "property" = some (.ref (He5.wf K D "property" f) :: rest) := by
  obtain ⟨c1, h⟩ := ba h
  obtain ⟨c2, h⟩ := ba h
  obtain ⟨c3, h⟩ := ba h
  obtain ⟨c4, h⟩ := ba h
  obtain ⟨c5, c6⟩ := ba h
  refine ⟨c1, c2, eqO_ok c3, eqO_ok c4, of_decide_eq_true c5, ?_⟩
  clear c1 c2 c3 c4 c5 h
  unfold He5.wf
  split at c6
  · next f r e => exact ⟨r, by rw [e]⟩
  · cases c6
def excCB (K : Frag) (D : Addr) : Bool := eqO (findIn K (.ref D) "__getattribute__") (some (some (.builtin "BaseException.__getattribute__"))) && (eqO (findIn K (.ref D) "__getattr__") (some none) && (decide (subIn K (.ref D) (.type "BaseException") = some true) && (hasDictIn K D &&
  (eqO (findIn K (.ref D) "__class__") (some (some (.builtin "object.__class__"))) && (eqO (specialIn K (.builtin "object.__class__") "__get__") (some (some (.builtin "getset_descriptor.__get__"))) && (decide (takesIn K (.builtin "object.__class__") = some true) && decide (mroIn K D (.type "object") = some true)))))))
theorem excCB_ok {D : Addr} (h : excCB K D = true) : ExcC K D := by
  obtain ⟨c1, h⟩ := ba h
  obtain ⟨c2, h⟩ := ba h
  obtain ⟨c3, h⟩ := ba h
  obtain ⟨c4, h⟩ := ba h
  obtain ⟨c5, h⟩ := ba h
  obtain ⟨c6, h⟩ := ba h
  obtain ⟨c7, c8⟩ := ba h
  exact ⟨eqO_ok c1, eqO_ok c2, of_decide_eq_true c3, c4, eqO_ok c5, eqO_ok c6, of_decide_eq_true c7, of_decide_eq_true c8⟩
def xfdB (K : Frag) (D : Addr) (f : Str) : Bool := xfB K D && eqO (findIn K (.ref D) f) (some none)
theorem xfdB_ok {D : Addr} {f : Str} (h : xfdB K D f = true) : XfC K D ∧ findIn K (.ref D) f = some none := by
  obtain ⟨c1, c2⟩ := ba h
  exact ⟨xfB_ok c1, eqO_ok c2⟩
def kitFB (cs : List Str) (K : Frag) (x y : DD.TyN) (b : Bool) : Bool := decide (kitOne K (x.val (cad cs K)) (y.val (cad cs K)) = some b)
theorem plainX_ok {cn : Nat} (h : (Fa.exc (cs.getD cn "")).ok K = true) : DD.PlainX K (cad cs K) cn := by
  obtain ⟨c1, c2, c3, c4⟩ := exc_ok h
  exact ⟨c1, c2, c3, c4⟩
end
/-! ### the Hook -/
/-- the facts asked: Bools; defs; defs with a closure cell -/
structure HD where
  fs : List (Frag → Bool)
  fn : List He5.DefA
  sf : List SupD
abbrev AlH : Type := Bool × List He5.FnW × List SupW
def obsH (P : Program) (d : HD) (K : Frag) : AlH := ((d.fs.all fun f => f K) && ((d.fn.all fun d => d.ok K) && (d.sf.all fun d => d.ok P K)), d.fn.map (fun d => He5.fnA K (d.at_ K)), d.sf.map fun d => supW K (supA K d))
def valH (d : HD) : AlH := (true, d.fn.map He5.DefA.val, d.sf.map SupD.val)
def SaysH (P : Program) (d : HD) (K : Frag) : Prop := obsH P d K = valH d ∧ NoList K
def obsHG (P : Program) (n : Nat) (d : HD) (g : Addr → Option Obj) : AlH := obsH P d (frN g (He5.asA g n))
def hookH (P : Program) (n : Nat) (d : HD) : Hook where
  α := AlH
  obs := fun s => obsHG P n d s.heap.get?
  val := fun _ => valH d
  says := fun _ h => ∃ K : Frag, K.In h ∧ SaysH P d K
  of := fun _ _ e => ⟨_, fun _ _ q => (frN_at q).1, e, fun _ _ q => noL_ne (frN_at q).2⟩
  keeps := fun _ _ _ ⟨K, hK, c⟩ k => ⟨K, Frag.In.keeps hK k, c⟩
theorem obsHG_eq {P : Program} {n : Nat} {d : HD} {g : Addr → Option Obj} {s : Shared} (h : ∀ a, g a = s.heap.get? a) : obsHG P n d g = (hookH P n d).obs s := by
  have e : g = s.heap.get? := funext h
  rw [e] <;> rfl
section
variable {P : Program} {d : HD} {K : Frag}
theorem SaysH.fact (c : SaysH P d K) (i : Nat) {f : Frag → Bool} (h : d.fs[i]? = some f := by rfl) : f K = true := by
  have c1 := (ba (show ((d.fs.all fun f => f K) && ((d.fn.all fun d => d.ok K) && (d.sf.all fun d => d.ok P K))) = true from congrArg (fun z : AlH => z.1) c.1)).1
  exact List.all_eq_true.mp c1 f (List.mem_of_getElem? h)
theorem SaysH.def_ (c : SaysH P d K) (i : Nat) {x : He5.DefA} (h : d.fn[i]? = some x := by rfl) : ∃ fd, L2.FunD K x.name x.qual x.params x.body x.scope (x.dvs K) (x.kws K) (x.at_ K) fd := by
  have c2 := (ba (ba (show ((d.fs.all fun f => f K) && ((d.fn.all fun d => d.ok K) && (d.sf.all fun d => d.ok P K))) = true from congrArg (fun z : AlH => z.1) c.1)).2).1
  have e : d.fn.map (fun d => He5.fnA K (d.at_ K)) = d.fn.map He5.DefA.val := congrArg (fun z : AlH => z.2.1) c.1
  have e2 : (d.fn.map fun d => He5.fnA K (d.at_ K))[i]? = (d.fn.map He5.DefA.val)[i]? := by rw [e]
  rw [List.getElem?_map, List.getElem?_map, h] at e2
  exact He5.DefA.funD (Option.some.inj e2) (List.all_eq_true.mp c2 x (List.mem_of_getElem? h))
theorem SaysH.sup (c : SaysH P d K) (i : Nat) {x : SupD} (h : d.sf[i]? = some x := by rfl) : SX.SupFn P K (ga K x.cls) (supA K x) x.qual x.st := by
  have c2 := (ba (ba (show ((d.fs.all fun f => f K) && ((d.fn.all fun d => d.ok K) && (d.sf.all fun d => d.ok P K))) = true from congrArg (fun z : AlH => z.1) c.1)).2).2
  have e : d.sf.map (fun d => supW K (supA K d)) = d.sf.map SupD.val := congrArg (fun z : AlH => z.2.2) c.1
  have e2 : (d.sf.map fun d => supW K (supA K d))[i]? = (d.sf.map SupD.val)[i]? := by rw [e]
  rw [List.getElem?_map, List.getElem?_map, h] at e2
  exact SupD.fn (Option.some.inj e2) (List.all_eq_true.mp c2 x (List.mem_of_getElem? h))
end
/-- a def of the text, without defaults -/
def dA (at_ : Frag → Addr) (name qual : Str) (st : Stmt) : He5.DefA := { at_ := at_, name := name, qual := qual, params := defArgs st, body := defBody st, scope := defScope st }
theorem fun_dA {K : Frag} {at_ : Frag → Addr} {name qual : Str} {st : Stmt} (h : ∃ fd, L2.FunD K (dA at_ name qual st).name (dA at_ name qual st).qual (dA at_ name qual st).params (dA at_ name qual st).body (dA at_ name qual st).scope ((dA at_ name qual st).dvs K) ((dA at_ name qual st).kws K) ((dA at_ name qual st).at_ K) fd) :
    ∃ fd, Fun K name qual st (at_ K) fd := by
  obtain ⟨fd, F⟩ := h
  exact ⟨fd, He5.fun_of (kws := []) F⟩
/-! ### the law's end -/
theorem sqL_frz {K : Frag} {H : Hp} {a : Addr} {xs : List V} (nl : NoList K) (hO : Only H) (h : SqL K H a xs) : ∃ o, H a = some (.frz o (.lst xs)) := by
  rcases h with h | ⟨o, its, n, h1, h2, _⟩
  · rcases h with h | ⟨o, h⟩
    · rcases hO a with z | ⟨o, ys, z⟩
      · rw [z] at h; cases h
      · rw [z] at h; cases h
    · exact ⟨o, h⟩
  · exact absurd h2 (nl a o h1)
def noM : DD.MM := fun _ => none
theorem reps_ints {C : DD.CAd} {H : Hp} : ∀ ns : List Int, DD.Reps C H (ns.map DD.D.int) (ns.map V.int)
  | [] => rfl
  | n :: ns => ⟨.int n, ns.map V.int, rfl, rfl, reps_ints ns⟩
theorem cx_none {P : Program} {w : World} {H : Hp} {s s' : Shared} {e : Value} (h : L2.CX P w [] H s (fun _ _ _ => False) e s') : False := by
  obtain ⟨a, B, H', cls, d, _, _, _, _, _, _, _, z⟩ := h
  exact z
/-- the law: its def keeps the promise that it answers True at each script -/
theorem walk_D {l : OpenLaw} {n k : Nat} {q : Program} {loose : List Str} {XP : (Str → Option Value) → Heap → Prop} {d : DefRec} {x : Str} {hd : HD} {m : Nat}
    (hn : l.most = some n) (hn2 : n ≤ sizeLine) (hdf : d.params.defaults = []) (hr : Room k callerA)
    (F : ∀ (w : World) (mg : Str → Option Value) (fa : Addr) (h : Heap) (K : Frag), K.In h → SaysH l.prog hd K → h.Ns mainGlobals mg → mg d.name = some (.ref fa) →
      ∃ (C : DD.CAd) (fd : FuncData) (sp : DD.SpD), (∀ (s : Shared) (u : Value), BindsTo s fd ⟨[u], []⟩ [(x, u)]) ∧
        (∀ ns : List Int, ns.length ≤ n → (∀ z ∈ ns, Builtin.Int.intBits z ≤ 1048576) → sp [.lst (ns.map DD.D.int)] noM (fun v _ => v = .bl true) fun _ _ => False) ∧
        ∀ base : Heap, K.In base → base.Ns mainGlobals mg → FnOk l.prog w K mg base (L2.CX l.prog w) k fa fd [x] (DD.toSp C sp)) :
    WalkO q loose XP (hookH l.prog m hd).says l.row.toRowW d [] (fun f vs => PySem.call f vs) := by
  refine Att.attach_callB hn hdf fun w s₀ s₁ mg mb fa o pm cd doc a vs ns G Y ho hd' hcd hmg hobj hints hlen hbits hg => ?_
  obtain ⟨K, KX, S⟩ := Y
  obtain ⟨C, fd, sp, hb, hsp, hF⟩ := F w mg fa _ K KX S G.T.g hmg
  refine law_call KX G.T.g G.T.b G.T.builtins G.T.nolimit hg hobj hints (Nat.le_trans hlen hn2) hr hF hb (fun H hO hS => ?_) fun H e s' => cx_none
  obtain ⟨o, ho⟩ := sqL_frz S.2 hO hS
  refine ⟨[.lst (ns.map DD.D.int)], noM, fun v _ => v = .bl true, fun _ _ => False, ⟨.ref a, [], rfl, ⟨a, o, _, rfl, ho, reps_ints ns⟩, rfl⟩, fun _ _ z => (nomatch z), hsp ns hlen hbits, fun v H' d M' _ r _ e => ?_, fun _ _ _ _ _ _ _ _ z => z⟩
  subst e
  exact r
end DH

/-! More operators: minus, truth, in. -/
namespace DD
open PySem PySem.Spec PyProof.Rows L2
section
variable {C : CAd} {X : Cx} {c : DC C X} {pos : Pos} {a e : Expr} {ta te : TED} {H : Hp} {M : MM}
def dNeg (ta : TED) : TED := fun ex ρ M Q => ta ex ρ M fun d M1 => match d with
  | .int i => Q (.int (-i)) M1
  | _ => False
theorem pd_neg (ha : PD c a ta) : PD c (.UnaryOp .USub a pos) (dNeg ta) :=
  PD.mk (pe_un un_neg ha) fun σ H ρ M Qd Q n h k => ⟨ρ, M, _, n, h, fun v H1 d M1 z r m g => by
    cases d with
    | int i =>
      have e0 : v = .int i := r
      subst e0
      exact ⟨i, rfl, k (.int (-i)) H1 (.int (-i)) M1 z rfl m g⟩
    | _ => exact g.elim⟩
/-- truth -/
def truD (d : D) (M : MM) : Option Bool := match d with
  | .non => some false
  | .bl b => some b
  | .int i => some (i != 0)
  | .str x => if x.length ≤ 1000000 then some ((x.length : Int) != 0) else none
  | d => (seqD d M).map fun l => !l.isEmpty
def dTruth (te : TED) : TTD := fun ex ρ M Q => te ex ρ M fun d M1 => match truD d M1 with
  | some b => Q b M1
  | none => False
theorem isEmpty_reps {l : List D} {vs : List V} (r : Reps C H l vs) : vs.isEmpty = l.isEmpty := by
  cases l with
  | nil => rw [show vs = [] from r]; rfl
  | cons d l => obtain ⟨v, u, rfl, _⟩ := r; rfl
theorem truD_ok {d : D} {v : V} {b : Bool} (m : RM C H M) (r : Rep C H d v) (h : truD d M = some b) : TruV X.K v H b := by
  cases d with
  | non => cases h; cases r; rfl
  | bl b => cases h; cases r; rfl
  | int i => cases h; cases r; rfl
  | str x =>
    have h' : (if x.length ≤ 1000000 then some ((x.length : Int) != 0) else none) = some b := h
    cases r
    split at h'
    · next q => cases h'; exact ⟨line6 q, rfl⟩
    · cases h'
  | tup l =>
    cases h
    obtain ⟨a, vs, rfl, ha, rs⟩ := r
    exact .inr (.inl ⟨vs, SqT.of ha, by rw [isEmpty_reps rs]⟩)
  | lst l =>
    cases h
    obtain ⟨a, o, vs, rfl, ha, rs⟩ := r
    exact .inl ⟨vs, .inl (.inr ⟨o, ha⟩), by rw [isEmpty_reps rs]⟩
  | ins k sl ks vs => cases h
  | adr a =>
    have h' : (seqD (.adr a) M).map (fun l => !l.isEmpty) = some b := h
    cases q : seqD (.adr a) M with
    | none => rw [q] at h'; cases h'
    | some l =>
      rw [q] at h'; cases h'
      have e1 : ∃ u, M a = some u ∧ u = .lst l := by
        have q' : seqD (.adr a) M = some l := q
        unfold seqD isL at q'
        cases z : M a with
        | none => simp [z] at q'
        | some u =>
          refine ⟨u, rfl, ?_⟩
          cases u <;> simp [z] at q' <;> (try rw [q'])
      obtain ⟨u, e1, rfl⟩ := e1
      obtain ⟨vs, ha, rs⟩ := m a _ e1
      have e0 : v = .ref a := r
      subst e0
      exact .inl ⟨vs, .inl (.inl ha), by rw [isEmpty_reps rs]⟩
theorem pdt_truth (ha : PD c a ta) (he : ∀ whole, isTrue a X.env whole = (do let v ← whole; standAt a.pos; holding [v] (truthy v)) := by intro _; rfl) : PDT c a (dTruth ta) :=
  PDT.mk (pt_truth ha he) fun σ H ρ M Qd Q n h k => ⟨ρ, M, _, n, h, fun v H1 d M1 z r m g => by
    split at g
    · next b e => exact ⟨b, truD_ok m r e, k b H1 M1 z m g⟩
    · exact g.elim⟩
/-- in, of signs and of flat lists -/
def dIn (neg : Bool) : R2D := fun x y M Q => match y with
  | .str _ => dInSign neg x y M Q
  | _ => dInFl neg x y M Q
theorem opd_in : OpD C X (compareOp .In) (dIn false) := by
  obtain ⟨r1, o1, k1⟩ := opd_inSign (C := C) (X := X)
  obtain ⟨r2, o2, k2⟩ := opd_inFl (C := C) (X := X)
  refine ⟨_, o1.or o2, fun H M x y dx dy Qd Q rx ry m g k => ?_⟩
  unfold dIn at g
  split at g
  · exact .inl (k1 H M x y dx _ Qd Q rx ry m g k)
  · exact .inr (k2 H M x y dx _ Qd Q rx ry m g k)
theorem opd_notIn : OpD C X (compareOp .NotIn) (dIn true) := by
  obtain ⟨r1, o1, k1⟩ := opd_notInSign (C := C) (X := X)
  obtain ⟨r2, o2, k2⟩ := opd_notInFl (C := C) (X := X)
  refine ⟨_, o1.or o2, fun H M x y dx dy Qd Q rx ry m g k => ?_⟩
  unfold dIn at g
  split at g
  · exact .inl (k1 H M x y dx _ Qd Q rx ry m g k)
  · exact .inr (k2 H M x y dx _ Qd Q rx ry m g k)
end
end DD
namespace DD
open PySem PySem.Spec PyProof.Rows L2
/-- a block's names, checked -/
def kindE (a b : NameKind) : Bool := decide (a = b)
def blkB (N : List Str) (sc scope : Scope) (own : List (Str × Nat)) : Bool :=
  (match scope.kind with | .function => true | _ => false) && (scope.names.all (fun y => decide (scope.names.lookup y.1 = some y.2)) && (own.all (fun p => decide (N[p.2]? = some p.1)) &&
  (scope.names.all (fun y => !(kindE y.2 .free) || (decide (sc.names.lookup y.1 = some .cell) || decide (sc.names.lookup y.1 = some .free))) &&
   scope.names.all (fun y => !(kindE y.2 .local || kindE y.2 .cell) || ((own.map (·.1)).contains y.1 || !N.contains y.1)))))
theorem blkB_ok {N : List Str} {sc scope : Scope} {own : List (Str × Nat)} (h : blkB N sc scope own = true) : BlkOk N sc scope own := by
  obtain ⟨c1, h⟩ := Bool.and_eq_true_iff.mp h
  obtain ⟨c2, h⟩ := Bool.and_eq_true_iff.mp h
  obtain ⟨c3, h⟩ := Bool.and_eq_true_iff.mp h
  obtain ⟨c4, c5⟩ := Bool.and_eq_true_iff.mp h
  refine ⟨?_, fun y hy => of_decide_eq_true (List.all_eq_true.mp c2 y hy), fun p hp => of_decide_eq_true (List.all_eq_true.mp c3 p hp), fun y hy e => ?_, fun y hy e => ?_⟩
  · cases q : scope.kind with
    | function => rfl
    | _ => rw [q] at c1; cases c1
  · have z := List.all_eq_true.mp c4 y hy
    have k : kindE y.2 .free = true := decide_eq_true e
    rw [k] at z
    simpa using z
  · have z := List.all_eq_true.mp c5 y hy
    have k : (kindE y.2 .local || kindE y.2 .cell) = true := by
      rcases e with e | e
      · have : kindE y.2 .local = true := decide_eq_true e
        rw [this]; rfl
      · have : kindE y.2 .cell = true := decide_eq_true e
        rw [this, Bool.or_true]
    rw [k] at z
    simpa using z
end DD

/-! The program's classes by number; tables of answers. -/
namespace DH
open PySem
def fa (f : He.Fa) : PySem.W.Frag → Bool := fun K => f.ok K
end DH
namespace DD
open PySem PySem.Spec PyProof.Rows L2
/-- a class's chain -/
def ancL : List (List Nat) := [[0], [1, 0], [2, 1, 0], [3, 0], [4, 0], [5, 0], [6, 0], [7, 6, 0], [8, 6, 0], [9, 6, 0], [10, 6, 0], [11, 0], [12, 0], [13, 12, 0], [14, 12, 0], [15, 0], [16, 15, 0], [17, 15, 0], [18, 15, 0], [19, 0], [20, 0], [21, 0], [22, 0], [23, 0], [24], [25], [26], [27], [28], [29], [30], [31], [32], [33], [34], [35], [36, 35], [37, 35], [38], [39], [40], [41], [42], [43], [44], [45], [46], [47], [48, 0], [49]]
def isAnc (i j : Nat) : Bool := (ancL.getD i []).contains j
def exmP (pres : List Nat) (i j : Nat) : Option Bool := match pres.contains i && pres.contains j with
  | true => some (isAnc i j)
  | false => none
def exB (C : CAd) (K : PySem.W.Frag) (pres : List Nat) : Bool := pres.all fun i => pres.all fun j => decide (PySem.W.exmOne K (.ref (C i)) (.ref (C j)) = some (isAnc i j))
theorem exB_ok {C : CAd} {K : PySem.W.Frag} {pres : List Nat} (h : exB C K pres = true) : ∀ i j b, exmP pres i j = some b → PySem.W.exmOne K (.ref (C i)) (.ref (C j)) = some b := fun i j b e => by
  unfold exmP at e
  split at e
  · next q =>
    obtain ⟨q1, q2⟩ := Bool.and_eq_true_iff.mp q
    cases e
    exact of_decide_eq_true (List.all_eq_true.mp (List.all_eq_true.mp h i (by simpa using q1)) j (by simpa using q2))
  · cases e
/-- isinstance of an own error -/
def isxP (pres : List Nat) (k : Nat) (y : TyN) : Option Bool := match y with
  | .b _ => none
  | .o c => exmP pres k c
def isxB (C : CAd) (K : PySem.W.Frag) (pres : List Nat) : Bool := pres.all fun k => DH.excCB K (C k) && pres.all fun c => decide (PySem.W.kitOne K (.ref (C k)) (.ref (C c)) = some (isAnc k c))
theorem isxB_ok {C : CAd} {K : PySem.W.Frag} {pres : List Nat} (h : isxB C K pres = true) : IsxOk K C (isxP pres) := fun k y b e => by
  cases y with
  | b t => cases e
  | o c =>
    have e' : exmP pres k c = some b := e
    unfold exmP at e'
    split at e'
    · next q =>
      obtain ⟨q1, q2⟩ := Bool.and_eq_true_iff.mp q
      cases e'
      obtain ⟨h1, h2⟩ := Bool.and_eq_true_iff.mp (List.all_eq_true.mp h k (by simpa using q1))
      exact ⟨of_decide_eq_true (List.all_eq_true.mp h2 c (by simpa using q2)), DH.excCB_ok h1⟩
    · cases e'
/-- isinstance of data -/
def btL : List BT := [.non, .bl, .int, .str, .tup, .lst, .dic]
theorem btL_all (b : BT) : b ∈ btL := by cases b <;> decide
def isaP (pres : List Nat) (x y : TyN) : Option Bool := match x, y with
  | .b a, .b b => some (isaB a b)
  | .b _, .o c => (match pres.contains c with
    | true => some false
    | false => none)
  | .o k, .b _ => (match pres.contains k with
    | true => some false
    | false => none)
  | .o k, .o c => exmP pres k c
def isaBB (C : CAd) (K : PySem.W.Frag) (pres : List Nat) : Bool := pres.all fun k => DH.ownB K (C k) && ((btL.all fun b => decide (PySem.W.kitOne K (.type b.nm) (.ref (C k)) = some false) && decide (PySem.W.kitOne K (.ref (C k)) (.type b.nm) = some false)) && pres.all fun c => decide (PySem.W.kitOne K (.ref (C k)) (.ref (C c)) = some (isAnc k c)))
theorem isaBB_ok {C : CAd} {K : PySem.W.Frag} {pres : List Nat} (h : isaBB C K pres = true) : IsaOk K C (isaP pres) := fun x y b e => by
  cases x with
  | b x =>
    refine ⟨?_, fun k z => by cases z⟩
    cases y with
    | b y => cases e; exact isaB_ok x y
    | o c =>
      have e' : (match pres.contains c with
        | true => some false
        | false => none) = some b := e
      split at e'
      · next q =>
        cases e'
        obtain ⟨h1, h2⟩ := Bool.and_eq_true_iff.mp (List.all_eq_true.mp h c (by simpa using q))
        exact of_decide_eq_true (Bool.and_eq_true_iff.mp (List.all_eq_true.mp (Bool.and_eq_true_iff.mp h2).1 x (btL_all x))).1
      · cases e'
  | o k =>
    have own : pres.contains k = true → ∀ k', TyN.o k = .o k' → OwnI K (C k') := fun q k' z => by
      cases z
      exact DH.ownB_ok (Bool.and_eq_true_iff.mp (List.all_eq_true.mp h k (by simpa using q))).1
    cases y with
    | b y =>
      have e' : (match pres.contains k with
        | true => some false
        | false => none) = some b := e
      split at e'
      · next q =>
        cases e'
        obtain ⟨h1, h2⟩ := Bool.and_eq_true_iff.mp (List.all_eq_true.mp h k (by simpa using q))
        exact ⟨of_decide_eq_true (Bool.and_eq_true_iff.mp (List.all_eq_true.mp (Bool.and_eq_true_iff.mp h2).1 y (btL_all y))).2, own q⟩
      · cases e'
    | o c =>
      have e' : exmP pres k c = some b := e
      unfold exmP at e'
      split at e'
      · next q =>
        obtain ⟨q1, q2⟩ := Bool.and_eq_true_iff.mp q
        cases e'
        obtain ⟨h1, h2⟩ := Bool.and_eq_true_iff.mp (List.all_eq_true.mp h k (by simpa using q1))
        exact ⟨of_decide_eq_true (List.all_eq_true.mp (Bool.and_eq_true_iff.mp h2).2 c (by simpa using q2)), own q1⟩
      · cases e'
/-- fields of own errors -/
theorem xfB_ok {C : CAd} {K : PySem.W.Frag} {l : List Nat} {f : Str} {xf : Nat → Bool} (hx : xf = fun k => l.contains k) (h : (l.all fun k => DH.xfdB K (C k) f) = true) : XfOk K C f xf := fun k e => by
  subst hx
  exact DH.xfdB_ok (List.all_eq_true.mp h k (by simpa using e))
theorem fnA_of {P : Program} {w : World} {K : PySem.W.Frag} {mg : Str → Option Value} {base : Heap} {C : CAd} {k : Nat} {f : Addr} {fd : FuncData} {ps : List Str} {sp : SpD} (F : FnOk P w K mg base (L2.CX P w) k f fd ps (toSp C sp)) (b : Binds K fd ps []) : FnA P w K mg base C k f sp := by
  have z := F.raw b .nil
  intro A outer s H us vs Q E hr e0 r h
  exact z A outer s H us vs Q E hr e0 r (by show toSp C sp (vs ++ []) H Q E; rw [List.append_nil]; exact h)
/-- nothing promised -/
theorem fn_no {P : Program} {w : World} {K : PySem.W.Frag} {mg : Str → Option Value} {base : Heap} {C : CAd} {k : Nat} {f : Addr} {fd : FuncData} {ps : List Str} : FnOk P w K mg base (L2.CX P w) k f fd ps (toSp C fun _ _ _ _ => False) :=
  ⟨fun _ _ _ _ ⟨_, _, _, _, _, _, h, _⟩ => h.elim, fun _ _ _ _ _ _ _ _ _ _ _ _ _ ⟨_, _, _, _, _, _, h, _⟩ => h.elim⟩
theorem asT {C : CAd} {X : Cx} {c : DC C X} {sts : List Stmt} (rd : TSD) (h : PDSs c sts rd) : PDSs c sts rd := h
end DD

/-! The readings' equations, at full application (for simp only). -/
namespace DD
open PySem PySem.Spec PyProof.Rows L2
section
variable {C : CAd} {ex : EXK} {E : EndsD} {ρ : Rho} {M : MM} {Q : D → MM → Prop} {QB : Bool → MM → Prop} {QA : List D → MM → Prop} {QG : Rho → MM → Prop} {QO : Option Int → MM → Prop} {t u : TSD} {a b c : TED} {ta tb tg : TTD} {l m : TAD} {g : TGD} {gs : TGDs} {ti : TID} {lo hi : TOD} {rd : R2D} {rc : RCD} {rm : RMD} {sp : SpD}
theorem dSeq_e : dSeq t u ex E ρ M = t ex { E with nx := u ex E } ρ M := rfl
theorem dNext_e : dNext ex E ρ M = E.nx ρ M := rfl
theorem dBreak_e : dBreak ex E ρ M = E.bk ρ M := rfl
theorem dCont_e : dCont ex E ρ M = E.ct ρ M := rfl
theorem dExpr_e : dExpr a ex E ρ M = a ex ρ M fun _ M1 => E.nx ρ M1 := rfl
theorem dRet_e : dRet a ex E ρ M = a ex ρ M E.rt := rfl
theorem dRetN_e : dRetN ex E ρ M = E.rt .non M := rfl
theorem dIfS_e : dIfS tg t u ex E ρ M = tg ex ρ M fun b M1 => match b with
  | true => t ex E ρ M1
  | false => u ex E ρ M1 := rfl
theorem dAsg_e : dAsg a g ex E ρ M = a ex ρ M fun d M1 => g d ρ M1 E.nx := rfl
theorem dFor_e : dFor ti g t ex E ρ M = ti ex ρ M fun ds M1 => loopD g t ex E ds ρ M1 := rfl
theorem loopD_n : loopD g t ex E [] ρ M = E.nx ρ M := rfl
theorem loopD_c {d : D} {ds : List D} : loopD g t ex E (d :: ds) ρ M = g d ρ M fun ρ1 M1 => t ex { E with nx := loopD g t ex E ds, ct := loopD g t ex E ds, bk := E.nx } ρ1 M1 := rfl
theorem dRaise_e {k : Nat} : dRaise k ex E ρ M = ex ⟨k, []⟩ ρ M := rfl
theorem dRaise1_e {k : Nat} {f : Str} : dRaise1 k f a ex E ρ M = a ex ρ M fun d M1 => ex ⟨k, [(f, d)]⟩ ρ M1 := rfl
theorem dTry_e {isa : Nat → Nat → Option Bool} {cl : List ClD} : dTry isa t cl ex E ρ M = t (clsD isa ex E cl) E ρ M := rfl
theorem dSetSlot_e {cn i : Nat} : dSetSlot cn i a b ex E ρ M = a ex ρ M fun d M1 => b ex ρ M1 fun o M2 => match o with
  | .adr a => (match M2 a with
    | some (.sl k vs) => k = cn ∧ E.nx ρ (updM M2 a (.sl k (putSO i d vs)))
    | _ => False)
  | _ => False := rfl
theorem dSetIx_e : dSetIx a b c ex E ρ M = a ex ρ M fun d M1 => b ex ρ M1 fun o M2 => c ex ρ M2 fun i M3 => match o, i with
  | .adr a, .int j => (match M3 a with
    | some (.lst l) => (match ixN l.length j with
      | some k => E.nx ρ (updM M3 a (.lst (l.set k d)))
      | none => False)
    | _ => False)
  | _, _ => False := rfl
-- targets
theorem dName_e {i : Nat} {d : D} : dName i d ρ M QG = QG (put ρ i (some d)) M := rfl
theorem dGTup_e {n : Nat} {ds : List D} : dGTup n gs (.tup ds) ρ M QG = (ds.length = n ∧ gs ds ρ M QG) := rfl
theorem dGNil_e : dGNil [] ρ M QG = QG ρ M := rfl
theorem dGCons_e {d : D} {ds : List D} : dGCons g gs (d :: ds) ρ M QG = g d ρ M fun ρ' M' => gs ds ρ' M' QG := rfl
-- expressions
theorem dVar_e {i : Nat} : dVar i ex ρ M Q = match nth ρ i with
  | some d => Q d M
  | none => False := rfl
theorem dC_e {d : D} : dC d ex ρ M Q = Q d M := rfl
theorem dOp_e : dOp rd a b ex ρ M Q = a ex ρ M fun x M1 => b ex ρ M1 fun y M2 => rd x y M2 Q := rfl
theorem dTest_e : dTest a ex ρ M QB = a ex ρ M (asB QB) := rfl
theorem asB_e {x : Bool} : asB QB (.bl x) M = QB x M := rfl
theorem dAnd_e : dAnd ta tb ex ρ M QB = ta ex ρ M fun b M1 => match b with
  | true => tb ex ρ M1 QB
  | false => QB false M1 := rfl
theorem dOr_e : dOr ta tb ex ρ M QB = ta ex ρ M fun b M1 => match b with
  | true => QB true M1
  | false => tb ex ρ M1 QB := rfl
theorem dNot_e : dNot ta ex ρ M QB = ta ex ρ M fun b M1 => QB (!b) M1 := rfl
theorem dAndV_e : dAndV a b ex ρ M Q = a ex ρ M (asB fun k M1 => match k with
  | true => b ex ρ M1 Q
  | false => Q (.bl false) M1) := rfl
theorem dOrV_e : dOrV a b ex ρ M Q = a ex ρ M (asB fun k M1 => match k with
  | true => Q (.bl true) M1
  | false => b ex ρ M1 Q) := rfl
theorem dNotV_e : dNotV a ex ρ M Q = a ex ρ M (asB fun b M1 => Q (.bl (!b)) M1) := rfl
theorem dIf_e : dIf tg a b ex ρ M Q = tg ex ρ M fun k M1 => match k with
  | true => a ex ρ M1 Q
  | false => b ex ρ M1 Q := rfl
theorem dNil_e : dNil ex ρ M QA = QA [] M := rfl
theorem dCons_e : dCons a l ex ρ M QA = a ex ρ M fun x M1 => l ex ρ M1 fun xs M2 => QA (x :: xs) M2 := rfl
theorem dTup_e : dTup l ex ρ M Q = l ex ρ M fun ds M1 => ds.length ≤ 1000000 ∧ Q (.tup ds) M1 := rfl
theorem dLst_e : dLst l ex ρ M Q = l ex ρ M fun ds M1 => ds.length ≤ 1000000 ∧ Q (.lst ds) M1 := rfl
theorem dLstM_e : dLstM l ex ρ M Q = l ex ρ M fun ds M1 => ds.length ≤ 1000000 ∧ ∀ p, M1 p = none → Q (.adr p) (updM M1 p (.lst ds)) := rfl
theorem dBlt_e : dBlt rc l ex ρ M Q = l ex ρ M fun ds M1 => rc ds M1 Q := rfl
theorem dCall_e : dCall sp l ex ρ M Q = l ex ρ M fun ds M1 => sp ds M1 Q fun e M2 => ex e ρ M2 := rfl
theorem dNeg_e : dNeg a ex ρ M Q = a ex ρ M fun d M1 => match d with
  | .int i => Q (.int (-i)) M1
  | _ => False := rfl
theorem dSl_e : dSl a lo hi ex ρ M Q = a ex ρ M fun d M1 => lo ex ρ M1 fun x M2 => hi ex ρ M2 fun y M3 => dSlR d x y M3 Q := rfl
theorem dNoPart_e : dNoPart ex ρ M QO = QO none M := rfl
theorem dPart_e : dPart a ex ρ M QO = a ex ρ M fun d M1 => match d with
  | .int i => QO (some i) M1
  | _ => False := rfl
theorem dBm_e {T : String} : dBm T rm a l ex ρ M Q = a ex ρ M fun d M1 => tyD T d M1 ∧ l ex ρ M1 fun ds M2 => rm d ds M2 Q := rfl
theorem dIsi_e {isa : TyN → TyN → Option Bool} {y : TyN} : dIsi isa y a ex ρ M Q = a ex ρ M fun d M1 => match tyOfD d M1 with
  | some x => (match isa x y with
    | some b => Q (.bl b) M1
    | none => False)
  | none => False := rfl
theorem dIsX_e {isx : Nat → TyN → Option Bool} {y : TyN} {p : Addr} {er : Exc} : dIsX isx y p er a ex ρ M Q = a ex ρ M fun d M1 => match d with
  | .adr b => b = p ∧ (match isx er.c y with
    | some b => Q (.bl b) M1
    | none => False)
  | _ => False := rfl
theorem dXf_e {xf : Nat → Bool} {f : Str} {p : Addr} {er : Exc} : dXf xf f p er a ex ρ M Q = a ex ρ M fun d M1 => match d with
  | .adr b => b = p ∧ xf er.c = true ∧ (match er.fs.lookup f with
    | some v => Q v M1
    | none => False)
  | _ => False := rfl
theorem dSlot_e {cn i : Nat} : dSlot cn i a ex ρ M Q = a ex ρ M fun d M1 => match instD cn d M1 with
  | some (sl, _) => (match sl[i]? with
    | some (some v) => Q v M1
    | _ => False)
  | none => False := rfl
theorem dProp_e {cn : Nat} : dProp cn sp a ex ρ M Q = a ex ρ M fun d M1 => isInst cn d M1 ∧ sp [d] M1 Q fun _ _ => False := rfl
theorem dMeth_e {cn : Nat} {m : Str} : dMeth cn m sp a l ex ρ M Q = a ex ρ M fun d M1 => objOk cn m d M1 ∧ l ex ρ M1 fun ds M2 => sp (d :: ds) M2 Q fun x M3 => ex x ρ M3 := rfl
theorem dCMeth_e {cn : Nat} : dCMeth C cn sp a l ex ρ M Q = a ex ρ M fun d M1 => d = .adr (C cn) ∧ l ex ρ M1 fun ds M2 => sp (d :: ds) M2 Q fun x M3 => ex x ρ M3 := rfl
theorem dMake_e {slot frz : Bool} {cn : Nat} : dMake slot frz cn sp l ex ρ M Q = l ex ρ M fun ds M1 => ∀ x, M1 x = none → sp (.adr x :: ds) (updM M1 x (mk0 slot cn)) (fun d M2 => d = .non ∧ finK frz Q x M2) fun e M2 => ∃ M3, Sub M3 M2 ∧ ex e ρ M3 := rfl
theorem dMakeL_e {slot frz : Bool} {cn i : Nat} : dMakeL C slot frz cn i sp l ex ρ M Q = (nth ρ i = some (.adr (C cn)) ∧ dMake slot frz cn sp l ex ρ M Q) := rfl
theorem dLc_e {own : List Nat} : dLc ti g tg a own ex ρ M Q = ti ex ρ M fun ds M1 => ds.length ≤ 1000000 ∧ lcD g tg a (wipeR ρ own) (fun out M2 => Q (.lst out) M2) ds [] M1 := rfl
theorem lcD_n {K : List D → MM → Prop} {acc : List D} : lcD g tg a ρ K [] acc M = K acc M := rfl
theorem lcD_c {K : List D → MM → Prop} {acc : List D} {d : D} {ds : List D} : lcD g tg a ρ K (d :: ds) acc M = g d ρ M fun ρ1 M1 => tg noX ρ1 M1 fun b M2 => match b with
  | true => a noX ρ1 M2 fun y M3 => lcD g tg a ρ K ds (acc ++ [y]) M3
  | false => lcD g tg a ρ K ds acc M2 := rfl
theorem dYes_e : dYes ex ρ M QB = QB true M := rfl
theorem dSigns_e : dSigns a ex ρ M QA = a ex ρ M fun d M1 => match d with
  | .str x => QA (x.cps.toList.map fun c => .str ⟨#[c]⟩) M1
  | _ => False := rfl
theorem dItems_e : dItems a ex ρ M QA = a ex ρ M fun d M1 => match d with
  | .lst ds => QA ds M1
  | _ => False := rfl
theorem dItemsT_e : dItemsT a ex ρ M QA = a ex ρ M fun d M1 => match d with
  | .tup ds => QA ds M1
  | _ => False := rfl
theorem dRng1_e : dRng1 l ex ρ M QA = l ex ρ M fun ds M1 => match ds with
  | [.int j] => (-1000000000 ≤ j ∧ j ≤ 1000000000) ∧ QA (rngD 0 j.toNat) M1
  | _ => False := rfl
theorem dRng2_e : dRng2 l ex ρ M QA = l ex ρ M fun ds M1 => match ds with
  | [.int i, .int j] => (-1000000000 ≤ i ∧ i ≤ 1000000000 ∧ -1000000000 ≤ j ∧ j ≤ 1000000000) ∧ QA (rngD i (j - i).toNat) M1
  | _ => False := rfl
theorem dTruth_e : dTruth a ex ρ M QB = a ex ρ M fun d M1 => match truD d M1 with
  | some b => QB b M1
  | none => False := rfl
-- operators
theorem dI_e {f : Int → Int → D} {i j : Int} : dI f (.int i) (.int j) M Q = Q (f i j) M := rfl
theorem dIc_e {cd : Int → Int → Prop} {f : Int → Int → D} {i j : Int} : dIc cd f (.int i) (.int j) M Q = (cd i j ∧ Q (f i j) M) := rfl
theorem dAdd_i {i j : Int} : dAdd (.int i) (.int j) M Q = Q (.int (i + j)) M := rfl
theorem dAdd_s {i j : Str} : dAdd (.str i) (.str j) M Q = (i.length + j.length ≤ 1000000 ∧ Q (.str (i ++ j)) M) := rfl
theorem dEqS_e {x y : D} : dEqS x y M Q = match eqS x y with
  | some b => Q (.bl b) M
  | none => False := rfl
theorem dNeS_e {x y : D} : dNeS x y M Q = match eqS x y with
  | some b => Q (.bl (!b)) M
  | none => False := rfl
theorem dIsN_e {x : D} : dIsN x .non M Q = Q (.bl (DD.isNon x)) M := rfl
theorem dIsNotN_e {x : D} : dIsNotN x .non M Q = Q (.bl (!DD.isNon x)) M := rfl
theorem dIsB_e {x : D} {b : Bool} : dIsB x (.bl b) M Q = Q (.bl (isB x b)) M := rfl
theorem dIn_s {neg : Bool} {x : D} {z : Str} : dIn neg x (.str z) M Q = dInSign neg x (.str z) M Q := rfl
theorem dIn_l {neg : Bool} {x : D} {z : List D} : dIn neg x (.lst z) M Q = dInFl neg x (.lst z) M Q := rfl
theorem dIn_t {neg : Bool} {x : D} {z : List D} : dIn neg x (.tup z) M Q = dInFl neg x (.tup z) M Q := rfl
theorem dInSign_n {c : Nat} {z : Str} : dInSign true (.str ⟨#[c]⟩) (.str z) M Q = Q (.bl (!decide (c ∈ z.cps.toList))) M := rfl
theorem dInSign_y {c : Nat} {z : Str} : dInSign false (.str ⟨#[c]⟩) (.str z) M Q = Q (.bl (decide (c ∈ z.cps.toList))) M := rfl
end
end DD

namespace Q
open PySem PySem.Spec PyProof.Rows L2 DD
def presE : List Nat := [0, 1, 2, 4, 6, 7, 8, 9, 10, 20]
def presI : List Nat := [26]
abbrev exm := exmP presE
abbrev isx := isxP presE
abbrev isa := isaP presI
def xf_name : Nat → Bool := fun k => [1, 2].contains k
end Q

namespace Q
open PySem PySem.Spec PyProof.Rows L2 DD DH
abbrev LW : PySem.W.OpenLaw := PySem.Challenge.rw_steadylooks_k07_bounds_made_and_refused
abbrev P : Program := PySem.Challenge.pw_steadylooks_k07_bounds_made_and_refused
def top (i : Nat) : Stmt := P.main.body.getD i (.Pass ⟨0, 0, 0, 0⟩)
def inC (i j : Nat) : Stmt := match top i with
  | .ClassDef (body := b) .. => b.getD j (.Pass ⟨0, 0, 0, 0⟩)
  | _ => .Pass ⟨0, 0, 0, 0⟩
def cs : List Str := (["LooksError", "BadName", "DoubleName", "BadValue", "BadWidth", "NoTable", "BookError", "BadBound", "NestedBound", "NoDoor", "OtherSchema", "Exceeded", "QuestionError", "LooseHead", "TooLong", "PlanError", "BadStep", "Unfinished", "Unreached", "Spent"] : List Str) ++ (["Unreadable", "NoWitness", "TooLarge", "NoPage", "Journal", "Schema", "Bound", "Book", "Question", "Store", "Desk", "Load", "Reach", "Plan", "Growing", "Verdict", "Steady", "Unsteady", "Union", "UnionVerdict"] : List Str) ++ (["Memory", "Replay", "Reader", "DeedReader", "Keeper", "Watch", "Prepared", "Filler", "NoneAbove", "Views"] : List Str)
def su_BadName : DH.SupD := ⟨"BadName", "BadName.__init__", inC 2 0⟩
def fs_0 : List (PySem.W.Frag → Bool) := [DH.fa (.glo "BadBound"),
  DH.fa (.glo "BadName"),
  DH.fa (.glo "BookError"),
  DH.fa (.glo "Bound"),
  DH.fa (.str "DIGITS" "0123456789"),
  DH.fa (.glo "DoubleName"),
  DH.fa (.str "LETTERS" "abcdefghijklmnopqrstuvwxyz"),
  DH.fa (.int "LONGEST_NAME" 12),
  DH.fa (.glo "LooksError"),
  DH.fa (.glo "NestedBound"),
  DH.fa (.glo "NoDoor"),
  DH.fa (.glo "OtherSchema"),
  DH.fa (.int "WIDEST" 4),
  DH.fa (.glo "_law_ascending"),
  DH.fa (.glo "_law_columns"),
  DH.fa (.glo "_law_cut"),
  DH.fa (.glo "_law_draw"),
  DH.fa (.glo "_law_draws"),
  DH.fa (.glo "_law_due"),
  DH.fa (.glo "_law_given")]
def fs_1 : List (PySem.W.Frag → Bool) := [DH.fa (.glo "_law_mixed"),
  DH.fa (.glo "_law_name"),
  DH.fa (.glo "_law_named"),
  DH.fa (.glo "_law_outcome"),
  DH.fa (.glo "_law_raw"),
  DH.fa (.glo "_law_same"),
  DH.fa (.glo "_law_spoilt"),
  DH.fa (.glo "check_given"),
  DH.fa (.glo "check_name"),
  DH.fa (.glo "is_name"),
  DH.fa (.free "abs"),
  DH.fa (.free "bool"),
  DH.fa (.free "classmethod"),
  DH.fa (.free "int"),
  DH.fa (.free "isinstance"),
  DH.fa (.free "len"),
  DH.fa (.free "list"),
  DH.fa (.free "property"),
  DH.fa (.free "range"),
  DH.fa (.free "str")]
def fs_2 : List (PySem.W.Frag → Bool) := [DH.fa (.free "tuple"),
  DH.fa (.glo "law"),
  DH.fa (.exc "BadBound"),
  fun K => DH.supCB K "BadName" su_BadName ["name"],
  fun K => DH.sclsB K (He.ga K "Bound"),
  fun K => DH.slotB K (He.ga K "Bound") "given" 0,
  fun K => DH.slotB K (He.ga K "Bound") "limit" 1,
  fun K => DH.slotB K (He.ga K "Bound") "table" 2,
  fun K => DH.mkB K (He.ga K "Bound"),
  fun K => DH.cmetB K (He.ga K "Bound") "single",
  fun K => DH.propB K (He.ga K "Bound") "door",
  fun K => exB (cad cs K) K presE,
  fun K => isxB (cad cs K) K presE,
  fun K => isaBB (cad cs K) K presI,
  fun K => [1, 2].all fun k => DH.xfdB K (cad cs K k) "name"]
def fn_0 : List He5.DefA := [DH.dA (fun K => He.ga K "is_name") "is_name" "is_name" (top 16),
  DH.dA (fun K => He.ga K "check_name") "check_name" "check_name" (top 17),
  DH.dA (fun K => He.ga K "check_given") "check_given" "check_given" (top 25),
  DH.dA (fun K => He.ma K (He.ga K "Bound") "__init__") "__init__" "Bound.__init__" (inC 27 1),
  DH.dA (fun K => He5.wf K (He.ga K "Bound") "classmethod" "single") "single" "Bound.single" (inC 27 2),
  DH.dA (fun K => He5.wf K (He.ga K "Bound") "property" "door") "door" "Bound.door" (inC 27 4),
  DH.dA (fun K => He.ga K "_law_draws") "_law_draws" "_law_draws" (top 29),
  DH.dA (fun K => He.ga K "_law_mixed") "_law_mixed" "_law_mixed" (top 30),
  DH.dA (fun K => He.ga K "_law_draw") "_law_draw" "_law_draw" (top 31),
  DH.dA (fun K => He.ga K "_law_name") "_law_name" "_law_name" (top 32),
  DH.dA (fun K => He.ga K "_law_given") "_law_given" "_law_given" (top 33),
  DH.dA (fun K => He.ga K "_law_same") "_law_same" "_law_same" (top 34),
  DH.dA (fun K => He.ga K "_law_raw") "_law_raw" "_law_raw" (top 35),
  DH.dA (fun K => He.ga K "_law_cut") "_law_cut" "_law_cut" (top 36),
  DH.dA (fun K => He.ga K "_law_named") "_law_named" "_law_named" (top 37),
  DH.dA (fun K => He.ga K "_law_spoilt") "_law_spoilt" "_law_spoilt" (top 38),
  DH.dA (fun K => He.ga K "_law_columns") "_law_columns" "_law_columns" (top 39),
  DH.dA (fun K => He.ga K "_law_ascending") "_law_ascending" "_law_ascending" (top 40),
  DH.dA (fun K => He.ga K "_law_due") "_law_due" "_law_due" (top 41),
  DH.dA (fun K => He.ga K "_law_outcome") "_law_outcome" "_law_outcome" (top 42)]
def fn_1 : List He5.DefA := [DH.dA (fun K => He.ga K "law") "law" "law" (top 43)]
def hd : DH.HD := ⟨fs_0 ++ fs_1 ++ fs_2, fn_0 ++ fn_1, [su_BadName]⟩
abbrev R : PySem.W.OpenRow := PySem.W.OpenLaw.row PySem.Challenge.rw_steadylooks_k07_bounds_made_and_refused
abbrev hk : PySem.W.Hook := DH.hookH P 6 hd
def loose : List PySem.Str := (["LooksError", "BadName", "DoubleName", "BadWidth", "BookError", "BadBound", "NestedBound", "NoDoor", "OtherSchema", "Unreadable", "LETTERS", "DIGITS", "LONGEST_NAME", "WIDEST", "is_name", "check_name", "LONGEST_NUMBER", "read_number", "split_once", "split_list", "read_call", "check_given", "picked", "Bound", "_law_draws", "_law_mixed", "_law_draw", "_law_name", "_law_given", "_law_same"] : List PySem.Str) ++ (["_law_raw", "_law_cut", "_law_named", "_law_spoilt", "_law_columns", "_law_ascending", "_law_due", "_law_outcome"] : List PySem.Str)
def ob (s : PySem.W.SharedT) : DH.AlH := DH.obsHG P 6 hd (HandSHeadRun.getT s)
theorem ob_eq (s : PySem.W.SharedT) : ob s = hk.obs s.abs := DH.obsHG_eq (HandSHeadRun.getT_eq s)
end Q

namespace Q
open PySem PySem.Spec PyProof.Rows L2 DD DH
set_option maxHeartbeats 0 in
theorem run (w : World) : HandSHeadRun.RunEq R (PySem.W.view R.prog [43]) hk ob 20000 loose w := by
  intro os
  kernel_rfl
end Q

namespace Q
open PySem PySem.Spec PyProof.Rows L2 DD DH
theorem g_BadBound {K : PySem.W.Frag} {mg : Str → Option Value} {base : Heap} (S : DH.SaysH P hd K) (X0 : K.In base) (G : base.Ns mainGlobals mg) : mg "BadBound" = some (.ref (He.ga K "BadBound")) := He.glo_ok X0 G (S.fact 0 rfl)
theorem g_BadName {K : PySem.W.Frag} {mg : Str → Option Value} {base : Heap} (S : DH.SaysH P hd K) (X0 : K.In base) (G : base.Ns mainGlobals mg) : mg "BadName" = some (.ref (He.ga K "BadName")) := He.glo_ok X0 G (S.fact 1 rfl)
theorem g_BookError {K : PySem.W.Frag} {mg : Str → Option Value} {base : Heap} (S : DH.SaysH P hd K) (X0 : K.In base) (G : base.Ns mainGlobals mg) : mg "BookError" = some (.ref (He.ga K "BookError")) := He.glo_ok X0 G (S.fact 2 rfl)
theorem g_Bound {K : PySem.W.Frag} {mg : Str → Option Value} {base : Heap} (S : DH.SaysH P hd K) (X0 : K.In base) (G : base.Ns mainGlobals mg) : mg "Bound" = some (.ref (He.ga K "Bound")) := He.glo_ok X0 G (S.fact 3 rfl)
theorem g_DIGITS {K : PySem.W.Frag} {mg : Str → Option Value} {base : Heap} (S : DH.SaysH P hd K) (X0 : K.In base) (G : base.Ns mainGlobals mg) : ∃ t, mg "DIGITS" = some (.str "0123456789" t) := He.str_ok X0 G (S.fact 4 rfl)
theorem g_DoubleName {K : PySem.W.Frag} {mg : Str → Option Value} {base : Heap} (S : DH.SaysH P hd K) (X0 : K.In base) (G : base.Ns mainGlobals mg) : mg "DoubleName" = some (.ref (He.ga K "DoubleName")) := He.glo_ok X0 G (S.fact 5 rfl)
theorem g_LETTERS {K : PySem.W.Frag} {mg : Str → Option Value} {base : Heap} (S : DH.SaysH P hd K) (X0 : K.In base) (G : base.Ns mainGlobals mg) : ∃ t, mg "LETTERS" = some (.str "abcdefghijklmnopqrstuvwxyz" t) := He.str_ok X0 G (S.fact 6 rfl)
theorem g_LONGEST_NAME {K : PySem.W.Frag} {mg : Str → Option Value} {base : Heap} (S : DH.SaysH P hd K) (X0 : K.In base) (G : base.Ns mainGlobals mg) : ∃ t, mg "LONGEST_NAME" = some (.int 12 t) := He.int_ok X0 G (S.fact 7 rfl)
theorem g_LooksError {K : PySem.W.Frag} {mg : Str → Option Value} {base : Heap} (S : DH.SaysH P hd K) (X0 : K.In base) (G : base.Ns mainGlobals mg) : mg "LooksError" = some (.ref (He.ga K "LooksError")) := He.glo_ok X0 G (S.fact 8 rfl)
theorem g_NestedBound {K : PySem.W.Frag} {mg : Str → Option Value} {base : Heap} (S : DH.SaysH P hd K) (X0 : K.In base) (G : base.Ns mainGlobals mg) : mg "NestedBound" = some (.ref (He.ga K "NestedBound")) := He.glo_ok X0 G (S.fact 9 rfl)
theorem g_NoDoor {K : PySem.W.Frag} {mg : Str → Option Value} {base : Heap} (S : DH.SaysH P hd K) (X0 : K.In base) (G : base.Ns mainGlobals mg) : mg "NoDoor" = some (.ref (He.ga K "NoDoor")) := He.glo_ok X0 G (S.fact 10 rfl)
theorem g_OtherSchema {K : PySem.W.Frag} {mg : Str → Option Value} {base : Heap} (S : DH.SaysH P hd K) (X0 : K.In base) (G : base.Ns mainGlobals mg) : mg "OtherSchema" = some (.ref (He.ga K "OtherSchema")) := He.glo_ok X0 G (S.fact 11 rfl)
theorem g_WIDEST {K : PySem.W.Frag} {mg : Str → Option Value} {base : Heap} (S : DH.SaysH P hd K) (X0 : K.In base) (G : base.Ns mainGlobals mg) : ∃ t, mg "WIDEST" = some (.int 4 t) := He.int_ok X0 G (S.fact 12 rfl)
theorem g__law_ascending {K : PySem.W.Frag} {mg : Str → Option Value} {base : Heap} (S : DH.SaysH P hd K) (X0 : K.In base) (G : base.Ns mainGlobals mg) : mg "_law_ascending" = some (.ref (He.ga K "_law_ascending")) := He.glo_ok X0 G (S.fact 13 rfl)
theorem g__law_columns {K : PySem.W.Frag} {mg : Str → Option Value} {base : Heap} (S : DH.SaysH P hd K) (X0 : K.In base) (G : base.Ns mainGlobals mg) : mg "_law_columns" = some (.ref (He.ga K "_law_columns")) := He.glo_ok X0 G (S.fact 14 rfl)
theorem g__law_cut {K : PySem.W.Frag} {mg : Str → Option Value} {base : Heap} (S : DH.SaysH P hd K) (X0 : K.In base) (G : base.Ns mainGlobals mg) : mg "_law_cut" = some (.ref (He.ga K "_law_cut")) := He.glo_ok X0 G (S.fact 15 rfl)
theorem g__law_draw {K : PySem.W.Frag} {mg : Str → Option Value} {base : Heap} (S : DH.SaysH P hd K) (X0 : K.In base) (G : base.Ns mainGlobals mg) : mg "_law_draw" = some (.ref (He.ga K "_law_draw")) := He.glo_ok X0 G (S.fact 16 rfl)
theorem g__law_draws {K : PySem.W.Frag} {mg : Str → Option Value} {base : Heap} (S : DH.SaysH P hd K) (X0 : K.In base) (G : base.Ns mainGlobals mg) : mg "_law_draws" = some (.ref (He.ga K "_law_draws")) := He.glo_ok X0 G (S.fact 17 rfl)
theorem g__law_due {K : PySem.W.Frag} {mg : Str → Option Value} {base : Heap} (S : DH.SaysH P hd K) (X0 : K.In base) (G : base.Ns mainGlobals mg) : mg "_law_due" = some (.ref (He.ga K "_law_due")) := He.glo_ok X0 G (S.fact 18 rfl)
theorem g__law_given {K : PySem.W.Frag} {mg : Str → Option Value} {base : Heap} (S : DH.SaysH P hd K) (X0 : K.In base) (G : base.Ns mainGlobals mg) : mg "_law_given" = some (.ref (He.ga K "_law_given")) := He.glo_ok X0 G (S.fact 19 rfl)
theorem g__law_mixed {K : PySem.W.Frag} {mg : Str → Option Value} {base : Heap} (S : DH.SaysH P hd K) (X0 : K.In base) (G : base.Ns mainGlobals mg) : mg "_law_mixed" = some (.ref (He.ga K "_law_mixed")) := He.glo_ok X0 G (S.fact 20 rfl)
theorem g__law_name {K : PySem.W.Frag} {mg : Str → Option Value} {base : Heap} (S : DH.SaysH P hd K) (X0 : K.In base) (G : base.Ns mainGlobals mg) : mg "_law_name" = some (.ref (He.ga K "_law_name")) := He.glo_ok X0 G (S.fact 21 rfl)
theorem g__law_named {K : PySem.W.Frag} {mg : Str → Option Value} {base : Heap} (S : DH.SaysH P hd K) (X0 : K.In base) (G : base.Ns mainGlobals mg) : mg "_law_named" = some (.ref (He.ga K "_law_named")) := He.glo_ok X0 G (S.fact 22 rfl)
theorem g__law_outcome {K : PySem.W.Frag} {mg : Str → Option Value} {base : Heap} (S : DH.SaysH P hd K) (X0 : K.In base) (G : base.Ns mainGlobals mg) : mg "_law_outcome" = some (.ref (He.ga K "_law_outcome")) := He.glo_ok X0 G (S.fact 23 rfl)
theorem g__law_raw {K : PySem.W.Frag} {mg : Str → Option Value} {base : Heap} (S : DH.SaysH P hd K) (X0 : K.In base) (G : base.Ns mainGlobals mg) : mg "_law_raw" = some (.ref (He.ga K "_law_raw")) := He.glo_ok X0 G (S.fact 24 rfl)
theorem g__law_same {K : PySem.W.Frag} {mg : Str → Option Value} {base : Heap} (S : DH.SaysH P hd K) (X0 : K.In base) (G : base.Ns mainGlobals mg) : mg "_law_same" = some (.ref (He.ga K "_law_same")) := He.glo_ok X0 G (S.fact 25 rfl)
theorem g__law_spoilt {K : PySem.W.Frag} {mg : Str → Option Value} {base : Heap} (S : DH.SaysH P hd K) (X0 : K.In base) (G : base.Ns mainGlobals mg) : mg "_law_spoilt" = some (.ref (He.ga K "_law_spoilt")) := He.glo_ok X0 G (S.fact 26 rfl)
theorem g_check_given {K : PySem.W.Frag} {mg : Str → Option Value} {base : Heap} (S : DH.SaysH P hd K) (X0 : K.In base) (G : base.Ns mainGlobals mg) : mg "check_given" = some (.ref (He.ga K "check_given")) := He.glo_ok X0 G (S.fact 27 rfl)
theorem g_check_name {K : PySem.W.Frag} {mg : Str → Option Value} {base : Heap} (S : DH.SaysH P hd K) (X0 : K.In base) (G : base.Ns mainGlobals mg) : mg "check_name" = some (.ref (He.ga K "check_name")) := He.glo_ok X0 G (S.fact 28 rfl)
theorem g_is_name {K : PySem.W.Frag} {mg : Str → Option Value} {base : Heap} (S : DH.SaysH P hd K) (X0 : K.In base) (G : base.Ns mainGlobals mg) : mg "is_name" = some (.ref (He.ga K "is_name")) := He.glo_ok X0 G (S.fact 29 rfl)
theorem g_abs {K : PySem.W.Frag} {mg : Str → Option Value} {base : Heap} (S : DH.SaysH P hd K) (X0 : K.In base) (G : base.Ns mainGlobals mg) : mg "abs" = none := He.free_ok X0 G (S.fact 30 rfl)
theorem g_bool {K : PySem.W.Frag} {mg : Str → Option Value} {base : Heap} (S : DH.SaysH P hd K) (X0 : K.In base) (G : base.Ns mainGlobals mg) : mg "bool" = none := He.free_ok X0 G (S.fact 31 rfl)
theorem g_classmethod {K : PySem.W.Frag} {mg : Str → Option Value} {base : Heap} (S : DH.SaysH P hd K) (X0 : K.In base) (G : base.Ns mainGlobals mg) : mg "classmethod" = none := He.free_ok X0 G (S.fact 32 rfl)
theorem g_int {K : PySem.W.Frag} {mg : Str → Option Value} {base : Heap} (S : DH.SaysH P hd K) (X0 : K.In base) (G : base.Ns mainGlobals mg) : mg "int" = none := He.free_ok X0 G (S.fact 33 rfl)
theorem g_isinstance {K : PySem.W.Frag} {mg : Str → Option Value} {base : Heap} (S : DH.SaysH P hd K) (X0 : K.In base) (G : base.Ns mainGlobals mg) : mg "isinstance" = none := He.free_ok X0 G (S.fact 34 rfl)
theorem g_len {K : PySem.W.Frag} {mg : Str → Option Value} {base : Heap} (S : DH.SaysH P hd K) (X0 : K.In base) (G : base.Ns mainGlobals mg) : mg "len" = none := He.free_ok X0 G (S.fact 35 rfl)
theorem g_list {K : PySem.W.Frag} {mg : Str → Option Value} {base : Heap} (S : DH.SaysH P hd K) (X0 : K.In base) (G : base.Ns mainGlobals mg) : mg "list" = none := He.free_ok X0 G (S.fact 36 rfl)
theorem g_property {K : PySem.W.Frag} {mg : Str → Option Value} {base : Heap} (S : DH.SaysH P hd K) (X0 : K.In base) (G : base.Ns mainGlobals mg) : mg "property" = none := He.free_ok X0 G (S.fact 37 rfl)
theorem g_range {K : PySem.W.Frag} {mg : Str → Option Value} {base : Heap} (S : DH.SaysH P hd K) (X0 : K.In base) (G : base.Ns mainGlobals mg) : mg "range" = none := He.free_ok X0 G (S.fact 38 rfl)
theorem g_str {K : PySem.W.Frag} {mg : Str → Option Value} {base : Heap} (S : DH.SaysH P hd K) (X0 : K.In base) (G : base.Ns mainGlobals mg) : mg "str" = none := He.free_ok X0 G (S.fact 39 rfl)
theorem g_tuple {K : PySem.W.Frag} {mg : Str → Option Value} {base : Heap} (S : DH.SaysH P hd K) (X0 : K.In base) (G : base.Ns mainGlobals mg) : mg "tuple" = none := He.free_ok X0 G (S.fact 40 rfl)
theorem g_law {K : PySem.W.Frag} {mg : Str → Option Value} {base : Heap} (S : DH.SaysH P hd K) (X0 : K.In base) (G : base.Ns mainGlobals mg) : mg "law" = some (.ref (He.ga K "law")) := He.glo_ok X0 G (S.fact 41 rfl)
theorem px_BadBound {K : PySem.W.Frag} (S : DH.SaysH P hd K) : PlainX K (cad cs K) 7 := DH.plainX_ok (cs := cs) (cn := 7) (S.fact 42 rfl)
theorem in_BadName : SX.Init1 "BadName.__init__" (inC 2 0) "name" "name" := by
  refine ⟨⟨_, _, _, _, _, _, _, _, _, _, _, _, rfl, ⟨⟨_, fun _ _ _ _ => rfl⟩, fun _ _ _ _ => rfl, fun _ _ _ _ => rfl, by decide +kernel, by decide +kernel, by decide +kernel, rfl, rfl, rfl, by decide +kernel⟩, fun _ => rfl⟩, ⟨_, rfl⟩, by decide +kernel, by decide, by decide, fun _ _ _ _ _ _ _ _ _ _ _ _ _ _ q => wpAny_of_eq rfl q⟩
theorem sx_BadName {K : PySem.W.Frag} (S : DH.SaysH P hd K) : SupX P K (cad cs K) 1 "name" := ⟨_, _, _, _, _, _, S.sup 0 rfl, DH.supCB_ok (S.fact 43 rfl), List.mem_singleton.mpr rfl, in_BadName⟩
theorem sl_Bound_given {K : PySem.W.Frag} (S : DH.SaysH P hd K) : SlotF K (cad cs K 26) "given" 0 := DH.slotF_ok (D := He.ga K "Bound") (S.fact 44 rfl) (S.fact 45 rfl)
theorem sl_Bound_limit {K : PySem.W.Frag} (S : DH.SaysH P hd K) : SlotF K (cad cs K 26) "limit" 1 := DH.slotF_ok (D := He.ga K "Bound") (S.fact 44 rfl) (S.fact 46 rfl)
theorem sl_Bound_table {K : PySem.W.Frag} (S : DH.SaysH P hd K) : SlotF K (cad cs K 26) "table" 2 := DH.slotF_ok (D := He.ga K "Bound") (S.fact 44 rfl) (S.fact 47 rfl)
theorem mk_Bound {K : PySem.W.Frag} (S : DH.SaysH P hd K) : Mk K (He.ga K "Bound") (He.ma K (He.ga K "Bound") "__init__") := DH.mkB_ok (S.fact 48 rfl)
theorem cmf_Bound_single {K : PySem.W.Frag} (S : DH.SaysH P hd K) : ClX.CRead K (He.ga K "Bound") (.type "type") ∧ ClX.CMet K (He.ga K "Bound") (.type "type") "single" (He.ma K (He.ga K "Bound") "single") (He5.wf K (He.ga K "Bound") "classmethod" "single") := DH.cmetB_ok (S.fact 49 rfl)
theorem prf_Bound_door {K : PySem.W.Frag} (S : DH.SaysH P hd K) : PySem.W.plainGet K (He.ga K "Bound") Str.empty = true ∧ PySem.W.isClsIn K (He.ga K "Bound") = true ∧ PySem.W.findIn K (.ref (He.ga K "Bound")) "door" = some (some (.ref (He.ma K (He.ga K "Bound") "door"))) ∧ PySem.W.specialIn K (.ref (He.ma K (He.ga K "Bound") "door")) "__get__" = some (some (.builtin "property.__get__")) ∧ PySem.W.takesIn K (.ref (He.ma K (He.ga K "Bound") "door")) = some true ∧ ∃ rest, PySem.W.recIn K (He.ma K (He.ga K "Bound") "door") "property" = some (.ref (He5.wf K (He.ga K "Bound") "property" "door") :: rest) := DH.propB_ok (K := K) (D := He.ga K "Bound") (f := "door") (S.fact 50 rfl)
theorem T_exm {K : PySem.W.Frag} (S : DH.SaysH P hd K) : ∀ i j b, exm i j = some b → PySem.W.exmOne K (.ref (cad cs K i)) (.ref (cad cs K j)) = some b := exB_ok (S.fact 51 rfl)
theorem T_isx {K : PySem.W.Frag} (S : DH.SaysH P hd K) : IsxOk K (cad cs K) isx := isxB_ok (S.fact 52 rfl)
theorem T_isa {K : PySem.W.Frag} (S : DH.SaysH P hd K) : IsaOk K (cad cs K) isa := isaBB_ok (S.fact 53 rfl)
theorem T_xf_name {K : PySem.W.Frag} (S : DH.SaysH P hd K) : XfOk K (cad cs K) "name" xf_name := xfB_ok (l := [1, 2]) rfl (S.fact 54 rfl)
end Q

namespace Q
open PySem PySem.Spec PyProof.Rows L2 DD
theorem out {P : MM → Prop} {M : MM} (h : P M) : ∃ M'', DD.Sub M'' M ∧ P M'' := ⟨M, DD.Sub.refl, h⟩
theorem str_len (x : Str) : (x.length : Int) = (x.cps.toList.length : Int) := by simp [Str.length]
theorem atI_pos {α : Type} {l : List α} {i : Int} (h0 : 0 ≤ i) (h1 : i < l.length) : atI l i = l[i.toNat]? := by
  unfold atI ixN
  rw [if_pos h0, if_pos h1]
  rfl
theorem ixN_pos {n : Nat} {i : Int} (h0 : 0 ≤ i) (h1 : i < n) : ixN n i = some i.toNat := by
  unfold ixN
  rw [if_pos h0, if_pos h1]
theorem atI_zero {α : Type} {a : α} {l : List α} : atI (a :: l) 0 = some a := by
  rw [atI_pos (Int.le_refl 0) (by simp)]
  rfl
theorem updM_id {M : MM} {p : Addr} {o : MO} (h : M p = some o) : updM M p o = M := by
  funext b
  unfold updM
  split
  · next e => rw [e, h]
  · rfl
section
variable {α : Type} {a b c d : α}
theorem at4_0 : atI [a, b, c, d] 0 = some a := rfl
theorem at4_1 : atI [a, b, c, d] 1 = some b := rfl
theorem at4_2 : atI [a, b, c, d] 2 = some c := rfl
theorem at4_3 : atI [a, b, c, d] 3 = some d := rfl
theorem ix4_0 : ixN 4 0 = some 0 := rfl
theorem ix4_1 : ixN 4 1 = some 1 := rfl
theorem ix4_2 : ixN 4 2 = some 2 := rfl
theorem ix4_3 : ixN 4 3 = some 3 := rfl
end
theorem loop_inv {g : TGD} {t : TSD} {ex : EXK} {E : EndsD} {ds : List D} (P : Nat → Rho → MM → Prop)
    (step : ∀ (k : Nat) (d : D) (ρ : Rho) (M : MM) (rest : Rho → MM → Prop), ds[k]? = some d → P k ρ M → (∀ ρ' M', P (k + 1) ρ' M' → rest ρ' M') → g d ρ M fun ρ1 M1 => t ex { E with nx := rest, ct := rest, bk := E.nx } ρ1 M1)
    (fin : ∀ ρ M, P ds.length ρ M → E.nx ρ M) {ρ : Rho} {M : MM} (h : P 0 ρ M) : loopD g t ex E ds ρ M := by
  have go : ∀ (l : List D) (k : Nat) (ρ : Rho) (M : MM), ds.drop k = l → k + l.length = ds.length → P k ρ M → loopD g t ex E l ρ M := by
    intro l
    induction l with
    | nil => intro k ρ M _ hk h; exact fin ρ M (by rw [← hk]; exact h)
    | cons d r ih =>
      intro k ρ M e hk h
      have ed : ds[k]? = some d := by
        have z : (ds.drop k)[0]? = some d := by rw [e]; rfl
        rw [List.getElem?_drop] at z
        exact z
      have er : ds.drop (k + 1) = r := by
        rw [← List.drop_drop, e]
        rfl
      exact step k d ρ M (loopD g t ex E r) ed h fun ρ' M' h' => ih (k + 1) ρ' M' er (by rw [List.length_cons] at hk; omega) h'
  exact go ds 0 ρ M rfl (Nat.zero_add _) h
theorem lc_inv {g : TGD} {tt : TTD} {te : TED} {ρ : Rho} {K : List D → MM → Prop} {ds : List D} (P : Nat → List D → MM → Prop)
    (step : ∀ (k : Nat) (d : D) (acc : List D) (M : MM) (rest : List D → MM → Prop), ds[k]? = some d → P k acc M → (∀ acc' M', P (k + 1) acc' M' → rest acc' M') → g d ρ M fun ρ1 M1 => tt noX ρ1 M1 fun b M2 => match b with
      | true => te noX ρ1 M2 fun y M3 => rest (acc ++ [y]) M3
      | false => rest acc M2)
    (fin : ∀ acc M, P ds.length acc M → K acc M) {M : MM} (h : P 0 [] M) : lcD g tt te ρ K ds [] M := by
  have go : ∀ (l : List D) (k : Nat) (acc : List D) (M : MM), ds.drop k = l → k + l.length = ds.length → P k acc M → lcD g tt te ρ K l acc M := by
    intro l
    induction l with
    | nil => intro k acc M _ hk h; exact fin acc M (by rw [← hk]; exact h)
    | cons d r ih =>
      intro k acc M e hk h
      have ed : ds[k]? = some d := by
        have z : (ds.drop k)[0]? = some d := by rw [e]; rfl
        rw [List.getElem?_drop] at z
        exact z
      have er : ds.drop (k + 1) = r := by
        rw [← List.drop_drop, e]
        rfl
      exact step k d acc M (lcD g tt te ρ K r) ed h fun acc' M' h' => ih (k + 1) acc' M' er (by rw [List.length_cons] at hk; omega) h'
  exact go ds 0 [] M rfl (Nat.zero_add _) h
theorem rng_get {lo : Int} {n k : Nat} {d : D} (h : (rngD lo n)[k]? = some d) : d = .int (lo + (k : Int)) ∧ k < n := by
  unfold rngD at h
  rw [List.getElem?_map] at h
  by_cases lt : k < n
  · rw [List.getElem?_range lt] at h
    cases h
    exact ⟨rfl, lt⟩
  · rw [List.getElem?_eq_none (by simpa using lt)] at h
    cases h
theorem rng_len {lo : Int} {n : Nat} : (rngD lo n).length = n := by unfold rngD; simp
theorem sgn_at {s : Str} {n : Nat} {r : Int} (hn : s.length = n) (h1 : 1 ≤ n) (h0 : 0 ≤ r) (h : r < n ∨ r = 0) : ∃ c, atI s.cps.toList r = some c ∧ c ∈ s.cps.toList := by
  have hl : s.cps.toList.length = n := by rw [← hn]; simp [Str.length]
  have lt : r < s.cps.toList.length := by omega
  have lt2 : r.toNat < s.cps.toList.length := by omega
  rw [atI_pos h0 lt]
  exact ⟨_, List.getElem?_eq_getElem lt2, List.getElem_mem lt2⟩
theorem one_len {c : Nat} : (⟨#[c]⟩ : Str).length = 1 := rfl
/-! ### is_name: slots 0=text 1=char -/
def letS : List Nat := ("abcdefghijklmnopqrstuvwxyz" : Str).cps.toList
def digS : List Nat := ("0123456789" : Str).cps.toList
def okSign (c : Nat) : Bool := decide (c ∈ letS) || decide (c ∈ digS)
def okName (x : Str) : Bool := match x.cps.toList with
  | [] => false
  | c :: r => decide (r.length < 12) && (decide (c ∈ letS) && (c :: r).all okSign)
def sp_is_name : SpD := fun ds M Q _ => ∃ x : Str, ds = [.str x] ∧ x.length ≤ 1000000 ∧ Q (.bl (okName x)) M
def r_is_name  : TSD := (dSeq (dIfS (dOr (dTest (dOp (dI fun i j => .bl (decide (i < j))) (dBlt dLen (dCons (dVar 0) dNil)) (dC (.int 1)))) (dOr (dTest (dOp (dI fun i j => .bl (decide (j < i))) (dBlt dLen (dCons (dVar 0) dNil)) (dC (.int 12)))) (dTest (dOp (dIn true) (dOp dIx (dVar 0) (dC (.int 0))) (dC (.str "abcdefghijklmnopqrstuvwxyz")))))) (dRet (dC (.bl false))) dNext)
 (dSeq (dFor (dSigns (dVar 0)) (dName 1) (dIfS (dAnd (dTest (dOp (dIn true) (dVar 1) (dC (.str "abcdefghijklmnopqrstuvwxyz")))) (dTest (dOp (dIn true) (dVar 1) (dC (.str "0123456789"))))) (dRet (dC (.bl false))) dNext))
 (dRet (dC (.bl true)))))
theorem len_is_name {ds M Q E} (h : sp_is_name ds M Q E) : ds.length = 1 := by
  first
    | (obtain ⟨rfl, _⟩ := h; rfl)
    | (obtain ⟨_, rfl, _⟩ := h; rfl)
    | (obtain ⟨_, _, rfl, _⟩ := h; rfl)
    | (obtain ⟨_, _, _, rfl, _⟩ := h; rfl)
    | (obtain ⟨_, _, _, _, rfl, _⟩ := h; rfl)
    | (obtain ⟨_, _, _, _, _, rfl, _⟩ := h; rfl)
    | (obtain ⟨_, _, _, _, _, _, rfl, _⟩ := h; rfl)
theorem red_is_name {ds M Q E} (h : sp_is_name ds M Q E) : r_is_name (exitX E) (exitE Q) (startR 2 ds) M := by
  obtain ⟨x, rfl, hl, h⟩ := h
  simp only [r_is_name, if_pos hl, str_len, startR, List.map_cons, List.map_nil, List.length_cons, List.length_nil, List.cons_append, List.nil_append, List.append_nil, List.replicate, Nat.reduceAdd, Nat.reduceSub, Nat.zero_add, dSeq, dIfS, dOr, dAnd, dNot, dTest, dOp, dBlt, dLen, lenD, dCons, dNil, dVar, nth, put, dC, dI, dIc, asB, dRet, dRetN, dNext, dFor, dSigns, dItems, dItemsT, dIx, ixD, dIn, dInSign, dName, dAsg, dSl, dSlR, dPart, dNoPart, dAndV, dOrV, dNotV, dIf, dTup, dLst, dLstM, dExpr, dCall, dNeg, dAdd, dEqS, dNeS, dIsN, dIsNotN, dIsB, dRng1, dRng2, dInt1, dAbs, dStrI, dTupOf, dListOf, dListOfM, dRaise, dRaise1, dGTup, dGCons, dGNil, dSetIx, dBm, tyD, dInsert, dAppend, atM, dIsi, dIsX, dXf, dSlot, dProp, dSetSlot, instD, DD.isNon, DD.isB, eqS, isL, seqD, updM_same, updM_updM, Option.map_some, Option.bind_some, List.getElem?_cons_succ, List.getElem?_cons_zero, List.set_cons_zero, List.set_cons_succ, ↓reduceIte, exitE, and_true, true_and, Bool.not_true, Bool.not_false, decide_true, decide_false]
  unfold okName at h
  cases hx : x.cps.toList with
  | nil => rw [hx] at h; exact out h
  | cons c r =>
    rw [hx] at h
    have e1 : decide ((((c :: r : List Nat).length : Nat) : Int) < 1) = false := by simp; omega
    rw [e1]
    simp only []
    by_cases h12 : r.length < 12
    · have e2 : decide ((12 : Int) < (((c :: r : List Nat).length : Nat) : Int)) = false := by simp; omega
      rw [e2]
      have e3 : atI (c :: r) 0 = some c := atI_zero
      simp only [e3, Option.map_some]
      by_cases hc : c ∈ letS
      · have e4 : decide (c ∈ (Str.ofString "abcdefghijklmnopqrstuvwxyz").cps.toList) = true := decide_eq_true hc
        simp only [e4, Bool.not_true]
        have h' : Q (.bl ((c :: r).all okSign)) M := by
          have e5 : decide (r.length < 12) = true := decide_eq_true h12
          have e6 : decide (c ∈ letS) = true := decide_eq_true hc
          simp only [e5, e6, Bool.true_and] at h
          exact h
        clear h e1 e2 e3 e4
        have loop : ∀ (l : List Nat) (o : Option D), Q (.bl (l.all okSign)) M → loopD (dName 1)
                (dIfS
                  (dAnd (dTest (dOp (dIn true) (dVar 1) (dC (D.str (Str.ofString "abcdefghijklmnopqrstuvwxyz")))))
                    (dTest (dOp (dIn true) (dVar 1) (dC (D.str (Str.ofString "0123456789"))))))
                  (dRet (dC (D.bl false))) dNext)
                (exitX E)
                {
                  nx :=
                    dRet (dC (D.bl true)) (exitX E)
                      { nx := fun x M' => ∃ M'', DD.Sub M'' M' ∧ Q D.non M'',
                        rt := fun d M' => ∃ M'', DD.Sub M'' M' ∧ Q d M'' },
                  rt := fun d M' => ∃ M'', DD.Sub M'' M' ∧ Q d M'' }
                (List.map (fun c => D.str { cps := #[c] }) l) [some (D.str x), o] M := by
          intro l
          induction l with
          | nil => intro o h; exact out h
          | cons c r ih =>
            intro o h
            simp only [loopD, startR, List.map_cons, List.map_nil, List.length_cons, List.length_nil, List.cons_append, List.nil_append, List.append_nil, List.replicate, Nat.reduceAdd, Nat.reduceSub, Nat.zero_add, dSeq, dIfS, dOr, dAnd, dNot, dTest, dOp, dBlt, dLen, lenD, dCons, dNil, dVar, nth, put, dC, dI, dIc, asB, dRet, dRetN, dNext, dFor, dSigns, dItems, dItemsT, dIx, ixD, dIn, dInSign, dName, dAsg, dSl, dSlR, dPart, dNoPart, dAndV, dOrV, dNotV, dIf, dTup, dLst, dLstM, dExpr, dCall, dNeg, dAdd, dEqS, dNeS, dIsN, dIsNotN, dIsB, dRng1, dRng2, dInt1, dAbs, dStrI, dTupOf, dListOf, dListOfM, dRaise, dRaise1, dGTup, dGCons, dGNil, dSetIx, dBm, tyD, dInsert, dAppend, atM, dIsi, dIsX, dXf, dSlot, dProp, dSetSlot, instD, DD.isNon, DD.isB, eqS, isL, seqD, updM_same, updM_updM, Option.map_some, Option.bind_some, List.getElem?_cons_succ, List.getElem?_cons_zero, List.set_cons_zero, List.set_cons_succ, ↓reduceIte, exitE, and_true, true_and, Bool.not_true, Bool.not_false, decide_true, decide_false]
            have ho : okSign c = (decide (c ∈ letS) || decide (c ∈ digS)) := rfl
            rw [List.all_cons, ho] at h
            by_cases hc : c ∈ letS
            · have e4 : decide (c ∈ (Str.ofString "abcdefghijklmnopqrstuvwxyz").cps.toList) = true := decide_eq_true hc
              have e5 : decide (c ∈ letS) = true := e4
              rw [e5] at h
              simp only [e4, Bool.not_true]
              exact ih _ (by simpa using h)
            · have e4 : decide (c ∈ (Str.ofString "abcdefghijklmnopqrstuvwxyz").cps.toList) = false := decide_eq_false hc
              have e5 : decide (c ∈ letS) = false := e4
              rw [e5] at h
              simp only [e4, Bool.not_false]
              by_cases hd : c ∈ digS
              · have e6 : decide (c ∈ (Str.ofString "0123456789").cps.toList) = true := decide_eq_true hd
                have e7 : decide (c ∈ digS) = true := e6
                rw [e7] at h
                simp only [e6, Bool.not_true]
                exact ih _ (by simpa using h)
              · have e6 : decide (c ∈ (Str.ofString "0123456789").cps.toList) = false := decide_eq_false hd
                have e7 : decide (c ∈ digS) = false := e6
                rw [e7] at h
                simp only [e6, Bool.not_false]
                exact out (by simpa using h)
        exact loop _ _ h'
      · have e4 : decide (c ∈ (Str.ofString "abcdefghijklmnopqrstuvwxyz").cps.toList) = false := decide_eq_false hc
        simp only [e4, Bool.not_false]
        have e6 : decide (c ∈ letS) = false := e4
        simp only [e6, Bool.false_and, Bool.and_false] at h
        exact out h
    · have e2 : decide ((12 : Int) < (((c :: r : List Nat).length : Nat) : Int)) = true := by simp; omega
      rw [e2]
      have e5 : decide (r.length < 12) = false := decide_eq_false h12
      simp only [e5, Bool.false_and] at h
      exact out h
/-! ### check_name: slots 0=text -/
def sp_check_name : SpD := fun ds M Q E => ∃ x : Str, ds = [.str x] ∧ x.length ≤ 1000000 ∧ match okName x with
  | true => Q .non M
  | false => E ⟨1, [("name", .str x)]⟩ M
def r_check_name  : TSD := (dIfS (dNot (dTest (dCall sp_is_name (dCons (dVar 0) dNil)))) (dRaise1 1 "name" (dVar 0)) dNext)
theorem len_check_name {ds M Q E} (h : sp_check_name ds M Q E) : ds.length = 1 := by
  first
    | (obtain ⟨rfl, _⟩ := h; rfl)
    | (obtain ⟨_, rfl, _⟩ := h; rfl)
    | (obtain ⟨_, _, rfl, _⟩ := h; rfl)
    | (obtain ⟨_, _, _, rfl, _⟩ := h; rfl)
    | (obtain ⟨_, _, _, _, rfl, _⟩ := h; rfl)
    | (obtain ⟨_, _, _, _, _, rfl, _⟩ := h; rfl)
    | (obtain ⟨_, _, _, _, _, _, rfl, _⟩ := h; rfl)
theorem red_check_name {ds M Q E} (h : sp_check_name ds M Q E) : r_check_name (exitX E) (exitE Q) (startR 1 ds) M := by
  obtain ⟨x, rfl, hl, h⟩ := h
  simp only [r_check_name, startR, List.map_cons, List.map_nil, List.length_cons, List.length_nil, List.cons_append, List.nil_append, List.append_nil, List.replicate, Nat.reduceAdd, Nat.reduceSub, Nat.zero_add, dSeq, dIfS, dOr, dAnd, dNot, dTest, dOp, dBlt, dLen, lenD, dCons, dNil, dVar, nth, put, dC, dI, dIc, asB, dRet, dRetN, dNext, dFor, dSigns, dItems, dItemsT, dIx, ixD, dIn, dInSign, dName, dAsg, dSl, dSlR, dPart, dNoPart, dAndV, dOrV, dNotV, dIf, dTup, dLst, dLstM, dExpr, dCall, dNeg, dAdd, dEqS, dNeS, dIsN, dIsNotN, dIsB, dRng1, dRng2, dInt1, dAbs, dStrI, dTupOf, dListOf, dListOfM, dRaise, dRaise1, dGTup, dGCons, dGNil, dSetIx, dBm, tyD, dInsert, dAppend, atM, dIsi, dIsX, dXf, dSlot, dProp, dSetSlot, instD, DD.isNon, DD.isB, eqS, isL, seqD, updM_same, updM_updM, Option.map_some, Option.bind_some, List.getElem?_cons_succ, List.getElem?_cons_zero, List.set_cons_zero, List.set_cons_succ, ↓reduceIte, exitE, and_true, true_and, Bool.not_true, Bool.not_false, decide_true, decide_false]
  refine ⟨x, rfl, hl, ?_⟩
  cases e : okName x with
  | true => rw [e] at h; exact out h
  | false => rw [e] at h; exact out h
/-! ### check_given: slots 0=given 1=last 2=column -/
def iL (ns : List Int) : List D := ns.map D.int
def okC : Int → List Int → Bool
  | _, [] => true
  | last, c :: r => match decide (c ≤ last) || decide (4 ≤ c) with
    | true => false
    | false => okC c r
def okCols (ns : List Int) : Bool := okC (-1) ns
def sp_check_given : SpD := fun ds M Q E => ∃ ns : List Int, ds = [.tup (iL ns)] ∧ match okCols ns with
  | true => Q .non M
  | false => E ⟨7, []⟩ M
def r_check_given  : TSD := (dSeq (dAsg (dNeg (dC (.int 1))) (dName 1))
 (dFor (dItemsT (dVar 0)) (dName 2) (dSeq (dIfS (dOr (dTest (dOp (dI fun i j => .bl (decide (i ≤ j))) (dVar 2) (dVar 1))) (dTest (dOp (dI fun i j => .bl (decide (j ≤ i))) (dVar 2) (dC (.int 4))))) (dRaise 7) dNext)
 (dAsg (dVar 2) (dName 1)))))
theorem len_check_given {ds M Q E} (h : sp_check_given ds M Q E) : ds.length = 1 := by
  first
    | (obtain ⟨rfl, _⟩ := h; rfl)
    | (obtain ⟨_, rfl, _⟩ := h; rfl)
    | (obtain ⟨_, _, rfl, _⟩ := h; rfl)
    | (obtain ⟨_, _, _, rfl, _⟩ := h; rfl)
    | (obtain ⟨_, _, _, _, rfl, _⟩ := h; rfl)
    | (obtain ⟨_, _, _, _, _, rfl, _⟩ := h; rfl)
    | (obtain ⟨_, _, _, _, _, _, rfl, _⟩ := h; rfl)
theorem red_check_given {ds M Q E} (h : sp_check_given ds M Q E) : r_check_given (exitX E) (exitE Q) (startR 3 ds) M := by
  obtain ⟨ns, rfl, h⟩ := h
  simp only [r_check_given, startR, List.map_cons, List.map_nil, List.length_cons, List.length_nil, List.cons_append, List.nil_append, List.append_nil, List.replicate, Nat.reduceAdd, Nat.reduceSub, Nat.zero_add, dSeq, dIfS, dOr, dAnd, dNot, dTest, dOp, dBlt, dLen, lenD, dCons, dNil, dVar, nth, put, dC, dI, dIc, asB, dRet, dRetN, dNext, dFor, dSigns, dItems, dItemsT, dIx, ixD, dIn, dInSign, dName, dAsg, dSl, dSlR, dPart, dNoPart, dAndV, dOrV, dNotV, dIf, dTup, dLst, dLstM, dExpr, dCall, dNeg, dAdd, dEqS, dNeS, dIsN, dIsNotN, dIsB, dRng1, dRng2, dInt1, dAbs, dStrI, dTupOf, dListOf, dListOfM, dRaise, dRaise1, dGTup, dGCons, dGNil, dSetIx, dBm, tyD, dInsert, dAppend, atM, dIsi, dIsX, dXf, dSlot, dProp, dSetSlot, instD, DD.isNon, DD.isB, eqS, isL, seqD, updM_same, updM_updM, Option.map_some, Option.bind_some, List.getElem?_cons_succ, List.getElem?_cons_zero, List.set_cons_zero, List.set_cons_succ, ↓reduceIte, exitE, and_true, true_and, Bool.not_true, Bool.not_false, decide_true, decide_false]
  have loop : ∀ (l : List Int) (last : Int) (o : Option D), (match okC last l with
      | true => Q .non M
      | false => E ⟨7, []⟩ M) → loopD (dName 2) (dSeq (dIfS (dOr (dTest (dOp (dI fun i j => .bl (decide (i ≤ j))) (dVar 2) (dVar 1))) (dTest (dOp (dI fun i j => .bl (decide (j ≤ i))) (dVar 2) (dC (.int 4))))) (dRaise 7) dNext)
 (dAsg (dVar 2) (dName 1))) (exitX E)
            { nx := fun ρ M' => ∃ M'', DD.Sub M'' M' ∧ Q D.non M'', rt := fun d M' => ∃ M'', DD.Sub M'' M' ∧ Q d M'' } (iL l) [some (.tup (iL ns)), some (.int last), o] M := by
    intro l
    induction l with
    | nil => intro last o h; exact out h
    | cons c r ih =>
      intro last o h
      simp only [iL, List.map_cons, loopD, startR, List.map_cons, List.map_nil, List.length_cons, List.length_nil, List.cons_append, List.nil_append, List.append_nil, List.replicate, Nat.reduceAdd, Nat.reduceSub, Nat.zero_add, dSeq, dIfS, dOr, dAnd, dNot, dTest, dOp, dBlt, dLen, lenD, dCons, dNil, dVar, nth, put, dC, dI, dIc, asB, dRet, dRetN, dNext, dFor, dSigns, dItems, dItemsT, dIx, ixD, dIn, dInSign, dName, dAsg, dSl, dSlR, dPart, dNoPart, dAndV, dOrV, dNotV, dIf, dTup, dLst, dLstM, dExpr, dCall, dNeg, dAdd, dEqS, dNeS, dIsN, dIsNotN, dIsB, dRng1, dRng2, dInt1, dAbs, dStrI, dTupOf, dListOf, dListOfM, dRaise, dRaise1, dGTup, dGCons, dGNil, dSetIx, dBm, tyD, dInsert, dAppend, atM, dIsi, dIsX, dXf, dSlot, dProp, dSetSlot, instD, DD.isNon, DD.isB, eqS, isL, seqD, updM_same, updM_updM, Option.map_some, Option.bind_some, List.getElem?_cons_succ, List.getElem?_cons_zero, List.set_cons_zero, List.set_cons_succ, ↓reduceIte, exitE, and_true, true_and, Bool.not_true, Bool.not_false, decide_true, decide_false]
      simp only [okC] at h
      by_cases h1 : c ≤ last
      · have e1 : decide (c ≤ last) = true := decide_eq_true h1
        simp only [e1, Bool.true_or] at h ⊢
        exact out h
      · have e1 : decide (c ≤ last) = false := decide_eq_false h1
        by_cases h2 : (4 : Int) ≤ c
        · have e2 : decide ((4 : Int) ≤ c) = true := decide_eq_true h2
          simp only [e1, e2, Bool.or_true] at h ⊢
          exact out h
        · have e2 : decide ((4 : Int) ≤ c) = false := decide_eq_false h2
          simp only [e1, e2, Bool.or_false] at h ⊢
          exact ih c _ h
  exact loop ns (-1) none h
/-! ### Bound.__init__: slots 0=self 1=table 2=given 3=limit -/
def boundD (t : Str) (ns : List Int) (l : Int) : D := .ins 26 [.tup (iL ns), .int l, .str t] [] []
/-- what making a bound does -/
def bndR (t : Str) (ns : List Int) (l : Int) (Q : Prop) (E : Exc → Prop) : Prop := match okName t with
  | false => E ⟨1, [("name", .str t)]⟩
  | true => match okCols ns with
    | false => E ⟨7, []⟩
    | true => match decide (l < 1) with
      | true => E ⟨7, []⟩
      | false => Q
def sp_Bound_init : SpD := fun ds M Q E => ∃ (x : Addr) (t : Str) (ns : List Int) (l : Int), ds = [.adr x, .str t, .tup (iL ns), .int l] ∧ t.length ≤ 1000000 ∧ ns.length ≤ 1000000 ∧ M x = some (.sl 26 []) ∧
  bndR t ns l (Q .non (updM M x (.sl 26 [some (.tup (iL ns)), some (.int l), some (.str t)]))) fun e => E e M
def r_Bound_init  : TSD := (dSeq (dExpr (dCall sp_check_name (dCons (dVar 1) dNil)))
 (dSeq (dExpr (dCall sp_check_given (dCons (dVar 2) dNil)))
 (dSeq (dIfS (dTest (dOp (dI fun i j => .bl (decide (i < j))) (dVar 3) (dC (.int 1)))) (dRaise 7) dNext)
 (dSeq (dSetSlot 26 2 (dVar 1) (dVar 0))
 (dSeq (dSetSlot 26 0 (dBlt dTupOf (dCons (dVar 2) dNil)) (dVar 0))
 (dSetSlot 26 1 (dVar 3) (dVar 0)))))))
theorem len_Bound_init {ds M Q E} (h : sp_Bound_init ds M Q E) : ds.length = 4 := by
  first
    | (obtain ⟨rfl, _⟩ := h; rfl)
    | (obtain ⟨_, rfl, _⟩ := h; rfl)
    | (obtain ⟨_, _, rfl, _⟩ := h; rfl)
    | (obtain ⟨_, _, _, rfl, _⟩ := h; rfl)
    | (obtain ⟨_, _, _, _, rfl, _⟩ := h; rfl)
    | (obtain ⟨_, _, _, _, _, rfl, _⟩ := h; rfl)
    | (obtain ⟨_, _, _, _, _, _, rfl, _⟩ := h; rfl)
theorem red_Bound_init {ds M Q E} (h : sp_Bound_init ds M Q E) : r_Bound_init (exitX E) (exitE Q) (startR 4 ds) M := by
  obtain ⟨x, t, ns, l, rfl, ht, hn, hx, h⟩ := h
  unfold bndR at h
  simp only [r_Bound_init, startR, List.map_cons, List.map_nil, List.length_cons, List.length_nil, List.cons_append, List.nil_append, List.append_nil, List.replicate, Nat.reduceAdd, Nat.reduceSub, Nat.zero_add, dSeq, dIfS, dOr, dAnd, dNot, dTest, dOp, dBlt, dLen, lenD, dCons, dNil, dVar, nth, put, dC, dI, dIc, asB, dRet, dRetN, dNext, dFor, dSigns, dItems, dItemsT, dIx, ixD, dIn, dInSign, dName, dAsg, dSl, dSlR, dPart, dNoPart, dAndV, dOrV, dNotV, dIf, dTup, dLst, dLstM, dExpr, dCall, dNeg, dAdd, dEqS, dNeS, dIsN, dIsNotN, dIsB, dRng1, dRng2, dInt1, dAbs, dStrI, dTupOf, dListOf, dListOfM, dRaise, dRaise1, dGTup, dGCons, dGNil, dSetIx, dBm, tyD, dInsert, dAppend, atM, dIsi, dIsX, dXf, dSlot, dProp, dSetSlot, instD, DD.isNon, DD.isB, eqS, isL, seqD, updM_same, updM_updM, Option.map_some, Option.bind_some, List.getElem?_cons_succ, List.getElem?_cons_zero, List.set_cons_zero, List.set_cons_succ, ↓reduceIte, exitE, and_true, true_and, Bool.not_true, Bool.not_false, decide_true, decide_false]
  refine ⟨t, rfl, ht, ?_⟩
  cases e1 : okName t with
  | false => rw [e1] at h; exact out h
  | true =>
    rw [e1] at h
    refine ⟨ns, rfl, ?_⟩
    cases e2 : okCols ns with
    | false => simp only [e2] at h; exact out h
    | true =>
      simp only [e2] at h
      show (match decide (l < 1) with
        | true => _
        | false => _)
      cases e3 : decide (l < 1) with
      | true => simp only [e3] at h; exact out h
      | false =>
        simp only [e3] at h
        simp only [hx, startR, List.map_cons, List.map_nil, List.length_cons, List.length_nil, List.cons_append, List.nil_append, List.append_nil, List.replicate, Nat.reduceAdd, Nat.reduceSub, Nat.zero_add, dSeq, dIfS, dOr, dAnd, dNot, dTest, dOp, dBlt, dLen, lenD, dCons, dNil, dVar, nth, put, dC, dI, dIc, asB, dRet, dRetN, dNext, dFor, dSigns, dItems, dItemsT, dIx, ixD, dIn, dInSign, dName, dAsg, dSl, dSlR, dPart, dNoPart, dAndV, dOrV, dNotV, dIf, dTup, dLst, dLstM, dExpr, dCall, dNeg, dAdd, dEqS, dNeS, dIsN, dIsNotN, dIsB, dRng1, dRng2, dInt1, dAbs, dStrI, dTupOf, dListOf, dListOfM, dRaise, dRaise1, dGTup, dGCons, dGNil, dSetIx, dBm, tyD, dInsert, dAppend, atM, dIsi, dIsX, dXf, dSlot, dProp, dSetSlot, instD, DD.isNon, DD.isB, eqS, isL, seqD, updM_same, updM_updM, Option.map_some, Option.bind_some, List.getElem?_cons_succ, List.getElem?_cons_zero, List.set_cons_zero, List.set_cons_succ, ↓reduceIte, exitE, and_true, true_and, Bool.not_true, Bool.not_false, decide_true, decide_false]
        exact out h
theorem make_bound {M : MM} {Q : D → MM → Prop} {X : Exc → MM → Prop} {t : Str} {ns : List Int} {l : Int} (ht : t.length ≤ 1000000) (hn : ns.length ≤ 1000000) (h : bndR t ns l (Q (boundD t ns l) M) fun e => X e M) (x : Addr) (hx : M x = none) :
    sp_Bound_init [.adr x, .str t, .tup (iL ns), .int l] (updM M x (mk0 true 26)) (fun d M2 => d = .non ∧ finK true Q x M2) fun e M2 => ∃ M3, DD.Sub M3 M2 ∧ X e M3 := by
  refine ⟨x, t, ns, l, rfl, ht, hn, updM_same, ?_⟩
  unfold bndR at *
  cases e1 : okName t with
  | false => rw [e1] at h; exact ⟨M, Sub.upd hx, h⟩
  | true =>
    rw [e1] at h
    cases e2 : okCols ns with
    | false => simp only [e2] at h ⊢; exact ⟨M, Sub.upd hx, h⟩
    | true =>
      simp only [e2] at h ⊢
      cases e3 : decide (l < 1) with
      | true => simp only [e3] at h ⊢; exact ⟨M, Sub.upd hx, h⟩
      | false =>
        simp only [e3] at h ⊢
        refine ⟨by trivial, ?_⟩
        unfold finK finF
        rw [updM_updM, updM_same]
        exact ⟨[.tup (iL ns), .int l, .str t], rfl, by rw [delM_updM hx]; exact h⟩
/-! ### Bound.single: slots 0=cls 1=table 2=given -/
def sp_Bound_single (C : CAd) : SpD := fun ds M Q E => ∃ (t : Str) (ns : List Int), ds = [.adr (C 26), .str t, .tup (iL ns)] ∧ t.length ≤ 1000000 ∧ ns.length ≤ 1000000 ∧ bndR t ns 1 (Q (boundD t ns 1) M) fun e => E e M
def r_Bound_single (C : CAd) : TSD := (dRet (dMakeL C true true 26 0 sp_Bound_init (dCons (dVar 1) (dCons (dVar 2) (dCons (dC (.int 1)) dNil)))))
theorem len_Bound_single {C : CAd} {ds M Q E} (h : sp_Bound_single C ds M Q E) : ds.length = 3 := by
  first
    | (obtain ⟨rfl, _⟩ := h; rfl)
    | (obtain ⟨_, rfl, _⟩ := h; rfl)
    | (obtain ⟨_, _, rfl, _⟩ := h; rfl)
    | (obtain ⟨_, _, _, rfl, _⟩ := h; rfl)
    | (obtain ⟨_, _, _, _, rfl, _⟩ := h; rfl)
    | (obtain ⟨_, _, _, _, _, rfl, _⟩ := h; rfl)
    | (obtain ⟨_, _, _, _, _, _, rfl, _⟩ := h; rfl)
theorem bndR_mono {t : Str} {ns : List Int} {l : Int} {Q Q' : Prop} {E E' : Exc → Prop} (h : bndR t ns l Q E) (h1 : Q → Q') (h2 : ∀ e, E e → E' e) : bndR t ns l Q' E' := by
  unfold bndR at *
  split at h
  · exact h2 _ h
  · split at h
    · exact h2 _ h
    · split at h
      · exact h2 _ h
      · exact h1 h
theorem red_Bound_single {C : CAd} {ds M Q E} (h : sp_Bound_single C ds M Q E) : r_Bound_single C (exitX E) (exitE Q) (startR 3 ds) M := by
  obtain ⟨t, ns, rfl, ht, hn, h⟩ := h
  simp only [r_Bound_single, dMakeL, dMake, startR, List.map_cons, List.map_nil, List.length_cons, List.length_nil, List.cons_append, List.nil_append, List.append_nil, List.replicate, Nat.reduceAdd, Nat.reduceSub, Nat.zero_add, dSeq, dIfS, dOr, dAnd, dNot, dTest, dOp, dBlt, dLen, lenD, dCons, dNil, dVar, nth, put, dC, dI, dIc, asB, dRet, dRetN, dNext, dFor, dSigns, dItems, dItemsT, dIx, ixD, dIn, dInSign, dName, dAsg, dSl, dSlR, dPart, dNoPart, dAndV, dOrV, dNotV, dIf, dTup, dLst, dLstM, dExpr, dCall, dNeg, dAdd, dEqS, dNeS, dIsN, dIsNotN, dIsB, dRng1, dRng2, dInt1, dAbs, dStrI, dTupOf, dListOf, dListOfM, dRaise, dRaise1, dGTup, dGCons, dGNil, dSetIx, dBm, tyD, dInsert, dAppend, atM, dIsi, dIsX, dXf, dSlot, dProp, dSetSlot, instD, DD.isNon, DD.isB, eqS, isL, seqD, updM_same, updM_updM, Option.map_some, Option.bind_some, List.getElem?_cons_succ, List.getElem?_cons_zero, List.set_cons_zero, List.set_cons_succ, ↓reduceIte, exitE, and_true, true_and, Bool.not_true, Bool.not_false, decide_true, decide_false]
  exact make_bound (Q := fun d M' => ∃ M'', DD.Sub M'' M' ∧ Q d M'') (X := fun e M => exitX E e _ M) ht hn (bndR_mono h (fun h => out (P := fun M => Q _ M) h) fun e h => out (P := fun M => E e M) h)
/-! ### Bound.door: slots 0=self -/
def sp_Bound_door : SpD := fun ds M Q _ => ∃ (t : Str) (ns : List Int) (l : Int), ds = [boundD t ns l] ∧ Q (.tup [.str t, .tup (iL ns)]) M
def r_Bound_door  : TSD := (dRet (dTup (dCons (dSlot 26 2 (dVar 0)) (dCons (dSlot 26 0 (dVar 0)) dNil))))
theorem len_Bound_door {ds M Q E} (h : sp_Bound_door ds M Q E) : ds.length = 1 := by
  first
    | (obtain ⟨rfl, _⟩ := h; rfl)
    | (obtain ⟨_, rfl, _⟩ := h; rfl)
    | (obtain ⟨_, _, rfl, _⟩ := h; rfl)
    | (obtain ⟨_, _, _, rfl, _⟩ := h; rfl)
    | (obtain ⟨_, _, _, _, rfl, _⟩ := h; rfl)
    | (obtain ⟨_, _, _, _, _, rfl, _⟩ := h; rfl)
    | (obtain ⟨_, _, _, _, _, _, rfl, _⟩ := h; rfl)
theorem red_Bound_door {ds M Q E} (h : sp_Bound_door ds M Q E) : r_Bound_door (exitX E) (exitE Q) (startR 1 ds) M := by
  obtain ⟨t, ns, l, rfl, h⟩ := h
  simp only [r_Bound_door, boundD, startR, List.map_cons, List.map_nil, List.length_cons, List.length_nil, List.cons_append, List.nil_append, List.append_nil, List.replicate, Nat.reduceAdd, Nat.reduceSub, Nat.zero_add, dSeq, dIfS, dOr, dAnd, dNot, dTest, dOp, dBlt, dLen, lenD, dCons, dNil, dVar, nth, put, dC, dI, dIc, asB, dRet, dRetN, dNext, dFor, dSigns, dItems, dItemsT, dIx, ixD, dIn, dInSign, dName, dAsg, dSl, dSlR, dPart, dNoPart, dAndV, dOrV, dNotV, dIf, dTup, dLst, dLstM, dExpr, dCall, dNeg, dAdd, dEqS, dNeS, dIsN, dIsNotN, dIsB, dRng1, dRng2, dInt1, dAbs, dStrI, dTupOf, dListOf, dListOfM, dRaise, dRaise1, dGTup, dGCons, dGNil, dSetIx, dBm, tyD, dInsert, dAppend, atM, dIsi, dIsX, dXf, dSlot, dProp, dSetSlot, instD, DD.isNon, DD.isB, eqS, isL, seqD, updM_same, updM_updM, Option.map_some, Option.bind_some, List.getElem?_cons_succ, List.getElem?_cons_zero, List.set_cons_zero, List.set_cons_succ, ↓reduceIte, exitE, and_true, true_and, Bool.not_true, Bool.not_false, decide_true, decide_false]
  exact ⟨by decide, out h⟩
/-! ### _law_draws: slots 0=script -/
def drw (ns : List Int) (i l t : Int) : MO := .lst [.lst (iL ns), .int i, .int l, .int t]
def drOk (o : MO) : Prop := ∃ (ns : List Int) (i l t : Int), o = drw ns i l t ∧ ns.length ≤ 63 ∧ 0 ≤ i ∧ 0 ≤ l ∧ 0 ≤ t
def sp__law_draws : SpD := fun ds M Q _ => ∃ ns : List Int, ds = [.lst (iL ns)] ∧ ns.length ≤ 63 ∧ ∀ p o, M p = none → drOk o → Q (.adr p) (updM M p o)
theorem iL_len (ns : List Int) : (iL ns).length = ns.length := by unfold iL; rw [List.length_map]
theorem iL_at {ns : List Int} {i : Int} (h0 : 0 ≤ i) (h1 : i < (iL ns).length) : ∃ z, atI (iL ns) i = some (.int z) := by
  rw [atI_pos h0 h1]
  have lt : i.toNat < ns.length := by rw [iL_len] at h1; omega
  unfold iL
  rw [List.getElem?_map, List.getElem?_eq_getElem lt]
  exact ⟨_, rfl⟩
def r__law_draws  : TSD := (dRet (dLstM (dCons (dBlt dListOf (dCons (dVar 0) dNil)) (dCons (dC (.int 0)) (dCons (dC (.int 0)) (dCons (dC (.int 0)) dNil))))))
theorem len__law_draws {ds M Q E} (h : sp__law_draws ds M Q E) : ds.length = 1 := by
  first
    | (obtain ⟨rfl, _⟩ := h; rfl)
    | (obtain ⟨_, rfl, _⟩ := h; rfl)
    | (obtain ⟨_, _, rfl, _⟩ := h; rfl)
    | (obtain ⟨_, _, _, rfl, _⟩ := h; rfl)
    | (obtain ⟨_, _, _, _, rfl, _⟩ := h; rfl)
    | (obtain ⟨_, _, _, _, _, rfl, _⟩ := h; rfl)
    | (obtain ⟨_, _, _, _, _, _, rfl, _⟩ := h; rfl)
theorem red__law_draws {ds M Q E} (h : sp__law_draws ds M Q E) : r__law_draws (exitX E) (exitE Q) (startR 1 ds) M := by
  obtain ⟨ns, rfl, hn, h⟩ := h
  simp only [r__law_draws, startR, List.map_cons, List.map_nil, List.length_cons, List.length_nil, List.cons_append, List.nil_append, List.append_nil, List.replicate, Nat.reduceAdd, Nat.reduceSub, Nat.zero_add, dSeq, dIfS, dOr, dAnd, dNot, dTest, dOp, dBlt, dLen, lenD, dCons, dNil, dVar, nth, put, dC, dI, dIc, asB, dRet, dRetN, dNext, dFor, dSigns, dItems, dItemsT, dIx, ixD, dIn, dInSign, dName, dAsg, dSl, dSlR, dPart, dNoPart, dAndV, dOrV, dNotV, dIf, dTup, dLst, dLstM, dExpr, dCall, dNeg, dAdd, dEqS, dNeS, dIsN, dIsNotN, dIsB, dRng1, dRng2, dInt1, dAbs, dStrI, dTupOf, dListOf, dListOfM, dRaise, dRaise1, dGTup, dGCons, dGNil, dSetIx, dBm, tyD, dInsert, dAppend, atM, dIsi, dIsX, dXf, dSlot, dProp, dSetSlot, instD, DD.isNon, DD.isB, eqS, isL, seqD, updM_same, updM_updM, Option.map_some, Option.bind_some, List.getElem?_cons_succ, List.getElem?_cons_zero, List.set_cons_zero, List.set_cons_succ, ↓reduceIte, exitE, and_true, true_and, Bool.not_true, Bool.not_false, decide_true, decide_false]
  refine ⟨by decide, fun p hp => out (P := fun M => Q (.adr p) M) (h p _ hp ⟨ns, 0, 0, 0, rfl, hn, Int.le_refl 0, Int.le_refl 0, Int.le_refl 0⟩)⟩
/-! ### _law_mixed: slots 0=cell 1=turn 2=number -/
def sp__law_mixed : SpD := fun ds M Q _ => ∃ c t : Int, ds = [.int c, .int t] ∧ ∀ r : Int, 0 ≤ r → Q (.int r) M
def r__law_mixed  : TSD := (dSeq (dAsg (dOp (dIc (fun _ j => 0 < j) fun i j => .int (i % j)) (dBlt dInt1 (dCons (dOp dAdd (dOp dAdd (dOp (dIc cMul fun i j => .int (i * j)) (dBlt dInt1 (dCons (dVar 0) dNil)) (dC (.int 48271))) (dOp (dIc cMul fun i j => .int (i * j)) (dVar 1) (dC (.int 69621)))) (dC (.int 1009))) dNil)) (dC (.int 2147483647))) (dName 2))
 (dRet (dOp (dIc (fun _ j => 0 < j) fun i j => .int (i % j)) (dBlt dInt1 (dCons (dOp dAdd (dOp dAdd (dOp (dIc cMul fun i j => .int (i * j)) (dVar 2) (dC (.int 16807))) (dOp (dIc cMul fun i j => .int (i * j)) (dVar 1) (dC (.int 40692)))) (dC (.int 271))) dNil)) (dC (.int 2147483629)))))
theorem len__law_mixed {ds M Q E} (h : sp__law_mixed ds M Q E) : ds.length = 2 := by
  first
    | (obtain ⟨rfl, _⟩ := h; rfl)
    | (obtain ⟨_, rfl, _⟩ := h; rfl)
    | (obtain ⟨_, _, rfl, _⟩ := h; rfl)
    | (obtain ⟨_, _, _, rfl, _⟩ := h; rfl)
    | (obtain ⟨_, _, _, _, rfl, _⟩ := h; rfl)
    | (obtain ⟨_, _, _, _, _, rfl, _⟩ := h; rfl)
    | (obtain ⟨_, _, _, _, _, _, rfl, _⟩ := h; rfl)
theorem red__law_mixed {ds M Q E} (h : sp__law_mixed ds M Q E) : r__law_mixed (exitX E) (exitE Q) (startR 3 ds) M := by
  obtain ⟨c, t, rfl, h⟩ := h
  simp only [r__law_mixed, startR, List.map_cons, List.map_nil, List.length_cons, List.length_nil, List.cons_append, List.nil_append, List.append_nil, List.replicate, Nat.reduceAdd, Nat.reduceSub, Nat.zero_add, dSeq, dIfS, dOr, dAnd, dNot, dTest, dOp, dBlt, dLen, lenD, dCons, dNil, dVar, nth, put, dC, dI, dIc, asB, dRet, dRetN, dNext, dFor, dSigns, dItems, dItemsT, dIx, ixD, dIn, dInSign, dName, dAsg, dSl, dSlR, dPart, dNoPart, dAndV, dOrV, dNotV, dIf, dTup, dLst, dLstM, dExpr, dCall, dNeg, dAdd, dEqS, dNeS, dIsN, dIsNotN, dIsB, dRng1, dRng2, dInt1, dAbs, dStrI, dTupOf, dListOf, dListOfM, dRaise, dRaise1, dGTup, dGCons, dGNil, dSetIx, dBm, tyD, dInsert, dAppend, atM, dIsi, dIsX, dXf, dSlot, dProp, dSetSlot, instD, DD.isNon, DD.isB, eqS, isL, seqD, updM_same, updM_updM, Option.map_some, Option.bind_some, List.getElem?_cons_succ, List.getElem?_cons_zero, List.set_cons_zero, List.set_cons_succ, ↓reduceIte, exitE, and_true, true_and, Bool.not_true, Bool.not_false, decide_true, decide_false]
  refine ⟨.inr (by decide), .inr (by decide), by decide, .inr (by decide), .inr (by decide), by decide, out (P := fun M => Q _ M) (h _ (Int.emod_nonneg _ (by decide)))⟩
/-! ### _law_draw: slots 0=draws 1=many 2=left 3=cells 4=cell 5=turn -/
def sp__law_draw : SpD := fun ds M Q _ => ∃ (p : Addr) (m : Int) (o : MO), ds = [.adr p, .int m] ∧ M p = some o ∧ drOk o ∧ m < 1073741824 ∧ ∀ (r : Int) (o' : MO), 0 ≤ r → (r < m ∨ r = 0) → drOk o' → Q (.int r) (updM M p o')
def r__law_draw  : TSD := (dSeq (dIfS (dTest (dOp (dI fun i j => .bl (decide (i < j))) (dVar 1) (dC (.int 2)))) (dRet (dC (.int 0))) dNext)
 (dSeq (dIfS (dTest (dOp (dI fun i j => .bl (decide (j < i))) (dOp dIx (dVar 0) (dC (.int 2))) (dC (.int 0)))) (dSeq (dAsg (dOp dIx (dVar 0) (dC (.int 2))) (dName 2))
 (dSeq (dSetIx (dOp (dIc (fun _ j => 0 < j ∧ j < 1073741824) fun i j => .int (i / j)) (dVar 2) (dVar 1)) (dVar 0) (dC (.int 2)))
 (dRet (dOp (dIc (fun _ j => 0 < j) fun i j => .int (i % j)) (dBlt dInt1 (dCons (dVar 2) dNil)) (dVar 1))))) dNext)
 (dSeq (dAsg (dOp dIx (dVar 0) (dC (.int 0))) (dName 3))
 (dSeq (dIfS (dTest (dOp (dI fun i j => .bl (decide (j ≤ i))) (dOp dIx (dVar 0) (dC (.int 1))) (dBlt dLen (dCons (dVar 3) dNil)))) (dRet (dC (.int 0))) dNext)
 (dSeq (dAsg (dOp dIx (dVar 3) (dOp dIx (dVar 0) (dC (.int 1)))) (dName 4))
 (dSeq (dIfS (dTest (dOp (dI fun i j => .bl (decide (j ≤ i))) (dVar 4) (dOp (dIc (fun i j => 0 ≤ j ∧ j ≤ 1000000 ∧ i.natAbs < 2 ^ 64) fun i j => .int (i ^ j.toNat)) (dC (.int 10)) (dC (.int 18))))) (dSeq (dSetIx (dOp dAdd (dOp dIx (dVar 0) (dC (.int 1))) (dC (.int 1))) (dVar 0) (dC (.int 1)))
 (dSeq (dSetIx (dOp (dIc (fun _ j => 0 < j ∧ j < 1073741824) fun i j => .int (i / j)) (dVar 4) (dVar 1)) (dVar 0) (dC (.int 2)))
 (dRet (dOp (dIc (fun _ j => 0 < j) fun i j => .int (i % j)) (dBlt dInt1 (dCons (dVar 4) dNil)) (dVar 1))))) dNext)
 (dSeq (dAsg (dOp dIx (dVar 0) (dC (.int 3))) (dName 5))
 (dSeq (dSetIx (dOp dAdd (dVar 5) (dC (.int 1))) (dVar 0) (dC (.int 3)))
 (dSeq (dIfS (dTest (dOp dEqS (dVar 5) (dC (.int 5)))) (dSeq (dSetIx (dOp dAdd (dOp dIx (dVar 0) (dC (.int 1))) (dC (.int 1))) (dVar 0) (dC (.int 1)))
 (dSetIx (dC (.int 0)) (dVar 0) (dC (.int 3)))) dNext)
 (dRet (dOp (dIc (fun _ j => 0 < j) fun i j => .int (i % j)) (dBlt dInt1 (dCons (dCall sp__law_mixed (dCons (dVar 4) (dCons (dVar 5) dNil))) dNil)) (dVar 1))))))))))))
theorem len__law_draw {ds M Q E} (h : sp__law_draw ds M Q E) : ds.length = 2 := by
  first
    | (obtain ⟨rfl, _⟩ := h; rfl)
    | (obtain ⟨_, rfl, _⟩ := h; rfl)
    | (obtain ⟨_, _, rfl, _⟩ := h; rfl)
    | (obtain ⟨_, _, _, rfl, _⟩ := h; rfl)
    | (obtain ⟨_, _, _, _, rfl, _⟩ := h; rfl)
    | (obtain ⟨_, _, _, _, _, rfl, _⟩ := h; rfl)
    | (obtain ⟨_, _, _, _, _, _, rfl, _⟩ := h; rfl)
theorem red__law_draw {ds M Q E} (h : sp__law_draw ds M Q E) : r__law_draw (exitX E) (exitE Q) (startR 6 ds) M := by
  obtain ⟨p, m, o, rfl, hp, ⟨ns, i, l, t, rfl, hn, hi, hl, ht⟩, hm, h⟩ := h
  have fin : ∀ (r : Int) (i l t : Int), 0 ≤ r → (r < m ∨ r = 0) → 0 ≤ i → 0 ≤ l → 0 ≤ t → ∃ M'', DD.Sub M'' (updM M p (drw ns i l t)) ∧ Q (.int r) M'' := fun r i l t h1 h2 h3 h4 h5 => out (P := fun M => Q _ M) (h r _ h1 h2 ⟨ns, i, l, t, rfl, hn, h3, h4, h5⟩)
  have fin0 : ∀ (r : Int), 0 ≤ r → (r < m ∨ r = 0) → ∃ M'', DD.Sub M'' M ∧ Q (.int r) M'' := fun r h1 h2 => by
    have z := fin r i l t h1 h2 hi hl ht
    rw [show updM M p (drw ns i l t) = M from updM_id hp] at z
    exact z
  simp only [r__law_draw, hp, drw, at4_0, at4_1, at4_2, at4_3, ix4_0, ix4_1, ix4_2, ix4_3, Option.bind_some, Option.map_some, startR, List.map_cons, List.map_nil, List.length_cons, List.length_nil, List.cons_append, List.nil_append, List.append_nil, List.replicate, Nat.reduceAdd, Nat.reduceSub, Nat.zero_add, dSeq, dIfS, dOr, dAnd, dNot, dTest, dOp, dBlt, dLen, lenD, dCons, dNil, dVar, nth, put, dC, dI, dIc, asB, dRet, dRetN, dNext, dFor, dSigns, dItems, dItemsT, dIx, ixD, dIn, dInSign, dName, dAsg, dSl, dSlR, dPart, dNoPart, dAndV, dOrV, dNotV, dIf, dTup, dLst, dLstM, dExpr, dCall, dNeg, dAdd, dEqS, dNeS, dIsN, dIsNotN, dIsB, dRng1, dRng2, dInt1, dAbs, dStrI, dTupOf, dListOf, dListOfM, dRaise, dRaise1, dGTup, dGCons, dGNil, dSetIx, dBm, tyD, dInsert, dAppend, atM, dIsi, dIsX, dXf, dSlot, dProp, dSetSlot, instD, DD.isNon, DD.isB, eqS, isL, seqD, updM_same, updM_updM, Option.map_some, Option.bind_some, List.getElem?_cons_succ, List.getElem?_cons_zero, List.set_cons_zero, List.set_cons_succ, ↓reduceIte, exitE, and_true, true_and, Bool.not_true, Bool.not_false, decide_true, decide_false]
  by_cases h1 : m < 2
  · simp only [decide_eq_true h1]
    exact fin0 0 (Int.le_refl 0) (.inr rfl)
  · simp only [decide_eq_false h1]
    have hm0 : 0 < m := by omega
    have nn : ∀ x : Int, 0 ≤ x % m := fun x => Int.emod_nonneg _ (by omega)
    have lt : ∀ x : Int, x % m < m ∨ x % m = 0 := fun x => .inl (Int.emod_lt_of_pos _ hm0)
    by_cases h2 : 0 < l
    · simp only [decide_eq_true h2]
      exact ⟨⟨hm0, hm⟩, hm0, fin _ _ _ _ (nn _) (lt _) hi (Int.ediv_nonneg hl (by omega)) ht⟩
    · simp only [decide_eq_false h2]
      by_cases h3 : ((iL ns).length : Int) ≤ i
      · simp only [decide_eq_true h3]
        exact fin0 0 (Int.le_refl 0) (.inr rfl)
      · simp only [decide_eq_false h3]
        obtain ⟨z, ez⟩ := iL_at hi (by omega : i < (iL ns).length)
        simp only [ez]
        refine ⟨by decide, ?_⟩
        by_cases h4 : (10 : Int) ^ Int.toNat 18 ≤ z
        · simp only [decide_eq_true h4]
          have z0 : 0 ≤ z := Int.le_trans (by decide) h4
          exact ⟨⟨hm0, hm⟩, hm0, fin _ _ _ _ (nn _) (lt _) (by omega) (Int.ediv_nonneg z0 (by omega)) ht⟩
        · simp only [decide_eq_false h4]
          by_cases h5 : t = 5
          · simp only [decide_eq_true h5]
            exact ⟨z, t, rfl, fun r hr => ⟨hm0, fin _ _ _ _ (nn _) (lt _) (by omega) hl (Int.le_refl 0)⟩⟩
          · simp only [decide_eq_false h5]
            exact ⟨z, t, rfl, fun r hr => ⟨hm0, fin _ _ _ _ (nn _) (lt _) hi hl (by omega)⟩⟩
/-! ### _law_name: slots 0=draws 1=taken 2=letters 3=signs 4=many 5=name 6=k 7=found -/
def sp__law_name : SpD := fun ds M Q _ => ∃ (p : Addr) (tk : List D) (o : MO), ds = [.adr p, .lst tk] ∧ tk.all flD = true ∧ M p = some o ∧ drOk o ∧ ∀ (x : Str) (o' : MO), okName x = true → drOk o' → Q (.str x) (updM M p o')
def r__law_name  : TSD := (dSeq (dAsg (dC (.str "abcdefghijklmnopqrstuvwxyz")) (dName 2))
 (dSeq (dAsg (dOp dAdd (dVar 2) (dC (.str "0123456789"))) (dName 3))
 (dSeq (dAsg (dCall sp__law_draw (dCons (dVar 0) (dCons (dC (.int 8)) dNil))) (dName 4))
 (dSeq (dIfS (dTest (dOp dEqS (dVar 4) (dC (.int 7)))) (dAsg (dC (.int 10)) (dName 4)) dNext)
 (dSeq (dAsg (dOp dIx (dVar 2) (dCall sp__law_draw (dCons (dVar 0) (dCons (dC (.int 26)) dNil)))) (dName 5))
 (dSeq (dFor (dRng1 (dCons (dVar 4) dNil)) (dName 6) (dAsg (dOp dAdd (dVar 5) (dOp dIx (dVar 3) (dCall sp__law_draw (dCons (dVar 0) (dCons (dC (.int 36)) dNil))))) (dName 5)))
 (dSeq (dAsg (dVar 5) (dName 7))
 (dSeq (dFor (dRng1 (dCons (dC (.int 10)) dNil)) (dName 6) (dIfS (dTest (dOp (dIn false) (dVar 7) (dVar 1))) (dAsg (dOp dAdd (dVar 5) (dBlt dStrI (dCons (dVar 6) dNil))) (dName 7)) dNext))
 (dRet (dVar 7))))))))))
theorem len__law_name {ds M Q E} (h : sp__law_name ds M Q E) : ds.length = 2 := by
  first
    | (obtain ⟨rfl, _⟩ := h; rfl)
    | (obtain ⟨_, rfl, _⟩ := h; rfl)
    | (obtain ⟨_, _, rfl, _⟩ := h; rfl)
    | (obtain ⟨_, _, _, rfl, _⟩ := h; rfl)
    | (obtain ⟨_, _, _, _, rfl, _⟩ := h; rfl)
    | (obtain ⟨_, _, _, _, _, rfl, _⟩ := h; rfl)
    | (obtain ⟨_, _, _, _, _, _, rfl, _⟩ := h; rfl)
theorem nm_app (l : List Nat) (c : Nat) : (⟨l.toArray⟩ : Str) ++ (⟨#[c]⟩ : Str) = ⟨(l ++ [c]).toArray⟩ := by
  show (⟨l.toArray ++ #[c]⟩ : Str) = _
  congr 1
  simp
theorem nm_dig : ∀ k : Nat, k < 10 → ((toString ((0 : Int) + (k : Int)) : String) : Str) = ⟨#[48 + k]⟩ := by
  intro k hk
  match k, hk with
  | 0, _ => rfl
  | 1, _ => rfl
  | 2, _ => rfl
  | 3, _ => rfl
  | 4, _ => rfl
  | 5, _ => rfl
  | 6, _ => rfl
  | 7, _ => rfl
  | 8, _ => rfl
  | 9, _ => rfl
theorem nm_log : ∀ k : Nat, k < 10 → ((0 : Int) + (k : Int)).natAbs.log2 < 1920 := by decide +kernel
theorem nm_ok {c : Nat} {r : List Nat} (hc : c ∈ letS) (hr : r.length < 12) (ha : r.all okSign = true) : okName ⟨(c :: r).toArray⟩ = true := by
  unfold okName
  show (decide (r.length < 12) && (decide (c ∈ letS) && (c :: r).all okSign)) = true
  have h : okSign c = true := by unfold okSign; rw [decide_eq_true hc]; rfl
  rw [decide_eq_true hr, decide_eq_true hc, List.all_cons, h, ha]
  rfl
theorem dig_ok : ∀ k : Nat, k < 10 → okSign (48 + k) = true := by
  intro k hk
  match k, hk with
  | 0, _ => decide
  | 1, _ => decide
  | 2, _ => decide
  | 3, _ => decide
  | 4, _ => decide
  | 5, _ => decide
  | 6, _ => decide
  | 7, _ => decide
  | 8, _ => decide
  | 9, _ => decide
theorem nm_mem {c : Nat} (h : c ∈ (Str.ofString "abcdefghijklmnopqrstuvwxyz" ++ Str.ofString "0123456789").cps.toList) : okSign c = true := by
  rw [Str.cps_append, Array.toList_append, List.mem_append] at h
  unfold okSign
  rcases h with h | h
  · rw [decide_eq_true (show c ∈ letS from h)]; rfl
  · rw [decide_eq_true (show c ∈ digS from h), Bool.or_true]
theorem nm_aux {M : MM} {Q : D → MM → Prop} {E : Exc → MM → Prop} {p : Addr} {tk : List D} (htk : tk.all flD = true) (h : ∀ (x : Str) (o' : MO), okName x = true → drOk o' → Q (D.str x) (updM M p o')) (n : Nat) (hn : n ≤ 10) (s4 : Option D) {c : Nat} (hc : c ∈ letS) {o2 : MO} (ho2 : drOk o2) :
    loopD (dName 6)
                (dAsg
                  (dOp dAdd (dVar 5)
                    (dOp dIx (dVar 3) (dCall sp__law_draw (dCons (dVar 0) (dCons (dC (D.int 36)) dNil)))))
                  (dName 5))
                (exitX E)
                {
                  nx :=
                    dSeq (dAsg (dVar 5) (dName 7))
                      (dSeq
                        (dFor (dRng1 (dCons (dC (D.int 10)) dNil)) (dName 6)
                          (dIfS (dTest (dOp (dIn false) (dVar 7) (dVar 1)))
                            (dAsg (dOp dAdd (dVar 5) (dBlt dStrI (dCons (dVar 6) dNil))) (dName 7)) dNext))
                        (dRet (dVar 7)))
                      (exitX E)
                      { nx := fun x M' => ∃ M'', DD.Sub M'' M' ∧ Q D.non M'',
                        rt := fun d M' => ∃ M'', DD.Sub M'' M' ∧ Q d M'' },
                  rt := fun d M' => ∃ M'', DD.Sub M'' M' ∧ Q d M'' }
                (rngD 0 n)
                [some (D.adr p), some (D.lst tk), some (D.str (Str.ofString "abcdefghijklmnopqrstuvwxyz")),
                  some (D.str (Str.ofString "abcdefghijklmnopqrstuvwxyz" ++ Str.ofString "0123456789")),
                  s4, some (.str ⟨#[c]⟩), none, none]
                (updM M p o2) := by
  have d1 : (Str.ofString "abcdefghijklmnopqrstuvwxyz" ++ Str.ofString "0123456789").length = 36 := by decide
  have c1 : (Str.ofString "abcdefghijklmnopqrstuvwxyz" ++ Str.ofString "0123456789").length ≤ 1000000 := by omega
  refine loop_inv (fun k ρ M' => ∃ (r : List Nat) (o' : MO) (b : Option D), r.length = k ∧ r.all okSign = true ∧ ρ = [some (D.adr p), some (D.lst tk), some (D.str (Str.ofString "abcdefghijklmnopqrstuvwxyz")),
                  some (D.str (Str.ofString "abcdefghijklmnopqrstuvwxyz" ++ Str.ofString "0123456789")),
                  s4, some (.str ⟨(c :: r).toArray⟩), b, none] ∧ M' = updM M p o' ∧ drOk o') (fun k d ρ M' rest hd hP hr => ?_) (fun ρ M' hP => ?_) ⟨[], o2, none, rfl, rfl, rfl, rfl, ho2⟩
  · obtain ⟨r, o', b, hk, ha, rfl, rfl, ho'⟩ := hP
    obtain ⟨rfl, lt⟩ := rng_get hd
    simp only [dSeq_e, dNext_e, dBreak_e, dCont_e, dExpr_e, dRet_e, dRetN_e, dIfS_e, dAsg_e, dFor_e, dRaise_e, dRaise1_e, dTry_e, dSetSlot_e, dSetIx_e, dName_e, dGTup_e, dGNil_e, dGCons_e, dVar_e, dC_e, dOp_e, dTest_e, asB_e, dAnd_e, dOr_e, dNot_e, dAndV_e, dOrV_e, dNotV_e, dIf_e, dNil_e, dCons_e, dTup_e, dLst_e, dLstM_e, dBlt_e, dCall_e, dNeg_e, dSl_e, dNoPart_e, dPart_e, dBm_e, dIsi_e, dIsX_e, dXf_e, dSlot_e, dProp_e, dMeth_e, dCMeth_e, dMake_e, dMakeL_e, dLc_e, dYes_e, dSigns_e, dItems_e, dItemsT_e, dRng1_e, dRng2_e, dTruth_e, dI_e, dIc_e, dAdd_i, dAdd_s, dEqS_e, dNeS_e, dIsN_e, dIsNotN_e, dIsB_e, dIn_s, dIn_l, dIn_t, dInSign_n, dInSign_y, startR, List.map_cons, List.map_nil, List.length_cons, List.length_nil, List.cons_append, List.nil_append, List.append_nil, List.replicate, Nat.reduceAdd, Nat.reduceSub, Nat.zero_add, nth, put, wipeR, dLen, lenD, dIx, ixD, dSlR, dInt1, dAbs, dStrI, dTupOf, dListOf, dListOfM, tyD, dInsert, dAppend, atM, instD, isInst, DD.isNon, DD.isB, eqS, isL, seqD, updM_same, updM_updM, Option.map_some, Option.bind_some, List.getElem?_cons_succ, List.getElem?_cons_zero, List.set_cons_zero, List.set_cons_succ, ↓reduceIte, exitE, and_true, true_and, Bool.not_true, Bool.not_false, decide_true, decide_false, eq_self, reduceCtorEq, Bool.true_eq_false, Bool.false_eq_true]
    refine ⟨p, 36, o', rfl, updM_same, ho', by decide, fun q o3 hq0 hq1 ho3 => ?_⟩
    obtain ⟨c', ec, hc'⟩ := sgn_at d1 (by decide) hq0 hq1
    simp only [ec, if_pos c1, dSeq_e, dNext_e, dBreak_e, dCont_e, dExpr_e, dRet_e, dRetN_e, dIfS_e, dAsg_e, dFor_e, dRaise_e, dRaise1_e, dTry_e, dSetSlot_e, dSetIx_e, dName_e, dGTup_e, dGNil_e, dGCons_e, dVar_e, dC_e, dOp_e, dTest_e, asB_e, dAnd_e, dOr_e, dNot_e, dAndV_e, dOrV_e, dNotV_e, dIf_e, dNil_e, dCons_e, dTup_e, dLst_e, dLstM_e, dBlt_e, dCall_e, dNeg_e, dSl_e, dNoPart_e, dPart_e, dBm_e, dIsi_e, dIsX_e, dXf_e, dSlot_e, dProp_e, dMeth_e, dCMeth_e, dMake_e, dMakeL_e, dLc_e, dYes_e, dSigns_e, dItems_e, dItemsT_e, dRng1_e, dRng2_e, dTruth_e, dI_e, dIc_e, dAdd_i, dAdd_s, dEqS_e, dNeS_e, dIsN_e, dIsNotN_e, dIsB_e, dIn_s, dIn_l, dIn_t, dInSign_n, dInSign_y, startR, List.map_cons, List.map_nil, List.length_cons, List.length_nil, List.cons_append, List.nil_append, List.append_nil, List.replicate, Nat.reduceAdd, Nat.reduceSub, Nat.zero_add, nth, put, wipeR, dLen, lenD, dIx, ixD, dSlR, dInt1, dAbs, dStrI, dTupOf, dListOf, dListOfM, tyD, dInsert, dAppend, atM, instD, isInst, DD.isNon, DD.isB, eqS, isL, seqD, updM_same, updM_updM, Option.map_some, Option.bind_some, List.getElem?_cons_succ, List.getElem?_cons_zero, List.set_cons_zero, List.set_cons_succ, ↓reduceIte, exitE, and_true, true_and, Bool.not_true, Bool.not_false, decide_true, decide_false, eq_self, reduceCtorEq, Bool.true_eq_false, Bool.false_eq_true]
    refine ⟨?_, ?_⟩
    · show (c :: r).toArray.size + 1 ≤ 1000000
      simp
      omega
    · rw [nm_app]
      exact hr _ _ ⟨r ++ [c'], o3, _, by simp [hk], by rw [List.all_append, ha]; simp [nm_mem hc'], rfl, rfl, ho3⟩
  · obtain ⟨r, o', b, hk, ha, rfl, rfl, ho'⟩ := hP
    rw [rng_len] at hk
    simp only [dSeq_e, dNext_e, dBreak_e, dCont_e, dExpr_e, dRet_e, dRetN_e, dIfS_e, dAsg_e, dFor_e, dRaise_e, dRaise1_e, dTry_e, dSetSlot_e, dSetIx_e, dName_e, dGTup_e, dGNil_e, dGCons_e, dVar_e, dC_e, dOp_e, dTest_e, asB_e, dAnd_e, dOr_e, dNot_e, dAndV_e, dOrV_e, dNotV_e, dIf_e, dNil_e, dCons_e, dTup_e, dLst_e, dLstM_e, dBlt_e, dCall_e, dNeg_e, dSl_e, dNoPart_e, dPart_e, dBm_e, dIsi_e, dIsX_e, dXf_e, dSlot_e, dProp_e, dMeth_e, dCMeth_e, dMake_e, dMakeL_e, dLc_e, dYes_e, dSigns_e, dItems_e, dItemsT_e, dRng1_e, dRng2_e, dTruth_e, dI_e, dIc_e, dAdd_i, dAdd_s, dEqS_e, dNeS_e, dIsN_e, dIsNotN_e, dIsB_e, dIn_s, dIn_l, dIn_t, dInSign_n, dInSign_y, startR, List.map_cons, List.map_nil, List.length_cons, List.length_nil, List.cons_append, List.nil_append, List.append_nil, List.replicate, Nat.reduceAdd, Nat.reduceSub, Nat.zero_add, nth, put, wipeR, dLen, lenD, dIx, ixD, dSlR, dInt1, dAbs, dStrI, dTupOf, dListOf, dListOfM, tyD, dInsert, dAppend, atM, instD, isInst, DD.isNon, DD.isB, eqS, isL, seqD, updM_same, updM_updM, Option.map_some, Option.bind_some, List.getElem?_cons_succ, List.getElem?_cons_zero, List.set_cons_zero, List.set_cons_succ, ↓reduceIte, exitE, and_true, true_and, Bool.not_true, Bool.not_false, decide_true, decide_false, eq_self, reduceCtorEq, Bool.true_eq_false, Bool.false_eq_true]
    refine ⟨by decide, ?_⟩
    refine loop_inv (fun k ρ M' => M' = updM M p o' ∧ ∃ (f : Str) (b : Option D), okName f = true ∧ ρ = [some (D.adr p), some (D.lst tk), some (D.str (Str.ofString "abcdefghijklmnopqrstuvwxyz")),
                  some (D.str (Str.ofString "abcdefghijklmnopqrstuvwxyz" ++ Str.ofString "0123456789")),
                  s4, some (.str ⟨(c :: r).toArray⟩), b, some (.str f)]) (fun k d ρ M' rest hd hP hr => ?_) (fun ρ M' hP => ?_) ⟨rfl, _, _, nm_ok hc (by omega) ha, rfl⟩
    · obtain ⟨rfl, f, b, hf, rfl⟩ := hP
      obtain ⟨rfl, lt⟩ := rng_get hd
      simp only [dInFl, flD, htk, dSeq_e, dNext_e, dBreak_e, dCont_e, dExpr_e, dRet_e, dRetN_e, dIfS_e, dAsg_e, dFor_e, dRaise_e, dRaise1_e, dTry_e, dSetSlot_e, dSetIx_e, dName_e, dGTup_e, dGNil_e, dGCons_e, dVar_e, dC_e, dOp_e, dTest_e, asB_e, dAnd_e, dOr_e, dNot_e, dAndV_e, dOrV_e, dNotV_e, dIf_e, dNil_e, dCons_e, dTup_e, dLst_e, dLstM_e, dBlt_e, dCall_e, dNeg_e, dSl_e, dNoPart_e, dPart_e, dBm_e, dIsi_e, dIsX_e, dXf_e, dSlot_e, dProp_e, dMeth_e, dCMeth_e, dMake_e, dMakeL_e, dLc_e, dYes_e, dSigns_e, dItems_e, dItemsT_e, dRng1_e, dRng2_e, dTruth_e, dI_e, dIc_e, dAdd_i, dAdd_s, dEqS_e, dNeS_e, dIsN_e, dIsNotN_e, dIsB_e, dIn_s, dIn_l, dIn_t, dInSign_n, dInSign_y, startR, List.map_cons, List.map_nil, List.length_cons, List.length_nil, List.cons_append, List.nil_append, List.append_nil, List.replicate, Nat.reduceAdd, Nat.reduceSub, Nat.zero_add, nth, put, wipeR, dLen, lenD, dIx, ixD, dSlR, dInt1, dAbs, dStrI, dTupOf, dListOf, dListOfM, tyD, dInsert, dAppend, atM, instD, isInst, DD.isNon, DD.isB, eqS, isL, seqD, updM_same, updM_updM, Option.map_some, Option.bind_some, List.getElem?_cons_succ, List.getElem?_cons_zero, List.set_cons_zero, List.set_cons_succ, ↓reduceIte, exitE, and_true, true_and, Bool.not_true, Bool.not_false, decide_true, decide_false, eq_self, reduceCtorEq, Bool.true_eq_false, Bool.false_eq_true]
      cases hb : tk.any fun z => eqFl z (.str f) with
      | false =>
        simp only [Bool.false_eq_true, ↓reduceIte, hb]
        exact hr _ _ ⟨rfl, _, _, hf, rfl⟩
      | true =>
        have lt' : k < 10 := lt
        simp only [Bool.false_eq_true, ↓reduceIte, hb, nm_dig k lt']
        refine ⟨?_, ?_, ?_⟩
        · exact nm_log k lt'
        · show (c :: r).toArray.size + 1 ≤ 1000000
          simp
          omega
        · rw [nm_app]
          refine hr _ _ ⟨rfl, _, _, nm_ok (r := r ++ [48 + k]) hc (by simp; omega) (by rw [List.all_append, ha]; simp [dig_ok k lt']), rfl⟩
    · obtain ⟨rfl, f, b, hf, rfl⟩ := hP
      simp only [dSeq_e, dNext_e, dBreak_e, dCont_e, dExpr_e, dRet_e, dRetN_e, dIfS_e, dAsg_e, dFor_e, dRaise_e, dRaise1_e, dTry_e, dSetSlot_e, dSetIx_e, dName_e, dGTup_e, dGNil_e, dGCons_e, dVar_e, dC_e, dOp_e, dTest_e, asB_e, dAnd_e, dOr_e, dNot_e, dAndV_e, dOrV_e, dNotV_e, dIf_e, dNil_e, dCons_e, dTup_e, dLst_e, dLstM_e, dBlt_e, dCall_e, dNeg_e, dSl_e, dNoPart_e, dPart_e, dBm_e, dIsi_e, dIsX_e, dXf_e, dSlot_e, dProp_e, dMeth_e, dCMeth_e, dMake_e, dMakeL_e, dLc_e, dYes_e, dSigns_e, dItems_e, dItemsT_e, dRng1_e, dRng2_e, dTruth_e, dI_e, dIc_e, dAdd_i, dAdd_s, dEqS_e, dNeS_e, dIsN_e, dIsNotN_e, dIsB_e, dIn_s, dIn_l, dIn_t, dInSign_n, dInSign_y, startR, List.map_cons, List.map_nil, List.length_cons, List.length_nil, List.cons_append, List.nil_append, List.append_nil, List.replicate, Nat.reduceAdd, Nat.reduceSub, Nat.zero_add, nth, put, wipeR, dLen, lenD, dIx, ixD, dSlR, dInt1, dAbs, dStrI, dTupOf, dListOf, dListOfM, tyD, dInsert, dAppend, atM, instD, isInst, DD.isNon, DD.isB, eqS, isL, seqD, updM_same, updM_updM, Option.map_some, Option.bind_some, List.getElem?_cons_succ, List.getElem?_cons_zero, List.set_cons_zero, List.set_cons_succ, ↓reduceIte, exitE, and_true, true_and, Bool.not_true, Bool.not_false, decide_true, decide_false, eq_self, reduceCtorEq, Bool.true_eq_false, Bool.false_eq_true]
      exact out (P := fun M => Q _ M) (h f o' hf ho')
theorem red__law_name {ds M Q E} (h : sp__law_name ds M Q E) : r__law_name (exitX E) (exitE Q) (startR 8 ds) M := by
  obtain ⟨p, tk, o, rfl, htk, hp, ho, h⟩ := h
  have d1 : (Str.ofString "abcdefghijklmnopqrstuvwxyz").length = 26 := by decide
  have c1 : (Str.ofString "abcdefghijklmnopqrstuvwxyz").length ≤ 1000000 := by omega
  simp only [r__law_name, dSeq_e, dNext_e, dBreak_e, dCont_e, dExpr_e, dRet_e, dRetN_e, dIfS_e, dAsg_e, dFor_e, dRaise_e, dRaise1_e, dTry_e, dSetSlot_e, dSetIx_e, dName_e, dGTup_e, dGNil_e, dGCons_e, dVar_e, dC_e, dOp_e, dTest_e, asB_e, dAnd_e, dOr_e, dNot_e, dAndV_e, dOrV_e, dNotV_e, dIf_e, dNil_e, dCons_e, dTup_e, dLst_e, dLstM_e, dBlt_e, dCall_e, dNeg_e, dSl_e, dNoPart_e, dPart_e, dBm_e, dIsi_e, dIsX_e, dXf_e, dSlot_e, dProp_e, dMeth_e, dCMeth_e, dMake_e, dMakeL_e, dLc_e, dYes_e, dSigns_e, dItems_e, dItemsT_e, dRng1_e, dRng2_e, dTruth_e, dI_e, dIc_e, dAdd_i, dAdd_s, dEqS_e, dNeS_e, dIsN_e, dIsNotN_e, dIsB_e, dIn_s, dIn_l, dIn_t, dInSign_n, dInSign_y, startR, List.map_cons, List.map_nil, List.length_cons, List.length_nil, List.cons_append, List.nil_append, List.append_nil, List.replicate, Nat.reduceAdd, Nat.reduceSub, Nat.zero_add, nth, put, wipeR, dLen, lenD, dIx, ixD, dSlR, dInt1, dAbs, dStrI, dTupOf, dListOf, dListOfM, tyD, dInsert, dAppend, atM, instD, isInst, DD.isNon, DD.isB, eqS, isL, seqD, updM_same, updM_updM, Option.map_some, Option.bind_some, List.getElem?_cons_succ, List.getElem?_cons_zero, List.set_cons_zero, List.set_cons_succ, ↓reduceIte, exitE, and_true, true_and, Bool.not_true, Bool.not_false, decide_true, decide_false, eq_self, reduceCtorEq, Bool.true_eq_false, Bool.false_eq_true]
  refine ⟨by decide, p, 8, o, rfl, hp, ho, by decide, fun m o1 hm0 hm1 ho1 => ?_⟩
  simp only [if_pos c1, dSeq_e, dNext_e, dBreak_e, dCont_e, dExpr_e, dRet_e, dRetN_e, dIfS_e, dAsg_e, dFor_e, dRaise_e, dRaise1_e, dTry_e, dSetSlot_e, dSetIx_e, dName_e, dGTup_e, dGNil_e, dGCons_e, dVar_e, dC_e, dOp_e, dTest_e, asB_e, dAnd_e, dOr_e, dNot_e, dAndV_e, dOrV_e, dNotV_e, dIf_e, dNil_e, dCons_e, dTup_e, dLst_e, dLstM_e, dBlt_e, dCall_e, dNeg_e, dSl_e, dNoPart_e, dPart_e, dBm_e, dIsi_e, dIsX_e, dXf_e, dSlot_e, dProp_e, dMeth_e, dCMeth_e, dMake_e, dMakeL_e, dLc_e, dYes_e, dSigns_e, dItems_e, dItemsT_e, dRng1_e, dRng2_e, dTruth_e, dI_e, dIc_e, dAdd_i, dAdd_s, dEqS_e, dNeS_e, dIsN_e, dIsNotN_e, dIsB_e, dIn_s, dIn_l, dIn_t, dInSign_n, dInSign_y, startR, List.map_cons, List.map_nil, List.length_cons, List.length_nil, List.cons_append, List.nil_append, List.append_nil, List.replicate, Nat.reduceAdd, Nat.reduceSub, Nat.zero_add, nth, put, wipeR, dLen, lenD, dIx, ixD, dSlR, dInt1, dAbs, dStrI, dTupOf, dListOf, dListOfM, tyD, dInsert, dAppend, atM, instD, isInst, DD.isNon, DD.isB, eqS, isL, seqD, updM_same, updM_updM, Option.map_some, Option.bind_some, List.getElem?_cons_succ, List.getElem?_cons_zero, List.set_cons_zero, List.set_cons_succ, ↓reduceIte, exitE, and_true, true_and, Bool.not_true, Bool.not_false, decide_true, decide_false, eq_self, reduceCtorEq, Bool.true_eq_false, Bool.false_eq_true]
  by_cases h7 : m = 7
  · simp only [decide_eq_true h7]
    refine ⟨p, 26, o1, rfl, updM_same, ho1, by decide, fun r o2 hr0 hr1 ho2 => ?_⟩
    obtain ⟨c, ec, hc⟩ := sgn_at d1 (by decide) hr0 hr1
    simp only [ec, if_pos c1, Option.map_some, updM_updM]
    exact ⟨by decide, nm_aux htk h _ (by decide) _ hc ho2⟩
  · simp only [decide_eq_false h7]
    refine ⟨p, 26, o1, rfl, updM_same, ho1, by decide, fun r o2 hr0 hr1 ho2 => ?_⟩
    obtain ⟨c, ec, hc⟩ := sgn_at d1 (by decide) hr0 hr1
    simp only [ec, if_pos c1, Option.map_some, updM_updM]
    exact ⟨by omega, nm_aux htk h _ (by omega) _ hc ho2⟩
/-! ### _law_given: slots 0=code 1=width 2=column -/
def sp__law_given : SpD := fun ds M Q _ => ∃ code : Int, ds = [.int code, .int 4] ∧ ∀ ns : List Int, okCols ns = true → ns.length ≤ 4 → Q (.tup (iL ns)) M
def r__law_given  : TSD := (dRet (dBlt dTupOf (dCons (dLc (dRng1 (dCons (dVar 1) dNil)) (dName 2) (dTest (dOp dEqS (dOp (dIc (fun _ j => 0 < j) fun i j => .int (i % j)) (dBlt dInt1 (dCons (dOp (dIc (fun _ j => 0 < j ∧ j < 1073741824) fun i j => .int (i / j)) (dVar 0) (dOp dIx (dLst (dCons (dC (.int 1)) (dCons (dC (.int 2)) (dCons (dC (.int 4)) (dCons (dC (.int 8)) dNil))))) (dVar 2))) dNil)) (dC (.int 2))) (dC (.int 1)))) (dVar 2) [2]) dNil)))
theorem len__law_given {ds M Q E} (h : sp__law_given ds M Q E) : ds.length = 2 := by
  first
    | (obtain ⟨rfl, _⟩ := h; rfl)
    | (obtain ⟨_, rfl, _⟩ := h; rfl)
    | (obtain ⟨_, _, rfl, _⟩ := h; rfl)
    | (obtain ⟨_, _, _, rfl, _⟩ := h; rfl)
    | (obtain ⟨_, _, _, _, rfl, _⟩ := h; rfl)
    | (obtain ⟨_, _, _, _, _, rfl, _⟩ := h; rfl)
    | (obtain ⟨_, _, _, _, _, _, rfl, _⟩ := h; rfl)
theorem red__law_given {ds M Q E} (h : sp__law_given ds M Q E) : r__law_given (exitX E) (exitE Q) (startR 3 ds) M := by
  obtain ⟨code, rfl, h⟩ := h
  simp only [r__law_given, dLc, rngD, startR, List.map_cons, List.map_nil, List.length_cons, List.length_nil, List.cons_append, List.nil_append, List.append_nil, List.replicate, Nat.reduceAdd, Nat.reduceSub, Nat.zero_add, dSeq, dIfS, dOr, dAnd, dNot, dTest, dOp, dBlt, dLen, lenD, dCons, dNil, dVar, nth, put, dC, dI, dIc, asB, dRet, dRetN, dNext, dFor, dSigns, dItems, dItemsT, dIx, ixD, dIn, dInSign, dName, dAsg, dSl, dSlR, dPart, dNoPart, dAndV, dOrV, dNotV, dIf, dTup, dLst, dLstM, dExpr, dCall, dNeg, dAdd, dEqS, dNeS, dIsN, dIsNotN, dIsB, dRng1, dRng2, dInt1, dAbs, dStrI, dTupOf, dListOf, dListOfM, dRaise, dRaise1, dGTup, dGCons, dGNil, dSetIx, dBm, tyD, dInsert, dAppend, atM, dIsi, dIsX, dXf, dSlot, dProp, dSetSlot, instD, DD.isNon, DD.isB, eqS, isL, seqD, updM_same, updM_updM, Option.map_some, Option.bind_some, List.getElem?_cons_succ, List.getElem?_cons_zero, List.set_cons_zero, List.set_cons_succ, ↓reduceIte, exitE, and_true, true_and, Bool.not_true, Bool.not_false, decide_true, decide_false]
  refine ⟨by decide, by decide, ?_⟩
  have e : (List.map (fun (i : Nat) => D.int (0 + (i : Int))) (List.range (Int.toNat 4))) = [D.int 0, D.int 1, D.int 2, D.int 3] := rfl
  rw [e]
  simp only [lcD, wipeR, at4_0, at4_1, at4_2, at4_3, startR, List.map_cons, List.map_nil, List.length_cons, List.length_nil, List.cons_append, List.nil_append, List.append_nil, List.replicate, Nat.reduceAdd, Nat.reduceSub, Nat.zero_add, dSeq, dIfS, dOr, dAnd, dNot, dTest, dOp, dBlt, dLen, lenD, dCons, dNil, dVar, nth, put, dC, dI, dIc, asB, dRet, dRetN, dNext, dFor, dSigns, dItems, dItemsT, dIx, ixD, dIn, dInSign, dName, dAsg, dSl, dSlR, dPart, dNoPart, dAndV, dOrV, dNotV, dIf, dTup, dLst, dLstM, dExpr, dCall, dNeg, dAdd, dEqS, dNeS, dIsN, dIsNotN, dIsB, dRng1, dRng2, dInt1, dAbs, dStrI, dTupOf, dListOf, dListOfM, dRaise, dRaise1, dGTup, dGCons, dGNil, dSetIx, dBm, tyD, dInsert, dAppend, atM, dIsi, dIsX, dXf, dSlot, dProp, dSetSlot, instD, DD.isNon, DD.isB, eqS, isL, seqD, updM_same, updM_updM, Option.map_some, Option.bind_some, List.getElem?_cons_succ, List.getElem?_cons_zero, List.set_cons_zero, List.set_cons_succ, ↓reduceIte, exitE, and_true, true_and, Bool.not_true, Bool.not_false, decide_true, decide_false]
  repeat' (first
    | refine ⟨by decide, ?_⟩
    | split)
  all_goals (first
    | exact out (h [] rfl (by decide))
    | exact out (h [0] rfl (by decide))
    | exact out (h [1] rfl (by decide))
    | exact out (h [2] rfl (by decide))
    | exact out (h [3] rfl (by decide))
    | exact out (h [0, 1] rfl (by decide))
    | exact out (h [0, 2] rfl (by decide))
    | exact out (h [0, 3] rfl (by decide))
    | exact out (h [1, 2] rfl (by decide))
    | exact out (h [1, 3] rfl (by decide))
    | exact out (h [2, 3] rfl (by decide))
    | exact out (h [0, 1, 2] rfl (by decide))
    | exact out (h [0, 1, 3] rfl (by decide))
    | exact out (h [0, 2, 3] rfl (by decide))
    | exact out (h [1, 2, 3] rfl (by decide))
    | exact out (h [0, 1, 2, 3] rfl (by decide)))
/-! ### _law_same: slots 0=actual 1=expected 2=k -/

mutual
def plD : Nat → D → Bool
  | _, .non => true
  | _, .bl _ => true
  | _, .int _ => true
  | _, .str _ => true
  | n + 1, .tup l => decide (l.length ≤ 1000000) && plDs n l
  | n + 1, .lst l => decide (l.length ≤ 1000000) && plDs n l
  | _, _ => false
def plDs : Nat → List D → Bool
  | _, [] => true
  | n, d :: l => plD n d && plDs n l
end
theorem plDs_get {n : Nat} {x : D} : ∀ {l : List D} {k : Nat}, plDs n l = true → l[k]? = some x → plD n x = true
  | [], k, _, e => by simp at e
  | d :: l, 0, h, e => by
    simp at e
    subst e
    unfold plDs at h
    exact (Bool.and_eq_true_iff.mp h).1
  | d :: l, k + 1, h, e => by
    unfold plDs at h
    exact plDs_get (Bool.and_eq_true_iff.mp h).2 (by simpa using e)
def sp_same (n : Nat) : SpD := fun ds M Q _ => ∃ x : D, ds = [x, x] ∧ plD n x = true ∧ Q (.bl true) M
abbrev sp__law_same : SpD := sp_same 6
def r__law_same (spN : SpD) : TSD := (dSeq (dIfS (dTest (dOp dIsN (dVar 1) (dC .non))) (dRet (dOp dIsN (dVar 0) (dC .non))) dNext)
 (dSeq (dIfS (dTest (dOp dIsB (dVar 1) (dC (.bl true)))) (dRet (dOp dIsB (dVar 0) (dC (.bl true)))) dNext)
 (dSeq (dIfS (dTest (dOp dIsB (dVar 1) (dC (.bl false)))) (dRet (dOp dIsB (dVar 0) (dC (.bl false)))) dNext)
 (dSeq (dIfS (dTest (dIsi isa (.b .int) (dVar 1))) (dRet (dAndV (dIsi isa (.b .int) (dVar 0)) (dAndV (dNotV (dIsi isa (.b .bl) (dVar 0))) (dOp dEqS (dVar 0) (dVar 1))))) dNext)
 (dSeq (dIfS (dTest (dIsi isa (.b .str) (dVar 1))) (dRet (dAndV (dIsi isa (.b .str) (dVar 0)) (dOp dEqS (dVar 0) (dVar 1)))) dNext)
 (dSeq (dIfS (dAnd (dTest (dIsi isa (.b .tup) (dVar 1))) (dNot (dTest (dIsi isa (.b .tup) (dVar 0))))) (dRet (dC (.bl false))) dNext)
 (dSeq (dIfS (dAnd (dTest (dIsi isa (.b .lst) (dVar 1))) (dNot (dTest (dIsi isa (.b .lst) (dVar 0))))) (dRet (dC (.bl false))) dNext)
 (dSeq (dIfS (dTest (dOp dNeS (dBlt dLen (dCons (dVar 0) dNil)) (dBlt dLen (dCons (dVar 1) dNil)))) (dRet (dC (.bl false))) dNext)
 (dSeq (dFor (dRng1 (dCons (dBlt dLen (dCons (dVar 1) dNil)) dNil)) (dName 2) (dIfS (dNot (dTest (dCall (spN) (dCons (dOp dIx (dVar 0) (dVar 2)) (dCons (dOp dIx (dVar 1) (dVar 2)) dNil))))) (dRet (dC (.bl false))) dNext))
 (dRet (dC (.bl true))))))))))))
theorem len__law_same {n : Nat} {ds M Q E} (h : sp_same n ds M Q E) : ds.length = 2 := by
  first
    | (obtain ⟨rfl, _⟩ := h; rfl)
    | (obtain ⟨_, rfl, _⟩ := h; rfl)
    | (obtain ⟨_, _, rfl, _⟩ := h; rfl)
    | (obtain ⟨_, _, _, rfl, _⟩ := h; rfl)
    | (obtain ⟨_, _, _, _, rfl, _⟩ := h; rfl)
    | (obtain ⟨_, _, _, _, _, rfl, _⟩ := h; rfl)
    | (obtain ⟨_, _, _, _, _, _, rfl, _⟩ := h; rfl)
theorem red__law_same_0 {ds M Q E} (h : sp_same 0 ds M Q E) : r__law_same (fun _ _ _ _ => False) (exitX E) (exitE Q) (startR 3 ds) M := by
  obtain ⟨x, rfl, hp, h⟩ := h
  cases x with
  | non => simp only [r__law_same, dSeq_e, dNext_e, dBreak_e, dCont_e, dExpr_e, dRet_e, dRetN_e, dIfS_e, dAsg_e, dFor_e, loopD_n, loopD_c, dRaise_e, dRaise1_e, dTry_e, dSetSlot_e, dSetIx_e, dName_e, dGTup_e, dGNil_e, dGCons_e, dVar_e, dC_e, dOp_e, dTest_e, asB_e, dAnd_e, dOr_e, dNot_e, dAndV_e, dOrV_e, dNotV_e, dIf_e, dNil_e, dCons_e, dTup_e, dLst_e, dLstM_e, dBlt_e, dCall_e, dNeg_e, dSl_e, dNoPart_e, dPart_e, dBm_e, dIsi_e, dIsX_e, dXf_e, dSlot_e, dProp_e, dMeth_e, dCMeth_e, dMake_e, dMakeL_e, dLc_e, lcD_n, lcD_c, dYes_e, dSigns_e, dItems_e, dItemsT_e, dRng1_e, dRng2_e, dTruth_e, dI_e, dIc_e, dAdd_i, dAdd_s, dEqS_e, dNeS_e, dIsN_e, dIsNotN_e, dIsB_e, dIn_s, dIn_l, dIn_t, dInSign_n, dInSign_y, startR, List.map_cons, List.map_nil, List.length_cons, List.length_nil, List.cons_append, List.nil_append, List.append_nil, List.replicate, Nat.reduceAdd, Nat.reduceSub, Nat.zero_add, nth, put, wipeR, dLen, lenD, dIx, ixD, dSlR, dInt1, dAbs, dStrI, dTupOf, dListOf, dListOfM, tyD, dInsert, dAppend, atM, instD, isInst, DD.isNon, DD.isB, eqS, isL, seqD, updM_same, updM_updM, Option.map_some, Option.bind_some, List.getElem?_cons_succ, List.getElem?_cons_zero, List.set_cons_zero, List.set_cons_succ, ↓reduceIte, exitE, and_true, true_and, Bool.not_true, Bool.not_false, decide_true, decide_false, eq_self, reduceCtorEq, Bool.true_eq_false, Bool.false_eq_true]; exact out h
  | bl b => cases b <;> (simp only [r__law_same, dSeq_e, dNext_e, dBreak_e, dCont_e, dExpr_e, dRet_e, dRetN_e, dIfS_e, dAsg_e, dFor_e, loopD_n, loopD_c, dRaise_e, dRaise1_e, dTry_e, dSetSlot_e, dSetIx_e, dName_e, dGTup_e, dGNil_e, dGCons_e, dVar_e, dC_e, dOp_e, dTest_e, asB_e, dAnd_e, dOr_e, dNot_e, dAndV_e, dOrV_e, dNotV_e, dIf_e, dNil_e, dCons_e, dTup_e, dLst_e, dLstM_e, dBlt_e, dCall_e, dNeg_e, dSl_e, dNoPart_e, dPart_e, dBm_e, dIsi_e, dIsX_e, dXf_e, dSlot_e, dProp_e, dMeth_e, dCMeth_e, dMake_e, dMakeL_e, dLc_e, lcD_n, lcD_c, dYes_e, dSigns_e, dItems_e, dItemsT_e, dRng1_e, dRng2_e, dTruth_e, dI_e, dIc_e, dAdd_i, dAdd_s, dEqS_e, dNeS_e, dIsN_e, dIsNotN_e, dIsB_e, dIn_s, dIn_l, dIn_t, dInSign_n, dInSign_y, startR, List.map_cons, List.map_nil, List.length_cons, List.length_nil, List.cons_append, List.nil_append, List.append_nil, List.replicate, Nat.reduceAdd, Nat.reduceSub, Nat.zero_add, nth, put, wipeR, dLen, lenD, dIx, ixD, dSlR, dInt1, dAbs, dStrI, dTupOf, dListOf, dListOfM, tyD, dInsert, dAppend, atM, instD, isInst, DD.isNon, DD.isB, eqS, isL, seqD, updM_same, updM_updM, Option.map_some, Option.bind_some, List.getElem?_cons_succ, List.getElem?_cons_zero, List.set_cons_zero, List.set_cons_succ, ↓reduceIte, exitE, and_true, true_and, Bool.not_true, Bool.not_false, decide_true, decide_false, eq_self, reduceCtorEq, Bool.true_eq_false, Bool.false_eq_true]; exact out h)
  | int i => simp only [r__law_same, tyOfD, isaP, isaB, dSeq_e, dNext_e, dBreak_e, dCont_e, dExpr_e, dRet_e, dRetN_e, dIfS_e, dAsg_e, dFor_e, loopD_n, loopD_c, dRaise_e, dRaise1_e, dTry_e, dSetSlot_e, dSetIx_e, dName_e, dGTup_e, dGNil_e, dGCons_e, dVar_e, dC_e, dOp_e, dTest_e, asB_e, dAnd_e, dOr_e, dNot_e, dAndV_e, dOrV_e, dNotV_e, dIf_e, dNil_e, dCons_e, dTup_e, dLst_e, dLstM_e, dBlt_e, dCall_e, dNeg_e, dSl_e, dNoPart_e, dPart_e, dBm_e, dIsi_e, dIsX_e, dXf_e, dSlot_e, dProp_e, dMeth_e, dCMeth_e, dMake_e, dMakeL_e, dLc_e, lcD_n, lcD_c, dYes_e, dSigns_e, dItems_e, dItemsT_e, dRng1_e, dRng2_e, dTruth_e, dI_e, dIc_e, dAdd_i, dAdd_s, dEqS_e, dNeS_e, dIsN_e, dIsNotN_e, dIsB_e, dIn_s, dIn_l, dIn_t, dInSign_n, dInSign_y, startR, List.map_cons, List.map_nil, List.length_cons, List.length_nil, List.cons_append, List.nil_append, List.append_nil, List.replicate, Nat.reduceAdd, Nat.reduceSub, Nat.zero_add, nth, put, wipeR, dLen, lenD, dIx, ixD, dSlR, dInt1, dAbs, dStrI, dTupOf, dListOf, dListOfM, tyD, dInsert, dAppend, atM, instD, isInst, DD.isNon, DD.isB, eqS, isL, seqD, updM_same, updM_updM, Option.map_some, Option.bind_some, List.getElem?_cons_succ, List.getElem?_cons_zero, List.set_cons_zero, List.set_cons_succ, ↓reduceIte, exitE, and_true, true_and, Bool.not_true, Bool.not_false, decide_true, decide_false, eq_self, reduceCtorEq, Bool.true_eq_false, Bool.false_eq_true]; exact out h
  | str i => simp only [r__law_same, tyOfD, isaP, isaB, dSeq_e, dNext_e, dBreak_e, dCont_e, dExpr_e, dRet_e, dRetN_e, dIfS_e, dAsg_e, dFor_e, loopD_n, loopD_c, dRaise_e, dRaise1_e, dTry_e, dSetSlot_e, dSetIx_e, dName_e, dGTup_e, dGNil_e, dGCons_e, dVar_e, dC_e, dOp_e, dTest_e, asB_e, dAnd_e, dOr_e, dNot_e, dAndV_e, dOrV_e, dNotV_e, dIf_e, dNil_e, dCons_e, dTup_e, dLst_e, dLstM_e, dBlt_e, dCall_e, dNeg_e, dSl_e, dNoPart_e, dPart_e, dBm_e, dIsi_e, dIsX_e, dXf_e, dSlot_e, dProp_e, dMeth_e, dCMeth_e, dMake_e, dMakeL_e, dLc_e, lcD_n, lcD_c, dYes_e, dSigns_e, dItems_e, dItemsT_e, dRng1_e, dRng2_e, dTruth_e, dI_e, dIc_e, dAdd_i, dAdd_s, dEqS_e, dNeS_e, dIsN_e, dIsNotN_e, dIsB_e, dIn_s, dIn_l, dIn_t, dInSign_n, dInSign_y, startR, List.map_cons, List.map_nil, List.length_cons, List.length_nil, List.cons_append, List.nil_append, List.append_nil, List.replicate, Nat.reduceAdd, Nat.reduceSub, Nat.zero_add, nth, put, wipeR, dLen, lenD, dIx, ixD, dSlR, dInt1, dAbs, dStrI, dTupOf, dListOf, dListOfM, tyD, dInsert, dAppend, atM, instD, isInst, DD.isNon, DD.isB, eqS, isL, seqD, updM_same, updM_updM, Option.map_some, Option.bind_some, List.getElem?_cons_succ, List.getElem?_cons_zero, List.set_cons_zero, List.set_cons_succ, ↓reduceIte, exitE, and_true, true_and, Bool.not_true, Bool.not_false, decide_true, decide_false, eq_self, reduceCtorEq, Bool.true_eq_false, Bool.false_eq_true]; exact out h
  | tup l => cases hp
  | lst l => cases hp
  | ins k sl ks vs => cases hp
  | adr a => cases hp
theorem red__law_same {n ds M Q E} (h : sp_same (n + 1) ds M Q E) : r__law_same (sp_same n) (exitX E) (exitE Q) (startR 3 ds) M := by
  obtain ⟨x, rfl, hp, h⟩ := h
  cases x with
  | non => simp only [r__law_same, dSeq_e, dNext_e, dBreak_e, dCont_e, dExpr_e, dRet_e, dRetN_e, dIfS_e, dAsg_e, dFor_e, loopD_n, loopD_c, dRaise_e, dRaise1_e, dTry_e, dSetSlot_e, dSetIx_e, dName_e, dGTup_e, dGNil_e, dGCons_e, dVar_e, dC_e, dOp_e, dTest_e, asB_e, dAnd_e, dOr_e, dNot_e, dAndV_e, dOrV_e, dNotV_e, dIf_e, dNil_e, dCons_e, dTup_e, dLst_e, dLstM_e, dBlt_e, dCall_e, dNeg_e, dSl_e, dNoPart_e, dPart_e, dBm_e, dIsi_e, dIsX_e, dXf_e, dSlot_e, dProp_e, dMeth_e, dCMeth_e, dMake_e, dMakeL_e, dLc_e, lcD_n, lcD_c, dYes_e, dSigns_e, dItems_e, dItemsT_e, dRng1_e, dRng2_e, dTruth_e, dI_e, dIc_e, dAdd_i, dAdd_s, dEqS_e, dNeS_e, dIsN_e, dIsNotN_e, dIsB_e, dIn_s, dIn_l, dIn_t, dInSign_n, dInSign_y, startR, List.map_cons, List.map_nil, List.length_cons, List.length_nil, List.cons_append, List.nil_append, List.append_nil, List.replicate, Nat.reduceAdd, Nat.reduceSub, Nat.zero_add, nth, put, wipeR, dLen, lenD, dIx, ixD, dSlR, dInt1, dAbs, dStrI, dTupOf, dListOf, dListOfM, tyD, dInsert, dAppend, atM, instD, isInst, DD.isNon, DD.isB, eqS, isL, seqD, updM_same, updM_updM, Option.map_some, Option.bind_some, List.getElem?_cons_succ, List.getElem?_cons_zero, List.set_cons_zero, List.set_cons_succ, ↓reduceIte, exitE, and_true, true_and, Bool.not_true, Bool.not_false, decide_true, decide_false, eq_self, reduceCtorEq, Bool.true_eq_false, Bool.false_eq_true]; exact out h
  | bl b => cases b <;> (simp only [r__law_same, dSeq_e, dNext_e, dBreak_e, dCont_e, dExpr_e, dRet_e, dRetN_e, dIfS_e, dAsg_e, dFor_e, loopD_n, loopD_c, dRaise_e, dRaise1_e, dTry_e, dSetSlot_e, dSetIx_e, dName_e, dGTup_e, dGNil_e, dGCons_e, dVar_e, dC_e, dOp_e, dTest_e, asB_e, dAnd_e, dOr_e, dNot_e, dAndV_e, dOrV_e, dNotV_e, dIf_e, dNil_e, dCons_e, dTup_e, dLst_e, dLstM_e, dBlt_e, dCall_e, dNeg_e, dSl_e, dNoPart_e, dPart_e, dBm_e, dIsi_e, dIsX_e, dXf_e, dSlot_e, dProp_e, dMeth_e, dCMeth_e, dMake_e, dMakeL_e, dLc_e, lcD_n, lcD_c, dYes_e, dSigns_e, dItems_e, dItemsT_e, dRng1_e, dRng2_e, dTruth_e, dI_e, dIc_e, dAdd_i, dAdd_s, dEqS_e, dNeS_e, dIsN_e, dIsNotN_e, dIsB_e, dIn_s, dIn_l, dIn_t, dInSign_n, dInSign_y, startR, List.map_cons, List.map_nil, List.length_cons, List.length_nil, List.cons_append, List.nil_append, List.append_nil, List.replicate, Nat.reduceAdd, Nat.reduceSub, Nat.zero_add, nth, put, wipeR, dLen, lenD, dIx, ixD, dSlR, dInt1, dAbs, dStrI, dTupOf, dListOf, dListOfM, tyD, dInsert, dAppend, atM, instD, isInst, DD.isNon, DD.isB, eqS, isL, seqD, updM_same, updM_updM, Option.map_some, Option.bind_some, List.getElem?_cons_succ, List.getElem?_cons_zero, List.set_cons_zero, List.set_cons_succ, ↓reduceIte, exitE, and_true, true_and, Bool.not_true, Bool.not_false, decide_true, decide_false, eq_self, reduceCtorEq, Bool.true_eq_false, Bool.false_eq_true]; exact out h)
  | int i => simp only [r__law_same, tyOfD, isaP, isaB, dSeq_e, dNext_e, dBreak_e, dCont_e, dExpr_e, dRet_e, dRetN_e, dIfS_e, dAsg_e, dFor_e, loopD_n, loopD_c, dRaise_e, dRaise1_e, dTry_e, dSetSlot_e, dSetIx_e, dName_e, dGTup_e, dGNil_e, dGCons_e, dVar_e, dC_e, dOp_e, dTest_e, asB_e, dAnd_e, dOr_e, dNot_e, dAndV_e, dOrV_e, dNotV_e, dIf_e, dNil_e, dCons_e, dTup_e, dLst_e, dLstM_e, dBlt_e, dCall_e, dNeg_e, dSl_e, dNoPart_e, dPart_e, dBm_e, dIsi_e, dIsX_e, dXf_e, dSlot_e, dProp_e, dMeth_e, dCMeth_e, dMake_e, dMakeL_e, dLc_e, lcD_n, lcD_c, dYes_e, dSigns_e, dItems_e, dItemsT_e, dRng1_e, dRng2_e, dTruth_e, dI_e, dIc_e, dAdd_i, dAdd_s, dEqS_e, dNeS_e, dIsN_e, dIsNotN_e, dIsB_e, dIn_s, dIn_l, dIn_t, dInSign_n, dInSign_y, startR, List.map_cons, List.map_nil, List.length_cons, List.length_nil, List.cons_append, List.nil_append, List.append_nil, List.replicate, Nat.reduceAdd, Nat.reduceSub, Nat.zero_add, nth, put, wipeR, dLen, lenD, dIx, ixD, dSlR, dInt1, dAbs, dStrI, dTupOf, dListOf, dListOfM, tyD, dInsert, dAppend, atM, instD, isInst, DD.isNon, DD.isB, eqS, isL, seqD, updM_same, updM_updM, Option.map_some, Option.bind_some, List.getElem?_cons_succ, List.getElem?_cons_zero, List.set_cons_zero, List.set_cons_succ, ↓reduceIte, exitE, and_true, true_and, Bool.not_true, Bool.not_false, decide_true, decide_false, eq_self, reduceCtorEq, Bool.true_eq_false, Bool.false_eq_true]; exact out h
  | str i => simp only [r__law_same, tyOfD, isaP, isaB, dSeq_e, dNext_e, dBreak_e, dCont_e, dExpr_e, dRet_e, dRetN_e, dIfS_e, dAsg_e, dFor_e, loopD_n, loopD_c, dRaise_e, dRaise1_e, dTry_e, dSetSlot_e, dSetIx_e, dName_e, dGTup_e, dGNil_e, dGCons_e, dVar_e, dC_e, dOp_e, dTest_e, asB_e, dAnd_e, dOr_e, dNot_e, dAndV_e, dOrV_e, dNotV_e, dIf_e, dNil_e, dCons_e, dTup_e, dLst_e, dLstM_e, dBlt_e, dCall_e, dNeg_e, dSl_e, dNoPart_e, dPart_e, dBm_e, dIsi_e, dIsX_e, dXf_e, dSlot_e, dProp_e, dMeth_e, dCMeth_e, dMake_e, dMakeL_e, dLc_e, lcD_n, lcD_c, dYes_e, dSigns_e, dItems_e, dItemsT_e, dRng1_e, dRng2_e, dTruth_e, dI_e, dIc_e, dAdd_i, dAdd_s, dEqS_e, dNeS_e, dIsN_e, dIsNotN_e, dIsB_e, dIn_s, dIn_l, dIn_t, dInSign_n, dInSign_y, startR, List.map_cons, List.map_nil, List.length_cons, List.length_nil, List.cons_append, List.nil_append, List.append_nil, List.replicate, Nat.reduceAdd, Nat.reduceSub, Nat.zero_add, nth, put, wipeR, dLen, lenD, dIx, ixD, dSlR, dInt1, dAbs, dStrI, dTupOf, dListOf, dListOfM, tyD, dInsert, dAppend, atM, instD, isInst, DD.isNon, DD.isB, eqS, isL, seqD, updM_same, updM_updM, Option.map_some, Option.bind_some, List.getElem?_cons_succ, List.getElem?_cons_zero, List.set_cons_zero, List.set_cons_succ, ↓reduceIte, exitE, and_true, true_and, Bool.not_true, Bool.not_false, decide_true, decide_false, eq_self, reduceCtorEq, Bool.true_eq_false, Bool.false_eq_true]; exact out h
  | tup l =>
    obtain ⟨h1, h2⟩ := Bool.and_eq_true_iff.mp (show (decide (l.length ≤ 1000000) && plDs n l) = true from hp)
    have h1' := of_decide_eq_true h1
    simp only [r__law_same, tyOfD, isaP, isaB, dSeq_e, dNext_e, dBreak_e, dCont_e, dExpr_e, dRet_e, dRetN_e, dIfS_e, dAsg_e, dFor_e, loopD_n, loopD_c, dRaise_e, dRaise1_e, dTry_e, dSetSlot_e, dSetIx_e, dName_e, dGTup_e, dGNil_e, dGCons_e, dVar_e, dC_e, dOp_e, dTest_e, asB_e, dAnd_e, dOr_e, dNot_e, dAndV_e, dOrV_e, dNotV_e, dIf_e, dNil_e, dCons_e, dTup_e, dLst_e, dLstM_e, dBlt_e, dCall_e, dNeg_e, dSl_e, dNoPart_e, dPart_e, dBm_e, dIsi_e, dIsX_e, dXf_e, dSlot_e, dProp_e, dMeth_e, dCMeth_e, dMake_e, dMakeL_e, dLc_e, lcD_n, lcD_c, dYes_e, dSigns_e, dItems_e, dItemsT_e, dRng1_e, dRng2_e, dTruth_e, dI_e, dIc_e, dAdd_i, dAdd_s, dEqS_e, dNeS_e, dIsN_e, dIsNotN_e, dIsB_e, dIn_s, dIn_l, dIn_t, dInSign_n, dInSign_y, startR, List.map_cons, List.map_nil, List.length_cons, List.length_nil, List.cons_append, List.nil_append, List.append_nil, List.replicate, Nat.reduceAdd, Nat.reduceSub, Nat.zero_add, nth, put, wipeR, dLen, lenD, dIx, ixD, dSlR, dInt1, dAbs, dStrI, dTupOf, dListOf, dListOfM, tyD, dInsert, dAppend, atM, instD, isInst, DD.isNon, DD.isB, eqS, isL, seqD, updM_same, updM_updM, Option.map_some, Option.bind_some, List.getElem?_cons_succ, List.getElem?_cons_zero, List.set_cons_zero, List.set_cons_succ, ↓reduceIte, exitE, and_true, true_and, Bool.not_true, Bool.not_false, decide_true, decide_false, eq_self, reduceCtorEq, Bool.true_eq_false, Bool.false_eq_true]
    refine ⟨by omega, loop_inv (fun k ρ M' => M' = M ∧ ∃ o, ρ = [some (.tup l), some (.tup l), o]) (fun k d ρ M' rest hd hP hr => ?_) (fun ρ M' hP => ?_) ⟨rfl, none, rfl⟩⟩
    · obtain ⟨rfl, o, rfl⟩ := hP
      obtain ⟨rfl, lt⟩ := rng_get hd
      obtain ⟨y, ey⟩ : ∃ y, l[k]? = some y := ⟨l[k]'(by omega), List.getElem?_eq_getElem (by omega)⟩
      have e1 : atI l (0 + (k : Int)) = some y := by rw [atI_pos (by omega) (by omega)]; simpa using ey
      simp only [e1, dSeq_e, dNext_e, dBreak_e, dCont_e, dExpr_e, dRet_e, dRetN_e, dIfS_e, dAsg_e, dFor_e, loopD_n, loopD_c, dRaise_e, dRaise1_e, dTry_e, dSetSlot_e, dSetIx_e, dName_e, dGTup_e, dGNil_e, dGCons_e, dVar_e, dC_e, dOp_e, dTest_e, asB_e, dAnd_e, dOr_e, dNot_e, dAndV_e, dOrV_e, dNotV_e, dIf_e, dNil_e, dCons_e, dTup_e, dLst_e, dLstM_e, dBlt_e, dCall_e, dNeg_e, dSl_e, dNoPart_e, dPart_e, dBm_e, dIsi_e, dIsX_e, dXf_e, dSlot_e, dProp_e, dMeth_e, dCMeth_e, dMake_e, dMakeL_e, dLc_e, lcD_n, lcD_c, dYes_e, dSigns_e, dItems_e, dItemsT_e, dRng1_e, dRng2_e, dTruth_e, dI_e, dIc_e, dAdd_i, dAdd_s, dEqS_e, dNeS_e, dIsN_e, dIsNotN_e, dIsB_e, dIn_s, dIn_l, dIn_t, dInSign_n, dInSign_y, startR, List.map_cons, List.map_nil, List.length_cons, List.length_nil, List.cons_append, List.nil_append, List.append_nil, List.replicate, Nat.reduceAdd, Nat.reduceSub, Nat.zero_add, nth, put, wipeR, dLen, lenD, dIx, ixD, dSlR, dInt1, dAbs, dStrI, dTupOf, dListOf, dListOfM, tyD, dInsert, dAppend, atM, instD, isInst, DD.isNon, DD.isB, eqS, isL, seqD, updM_same, updM_updM, Option.map_some, Option.bind_some, List.getElem?_cons_succ, List.getElem?_cons_zero, List.set_cons_zero, List.set_cons_succ, ↓reduceIte, exitE, and_true, true_and, Bool.not_true, Bool.not_false, decide_true, decide_false, eq_self, reduceCtorEq, Bool.true_eq_false, Bool.false_eq_true]
      exact ⟨y, rfl, plDs_get h2 ey, hr _ _ ⟨rfl, _, rfl⟩⟩
    · obtain ⟨rfl, _⟩ := hP
      exact out h
  | lst l =>
    obtain ⟨h1, h2⟩ := Bool.and_eq_true_iff.mp (show (decide (l.length ≤ 1000000) && plDs n l) = true from hp)
    have h1' := of_decide_eq_true h1
    simp only [r__law_same, tyOfD, isaP, isaB, dSeq_e, dNext_e, dBreak_e, dCont_e, dExpr_e, dRet_e, dRetN_e, dIfS_e, dAsg_e, dFor_e, loopD_n, loopD_c, dRaise_e, dRaise1_e, dTry_e, dSetSlot_e, dSetIx_e, dName_e, dGTup_e, dGNil_e, dGCons_e, dVar_e, dC_e, dOp_e, dTest_e, asB_e, dAnd_e, dOr_e, dNot_e, dAndV_e, dOrV_e, dNotV_e, dIf_e, dNil_e, dCons_e, dTup_e, dLst_e, dLstM_e, dBlt_e, dCall_e, dNeg_e, dSl_e, dNoPart_e, dPart_e, dBm_e, dIsi_e, dIsX_e, dXf_e, dSlot_e, dProp_e, dMeth_e, dCMeth_e, dMake_e, dMakeL_e, dLc_e, lcD_n, lcD_c, dYes_e, dSigns_e, dItems_e, dItemsT_e, dRng1_e, dRng2_e, dTruth_e, dI_e, dIc_e, dAdd_i, dAdd_s, dEqS_e, dNeS_e, dIsN_e, dIsNotN_e, dIsB_e, dIn_s, dIn_l, dIn_t, dInSign_n, dInSign_y, startR, List.map_cons, List.map_nil, List.length_cons, List.length_nil, List.cons_append, List.nil_append, List.append_nil, List.replicate, Nat.reduceAdd, Nat.reduceSub, Nat.zero_add, nth, put, wipeR, dLen, lenD, dIx, ixD, dSlR, dInt1, dAbs, dStrI, dTupOf, dListOf, dListOfM, tyD, dInsert, dAppend, atM, instD, isInst, DD.isNon, DD.isB, eqS, isL, seqD, updM_same, updM_updM, Option.map_some, Option.bind_some, List.getElem?_cons_succ, List.getElem?_cons_zero, List.set_cons_zero, List.set_cons_succ, ↓reduceIte, exitE, and_true, true_and, Bool.not_true, Bool.not_false, decide_true, decide_false, eq_self, reduceCtorEq, Bool.true_eq_false, Bool.false_eq_true]
    refine ⟨by omega, loop_inv (fun k ρ M' => M' = M ∧ ∃ o, ρ = [some (.lst l), some (.lst l), o]) (fun k d ρ M' rest hd hP hr => ?_) (fun ρ M' hP => ?_) ⟨rfl, none, rfl⟩⟩
    · obtain ⟨rfl, o, rfl⟩ := hP
      obtain ⟨rfl, lt⟩ := rng_get hd
      obtain ⟨y, ey⟩ : ∃ y, l[k]? = some y := ⟨l[k]'(by omega), List.getElem?_eq_getElem (by omega)⟩
      have e1 : atI l (0 + (k : Int)) = some y := by rw [atI_pos (by omega) (by omega)]; simpa using ey
      simp only [e1, dSeq_e, dNext_e, dBreak_e, dCont_e, dExpr_e, dRet_e, dRetN_e, dIfS_e, dAsg_e, dFor_e, loopD_n, loopD_c, dRaise_e, dRaise1_e, dTry_e, dSetSlot_e, dSetIx_e, dName_e, dGTup_e, dGNil_e, dGCons_e, dVar_e, dC_e, dOp_e, dTest_e, asB_e, dAnd_e, dOr_e, dNot_e, dAndV_e, dOrV_e, dNotV_e, dIf_e, dNil_e, dCons_e, dTup_e, dLst_e, dLstM_e, dBlt_e, dCall_e, dNeg_e, dSl_e, dNoPart_e, dPart_e, dBm_e, dIsi_e, dIsX_e, dXf_e, dSlot_e, dProp_e, dMeth_e, dCMeth_e, dMake_e, dMakeL_e, dLc_e, lcD_n, lcD_c, dYes_e, dSigns_e, dItems_e, dItemsT_e, dRng1_e, dRng2_e, dTruth_e, dI_e, dIc_e, dAdd_i, dAdd_s, dEqS_e, dNeS_e, dIsN_e, dIsNotN_e, dIsB_e, dIn_s, dIn_l, dIn_t, dInSign_n, dInSign_y, startR, List.map_cons, List.map_nil, List.length_cons, List.length_nil, List.cons_append, List.nil_append, List.append_nil, List.replicate, Nat.reduceAdd, Nat.reduceSub, Nat.zero_add, nth, put, wipeR, dLen, lenD, dIx, ixD, dSlR, dInt1, dAbs, dStrI, dTupOf, dListOf, dListOfM, tyD, dInsert, dAppend, atM, instD, isInst, DD.isNon, DD.isB, eqS, isL, seqD, updM_same, updM_updM, Option.map_some, Option.bind_some, List.getElem?_cons_succ, List.getElem?_cons_zero, List.set_cons_zero, List.set_cons_succ, ↓reduceIte, exitE, and_true, true_and, Bool.not_true, Bool.not_false, decide_true, decide_false, eq_self, reduceCtorEq, Bool.true_eq_false, Bool.false_eq_true]
      exact ⟨y, rfl, plDs_get h2 ey, hr _ _ ⟨rfl, _, rfl⟩⟩
    · obtain ⟨rfl, _⟩ := hP
      exact out h
  | ins k sl ks vs => cases hp
  | adr a => cases hp
/-! ### _law_raw: slots 0=script 1=k -/
def sp__law_raw : SpD := fun ds M Q _ => ∃ (ns : List Int) (k : Int), ds = [.lst (iL ns), .int k] ∧ ns.length ≤ 63 ∧ 0 ≤ k ∧ ∀ i : Int, Q (.int i) M
def r__law_raw  : TSD := (dSeq (dIfS (dTest (dOp (dI fun i j => .bl (decide (i < j))) (dVar 1) (dBlt dLen (dCons (dVar 0) dNil)))) (dRet (dOp dIx (dVar 0) (dOp (dI fun i j => .int (i - j)) (dOp (dI fun i j => .int (i - j)) (dBlt dLen (dCons (dVar 0) dNil)) (dC (.int 1))) (dVar 1)))) dNext)
 (dRet (dC (.int 0))))
theorem len__law_raw {ds M Q E} (h : sp__law_raw ds M Q E) : ds.length = 2 := by
  first
    | (obtain ⟨rfl, _⟩ := h; rfl)
    | (obtain ⟨_, rfl, _⟩ := h; rfl)
    | (obtain ⟨_, _, rfl, _⟩ := h; rfl)
    | (obtain ⟨_, _, _, rfl, _⟩ := h; rfl)
    | (obtain ⟨_, _, _, _, rfl, _⟩ := h; rfl)
    | (obtain ⟨_, _, _, _, _, rfl, _⟩ := h; rfl)
    | (obtain ⟨_, _, _, _, _, _, rfl, _⟩ := h; rfl)
theorem red__law_raw {ds M Q E} (h : sp__law_raw ds M Q E) : r__law_raw (exitX E) (exitE Q) (startR 2 ds) M := by
  obtain ⟨ns, k, rfl, hn, hk, h⟩ := h
  simp only [r__law_raw, startR, List.map_cons, List.map_nil, List.length_cons, List.length_nil, List.cons_append, List.nil_append, List.append_nil, List.replicate, Nat.reduceAdd, Nat.reduceSub, Nat.zero_add, dSeq, dIfS, dOr, dAnd, dNot, dTest, dOp, dBlt, dLen, lenD, dCons, dNil, dVar, nth, put, dC, dI, dIc, asB, dRet, dRetN, dNext, dFor, dSigns, dItems, dItemsT, dIx, ixD, dIn, dInSign, dName, dAsg, dSl, dSlR, dPart, dNoPart, dAndV, dOrV, dNotV, dIf, dTup, dLst, dLstM, dExpr, dCall, dNeg, dAdd, dEqS, dNeS, dIsN, dIsNotN, dIsB, dRng1, dRng2, dInt1, dAbs, dStrI, dTupOf, dListOf, dListOfM, dRaise, dRaise1, dGTup, dGCons, dGNil, dSetIx, dBm, tyD, dInsert, dAppend, atM, dIsi, dIsX, dXf, dSlot, dProp, dSetSlot, instD, DD.isNon, DD.isB, eqS, isL, seqD, updM_same, updM_updM, Option.map_some, Option.bind_some, List.getElem?_cons_succ, List.getElem?_cons_zero, List.set_cons_zero, List.set_cons_succ, ↓reduceIte, exitE, and_true, true_and, Bool.not_true, Bool.not_false, decide_true, decide_false]
  by_cases h1 : k < ((iL ns).length : Int)
  · have e1 : decide (k < ((iL ns).length : Int)) = true := decide_eq_true h1
    simp only [e1]
    obtain ⟨z, ez⟩ := iL_at (ns := ns) (i := ((iL ns).length : Int) - 1 - k) (by omega) (by omega)
    simp only [ez]
    exact out (h _)
  · have e1 : decide (k < ((iL ns).length : Int)) = false := decide_eq_false h1
    simp only [e1]
    exact out (h _)
/-! ### _law_cut: slots 0=number -/
def sp__law_cut : SpD := fun ds M Q _ => ∃ n : Int, ds = [.int n] ∧ ∀ i : Int, Q (.int i) M
def r__law_cut  : TSD := (dSeq (dIfS (dTest (dOp (dI fun i j => .bl (decide (i < j))) (dVar 0) (dC (.int 0)))) (dRet (dOp (dI fun i j => .int (i - j)) (dNeg (dC (.int 1))) (dOp (dIc (fun _ j => 0 < j) fun i j => .int (i % j)) (dBlt dInt1 (dCons (dOp (dI fun i j => .int (i - j)) (dNeg (dC (.int 1))) (dVar 0)) dNil)) (dOp (dIc (fun i j => 0 ≤ j ∧ j ≤ 1000000 ∧ i.natAbs < 2 ^ 64) fun i j => .int (i ^ j.toNat)) (dC (.int 10)) (dC (.int 64)))))) dNext)
 (dRet (dOp (dIc (fun _ j => 0 < j) fun i j => .int (i % j)) (dBlt dInt1 (dCons (dVar 0) dNil)) (dOp (dIc (fun i j => 0 ≤ j ∧ j ≤ 1000000 ∧ i.natAbs < 2 ^ 64) fun i j => .int (i ^ j.toNat)) (dC (.int 10)) (dC (.int 64))))))
theorem len__law_cut {ds M Q E} (h : sp__law_cut ds M Q E) : ds.length = 1 := by
  first
    | (obtain ⟨rfl, _⟩ := h; rfl)
    | (obtain ⟨_, rfl, _⟩ := h; rfl)
    | (obtain ⟨_, _, rfl, _⟩ := h; rfl)
    | (obtain ⟨_, _, _, rfl, _⟩ := h; rfl)
    | (obtain ⟨_, _, _, _, rfl, _⟩ := h; rfl)
    | (obtain ⟨_, _, _, _, _, rfl, _⟩ := h; rfl)
    | (obtain ⟨_, _, _, _, _, _, rfl, _⟩ := h; rfl)
theorem red__law_cut {ds M Q E} (h : sp__law_cut ds M Q E) : r__law_cut (exitX E) (exitE Q) (startR 1 ds) M := by
  obtain ⟨n, rfl, h⟩ := h
  simp only [r__law_cut, startR, List.map_cons, List.map_nil, List.length_cons, List.length_nil, List.cons_append, List.nil_append, List.append_nil, List.replicate, Nat.reduceAdd, Nat.reduceSub, Nat.zero_add, dSeq, dIfS, dOr, dAnd, dNot, dTest, dOp, dBlt, dLen, lenD, dCons, dNil, dVar, nth, put, dC, dI, dIc, asB, dRet, dRetN, dNext, dFor, dSigns, dItems, dItemsT, dIx, ixD, dIn, dInSign, dName, dAsg, dSl, dSlR, dPart, dNoPart, dAndV, dOrV, dNotV, dIf, dTup, dLst, dLstM, dExpr, dCall, dNeg, dAdd, dEqS, dNeS, dIsN, dIsNotN, dIsB, dRng1, dRng2, dInt1, dAbs, dStrI, dTupOf, dListOf, dListOfM, dRaise, dRaise1, dGTup, dGCons, dGNil, dSetIx, dBm, tyD, dInsert, dAppend, atM, dIsi, dIsX, dXf, dSlot, dProp, dSetSlot, instD, DD.isNon, DD.isB, eqS, isL, seqD, updM_same, updM_updM, Option.map_some, Option.bind_some, List.getElem?_cons_succ, List.getElem?_cons_zero, List.set_cons_zero, List.set_cons_succ, ↓reduceIte, exitE, and_true, true_and, Bool.not_true, Bool.not_false, decide_true, decide_false]
  split
  · exact ⟨by decide, by decide, out (h _)⟩
  · exact ⟨by decide, by decide, out (h _)⟩
/-! ### _law_named: slots 0=text 1=letters 2=sign -/
def sp__law_named : SpD := fun ds M Q _ => ∃ x : Str, ds = [.str x] ∧ x.length ≤ 1000000 ∧ Q (.bl (okName x)) M
def r__law_named  : TSD := (dSeq (dAsg (dC (.str "abcdefghijklmnopqrstuvwxyz")) (dName 1))
 (dSeq (dIfS (dOr (dTest (dOp (dI fun i j => .bl (decide (i < j))) (dBlt dLen (dCons (dVar 0) dNil)) (dC (.int 1)))) (dOr (dTest (dOp (dI fun i j => .bl (decide (j < i))) (dBlt dLen (dCons (dVar 0) dNil)) (dC (.int 12)))) (dTest (dOp (dIn true) (dOp dIx (dVar 0) (dC (.int 0))) (dVar 1))))) (dRet (dC (.bl false))) dNext)
 (dRet (dOp dEqS (dBlt dLen (dCons (dLc (dSigns (dVar 0)) (dName 2) (dTest (dOp (dIn true) (dVar 2) (dOp dAdd (dVar 1) (dC (.str "0123456789"))))) (dVar 2) [2]) dNil)) (dC (.int 0))))))
theorem len__law_named {ds M Q E} (h : sp__law_named ds M Q E) : ds.length = 1 := by
  first
    | (obtain ⟨rfl, _⟩ := h; rfl)
    | (obtain ⟨_, rfl, _⟩ := h; rfl)
    | (obtain ⟨_, _, rfl, _⟩ := h; rfl)
    | (obtain ⟨_, _, _, rfl, _⟩ := h; rfl)
    | (obtain ⟨_, _, _, _, rfl, _⟩ := h; rfl)
    | (obtain ⟨_, _, _, _, _, rfl, _⟩ := h; rfl)
    | (obtain ⟨_, _, _, _, _, _, rfl, _⟩ := h; rfl)
theorem mem_signs (c : Nat) : decide (c ∈ (Str.ofString "abcdefghijklmnopqrstuvwxyz" ++ Str.ofString "0123456789").cps.toList) = okSign c := by
  unfold okSign
  rw [← Bool.decide_or]
  congr 1
  rw [Str.cps_append, Array.toList_append, List.mem_append]
  rfl
theorem all_filter (l : List Nat) : decide ((l.filter fun c => !okSign c).length = 0) = l.all okSign := by
  induction l with
  | nil => rfl
  | cons c r ih =>
    rw [List.filter_cons, List.all_cons]
    cases h : okSign c with
    | true => simpa [h] using ih
    | false => simp
theorem red__law_named {ds M Q E} (h : sp__law_named ds M Q E) : r__law_named (exitX E) (exitE Q) (startR 3 ds) M := by
  obtain ⟨x, rfl, hl, h⟩ := h
  have loop : ∀ (K : List D → MM → Prop) (l : List Nat) (acc : List D), K (acc ++ (l.filter fun c => !okSign c).map fun c => D.str ⟨#[c]⟩) M → lcD (dName 2) (dTest (dOp (dIn true) (dVar 2) (dOp dAdd (dVar 1) (dC (.str "0123456789"))))) (dVar 2) [some (.str x), some (.str "abcdefghijklmnopqrstuvwxyz"), none] K (l.map fun c => D.str ⟨#[c]⟩) acc M := by
    intro K l
    induction l with
    | nil => intro acc h; simpa [lcD] using h
    | cons c r ih =>
      intro acc h
      simp only [lcD, mem_signs, startR, List.map_cons, List.map_nil, List.length_cons, List.length_nil, List.cons_append, List.nil_append, List.append_nil, List.replicate, Nat.reduceAdd, Nat.reduceSub, Nat.zero_add, dSeq, dIfS, dOr, dAnd, dNot, dTest, dOp, dBlt, dLen, lenD, dCons, dNil, dVar, nth, put, dC, dI, dIc, asB, dRet, dRetN, dNext, dFor, dSigns, dItems, dItemsT, dIx, ixD, dIn, dInSign, dName, dAsg, dSl, dSlR, dPart, dNoPart, dAndV, dOrV, dNotV, dIf, dTup, dLst, dLstM, dExpr, dCall, dNeg, dAdd, dEqS, dNeS, dIsN, dIsNotN, dIsB, dRng1, dRng2, dInt1, dAbs, dStrI, dTupOf, dListOf, dListOfM, dRaise, dRaise1, dGTup, dGCons, dGNil, dSetIx, dBm, tyD, dInsert, dAppend, atM, dIsi, dIsX, dXf, dSlot, dProp, dSetSlot, instD, DD.isNon, DD.isB, eqS, isL, seqD, updM_same, updM_updM, Option.map_some, Option.bind_some, List.getElem?_cons_succ, List.getElem?_cons_zero, List.set_cons_zero, List.set_cons_succ, ↓reduceIte, exitE, and_true, true_and, Bool.not_true, Bool.not_false, decide_true, decide_false]
      refine ⟨by decide, ?_⟩
      rw [List.filter_cons] at h
      cases e : okSign c with
      | true =>
        simp only [e, Bool.not_true, Bool.false_eq_true, ↓reduceIte] at h ⊢
        exact ih acc h
      | false =>
        simp only [e, Bool.not_false, ↓reduceIte] at h ⊢
        exact ih _ (by simpa using h)
  simp only [r__law_named, if_pos hl, str_len, startR, List.map_cons, List.map_nil, List.length_cons, List.length_nil, List.cons_append, List.nil_append, List.append_nil, List.replicate, Nat.reduceAdd, Nat.reduceSub, Nat.zero_add, dSeq, dIfS, dOr, dAnd, dNot, dTest, dOp, dBlt, dLen, lenD, dCons, dNil, dVar, nth, put, dC, dI, dIc, asB, dRet, dRetN, dNext, dFor, dSigns, dItems, dItemsT, dIx, ixD, dIn, dInSign, dName, dAsg, dSl, dSlR, dPart, dNoPart, dAndV, dOrV, dNotV, dIf, dTup, dLst, dLstM, dExpr, dCall, dNeg, dAdd, dEqS, dNeS, dIsN, dIsNotN, dIsB, dRng1, dRng2, dInt1, dAbs, dStrI, dTupOf, dListOf, dListOfM, dRaise, dRaise1, dGTup, dGCons, dGNil, dSetIx, dBm, tyD, dInsert, dAppend, atM, dIsi, dIsX, dXf, dSlot, dProp, dSetSlot, instD, DD.isNon, DD.isB, eqS, isL, seqD, updM_same, updM_updM, Option.map_some, Option.bind_some, List.getElem?_cons_succ, List.getElem?_cons_zero, List.set_cons_zero, List.set_cons_succ, ↓reduceIte, exitE, and_true, true_and, Bool.not_true, Bool.not_false, decide_true, decide_false]
  unfold okName at h
  cases hx : x.cps.toList with
  | nil => rw [hx] at h; exact out h
  | cons c r =>
    rw [hx] at h
    have e1 : decide ((((c :: r : List Nat).length : Nat) : Int) < 1) = false := by simp; omega
    rw [e1]
    simp only []
    by_cases h12 : r.length < 12
    · have e2 : decide ((12 : Int) < (((c :: r : List Nat).length : Nat) : Int)) = false := by simp; omega
      rw [e2]
      have e3 : atI (c :: r) 0 = some c := atI_zero
      simp only [e3, Option.map_some]
      by_cases hc : c ∈ letS
      · have e4 : decide (c ∈ (Str.ofString "abcdefghijklmnopqrstuvwxyz").cps.toList) = true := decide_eq_true hc
        simp only [e4, Bool.not_true]
        have h' : Q (.bl ((c :: r).all okSign)) M := by
          have e5 : decide (r.length < 12) = true := decide_eq_true h12
          have e6 : decide (c ∈ letS) = true := decide_eq_true hc
          simp only [e5, e6, Bool.true_and] at h
          exact h
        simp only [dLc, wipeR, startR, List.map_cons, List.map_nil, List.length_cons, List.length_nil, List.cons_append, List.nil_append, List.append_nil, List.replicate, Nat.reduceAdd, Nat.reduceSub, Nat.zero_add, dSeq, dIfS, dOr, dAnd, dNot, dTest, dOp, dBlt, dLen, lenD, dCons, dNil, dVar, nth, put, dC, dI, dIc, asB, dRet, dRetN, dNext, dFor, dSigns, dItems, dItemsT, dIx, ixD, dIn, dInSign, dName, dAsg, dSl, dSlR, dPart, dNoPart, dAndV, dOrV, dNotV, dIf, dTup, dLst, dLstM, dExpr, dCall, dNeg, dAdd, dEqS, dNeS, dIsN, dIsNotN, dIsB, dRng1, dRng2, dInt1, dAbs, dStrI, dTupOf, dListOf, dListOfM, dRaise, dRaise1, dGTup, dGCons, dGNil, dSetIx, dBm, tyD, dInsert, dAppend, atM, dIsi, dIsX, dXf, dSlot, dProp, dSetSlot, instD, DD.isNon, DD.isB, eqS, isL, seqD, updM_same, updM_updM, Option.map_some, Option.bind_some, List.getElem?_cons_succ, List.getElem?_cons_zero, List.set_cons_zero, List.set_cons_succ, ↓reduceIte, exitE, and_true, true_and, Bool.not_true, Bool.not_false, decide_true, decide_false]
        refine ⟨?_, loop _ _ _ ?_⟩
        · rw [List.length_map, hx]
          simp
          omega
        · rw [List.nil_append, List.length_map, hx]
          rw [← all_filter] at h'
          refine out ?_
          have e9 : decide ((((List.filter (fun c => !okSign c) (c :: r)).length : Nat) : Int) = 0) = decide ((List.filter (fun c => !okSign c) (c :: r)).length = 0) := by simp
          rw [e9]
          exact h'
      · have e4 : decide (c ∈ (Str.ofString "abcdefghijklmnopqrstuvwxyz").cps.toList) = false := decide_eq_false hc
        simp only [e4, Bool.not_false]
        have e6 : decide (c ∈ letS) = false := e4
        simp only [e6, Bool.false_and, Bool.and_false] at h
        exact out h
    · have e2 : decide ((12 : Int) < (((c :: r : List Nat).length : Nat) : Int)) = true := by simp; omega
      rw [e2]
      have e5 : decide (r.length < 12) = false := decide_eq_false h12
      simp only [e5, Bool.false_and] at h
      exact out h
/-! ### _law_spoilt: slots 0=draws 1=name 2=signs 3=way 4=place -/
def sp__law_spoilt : SpD := fun ds M Q _ => ∃ (p : Addr) (x : Str) (o : MO), ds = [.adr p, .str x] ∧ okName x = true ∧ M p = some o ∧ drOk o ∧ ∀ (y : Str) (o' : MO), y.length ≤ 1000 → drOk o' → Q (.str y) (updM M p o')
theorem spl_len {x : Str} (h : okName x = true) : x.length ≤ 12 ∧ 1 ≤ x.length := by
  unfold okName at h
  have e := str_len x
  cases hx : x.cps.toList with
  | nil => rw [hx] at h; cases h
  | cons c r =>
    rw [hx] at h e
    obtain ⟨h1, _⟩ := Bool.and_eq_true_iff.mp (show (decide (r.length < 12) && (decide (c ∈ letS) && (c :: r).all okSign)) = true from h)
    have h1 := of_decide_eq_true h1
    rw [List.length_cons] at e
    omega
theorem cutS_le (x : Str) (lo hi : Option Int) : (cutS x lo hi).length ≤ x.length := by
  unfold cutS
  show (List.toArray _).size ≤ x.cps.size
  simp
  omega
def r__law_spoilt  : TSD := (dSeq (dAsg (dC (.str " !\"#$&'()*+,-./:;<=>?@ABCDEFGHIJKLMNOPQRSTUVWXYZ[\\]^_`{|}~\n")) (dName 2))
 (dSeq (dAsg (dCall sp__law_draw (dCons (dVar 0) (dCons (dC (.int 5)) dNil))) (dName 3))
 (dSeq (dIfS (dTest (dOp dEqS (dVar 3) (dC (.int 0)))) (dRet (dC (.str ""))) dNext)
 (dSeq (dIfS (dTest (dOp dEqS (dVar 3) (dC (.int 1)))) (dRet (dSl (dOp dAdd (dVar 1) (dC (.str "abcdefghijkl"))) dNoPart (dPart (dC (.int 13))))) dNext)
 (dSeq (dIfS (dTest (dOp dEqS (dVar 3) (dC (.int 2)))) (dRet (dOp dAdd (dOp dIx (dC (.str "0123456789")) (dCall sp__law_draw (dCons (dVar 0) (dCons (dC (.int 10)) dNil)))) (dSl (dVar 1) (dPart (dC (.int 1))) dNoPart))) dNext)
 (dSeq (dAsg (dCall sp__law_draw (dCons (dVar 0) (dCons (dBlt dLen (dCons (dVar 1) dNil)) dNil))) (dName 4))
 (dRet (dOp dAdd (dOp dAdd (dSl (dVar 1) dNoPart (dPart (dVar 4))) (dOp dIx (dVar 2) (dCall sp__law_draw (dCons (dVar 0) (dCons (dBlt dLen (dCons (dVar 2) dNil)) dNil))))) (dSl (dVar 1) (dPart (dOp dAdd (dVar 4) (dC (.int 1)))) dNoPart)))))))))
theorem len__law_spoilt {ds M Q E} (h : sp__law_spoilt ds M Q E) : ds.length = 2 := by
  first
    | (obtain ⟨rfl, _⟩ := h; rfl)
    | (obtain ⟨_, rfl, _⟩ := h; rfl)
    | (obtain ⟨_, _, rfl, _⟩ := h; rfl)
    | (obtain ⟨_, _, _, rfl, _⟩ := h; rfl)
    | (obtain ⟨_, _, _, _, rfl, _⟩ := h; rfl)
    | (obtain ⟨_, _, _, _, _, rfl, _⟩ := h; rfl)
    | (obtain ⟨_, _, _, _, _, _, rfl, _⟩ := h; rfl)
theorem red__law_spoilt {ds M Q E} (h : sp__law_spoilt ds M Q E) : r__law_spoilt (exitX E) (exitE Q) (startR 5 ds) M := by
  obtain ⟨p, x, o, rfl, hx, hp, ho, h⟩ := h
  have hn := spl_len hx
  have d1 : (Str.ofString "0123456789").length = 10 := by decide
  have d2 : (Str.ofString " !\"#$&'()*+,-./:;<=>?@ABCDEFGHIJKLMNOPQRSTUVWXYZ[\\]^_`{|}~\n").length = 59 := by decide
  have d3 : (Str.ofString "abcdefghijkl").length = 12 := by decide
  have c1 : (Str.ofString "0123456789").length ≤ 1000000 := by omega
  have c2 : (Str.ofString " !\"#$&'()*+,-./:;<=>?@ABCDEFGHIJKLMNOPQRSTUVWXYZ[\\]^_`{|}~\n").length ≤ 1000000 := by omega
  have c3 : x.length ≤ 1000000 := by omega
  simp only [r__law_spoilt, if_pos c1, if_pos c2, if_pos c3, dSeq_e, dNext_e, dBreak_e, dCont_e, dExpr_e, dRet_e, dRetN_e, dIfS_e, dAsg_e, dFor_e, loopD_n, loopD_c, dRaise_e, dRaise1_e, dTry_e, dSetSlot_e, dSetIx_e, dName_e, dGTup_e, dGNil_e, dGCons_e, dVar_e, dC_e, dOp_e, dTest_e, asB_e, dAnd_e, dOr_e, dNot_e, dAndV_e, dOrV_e, dNotV_e, dIf_e, dNil_e, dCons_e, dTup_e, dLst_e, dLstM_e, dBlt_e, dCall_e, dNeg_e, dSl_e, dNoPart_e, dPart_e, dBm_e, dIsi_e, dIsX_e, dXf_e, dSlot_e, dProp_e, dMeth_e, dCMeth_e, dMake_e, dMakeL_e, dLc_e, lcD_n, lcD_c, dYes_e, dSigns_e, dItems_e, dItemsT_e, dRng1_e, dRng2_e, dTruth_e, dI_e, dIc_e, dAdd_i, dAdd_s, dEqS_e, dNeS_e, dIsN_e, dIsNotN_e, dIsB_e, dIn_s, dIn_l, dIn_t, dInSign_n, dInSign_y, startR, List.map_cons, List.map_nil, List.length_cons, List.length_nil, List.cons_append, List.nil_append, List.append_nil, List.replicate, Nat.reduceAdd, Nat.reduceSub, Nat.zero_add, nth, put, wipeR, dLen, lenD, dIx, ixD, dSlR, dInt1, dAbs, dStrI, dTupOf, dListOf, dListOfM, tyD, dInsert, dAppend, atM, instD, isInst, DD.isNon, DD.isB, eqS, isL, seqD, updM_same, updM_updM, Option.map_some, Option.bind_some, List.getElem?_cons_succ, List.getElem?_cons_zero, List.set_cons_zero, List.set_cons_succ, ↓reduceIte, exitE, and_true, true_and, Bool.not_true, Bool.not_false, decide_true, decide_false, eq_self, reduceCtorEq, Bool.true_eq_false, Bool.false_eq_true]
  refine ⟨p, 5, o, rfl, hp, ho, by decide, fun w o1 hw0 hw1 ho1 => ?_⟩
  simp only [if_pos c1, if_pos c2, if_pos c3, dSeq_e, dNext_e, dBreak_e, dCont_e, dExpr_e, dRet_e, dRetN_e, dIfS_e, dAsg_e, dFor_e, loopD_n, loopD_c, dRaise_e, dRaise1_e, dTry_e, dSetSlot_e, dSetIx_e, dName_e, dGTup_e, dGNil_e, dGCons_e, dVar_e, dC_e, dOp_e, dTest_e, asB_e, dAnd_e, dOr_e, dNot_e, dAndV_e, dOrV_e, dNotV_e, dIf_e, dNil_e, dCons_e, dTup_e, dLst_e, dLstM_e, dBlt_e, dCall_e, dNeg_e, dSl_e, dNoPart_e, dPart_e, dBm_e, dIsi_e, dIsX_e, dXf_e, dSlot_e, dProp_e, dMeth_e, dCMeth_e, dMake_e, dMakeL_e, dLc_e, lcD_n, lcD_c, dYes_e, dSigns_e, dItems_e, dItemsT_e, dRng1_e, dRng2_e, dTruth_e, dI_e, dIc_e, dAdd_i, dAdd_s, dEqS_e, dNeS_e, dIsN_e, dIsNotN_e, dIsB_e, dIn_s, dIn_l, dIn_t, dInSign_n, dInSign_y, startR, List.map_cons, List.map_nil, List.length_cons, List.length_nil, List.cons_append, List.nil_append, List.append_nil, List.replicate, Nat.reduceAdd, Nat.reduceSub, Nat.zero_add, nth, put, wipeR, dLen, lenD, dIx, ixD, dSlR, dInt1, dAbs, dStrI, dTupOf, dListOf, dListOfM, tyD, dInsert, dAppend, atM, instD, isInst, DD.isNon, DD.isB, eqS, isL, seqD, updM_same, updM_updM, Option.map_some, Option.bind_some, List.getElem?_cons_succ, List.getElem?_cons_zero, List.set_cons_zero, List.set_cons_succ, ↓reduceIte, exitE, and_true, true_and, Bool.not_true, Bool.not_false, decide_true, decide_false, eq_self, reduceCtorEq, Bool.true_eq_false, Bool.false_eq_true]
  have fin : ∀ (y : Str) (o' : MO), y.length ≤ 1000 → drOk o' → ∃ M'', DD.Sub M'' (updM M p o') ∧ Q (.str y) M'' := fun y o' h1 h2 => out (P := fun M => Q _ M) (h y o' h1 h2)
  by_cases h0 : w = 0
  · simp only [decide_eq_true h0]
    exact fin _ _ (by decide) ho1
  · simp only [decide_eq_false h0]
    by_cases h1 : w = 1
    · simp only [decide_eq_true h1]
      have l1 : (x ++ Str.ofString "abcdefghijkl").length ≤ 24 := by rw [Str.length_append]; omega
      exact ⟨by omega, by omega, fin _ _ (Nat.le_trans (cutS_le _ _ _) (by omega)) ho1⟩
    · simp only [decide_eq_false h1]
      by_cases h2 : w = 2
      · simp only [decide_eq_true h2]
        refine ⟨p, 10, o1, rfl, updM_same, ho1, by decide, fun r o2 hr0 hr1 ho2 => ?_⟩
        obtain ⟨c, ec, _⟩ := sgn_at d1 (by decide) hr0 hr1
        simp only [ec, if_pos c1, dSeq_e, dNext_e, dBreak_e, dCont_e, dExpr_e, dRet_e, dRetN_e, dIfS_e, dAsg_e, dFor_e, loopD_n, loopD_c, dRaise_e, dRaise1_e, dTry_e, dSetSlot_e, dSetIx_e, dName_e, dGTup_e, dGNil_e, dGCons_e, dVar_e, dC_e, dOp_e, dTest_e, asB_e, dAnd_e, dOr_e, dNot_e, dAndV_e, dOrV_e, dNotV_e, dIf_e, dNil_e, dCons_e, dTup_e, dLst_e, dLstM_e, dBlt_e, dCall_e, dNeg_e, dSl_e, dNoPart_e, dPart_e, dBm_e, dIsi_e, dIsX_e, dXf_e, dSlot_e, dProp_e, dMeth_e, dCMeth_e, dMake_e, dMakeL_e, dLc_e, lcD_n, lcD_c, dYes_e, dSigns_e, dItems_e, dItemsT_e, dRng1_e, dRng2_e, dTruth_e, dI_e, dIc_e, dAdd_i, dAdd_s, dEqS_e, dNeS_e, dIsN_e, dIsNotN_e, dIsB_e, dIn_s, dIn_l, dIn_t, dInSign_n, dInSign_y, startR, List.map_cons, List.map_nil, List.length_cons, List.length_nil, List.cons_append, List.nil_append, List.append_nil, List.replicate, Nat.reduceAdd, Nat.reduceSub, Nat.zero_add, nth, put, wipeR, dLen, lenD, dIx, ixD, dSlR, dInt1, dAbs, dStrI, dTupOf, dListOf, dListOfM, tyD, dInsert, dAppend, atM, instD, isInst, DD.isNon, DD.isB, eqS, isL, seqD, updM_same, updM_updM, Option.map_some, Option.bind_some, List.getElem?_cons_succ, List.getElem?_cons_zero, List.set_cons_zero, List.set_cons_succ, ↓reduceIte, exitE, and_true, true_and, Bool.not_true, Bool.not_false, decide_true, decide_false, eq_self, reduceCtorEq, Bool.true_eq_false, Bool.false_eq_true]
        have l2 := cutS_le x (some 1) none
        refine ⟨c3, by rw [one_len]; omega, fin _ _ (by rw [Str.length_append, one_len]; omega) ho2⟩
      · simp only [decide_eq_false h2]
        refine ⟨p, _, o1, rfl, updM_same, ho1, by omega, fun r o2 hr0 hr1 ho2 => ?_⟩
        simp only [if_pos c2, dSeq_e, dNext_e, dBreak_e, dCont_e, dExpr_e, dRet_e, dRetN_e, dIfS_e, dAsg_e, dFor_e, loopD_n, loopD_c, dRaise_e, dRaise1_e, dTry_e, dSetSlot_e, dSetIx_e, dName_e, dGTup_e, dGNil_e, dGCons_e, dVar_e, dC_e, dOp_e, dTest_e, asB_e, dAnd_e, dOr_e, dNot_e, dAndV_e, dOrV_e, dNotV_e, dIf_e, dNil_e, dCons_e, dTup_e, dLst_e, dLstM_e, dBlt_e, dCall_e, dNeg_e, dSl_e, dNoPart_e, dPart_e, dBm_e, dIsi_e, dIsX_e, dXf_e, dSlot_e, dProp_e, dMeth_e, dCMeth_e, dMake_e, dMakeL_e, dLc_e, lcD_n, lcD_c, dYes_e, dSigns_e, dItems_e, dItemsT_e, dRng1_e, dRng2_e, dTruth_e, dI_e, dIc_e, dAdd_i, dAdd_s, dEqS_e, dNeS_e, dIsN_e, dIsNotN_e, dIsB_e, dIn_s, dIn_l, dIn_t, dInSign_n, dInSign_y, startR, List.map_cons, List.map_nil, List.length_cons, List.length_nil, List.cons_append, List.nil_append, List.append_nil, List.replicate, Nat.reduceAdd, Nat.reduceSub, Nat.zero_add, nth, put, wipeR, dLen, lenD, dIx, ixD, dSlR, dInt1, dAbs, dStrI, dTupOf, dListOf, dListOfM, tyD, dInsert, dAppend, atM, instD, isInst, DD.isNon, DD.isB, eqS, isL, seqD, updM_same, updM_updM, Option.map_some, Option.bind_some, List.getElem?_cons_succ, List.getElem?_cons_zero, List.set_cons_zero, List.set_cons_succ, ↓reduceIte, exitE, and_true, true_and, Bool.not_true, Bool.not_false, decide_true, decide_false, eq_self, reduceCtorEq, Bool.true_eq_false, Bool.false_eq_true]
        refine ⟨c3, p, _, o2, rfl, updM_same, ho2, by omega, fun q o3 hq0 hq1 ho3 => ?_⟩
        obtain ⟨c, ec, _⟩ := sgn_at d2 (by decide) hq0 (by rw [d2] at hq1; exact hq1)
        simp only [ec, if_pos c2, dSeq_e, dNext_e, dBreak_e, dCont_e, dExpr_e, dRet_e, dRetN_e, dIfS_e, dAsg_e, dFor_e, loopD_n, loopD_c, dRaise_e, dRaise1_e, dTry_e, dSetSlot_e, dSetIx_e, dName_e, dGTup_e, dGNil_e, dGCons_e, dVar_e, dC_e, dOp_e, dTest_e, asB_e, dAnd_e, dOr_e, dNot_e, dAndV_e, dOrV_e, dNotV_e, dIf_e, dNil_e, dCons_e, dTup_e, dLst_e, dLstM_e, dBlt_e, dCall_e, dNeg_e, dSl_e, dNoPart_e, dPart_e, dBm_e, dIsi_e, dIsX_e, dXf_e, dSlot_e, dProp_e, dMeth_e, dCMeth_e, dMake_e, dMakeL_e, dLc_e, lcD_n, lcD_c, dYes_e, dSigns_e, dItems_e, dItemsT_e, dRng1_e, dRng2_e, dTruth_e, dI_e, dIc_e, dAdd_i, dAdd_s, dEqS_e, dNeS_e, dIsN_e, dIsNotN_e, dIsB_e, dIn_s, dIn_l, dIn_t, dInSign_n, dInSign_y, startR, List.map_cons, List.map_nil, List.length_cons, List.length_nil, List.cons_append, List.nil_append, List.append_nil, List.replicate, Nat.reduceAdd, Nat.reduceSub, Nat.zero_add, nth, put, wipeR, dLen, lenD, dIx, ixD, dSlR, dInt1, dAbs, dStrI, dTupOf, dListOf, dListOfM, tyD, dInsert, dAppend, atM, instD, isInst, DD.isNon, DD.isB, eqS, isL, seqD, updM_same, updM_updM, Option.map_some, Option.bind_some, List.getElem?_cons_succ, List.getElem?_cons_zero, List.set_cons_zero, List.set_cons_succ, ↓reduceIte, exitE, and_true, true_and, Bool.not_true, Bool.not_false, decide_true, decide_false, eq_self, reduceCtorEq, Bool.true_eq_false, Bool.false_eq_true]
        have l2 := cutS_le x none (some r)
        have l3 := cutS_le x (some (r + 1)) none
        have l4 : (cutS x none (some r) ++ (⟨#[c]⟩ : Str)).length ≤ 13 := by rw [Str.length_append, one_len]; omega
        refine ⟨by rw [one_len]; omega, c3, by omega, fin _ _ (by rw [Str.length_append]; omega) ho3⟩
/-! ### _law_columns: slots 0=draws 1=good 2=way 3=k 4=columns 5=place 6=column -/
def sp__law_columns : SpD := fun ds M Q _ => ∃ (p : Addr) (ns : List Int) (o : MO), ds = [.adr p, .tup (iL ns)] ∧ ns.length ≤ 4 ∧ M p = some o ∧ drOk o ∧ ∀ (ms : List Int) (o' : MO), ms.length ≤ 1000 → drOk o' → Q (.tup (iL ms)) (updM M p o')
def r__law_columns  : TSD := (dSeq (dAsg (dCall sp__law_draw (dCons (dVar 0) (dCons (dC (.int 3)) dNil))) (dName 2))
 (dSeq (dIfS (dTest (dOp dEqS (dVar 2) (dC (.int 0)))) (dRet (dBlt dTupOf (dCons (dLc (dRng1 (dCons (dCall sp__law_draw (dCons (dVar 0) (dCons (dC (.int 6)) dNil))) dNil)) (dName 3) dYes (dOp (dI fun i j => .int (i - j)) (dCall sp__law_draw (dCons (dVar 0) (dCons (dC (.int 7)) dNil))) (dC (.int 1))) [3]) dNil))) dNext)
 (dSeq (dAsg (dBlt dListOfM (dCons (dVar 1) dNil)) (dName 4))
 (dSeq (dAsg (dCall sp__law_draw (dCons (dVar 0) (dCons (dOp dAdd (dBlt dLen (dCons (dVar 4) dNil)) (dC (.int 1))) dNil))) (dName 5))
 (dSeq (dAsg (dOp (dI fun i j => .int (i - j)) (dCall sp__law_draw (dCons (dVar 0) (dCons (dC (.int 7)) dNil))) (dC (.int 1))) (dName 6))
 (dSeq (dIfS (dTest (dOp dEqS (dCall sp__law_draw (dCons (dVar 0) (dCons (dC (.int 8)) dNil))) (dC (.int 7)))) (dAsg (dOp (dIc (fun i j => 0 ≤ j ∧ j ≤ 1000000 ∧ i.natAbs < 2 ^ 64) fun i j => .int (i ^ j.toNat)) (dC (.int 10)) (dC (.int 20))) (dName 6)) dNext)
 (dSeq (dIfS (dTest (dOp dEqS (dVar 2) (dC (.int 1)))) (dExpr (dBm "list" dInsert (dVar 4) (dCons (dVar 5) (dCons (dVar 6) dNil)))) (dIfS (dTest (dOp (dI fun i j => .bl (decide (i < j))) (dVar 5) (dBlt dLen (dCons (dVar 4) dNil)))) (dSetIx (dVar 6) (dVar 4) (dVar 5)) dNext))
 (dRet (dBlt dTupOf (dCons (dVar 4) dNil))))))))))
theorem len__law_columns {ds M Q E} (h : sp__law_columns ds M Q E) : ds.length = 2 := by
  first
    | (obtain ⟨rfl, _⟩ := h; rfl)
    | (obtain ⟨_, rfl, _⟩ := h; rfl)
    | (obtain ⟨_, _, rfl, _⟩ := h; rfl)
    | (obtain ⟨_, _, _, rfl, _⟩ := h; rfl)
    | (obtain ⟨_, _, _, _, rfl, _⟩ := h; rfl)
    | (obtain ⟨_, _, _, _, _, rfl, _⟩ := h; rfl)
    | (obtain ⟨_, _, _, _, _, _, rfl, _⟩ := h; rfl)
theorem red__law_columns {ds M Q E} (h : sp__law_columns ds M Q E) : r__law_columns (exitX E) (exitE Q) (startR 7 ds) M := by
  obtain ⟨p, ns, o, rfl, hn, hp, ho, h⟩ := h
  simp only [r__law_columns, dSeq_e, dNext_e, dBreak_e, dCont_e, dExpr_e, dRet_e, dRetN_e, dIfS_e, dAsg_e, dFor_e, loopD_n, loopD_c, dRaise_e, dRaise1_e, dTry_e, dSetSlot_e, dSetIx_e, dName_e, dGTup_e, dGNil_e, dGCons_e, dVar_e, dC_e, dOp_e, dTest_e, asB_e, dAnd_e, dOr_e, dNot_e, dAndV_e, dOrV_e, dNotV_e, dIf_e, dNil_e, dCons_e, dTup_e, dLst_e, dLstM_e, dBlt_e, dCall_e, dNeg_e, dSl_e, dNoPart_e, dPart_e, dBm_e, dIsi_e, dIsX_e, dXf_e, dSlot_e, dProp_e, dMeth_e, dCMeth_e, dMake_e, dMakeL_e, dLc_e, lcD_n, lcD_c, dYes_e, dSigns_e, dItems_e, dItemsT_e, dRng1_e, dRng2_e, dTruth_e, dI_e, dIc_e, dAdd_i, dAdd_s, dEqS_e, dNeS_e, dIsN_e, dIsNotN_e, dIsB_e, dIn_s, dIn_l, dIn_t, dInSign_n, dInSign_y, startR, List.map_cons, List.map_nil, List.length_cons, List.length_nil, List.cons_append, List.nil_append, List.append_nil, List.replicate, Nat.reduceAdd, Nat.reduceSub, Nat.zero_add, nth, put, wipeR, dLen, lenD, dIx, ixD, dSlR, dInt1, dAbs, dStrI, dTupOf, dListOf, dListOfM, tyD, dInsert, dAppend, atM, instD, isInst, DD.isNon, DD.isB, eqS, isL, seqD, updM_same, updM_updM, Option.map_some, Option.bind_some, List.getElem?_cons_succ, List.getElem?_cons_zero, List.set_cons_zero, List.set_cons_succ, ↓reduceIte, exitE, and_true, true_and, Bool.not_true, Bool.not_false, decide_true, decide_false, eq_self, reduceCtorEq, Bool.true_eq_false, Bool.false_eq_true]
  refine ⟨p, 3, o, rfl, hp, ho, by decide, fun w o1 hw0 hw1 ho1 => ?_⟩
  simp only [dSeq_e, dNext_e, dBreak_e, dCont_e, dExpr_e, dRet_e, dRetN_e, dIfS_e, dAsg_e, dFor_e, loopD_n, loopD_c, dRaise_e, dRaise1_e, dTry_e, dSetSlot_e, dSetIx_e, dName_e, dGTup_e, dGNil_e, dGCons_e, dVar_e, dC_e, dOp_e, dTest_e, asB_e, dAnd_e, dOr_e, dNot_e, dAndV_e, dOrV_e, dNotV_e, dIf_e, dNil_e, dCons_e, dTup_e, dLst_e, dLstM_e, dBlt_e, dCall_e, dNeg_e, dSl_e, dNoPart_e, dPart_e, dBm_e, dIsi_e, dIsX_e, dXf_e, dSlot_e, dProp_e, dMeth_e, dCMeth_e, dMake_e, dMakeL_e, dLc_e, lcD_n, lcD_c, dYes_e, dSigns_e, dItems_e, dItemsT_e, dRng1_e, dRng2_e, dTruth_e, dI_e, dIc_e, dAdd_i, dAdd_s, dEqS_e, dNeS_e, dIsN_e, dIsNotN_e, dIsB_e, dIn_s, dIn_l, dIn_t, dInSign_n, dInSign_y, startR, List.map_cons, List.map_nil, List.length_cons, List.length_nil, List.cons_append, List.nil_append, List.append_nil, List.replicate, Nat.reduceAdd, Nat.reduceSub, Nat.zero_add, nth, put, wipeR, dLen, lenD, dIx, ixD, dSlR, dInt1, dAbs, dStrI, dTupOf, dListOf, dListOfM, tyD, dInsert, dAppend, atM, instD, isInst, DD.isNon, DD.isB, eqS, isL, seqD, updM_same, updM_updM, Option.map_some, Option.bind_some, List.getElem?_cons_succ, List.getElem?_cons_zero, List.set_cons_zero, List.set_cons_succ, ↓reduceIte, exitE, and_true, true_and, Bool.not_true, Bool.not_false, decide_true, decide_false, eq_self, reduceCtorEq, Bool.true_eq_false, Bool.false_eq_true]
  by_cases h1 : w = 0
  · simp only [decide_eq_true h1, dSeq_e, dNext_e, dBreak_e, dCont_e, dExpr_e, dRet_e, dRetN_e, dIfS_e, dAsg_e, dFor_e, loopD_n, loopD_c, dRaise_e, dRaise1_e, dTry_e, dSetSlot_e, dSetIx_e, dName_e, dGTup_e, dGNil_e, dGCons_e, dVar_e, dC_e, dOp_e, dTest_e, asB_e, dAnd_e, dOr_e, dNot_e, dAndV_e, dOrV_e, dNotV_e, dIf_e, dNil_e, dCons_e, dTup_e, dLst_e, dLstM_e, dBlt_e, dCall_e, dNeg_e, dSl_e, dNoPart_e, dPart_e, dBm_e, dIsi_e, dIsX_e, dXf_e, dSlot_e, dProp_e, dMeth_e, dCMeth_e, dMake_e, dMakeL_e, dLc_e, lcD_n, lcD_c, dYes_e, dSigns_e, dItems_e, dItemsT_e, dRng1_e, dRng2_e, dTruth_e, dI_e, dIc_e, dAdd_i, dAdd_s, dEqS_e, dNeS_e, dIsN_e, dIsNotN_e, dIsB_e, dIn_s, dIn_l, dIn_t, dInSign_n, dInSign_y, startR, List.map_cons, List.map_nil, List.length_cons, List.length_nil, List.cons_append, List.nil_append, List.append_nil, List.replicate, Nat.reduceAdd, Nat.reduceSub, Nat.zero_add, nth, put, wipeR, dLen, lenD, dIx, ixD, dSlR, dInt1, dAbs, dStrI, dTupOf, dListOf, dListOfM, tyD, dInsert, dAppend, atM, instD, isInst, DD.isNon, DD.isB, eqS, isL, seqD, updM_same, updM_updM, Option.map_some, Option.bind_some, List.getElem?_cons_succ, List.getElem?_cons_zero, List.set_cons_zero, List.set_cons_succ, ↓reduceIte, exitE, and_true, true_and, Bool.not_true, Bool.not_false, decide_true, decide_false, eq_self, reduceCtorEq, Bool.true_eq_false, Bool.false_eq_true]
    refine ⟨p, 6, o1, rfl, updM_same, ho1, by decide, fun n o2 hn0 hn1 ho2 => ?_⟩
    simp only [dSeq_e, dNext_e, dBreak_e, dCont_e, dExpr_e, dRet_e, dRetN_e, dIfS_e, dAsg_e, dFor_e, loopD_n, loopD_c, dRaise_e, dRaise1_e, dTry_e, dSetSlot_e, dSetIx_e, dName_e, dGTup_e, dGNil_e, dGCons_e, dVar_e, dC_e, dOp_e, dTest_e, asB_e, dAnd_e, dOr_e, dNot_e, dAndV_e, dOrV_e, dNotV_e, dIf_e, dNil_e, dCons_e, dTup_e, dLst_e, dLstM_e, dBlt_e, dCall_e, dNeg_e, dSl_e, dNoPart_e, dPart_e, dBm_e, dIsi_e, dIsX_e, dXf_e, dSlot_e, dProp_e, dMeth_e, dCMeth_e, dMake_e, dMakeL_e, dLc_e, lcD_n, lcD_c, dYes_e, dSigns_e, dItems_e, dItemsT_e, dRng1_e, dRng2_e, dTruth_e, dI_e, dIc_e, dAdd_i, dAdd_s, dEqS_e, dNeS_e, dIsN_e, dIsNotN_e, dIsB_e, dIn_s, dIn_l, dIn_t, dInSign_n, dInSign_y, startR, List.map_cons, List.map_nil, List.length_cons, List.length_nil, List.cons_append, List.nil_append, List.append_nil, List.replicate, Nat.reduceAdd, Nat.reduceSub, Nat.zero_add, nth, put, wipeR, dLen, lenD, dIx, ixD, dSlR, dInt1, dAbs, dStrI, dTupOf, dListOf, dListOfM, tyD, dInsert, dAppend, atM, instD, isInst, DD.isNon, DD.isB, eqS, isL, seqD, updM_same, updM_updM, Option.map_some, Option.bind_some, List.getElem?_cons_succ, List.getElem?_cons_zero, List.set_cons_zero, List.set_cons_succ, ↓reduceIte, exitE, and_true, true_and, Bool.not_true, Bool.not_false, decide_true, decide_false, eq_self, reduceCtorEq, Bool.true_eq_false, Bool.false_eq_true]
    refine ⟨by omega, by rw [rng_len]; omega, ?_⟩
    refine lc_inv (fun k acc M' => ∃ (ms : List Int) (o' : MO), acc = iL ms ∧ ms.length ≤ k ∧ M' = updM M p o' ∧ drOk o') (fun k d acc M' rest hd hP hr => ?_) (fun acc M' hP => ?_) ⟨[], o2, rfl, Nat.zero_le _, rfl, ho2⟩
    · obtain ⟨ms, o', rfl, hm, rfl, ho'⟩ := hP
      simp only [dSeq_e, dNext_e, dBreak_e, dCont_e, dExpr_e, dRet_e, dRetN_e, dIfS_e, dAsg_e, dFor_e, loopD_n, loopD_c, dRaise_e, dRaise1_e, dTry_e, dSetSlot_e, dSetIx_e, dName_e, dGTup_e, dGNil_e, dGCons_e, dVar_e, dC_e, dOp_e, dTest_e, asB_e, dAnd_e, dOr_e, dNot_e, dAndV_e, dOrV_e, dNotV_e, dIf_e, dNil_e, dCons_e, dTup_e, dLst_e, dLstM_e, dBlt_e, dCall_e, dNeg_e, dSl_e, dNoPart_e, dPart_e, dBm_e, dIsi_e, dIsX_e, dXf_e, dSlot_e, dProp_e, dMeth_e, dCMeth_e, dMake_e, dMakeL_e, dLc_e, lcD_n, lcD_c, dYes_e, dSigns_e, dItems_e, dItemsT_e, dRng1_e, dRng2_e, dTruth_e, dI_e, dIc_e, dAdd_i, dAdd_s, dEqS_e, dNeS_e, dIsN_e, dIsNotN_e, dIsB_e, dIn_s, dIn_l, dIn_t, dInSign_n, dInSign_y, startR, List.map_cons, List.map_nil, List.length_cons, List.length_nil, List.cons_append, List.nil_append, List.append_nil, List.replicate, Nat.reduceAdd, Nat.reduceSub, Nat.zero_add, nth, put, wipeR, dLen, lenD, dIx, ixD, dSlR, dInt1, dAbs, dStrI, dTupOf, dListOf, dListOfM, tyD, dInsert, dAppend, atM, instD, isInst, DD.isNon, DD.isB, eqS, isL, seqD, updM_same, updM_updM, Option.map_some, Option.bind_some, List.getElem?_cons_succ, List.getElem?_cons_zero, List.set_cons_zero, List.set_cons_succ, ↓reduceIte, exitE, and_true, true_and, Bool.not_true, Bool.not_false, decide_true, decide_false, eq_self, reduceCtorEq, Bool.true_eq_false, Bool.false_eq_true]
      refine ⟨p, 7, o', rfl, updM_same, ho', by decide, fun v o3 _ _ ho3 => ?_⟩
      simp only [dSeq_e, dNext_e, dBreak_e, dCont_e, dExpr_e, dRet_e, dRetN_e, dIfS_e, dAsg_e, dFor_e, loopD_n, loopD_c, dRaise_e, dRaise1_e, dTry_e, dSetSlot_e, dSetIx_e, dName_e, dGTup_e, dGNil_e, dGCons_e, dVar_e, dC_e, dOp_e, dTest_e, asB_e, dAnd_e, dOr_e, dNot_e, dAndV_e, dOrV_e, dNotV_e, dIf_e, dNil_e, dCons_e, dTup_e, dLst_e, dLstM_e, dBlt_e, dCall_e, dNeg_e, dSl_e, dNoPart_e, dPart_e, dBm_e, dIsi_e, dIsX_e, dXf_e, dSlot_e, dProp_e, dMeth_e, dCMeth_e, dMake_e, dMakeL_e, dLc_e, lcD_n, lcD_c, dYes_e, dSigns_e, dItems_e, dItemsT_e, dRng1_e, dRng2_e, dTruth_e, dI_e, dIc_e, dAdd_i, dAdd_s, dEqS_e, dNeS_e, dIsN_e, dIsNotN_e, dIsB_e, dIn_s, dIn_l, dIn_t, dInSign_n, dInSign_y, startR, List.map_cons, List.map_nil, List.length_cons, List.length_nil, List.cons_append, List.nil_append, List.append_nil, List.replicate, Nat.reduceAdd, Nat.reduceSub, Nat.zero_add, nth, put, wipeR, dLen, lenD, dIx, ixD, dSlR, dInt1, dAbs, dStrI, dTupOf, dListOf, dListOfM, tyD, dInsert, dAppend, atM, instD, isInst, DD.isNon, DD.isB, eqS, isL, seqD, updM_same, updM_updM, Option.map_some, Option.bind_some, List.getElem?_cons_succ, List.getElem?_cons_zero, List.set_cons_zero, List.set_cons_succ, ↓reduceIte, exitE, and_true, true_and, Bool.not_true, Bool.not_false, decide_true, decide_false, eq_self, reduceCtorEq, Bool.true_eq_false, Bool.false_eq_true]
      refine hr _ _ ⟨ms ++ [v - 1], o3, by simp [iL], by simp; omega, rfl, ho3⟩
    · obtain ⟨ms, o', rfl, hm, rfl, ho'⟩ := hP
      rw [rng_len] at hm
      exact out (P := fun M => Q _ M) (h ms o' (by omega) ho')
  · simp only [decide_eq_false h1, dSeq_e, dNext_e, dBreak_e, dCont_e, dExpr_e, dRet_e, dRetN_e, dIfS_e, dAsg_e, dFor_e, loopD_n, loopD_c, dRaise_e, dRaise1_e, dTry_e, dSetSlot_e, dSetIx_e, dName_e, dGTup_e, dGNil_e, dGCons_e, dVar_e, dC_e, dOp_e, dTest_e, asB_e, dAnd_e, dOr_e, dNot_e, dAndV_e, dOrV_e, dNotV_e, dIf_e, dNil_e, dCons_e, dTup_e, dLst_e, dLstM_e, dBlt_e, dCall_e, dNeg_e, dSl_e, dNoPart_e, dPart_e, dBm_e, dIsi_e, dIsX_e, dXf_e, dSlot_e, dProp_e, dMeth_e, dCMeth_e, dMake_e, dMakeL_e, dLc_e, lcD_n, lcD_c, dYes_e, dSigns_e, dItems_e, dItemsT_e, dRng1_e, dRng2_e, dTruth_e, dI_e, dIc_e, dAdd_i, dAdd_s, dEqS_e, dNeS_e, dIsN_e, dIsNotN_e, dIsB_e, dIn_s, dIn_l, dIn_t, dInSign_n, dInSign_y, startR, List.map_cons, List.map_nil, List.length_cons, List.length_nil, List.cons_append, List.nil_append, List.append_nil, List.replicate, Nat.reduceAdd, Nat.reduceSub, Nat.zero_add, nth, put, wipeR, dLen, lenD, dIx, ixD, dSlR, dInt1, dAbs, dStrI, dTupOf, dListOf, dListOfM, tyD, dInsert, dAppend, atM, instD, isInst, DD.isNon, DD.isB, eqS, isL, seqD, updM_same, updM_updM, Option.map_some, Option.bind_some, List.getElem?_cons_succ, List.getElem?_cons_zero, List.set_cons_zero, List.set_cons_succ, ↓reduceIte, exitE, and_true, true_and, Bool.not_true, Bool.not_false, decide_true, decide_false, eq_self, reduceCtorEq, Bool.true_eq_false, Bool.false_eq_true]
    intro q hq
    have hqp : q ≠ p := fun z => by rw [z, updM_same] at hq; cases hq
    have hMq : M q = none := by rw [updM_ne hqp] at hq; exact hq
    have pq : ∀ (o o' : MO) (L : MO), updM (updM (updM M p o) q L) p o' = updM (updM M p o') q L := fun o o' L => by
      rw [updM_comm (a := q) (b := p) hqp, updM_updM]
    have atp : ∀ (o : MO) (L : MO), updM (updM M p o) q L p = some o := fun o L => by rw [updM_ne (Ne.symm hqp), updM_same]
    have sub : ∀ (o L : MO), DD.Sub (updM M p o) (updM (updM M p o) q L) := fun o L => Sub.upd (by rw [updM_ne hqp]; exact hMq)
    have fin : ∀ (ms : List Int) (o' : MO) (L : MO), ms.length ≤ 1000 → drOk o' → ∃ M'', DD.Sub M'' (updM (updM M p o') q L) ∧ Q (.tup (iL ms)) M'' := fun ms o' L h1 h2 => ⟨_, sub o' L, h ms o' h1 h2⟩
    have hlen : (iL ns).length = ns.length := iL_len ns
    refine ⟨p, _, o1, rfl, atp _ _, ho1, by omega, fun pl o2 hp0 hp1 ho2 => ?_⟩
    rw [pq]
    refine ⟨p, _, o2, rfl, atp _ _, ho2, by decide, fun v o3 _ _ ho3 => ?_⟩
    rw [pq]
    simp only [dSeq_e, dNext_e, dBreak_e, dCont_e, dExpr_e, dRet_e, dRetN_e, dIfS_e, dAsg_e, dFor_e, loopD_n, loopD_c, dRaise_e, dRaise1_e, dTry_e, dSetSlot_e, dSetIx_e, dName_e, dGTup_e, dGNil_e, dGCons_e, dVar_e, dC_e, dOp_e, dTest_e, asB_e, dAnd_e, dOr_e, dNot_e, dAndV_e, dOrV_e, dNotV_e, dIf_e, dNil_e, dCons_e, dTup_e, dLst_e, dLstM_e, dBlt_e, dCall_e, dNeg_e, dSl_e, dNoPart_e, dPart_e, dBm_e, dIsi_e, dIsX_e, dXf_e, dSlot_e, dProp_e, dMeth_e, dCMeth_e, dMake_e, dMakeL_e, dLc_e, lcD_n, lcD_c, dYes_e, dSigns_e, dItems_e, dItemsT_e, dRng1_e, dRng2_e, dTruth_e, dI_e, dIc_e, dAdd_i, dAdd_s, dEqS_e, dNeS_e, dIsN_e, dIsNotN_e, dIsB_e, dIn_s, dIn_l, dIn_t, dInSign_n, dInSign_y, startR, List.map_cons, List.map_nil, List.length_cons, List.length_nil, List.cons_append, List.nil_append, List.append_nil, List.replicate, Nat.reduceAdd, Nat.reduceSub, Nat.zero_add, nth, put, wipeR, dLen, lenD, dIx, ixD, dSlR, dInt1, dAbs, dStrI, dTupOf, dListOf, dListOfM, tyD, dInsert, dAppend, atM, instD, isInst, DD.isNon, DD.isB, eqS, isL, seqD, updM_same, updM_updM, Option.map_some, Option.bind_some, List.getElem?_cons_succ, List.getElem?_cons_zero, List.set_cons_zero, List.set_cons_succ, ↓reduceIte, exitE, and_true, true_and, Bool.not_true, Bool.not_false, decide_true, decide_false, eq_self, reduceCtorEq, Bool.true_eq_false, Bool.false_eq_true]
    refine ⟨p, _, o3, rfl, atp _ _, ho3, by decide, fun e o4 _ _ ho4 => ?_⟩
    rw [pq]
    have pl1 : pl ≤ ns.length := by omega
    have ins : ∀ z : Int, (iL ns).take pl.toNat ++ [D.int z] ++ (iL ns).drop pl.toNat = iL (ns.take pl.toNat ++ [z] ++ ns.drop pl.toNat) := fun z => by simp [iL]
    have ill : ∀ z : Int, (ns.take pl.toNat ++ [z] ++ ns.drop pl.toNat).length ≤ 1000 := fun z => by simp; omega
    have st : ∀ z : Int, (iL ns).set pl.toNat (D.int z) = iL (ns.set pl.toNat z) := fun z => by simp [iL, List.map_set]
    have sll : ∀ z : Int, (ns.set pl.toNat z).length ≤ 1000 := fun z => by simp; omega
    by_cases h7 : e = 7
    · simp only [decide_eq_true h7, dSeq_e, dNext_e, dBreak_e, dCont_e, dExpr_e, dRet_e, dRetN_e, dIfS_e, dAsg_e, dFor_e, loopD_n, loopD_c, dRaise_e, dRaise1_e, dTry_e, dSetSlot_e, dSetIx_e, dName_e, dGTup_e, dGNil_e, dGCons_e, dVar_e, dC_e, dOp_e, dTest_e, asB_e, dAnd_e, dOr_e, dNot_e, dAndV_e, dOrV_e, dNotV_e, dIf_e, dNil_e, dCons_e, dTup_e, dLst_e, dLstM_e, dBlt_e, dCall_e, dNeg_e, dSl_e, dNoPart_e, dPart_e, dBm_e, dIsi_e, dIsX_e, dXf_e, dSlot_e, dProp_e, dMeth_e, dCMeth_e, dMake_e, dMakeL_e, dLc_e, lcD_n, lcD_c, dYes_e, dSigns_e, dItems_e, dItemsT_e, dRng1_e, dRng2_e, dTruth_e, dI_e, dIc_e, dAdd_i, dAdd_s, dEqS_e, dNeS_e, dIsN_e, dIsNotN_e, dIsB_e, dIn_s, dIn_l, dIn_t, dInSign_n, dInSign_y, startR, List.map_cons, List.map_nil, List.length_cons, List.length_nil, List.cons_append, List.nil_append, List.append_nil, List.replicate, Nat.reduceAdd, Nat.reduceSub, Nat.zero_add, nth, put, wipeR, dLen, lenD, dIx, ixD, dSlR, dInt1, dAbs, dStrI, dTupOf, dListOf, dListOfM, tyD, dInsert, dAppend, atM, instD, isInst, DD.isNon, DD.isB, eqS, isL, seqD, updM_same, updM_updM, Option.map_some, Option.bind_some, List.getElem?_cons_succ, List.getElem?_cons_zero, List.set_cons_zero, List.set_cons_succ, ↓reduceIte, exitE, and_true, true_and, Bool.not_true, Bool.not_false, decide_true, decide_false, eq_self, reduceCtorEq, Bool.true_eq_false, Bool.false_eq_true]
      refine ⟨by decide, ?_⟩
      by_cases hw : w = 1
      · simp only [decide_eq_true hw, Option.isSome_some, ins, dSeq_e, dNext_e, dBreak_e, dCont_e, dExpr_e, dRet_e, dRetN_e, dIfS_e, dAsg_e, dFor_e, loopD_n, loopD_c, dRaise_e, dRaise1_e, dTry_e, dSetSlot_e, dSetIx_e, dName_e, dGTup_e, dGNil_e, dGCons_e, dVar_e, dC_e, dOp_e, dTest_e, asB_e, dAnd_e, dOr_e, dNot_e, dAndV_e, dOrV_e, dNotV_e, dIf_e, dNil_e, dCons_e, dTup_e, dLst_e, dLstM_e, dBlt_e, dCall_e, dNeg_e, dSl_e, dNoPart_e, dPart_e, dBm_e, dIsi_e, dIsX_e, dXf_e, dSlot_e, dProp_e, dMeth_e, dCMeth_e, dMake_e, dMakeL_e, dLc_e, lcD_n, lcD_c, dYes_e, dSigns_e, dItems_e, dItemsT_e, dRng1_e, dRng2_e, dTruth_e, dI_e, dIc_e, dAdd_i, dAdd_s, dEqS_e, dNeS_e, dIsN_e, dIsNotN_e, dIsB_e, dIn_s, dIn_l, dIn_t, dInSign_n, dInSign_y, startR, List.map_cons, List.map_nil, List.length_cons, List.length_nil, List.cons_append, List.nil_append, List.append_nil, List.replicate, Nat.reduceAdd, Nat.reduceSub, Nat.zero_add, nth, put, wipeR, dLen, lenD, dIx, ixD, dSlR, dInt1, dAbs, dStrI, dTupOf, dListOf, dListOfM, tyD, dInsert, dAppend, atM, instD, isInst, DD.isNon, DD.isB, eqS, isL, seqD, updM_same, updM_updM, Option.map_some, Option.bind_some, List.getElem?_cons_succ, List.getElem?_cons_zero, List.set_cons_zero, List.set_cons_succ, ↓reduceIte, exitE, and_true, true_and, Bool.not_true, Bool.not_false, decide_true, decide_false, eq_self, reduceCtorEq, Bool.true_eq_false, Bool.false_eq_true]
        exact ⟨⟨by omega, hp0, by omega⟩, fin _ _ _ (ill _) ho4⟩
      · simp only [decide_eq_false hw, dSeq_e, dNext_e, dBreak_e, dCont_e, dExpr_e, dRet_e, dRetN_e, dIfS_e, dAsg_e, dFor_e, loopD_n, loopD_c, dRaise_e, dRaise1_e, dTry_e, dSetSlot_e, dSetIx_e, dName_e, dGTup_e, dGNil_e, dGCons_e, dVar_e, dC_e, dOp_e, dTest_e, asB_e, dAnd_e, dOr_e, dNot_e, dAndV_e, dOrV_e, dNotV_e, dIf_e, dNil_e, dCons_e, dTup_e, dLst_e, dLstM_e, dBlt_e, dCall_e, dNeg_e, dSl_e, dNoPart_e, dPart_e, dBm_e, dIsi_e, dIsX_e, dXf_e, dSlot_e, dProp_e, dMeth_e, dCMeth_e, dMake_e, dMakeL_e, dLc_e, lcD_n, lcD_c, dYes_e, dSigns_e, dItems_e, dItemsT_e, dRng1_e, dRng2_e, dTruth_e, dI_e, dIc_e, dAdd_i, dAdd_s, dEqS_e, dNeS_e, dIsN_e, dIsNotN_e, dIsB_e, dIn_s, dIn_l, dIn_t, dInSign_n, dInSign_y, startR, List.map_cons, List.map_nil, List.length_cons, List.length_nil, List.cons_append, List.nil_append, List.append_nil, List.replicate, Nat.reduceAdd, Nat.reduceSub, Nat.zero_add, nth, put, wipeR, dLen, lenD, dIx, ixD, dSlR, dInt1, dAbs, dStrI, dTupOf, dListOf, dListOfM, tyD, dInsert, dAppend, atM, instD, isInst, DD.isNon, DD.isB, eqS, isL, seqD, updM_same, updM_updM, Option.map_some, Option.bind_some, List.getElem?_cons_succ, List.getElem?_cons_zero, List.set_cons_zero, List.set_cons_succ, ↓reduceIte, exitE, and_true, true_and, Bool.not_true, Bool.not_false, decide_true, decide_false, eq_self, reduceCtorEq, Bool.true_eq_false, Bool.false_eq_true]
        by_cases hlt : pl < ((iL ns).length : Int)
        · simp only [decide_eq_true hlt, ixN_pos hp0 hlt, st, dSeq_e, dNext_e, dBreak_e, dCont_e, dExpr_e, dRet_e, dRetN_e, dIfS_e, dAsg_e, dFor_e, loopD_n, loopD_c, dRaise_e, dRaise1_e, dTry_e, dSetSlot_e, dSetIx_e, dName_e, dGTup_e, dGNil_e, dGCons_e, dVar_e, dC_e, dOp_e, dTest_e, asB_e, dAnd_e, dOr_e, dNot_e, dAndV_e, dOrV_e, dNotV_e, dIf_e, dNil_e, dCons_e, dTup_e, dLst_e, dLstM_e, dBlt_e, dCall_e, dNeg_e, dSl_e, dNoPart_e, dPart_e, dBm_e, dIsi_e, dIsX_e, dXf_e, dSlot_e, dProp_e, dMeth_e, dCMeth_e, dMake_e, dMakeL_e, dLc_e, lcD_n, lcD_c, dYes_e, dSigns_e, dItems_e, dItemsT_e, dRng1_e, dRng2_e, dTruth_e, dI_e, dIc_e, dAdd_i, dAdd_s, dEqS_e, dNeS_e, dIsN_e, dIsNotN_e, dIsB_e, dIn_s, dIn_l, dIn_t, dInSign_n, dInSign_y, startR, List.map_cons, List.map_nil, List.length_cons, List.length_nil, List.cons_append, List.nil_append, List.append_nil, List.replicate, Nat.reduceAdd, Nat.reduceSub, Nat.zero_add, nth, put, wipeR, dLen, lenD, dIx, ixD, dSlR, dInt1, dAbs, dStrI, dTupOf, dListOf, dListOfM, tyD, dInsert, dAppend, atM, instD, isInst, DD.isNon, DD.isB, eqS, isL, seqD, updM_same, updM_updM, Option.map_some, Option.bind_some, List.getElem?_cons_succ, List.getElem?_cons_zero, List.set_cons_zero, List.set_cons_succ, ↓reduceIte, exitE, and_true, true_and, Bool.not_true, Bool.not_false, decide_true, decide_false, eq_self, reduceCtorEq, Bool.true_eq_false, Bool.false_eq_true]
          exact fin _ _ _ (sll _) ho4
        · simp only [decide_eq_false hlt, dSeq_e, dNext_e, dBreak_e, dCont_e, dExpr_e, dRet_e, dRetN_e, dIfS_e, dAsg_e, dFor_e, loopD_n, loopD_c, dRaise_e, dRaise1_e, dTry_e, dSetSlot_e, dSetIx_e, dName_e, dGTup_e, dGNil_e, dGCons_e, dVar_e, dC_e, dOp_e, dTest_e, asB_e, dAnd_e, dOr_e, dNot_e, dAndV_e, dOrV_e, dNotV_e, dIf_e, dNil_e, dCons_e, dTup_e, dLst_e, dLstM_e, dBlt_e, dCall_e, dNeg_e, dSl_e, dNoPart_e, dPart_e, dBm_e, dIsi_e, dIsX_e, dXf_e, dSlot_e, dProp_e, dMeth_e, dCMeth_e, dMake_e, dMakeL_e, dLc_e, lcD_n, lcD_c, dYes_e, dSigns_e, dItems_e, dItemsT_e, dRng1_e, dRng2_e, dTruth_e, dI_e, dIc_e, dAdd_i, dAdd_s, dEqS_e, dNeS_e, dIsN_e, dIsNotN_e, dIsB_e, dIn_s, dIn_l, dIn_t, dInSign_n, dInSign_y, startR, List.map_cons, List.map_nil, List.length_cons, List.length_nil, List.cons_append, List.nil_append, List.append_nil, List.replicate, Nat.reduceAdd, Nat.reduceSub, Nat.zero_add, nth, put, wipeR, dLen, lenD, dIx, ixD, dSlR, dInt1, dAbs, dStrI, dTupOf, dListOf, dListOfM, tyD, dInsert, dAppend, atM, instD, isInst, DD.isNon, DD.isB, eqS, isL, seqD, updM_same, updM_updM, Option.map_some, Option.bind_some, List.getElem?_cons_succ, List.getElem?_cons_zero, List.set_cons_zero, List.set_cons_succ, ↓reduceIte, exitE, and_true, true_and, Bool.not_true, Bool.not_false, decide_true, decide_false, eq_self, reduceCtorEq, Bool.true_eq_false, Bool.false_eq_true]
          exact fin _ _ _ (by omega) ho4
    · simp only [decide_eq_false h7, dSeq_e, dNext_e, dBreak_e, dCont_e, dExpr_e, dRet_e, dRetN_e, dIfS_e, dAsg_e, dFor_e, loopD_n, loopD_c, dRaise_e, dRaise1_e, dTry_e, dSetSlot_e, dSetIx_e, dName_e, dGTup_e, dGNil_e, dGCons_e, dVar_e, dC_e, dOp_e, dTest_e, asB_e, dAnd_e, dOr_e, dNot_e, dAndV_e, dOrV_e, dNotV_e, dIf_e, dNil_e, dCons_e, dTup_e, dLst_e, dLstM_e, dBlt_e, dCall_e, dNeg_e, dSl_e, dNoPart_e, dPart_e, dBm_e, dIsi_e, dIsX_e, dXf_e, dSlot_e, dProp_e, dMeth_e, dCMeth_e, dMake_e, dMakeL_e, dLc_e, lcD_n, lcD_c, dYes_e, dSigns_e, dItems_e, dItemsT_e, dRng1_e, dRng2_e, dTruth_e, dI_e, dIc_e, dAdd_i, dAdd_s, dEqS_e, dNeS_e, dIsN_e, dIsNotN_e, dIsB_e, dIn_s, dIn_l, dIn_t, dInSign_n, dInSign_y, startR, List.map_cons, List.map_nil, List.length_cons, List.length_nil, List.cons_append, List.nil_append, List.append_nil, List.replicate, Nat.reduceAdd, Nat.reduceSub, Nat.zero_add, nth, put, wipeR, dLen, lenD, dIx, ixD, dSlR, dInt1, dAbs, dStrI, dTupOf, dListOf, dListOfM, tyD, dInsert, dAppend, atM, instD, isInst, DD.isNon, DD.isB, eqS, isL, seqD, updM_same, updM_updM, Option.map_some, Option.bind_some, List.getElem?_cons_succ, List.getElem?_cons_zero, List.set_cons_zero, List.set_cons_succ, ↓reduceIte, exitE, and_true, true_and, Bool.not_true, Bool.not_false, decide_true, decide_false, eq_self, reduceCtorEq, Bool.true_eq_false, Bool.false_eq_true]
      by_cases hw : w = 1
      · simp only [decide_eq_true hw, Option.isSome_some, ins, dSeq_e, dNext_e, dBreak_e, dCont_e, dExpr_e, dRet_e, dRetN_e, dIfS_e, dAsg_e, dFor_e, loopD_n, loopD_c, dRaise_e, dRaise1_e, dTry_e, dSetSlot_e, dSetIx_e, dName_e, dGTup_e, dGNil_e, dGCons_e, dVar_e, dC_e, dOp_e, dTest_e, asB_e, dAnd_e, dOr_e, dNot_e, dAndV_e, dOrV_e, dNotV_e, dIf_e, dNil_e, dCons_e, dTup_e, dLst_e, dLstM_e, dBlt_e, dCall_e, dNeg_e, dSl_e, dNoPart_e, dPart_e, dBm_e, dIsi_e, dIsX_e, dXf_e, dSlot_e, dProp_e, dMeth_e, dCMeth_e, dMake_e, dMakeL_e, dLc_e, lcD_n, lcD_c, dYes_e, dSigns_e, dItems_e, dItemsT_e, dRng1_e, dRng2_e, dTruth_e, dI_e, dIc_e, dAdd_i, dAdd_s, dEqS_e, dNeS_e, dIsN_e, dIsNotN_e, dIsB_e, dIn_s, dIn_l, dIn_t, dInSign_n, dInSign_y, startR, List.map_cons, List.map_nil, List.length_cons, List.length_nil, List.cons_append, List.nil_append, List.append_nil, List.replicate, Nat.reduceAdd, Nat.reduceSub, Nat.zero_add, nth, put, wipeR, dLen, lenD, dIx, ixD, dSlR, dInt1, dAbs, dStrI, dTupOf, dListOf, dListOfM, tyD, dInsert, dAppend, atM, instD, isInst, DD.isNon, DD.isB, eqS, isL, seqD, updM_same, updM_updM, Option.map_some, Option.bind_some, List.getElem?_cons_succ, List.getElem?_cons_zero, List.set_cons_zero, List.set_cons_succ, ↓reduceIte, exitE, and_true, true_and, Bool.not_true, Bool.not_false, decide_true, decide_false, eq_self, reduceCtorEq, Bool.true_eq_false, Bool.false_eq_true]
        exact ⟨⟨by omega, hp0, by omega⟩, fin _ _ _ (ill _) ho4⟩
      · simp only [decide_eq_false hw, dSeq_e, dNext_e, dBreak_e, dCont_e, dExpr_e, dRet_e, dRetN_e, dIfS_e, dAsg_e, dFor_e, loopD_n, loopD_c, dRaise_e, dRaise1_e, dTry_e, dSetSlot_e, dSetIx_e, dName_e, dGTup_e, dGNil_e, dGCons_e, dVar_e, dC_e, dOp_e, dTest_e, asB_e, dAnd_e, dOr_e, dNot_e, dAndV_e, dOrV_e, dNotV_e, dIf_e, dNil_e, dCons_e, dTup_e, dLst_e, dLstM_e, dBlt_e, dCall_e, dNeg_e, dSl_e, dNoPart_e, dPart_e, dBm_e, dIsi_e, dIsX_e, dXf_e, dSlot_e, dProp_e, dMeth_e, dCMeth_e, dMake_e, dMakeL_e, dLc_e, lcD_n, lcD_c, dYes_e, dSigns_e, dItems_e, dItemsT_e, dRng1_e, dRng2_e, dTruth_e, dI_e, dIc_e, dAdd_i, dAdd_s, dEqS_e, dNeS_e, dIsN_e, dIsNotN_e, dIsB_e, dIn_s, dIn_l, dIn_t, dInSign_n, dInSign_y, startR, List.map_cons, List.map_nil, List.length_cons, List.length_nil, List.cons_append, List.nil_append, List.append_nil, List.replicate, Nat.reduceAdd, Nat.reduceSub, Nat.zero_add, nth, put, wipeR, dLen, lenD, dIx, ixD, dSlR, dInt1, dAbs, dStrI, dTupOf, dListOf, dListOfM, tyD, dInsert, dAppend, atM, instD, isInst, DD.isNon, DD.isB, eqS, isL, seqD, updM_same, updM_updM, Option.map_some, Option.bind_some, List.getElem?_cons_succ, List.getElem?_cons_zero, List.set_cons_zero, List.set_cons_succ, ↓reduceIte, exitE, and_true, true_and, Bool.not_true, Bool.not_false, decide_true, decide_false, eq_self, reduceCtorEq, Bool.true_eq_false, Bool.false_eq_true]
        by_cases hlt : pl < ((iL ns).length : Int)
        · simp only [decide_eq_true hlt, ixN_pos hp0 hlt, st, dSeq_e, dNext_e, dBreak_e, dCont_e, dExpr_e, dRet_e, dRetN_e, dIfS_e, dAsg_e, dFor_e, loopD_n, loopD_c, dRaise_e, dRaise1_e, dTry_e, dSetSlot_e, dSetIx_e, dName_e, dGTup_e, dGNil_e, dGCons_e, dVar_e, dC_e, dOp_e, dTest_e, asB_e, dAnd_e, dOr_e, dNot_e, dAndV_e, dOrV_e, dNotV_e, dIf_e, dNil_e, dCons_e, dTup_e, dLst_e, dLstM_e, dBlt_e, dCall_e, dNeg_e, dSl_e, dNoPart_e, dPart_e, dBm_e, dIsi_e, dIsX_e, dXf_e, dSlot_e, dProp_e, dMeth_e, dCMeth_e, dMake_e, dMakeL_e, dLc_e, lcD_n, lcD_c, dYes_e, dSigns_e, dItems_e, dItemsT_e, dRng1_e, dRng2_e, dTruth_e, dI_e, dIc_e, dAdd_i, dAdd_s, dEqS_e, dNeS_e, dIsN_e, dIsNotN_e, dIsB_e, dIn_s, dIn_l, dIn_t, dInSign_n, dInSign_y, startR, List.map_cons, List.map_nil, List.length_cons, List.length_nil, List.cons_append, List.nil_append, List.append_nil, List.replicate, Nat.reduceAdd, Nat.reduceSub, Nat.zero_add, nth, put, wipeR, dLen, lenD, dIx, ixD, dSlR, dInt1, dAbs, dStrI, dTupOf, dListOf, dListOfM, tyD, dInsert, dAppend, atM, instD, isInst, DD.isNon, DD.isB, eqS, isL, seqD, updM_same, updM_updM, Option.map_some, Option.bind_some, List.getElem?_cons_succ, List.getElem?_cons_zero, List.set_cons_zero, List.set_cons_succ, ↓reduceIte, exitE, and_true, true_and, Bool.not_true, Bool.not_false, decide_true, decide_false, eq_self, reduceCtorEq, Bool.true_eq_false, Bool.false_eq_true]
          exact fin _ _ _ (sll _) ho4
        · simp only [decide_eq_false hlt, dSeq_e, dNext_e, dBreak_e, dCont_e, dExpr_e, dRet_e, dRetN_e, dIfS_e, dAsg_e, dFor_e, loopD_n, loopD_c, dRaise_e, dRaise1_e, dTry_e, dSetSlot_e, dSetIx_e, dName_e, dGTup_e, dGNil_e, dGCons_e, dVar_e, dC_e, dOp_e, dTest_e, asB_e, dAnd_e, dOr_e, dNot_e, dAndV_e, dOrV_e, dNotV_e, dIf_e, dNil_e, dCons_e, dTup_e, dLst_e, dLstM_e, dBlt_e, dCall_e, dNeg_e, dSl_e, dNoPart_e, dPart_e, dBm_e, dIsi_e, dIsX_e, dXf_e, dSlot_e, dProp_e, dMeth_e, dCMeth_e, dMake_e, dMakeL_e, dLc_e, lcD_n, lcD_c, dYes_e, dSigns_e, dItems_e, dItemsT_e, dRng1_e, dRng2_e, dTruth_e, dI_e, dIc_e, dAdd_i, dAdd_s, dEqS_e, dNeS_e, dIsN_e, dIsNotN_e, dIsB_e, dIn_s, dIn_l, dIn_t, dInSign_n, dInSign_y, startR, List.map_cons, List.map_nil, List.length_cons, List.length_nil, List.cons_append, List.nil_append, List.append_nil, List.replicate, Nat.reduceAdd, Nat.reduceSub, Nat.zero_add, nth, put, wipeR, dLen, lenD, dIx, ixD, dSlR, dInt1, dAbs, dStrI, dTupOf, dListOf, dListOfM, tyD, dInsert, dAppend, atM, instD, isInst, DD.isNon, DD.isB, eqS, isL, seqD, updM_same, updM_updM, Option.map_some, Option.bind_some, List.getElem?_cons_succ, List.getElem?_cons_zero, List.set_cons_zero, List.set_cons_succ, ↓reduceIte, exitE, and_true, true_and, Bool.not_true, Bool.not_false, decide_true, decide_false, eq_self, reduceCtorEq, Bool.true_eq_false, Bool.false_eq_true]
          exact fin _ _ _ (by omega) ho4
/-! ### _law_ascending: slots 0=columns 1=last 2=column -/
def sp__law_ascending : SpD := fun ds M Q _ => ∃ ns : List Int, ds = [.tup (iL ns)] ∧ Q (.bl (okCols ns)) M
def r__law_ascending  : TSD := (dSeq (dAsg (dNeg (dC (.int 1))) (dName 1))
 (dSeq (dFor (dItemsT (dVar 0)) (dName 2) (dSeq (dIfS (dOr (dTest (dOp (dI fun i j => .bl (decide (i ≤ j))) (dVar 2) (dVar 1))) (dTest (dOp (dI fun i j => .bl (decide (j < i))) (dVar 2) (dC (.int 3))))) (dRet (dC (.bl false))) dNext)
 (dAsg (dVar 2) (dName 1))))
 (dRet (dC (.bl true)))))
theorem len__law_ascending {ds M Q E} (h : sp__law_ascending ds M Q E) : ds.length = 1 := by
  first
    | (obtain ⟨rfl, _⟩ := h; rfl)
    | (obtain ⟨_, rfl, _⟩ := h; rfl)
    | (obtain ⟨_, _, rfl, _⟩ := h; rfl)
    | (obtain ⟨_, _, _, rfl, _⟩ := h; rfl)
    | (obtain ⟨_, _, _, _, rfl, _⟩ := h; rfl)
    | (obtain ⟨_, _, _, _, _, rfl, _⟩ := h; rfl)
    | (obtain ⟨_, _, _, _, _, _, rfl, _⟩ := h; rfl)
theorem red__law_ascending {ds M Q E} (h : sp__law_ascending ds M Q E) : r__law_ascending (exitX E) (exitE Q) (startR 3 ds) M := by
  obtain ⟨ns, rfl, h⟩ := h
  simp only [r__law_ascending, startR, List.map_cons, List.map_nil, List.length_cons, List.length_nil, List.cons_append, List.nil_append, List.append_nil, List.replicate, Nat.reduceAdd, Nat.reduceSub, Nat.zero_add, dSeq, dIfS, dOr, dAnd, dNot, dTest, dOp, dBlt, dLen, lenD, dCons, dNil, dVar, nth, put, dC, dI, dIc, asB, dRet, dRetN, dNext, dFor, dSigns, dItems, dItemsT, dIx, ixD, dIn, dInSign, dName, dAsg, dSl, dSlR, dPart, dNoPart, dAndV, dOrV, dNotV, dIf, dTup, dLst, dLstM, dExpr, dCall, dNeg, dAdd, dEqS, dNeS, dIsN, dIsNotN, dIsB, dRng1, dRng2, dInt1, dAbs, dStrI, dTupOf, dListOf, dListOfM, dRaise, dRaise1, dGTup, dGCons, dGNil, dSetIx, dBm, tyD, dInsert, dAppend, atM, dIsi, dIsX, dXf, dSlot, dProp, dSetSlot, instD, DD.isNon, DD.isB, eqS, isL, seqD, updM_same, updM_updM, Option.map_some, Option.bind_some, List.getElem?_cons_succ, List.getElem?_cons_zero, List.set_cons_zero, List.set_cons_succ, ↓reduceIte, exitE, and_true, true_and, Bool.not_true, Bool.not_false, decide_true, decide_false]
  unfold okCols at h
  generalize hl : (-1 : Int) = last at h ⊢
  clear hl
  generalize (none : Option D) = o
  generalize ht : some (D.tup (iL ns)) = g
  clear ht
  induction ns generalizing last o with
  | nil => exact out h
  | cons c r ih =>
    simp only [iL, List.map_cons, loopD, startR, List.map_cons, List.map_nil, List.length_cons, List.length_nil, List.cons_append, List.nil_append, List.append_nil, List.replicate, Nat.reduceAdd, Nat.reduceSub, Nat.zero_add, dSeq, dIfS, dOr, dAnd, dNot, dTest, dOp, dBlt, dLen, lenD, dCons, dNil, dVar, nth, put, dC, dI, dIc, asB, dRet, dRetN, dNext, dFor, dSigns, dItems, dItemsT, dIx, ixD, dIn, dInSign, dName, dAsg, dSl, dSlR, dPart, dNoPart, dAndV, dOrV, dNotV, dIf, dTup, dLst, dLstM, dExpr, dCall, dNeg, dAdd, dEqS, dNeS, dIsN, dIsNotN, dIsB, dRng1, dRng2, dInt1, dAbs, dStrI, dTupOf, dListOf, dListOfM, dRaise, dRaise1, dGTup, dGCons, dGNil, dSetIx, dBm, tyD, dInsert, dAppend, atM, dIsi, dIsX, dXf, dSlot, dProp, dSetSlot, instD, DD.isNon, DD.isB, eqS, isL, seqD, updM_same, updM_updM, Option.map_some, Option.bind_some, List.getElem?_cons_succ, List.getElem?_cons_zero, List.set_cons_zero, List.set_cons_succ, ↓reduceIte, exitE, and_true, true_and, Bool.not_true, Bool.not_false, decide_true, decide_false]
    simp only [okC] at h
    by_cases h1 : c ≤ last
    · have e1 : decide (c ≤ last) = true := decide_eq_true h1
      simp only [e1, Bool.true_or] at h ⊢
      exact out h
    · have e1 : decide (c ≤ last) = false := decide_eq_false h1
      by_cases h2 : (4 : Int) ≤ c
      · have e2 : decide ((4 : Int) ≤ c) = true := decide_eq_true h2
        have e3 : decide ((3 : Int) < c) = true := decide_eq_true (by omega)
        simp only [e1, e2, e3, Bool.or_true] at h ⊢
        exact out h
      · have e2 : decide ((4 : Int) ≤ c) = false := decide_eq_false h2
        have e3 : decide ((3 : Int) < c) = false := decide_eq_false (by omega)
        simp only [e1, e2, e3, Bool.or_false] at h ⊢
        exact ih c h _
/-! ### _law_due: slots 0=table 1=given 2=limit -/
def dueD (t : Str) (ns : List Int) (l : Int) : D := match okName t with
  | false => .tup [.str "name", .str t, .bl true, .bl false]
  | true => match okCols ns with
    | false => .tup [.str "bound", .str "", .bl true, .bl false]
    | true => match decide (l < 1) with
      | true => .tup [.str "bound", .str "", .bl true, .bl false]
      | false => .tup [.str "made", .tup [.str t, .tup (iL ns), .int l], .tup [.str t, .tup (iL ns)], .bl false]
def sp__law_due : SpD := fun ds M Q _ => ∃ (t : Str) (ns : List Int) (l : Int), ds = [.str t, .tup (iL ns), .int l] ∧ t.length ≤ 1000000 ∧ Q (dueD t ns l) M
def r__law_due  : TSD := (dSeq (dIfS (dNot (dTest (dCall sp__law_named (dCons (dVar 0) dNil)))) (dRet (dTup (dCons (dC (.str "name")) (dCons (dVar 0) (dCons (dC (.bl true)) (dCons (dC (.bl false)) dNil)))))) dNext)
 (dSeq (dIfS (dOr (dNot (dTest (dCall sp__law_ascending (dCons (dVar 1) dNil)))) (dTest (dOp (dI fun i j => .bl (decide (i < j))) (dVar 2) (dC (.int 1))))) (dRet (dTup (dCons (dC (.str "bound")) (dCons (dC (.str "")) (dCons (dC (.bl true)) (dCons (dC (.bl false)) dNil)))))) dNext)
 (dRet (dTup (dCons (dC (.str "made")) (dCons (dTup (dCons (dVar 0) (dCons (dVar 1) (dCons (dVar 2) dNil)))) (dCons (dTup (dCons (dVar 0) (dCons (dVar 1) dNil))) (dCons (dC (.bl false)) dNil))))))))
theorem len__law_due {ds M Q E} (h : sp__law_due ds M Q E) : ds.length = 3 := by
  first
    | (obtain ⟨rfl, _⟩ := h; rfl)
    | (obtain ⟨_, rfl, _⟩ := h; rfl)
    | (obtain ⟨_, _, rfl, _⟩ := h; rfl)
    | (obtain ⟨_, _, _, rfl, _⟩ := h; rfl)
    | (obtain ⟨_, _, _, _, rfl, _⟩ := h; rfl)
    | (obtain ⟨_, _, _, _, _, rfl, _⟩ := h; rfl)
    | (obtain ⟨_, _, _, _, _, _, rfl, _⟩ := h; rfl)
theorem red__law_due {ds M Q E} (h : sp__law_due ds M Q E) : r__law_due (exitX E) (exitE Q) (startR 3 ds) M := by
  obtain ⟨t, ns, l, rfl, ht, h⟩ := h
  unfold dueD at h
  simp only [r__law_due, startR, List.map_cons, List.map_nil, List.length_cons, List.length_nil, List.cons_append, List.nil_append, List.append_nil, List.replicate, Nat.reduceAdd, Nat.reduceSub, Nat.zero_add, dSeq, dIfS, dOr, dAnd, dNot, dTest, dOp, dBlt, dLen, lenD, dCons, dNil, dVar, nth, put, dC, dI, dIc, asB, dRet, dRetN, dNext, dFor, dSigns, dItems, dItemsT, dIx, ixD, dIn, dInSign, dName, dAsg, dSl, dSlR, dPart, dNoPart, dAndV, dOrV, dNotV, dIf, dTup, dLst, dLstM, dExpr, dCall, dNeg, dAdd, dEqS, dNeS, dIsN, dIsNotN, dIsB, dRng1, dRng2, dInt1, dAbs, dStrI, dTupOf, dListOf, dListOfM, dRaise, dRaise1, dGTup, dGCons, dGNil, dSetIx, dBm, tyD, dInsert, dAppend, atM, dIsi, dIsX, dXf, dSlot, dProp, dSetSlot, instD, DD.isNon, DD.isB, eqS, isL, seqD, updM_same, updM_updM, Option.map_some, Option.bind_some, List.getElem?_cons_succ, List.getElem?_cons_zero, List.set_cons_zero, List.set_cons_succ, ↓reduceIte, exitE, and_true, true_and, Bool.not_true, Bool.not_false, decide_true, decide_false]
  refine ⟨t, rfl, ht, ?_⟩
  cases e1 : okName t with
  | false =>
    rw [e1] at h
    exact ⟨by decide, out h⟩
  | true =>
    rw [e1] at h
    refine ⟨ns, rfl, ?_⟩
    cases e2 : okCols ns with
    | false =>
      simp only [e2] at h ⊢
      exact ⟨by decide, out h⟩
    | true =>
      simp only [e2] at h ⊢
      try simp only [startR, List.map_cons, List.map_nil, List.length_cons, List.length_nil, List.cons_append, List.nil_append, List.append_nil, List.replicate, Nat.reduceAdd, Nat.reduceSub, Nat.zero_add, dSeq, dIfS, dOr, dAnd, dNot, dTest, dOp, dBlt, dLen, lenD, dCons, dNil, dVar, nth, put, dC, dI, dIc, asB, dRet, dRetN, dNext, dFor, dSigns, dItems, dItemsT, dIx, ixD, dIn, dInSign, dName, dAsg, dSl, dSlR, dPart, dNoPart, dAndV, dOrV, dNotV, dIf, dTup, dLst, dLstM, dExpr, dCall, dNeg, dAdd, dEqS, dNeS, dIsN, dIsNotN, dIsB, dRng1, dRng2, dInt1, dAbs, dStrI, dTupOf, dListOf, dListOfM, dRaise, dRaise1, dGTup, dGCons, dGNil, dSetIx, dBm, tyD, dInsert, dAppend, atM, dIsi, dIsX, dXf, dSlot, dProp, dSetSlot, instD, DD.isNon, DD.isB, eqS, isL, seqD, updM_same, updM_updM, Option.map_some, Option.bind_some, List.getElem?_cons_succ, List.getElem?_cons_zero, List.set_cons_zero, List.set_cons_succ, ↓reduceIte, exitE, and_true, true_and, Bool.not_true, Bool.not_false, decide_true, decide_false]
      cases e3 : decide (l < 1) with
      | true =>
        simp only [e3] at h ⊢
        exact ⟨by decide, out h⟩
      | false =>
        simp only [e3] at h ⊢
        exact ⟨by decide, by decide, by decide, out h⟩
/-! ### _law_outcome: slots 0=table 1=given 2=limit 3=single 4=made 5=e 6=strange -/
def sp__law_outcome : SpD := fun ds M Q _ => ∃ (t : Str) (ns : List Int) (l : Int) (s : Bool), ds = [.str t, .tup (iL ns), .int l, .bl s] ∧ t.length ≤ 1000000 ∧ ns.length ≤ 1000000 ∧ (s = true → l = 1) ∧ Q (dueD t ns l) M
def r__law_outcome (C : CAd) : TSD := (dSeq (dTry exm (dIfS (dTest (dVar 3)) (dAsg (dCMeth C 26 (sp_Bound_single C) (dC (.adr (C 26))) (dCons (dVar 0) (dCons (dVar 1) dNil))) (dName 4)) (dAsg (dMake true true 26 sp_Bound_init (dCons (dVar 0) (dCons (dVar 1) (dCons (dVar 2) dNil)))) (dName 4))) [⟨1, (some 5), fun a er => (dRet (dTup (dCons (dC (.str "name")) (dCons (dXf xf_name "name" a er (dVar 5)) (dCons (dIsX isx (.o 0) a er (dVar 5)) (dCons (dOrV (dIsX isx (.o 2) a er (dVar 5)) (dIsX isx (.o 6) a er (dVar 5))) dNil))))))⟩, ⟨7, (some 5), fun a er => (dSeq (dAsg (dOrV (dIsX isx (.o 8) a er (dVar 5)) (dOrV (dIsX isx (.o 9) a er (dVar 5)) (dIsX isx (.o 10) a er (dVar 5)))) (dName 6))
 (dRet (dTup (dCons (dC (.str "bound")) (dCons (dC (.str "")) (dCons (dAndV (dIsX isx (.o 6) a er (dVar 5)) (dIsX isx (.o 0) a er (dVar 5))) (dCons (dVar 6) dNil)))))))⟩])
 (dRet (dTup (dCons (dC (.str "made")) (dCons (dTup (dCons (dSlot 26 2 (dVar 4)) (dCons (dSlot 26 0 (dVar 4)) (dCons (dSlot 26 1 (dVar 4)) dNil)))) (dCons (dProp 26 sp_Bound_door (dVar 4)) (dCons (dC (.bl false)) dNil)))))))
theorem len__law_outcome {ds M Q E} (h : sp__law_outcome ds M Q E) : ds.length = 4 := by
  first
    | (obtain ⟨rfl, _⟩ := h; rfl)
    | (obtain ⟨_, rfl, _⟩ := h; rfl)
    | (obtain ⟨_, _, rfl, _⟩ := h; rfl)
    | (obtain ⟨_, _, _, rfl, _⟩ := h; rfl)
    | (obtain ⟨_, _, _, _, rfl, _⟩ := h; rfl)
    | (obtain ⟨_, _, _, _, _, rfl, _⟩ := h; rfl)
    | (obtain ⟨_, _, _, _, _, _, rfl, _⟩ := h; rfl)
theorem red__law_outcome {C : CAd} {ds M Q E} (h : sp__law_outcome ds M Q E) : r__law_outcome C (exitX E) (exitE Q) (startR 7 ds) M := by
  obtain ⟨t, ns, l, s, rfl, ht, hn, hs, h⟩ := h
  unfold dueD at h
  have x11 : exm 1 1 = some true := by decide
  have x71 : exm 7 1 = some false := by decide
  have x77 : exm 7 7 = some true := by decide
  have y10 : isx 1 (.o 0) = some true := by decide
  have y12 : isx 1 (.o 2) = some false := by decide
  have y16 : isx 1 (.o 6) = some false := by decide
  have y78 : isx 7 (.o 8) = some false := by decide
  have y79 : isx 7 (.o 9) = some false := by decide
  have y7a : isx 7 (.o 10) = some false := by decide
  have y76 : isx 7 (.o 6) = some true := by decide
  have y70 : isx 7 (.o 0) = some true := by decide
  have xn : xf_name 1 = true := by decide
  cases s with
  | true =>
    obtain rfl := hs rfl
    simp only [r__law_outcome, dSeq_e, dNext_e, dBreak_e, dCont_e, dExpr_e, dRet_e, dRetN_e, dIfS_e, dAsg_e, dFor_e, loopD_n, loopD_c, dRaise_e, dRaise1_e, dTry_e, dSetSlot_e, dSetIx_e, dName_e, dGTup_e, dGNil_e, dGCons_e, dVar_e, dC_e, dOp_e, dTest_e, asB_e, dAnd_e, dOr_e, dNot_e, dAndV_e, dOrV_e, dNotV_e, dIf_e, dNil_e, dCons_e, dTup_e, dLst_e, dLstM_e, dBlt_e, dCall_e, dNeg_e, dSl_e, dNoPart_e, dPart_e, dBm_e, dIsi_e, dIsX_e, dXf_e, dSlot_e, dProp_e, dMeth_e, dCMeth_e, dMake_e, dMakeL_e, dLc_e, lcD_n, lcD_c, dYes_e, dSigns_e, dItems_e, dItemsT_e, dRng1_e, dRng2_e, dTruth_e, dI_e, dIc_e, dAdd_i, dAdd_s, dEqS_e, dNeS_e, dIsN_e, dIsNotN_e, dIsB_e, dIn_s, dIn_l, dIn_t, dInSign_n, dInSign_y, startR, List.map_cons, List.map_nil, List.length_cons, List.length_nil, List.cons_append, List.nil_append, List.append_nil, List.replicate, Nat.reduceAdd, Nat.reduceSub, Nat.zero_add, nth, put, wipeR, dLen, lenD, dIx, ixD, dSlR, dInt1, dAbs, dStrI, dTupOf, dListOf, dListOfM, tyD, dInsert, dAppend, atM, instD, isInst, DD.isNon, DD.isB, eqS, isL, seqD, updM_same, updM_updM, Option.map_some, Option.bind_some, List.getElem?_cons_succ, List.getElem?_cons_zero, List.set_cons_zero, List.set_cons_succ, ↓reduceIte, exitE, and_true, true_and, Bool.not_true, Bool.not_false, decide_true, decide_false, eq_self, reduceCtorEq, Bool.true_eq_false, Bool.false_eq_true]
    refine ⟨t, ns, rfl, ht, hn, ?_⟩
    unfold bndR
    cases e1 : okName t with
    | false =>
      simp only [e1] at h
      simp only [clsD, x11]
      intro a
      simp only [clPut, clEndD, y10, y12, y16, xn, List.lookup, BEq.rfl, dSeq_e, dNext_e, dBreak_e, dCont_e, dExpr_e, dRet_e, dRetN_e, dIfS_e, dAsg_e, dFor_e, loopD_n, loopD_c, dRaise_e, dRaise1_e, dTry_e, dSetSlot_e, dSetIx_e, dName_e, dGTup_e, dGNil_e, dGCons_e, dVar_e, dC_e, dOp_e, dTest_e, asB_e, dAnd_e, dOr_e, dNot_e, dAndV_e, dOrV_e, dNotV_e, dIf_e, dNil_e, dCons_e, dTup_e, dLst_e, dLstM_e, dBlt_e, dCall_e, dNeg_e, dSl_e, dNoPart_e, dPart_e, dBm_e, dIsi_e, dIsX_e, dXf_e, dSlot_e, dProp_e, dMeth_e, dCMeth_e, dMake_e, dMakeL_e, dLc_e, lcD_n, lcD_c, dYes_e, dSigns_e, dItems_e, dItemsT_e, dRng1_e, dRng2_e, dTruth_e, dI_e, dIc_e, dAdd_i, dAdd_s, dEqS_e, dNeS_e, dIsN_e, dIsNotN_e, dIsB_e, dIn_s, dIn_l, dIn_t, dInSign_n, dInSign_y, startR, List.map_cons, List.map_nil, List.length_cons, List.length_nil, List.cons_append, List.nil_append, List.append_nil, List.replicate, Nat.reduceAdd, Nat.reduceSub, Nat.zero_add, nth, put, wipeR, dLen, lenD, dIx, ixD, dSlR, dInt1, dAbs, dStrI, dTupOf, dListOf, dListOfM, tyD, dInsert, dAppend, atM, instD, isInst, DD.isNon, DD.isB, eqS, isL, seqD, updM_same, updM_updM, Option.map_some, Option.bind_some, List.getElem?_cons_succ, List.getElem?_cons_zero, List.set_cons_zero, List.set_cons_succ, ↓reduceIte, exitE, and_true, true_and, Bool.not_true, Bool.not_false, decide_true, decide_false, eq_self, reduceCtorEq, Bool.true_eq_false, Bool.false_eq_true]
      exact ⟨by decide, out h⟩
    | true =>
      cases e2 : okCols ns with
      | false =>
        simp only [e1, e2] at h
        simp only [clsD, x71, x77]
        intro a
        simp only [clPut, clEndD, y78, y79, y7a, y76, y70, dSeq_e, dNext_e, dBreak_e, dCont_e, dExpr_e, dRet_e, dRetN_e, dIfS_e, dAsg_e, dFor_e, loopD_n, loopD_c, dRaise_e, dRaise1_e, dTry_e, dSetSlot_e, dSetIx_e, dName_e, dGTup_e, dGNil_e, dGCons_e, dVar_e, dC_e, dOp_e, dTest_e, asB_e, dAnd_e, dOr_e, dNot_e, dAndV_e, dOrV_e, dNotV_e, dIf_e, dNil_e, dCons_e, dTup_e, dLst_e, dLstM_e, dBlt_e, dCall_e, dNeg_e, dSl_e, dNoPart_e, dPart_e, dBm_e, dIsi_e, dIsX_e, dXf_e, dSlot_e, dProp_e, dMeth_e, dCMeth_e, dMake_e, dMakeL_e, dLc_e, lcD_n, lcD_c, dYes_e, dSigns_e, dItems_e, dItemsT_e, dRng1_e, dRng2_e, dTruth_e, dI_e, dIc_e, dAdd_i, dAdd_s, dEqS_e, dNeS_e, dIsN_e, dIsNotN_e, dIsB_e, dIn_s, dIn_l, dIn_t, dInSign_n, dInSign_y, startR, List.map_cons, List.map_nil, List.length_cons, List.length_nil, List.cons_append, List.nil_append, List.append_nil, List.replicate, Nat.reduceAdd, Nat.reduceSub, Nat.zero_add, nth, put, wipeR, dLen, lenD, dIx, ixD, dSlR, dInt1, dAbs, dStrI, dTupOf, dListOf, dListOfM, tyD, dInsert, dAppend, atM, instD, isInst, DD.isNon, DD.isB, eqS, isL, seqD, updM_same, updM_updM, Option.map_some, Option.bind_some, List.getElem?_cons_succ, List.getElem?_cons_zero, List.set_cons_zero, List.set_cons_succ, ↓reduceIte, exitE, and_true, true_and, Bool.not_true, Bool.not_false, decide_true, decide_false, eq_self, reduceCtorEq, Bool.true_eq_false, Bool.false_eq_true]
        exact ⟨by decide, out h⟩
      | true =>
        cases e3 : decide ((1 : Int) < 1) with
        | true =>
          simp only [e1, e2, e3] at h
          simp only [clsD, x71, x77]
          intro a
          simp only [clPut, clEndD, y78, y79, y7a, y76, y70, dSeq_e, dNext_e, dBreak_e, dCont_e, dExpr_e, dRet_e, dRetN_e, dIfS_e, dAsg_e, dFor_e, loopD_n, loopD_c, dRaise_e, dRaise1_e, dTry_e, dSetSlot_e, dSetIx_e, dName_e, dGTup_e, dGNil_e, dGCons_e, dVar_e, dC_e, dOp_e, dTest_e, asB_e, dAnd_e, dOr_e, dNot_e, dAndV_e, dOrV_e, dNotV_e, dIf_e, dNil_e, dCons_e, dTup_e, dLst_e, dLstM_e, dBlt_e, dCall_e, dNeg_e, dSl_e, dNoPart_e, dPart_e, dBm_e, dIsi_e, dIsX_e, dXf_e, dSlot_e, dProp_e, dMeth_e, dCMeth_e, dMake_e, dMakeL_e, dLc_e, lcD_n, lcD_c, dYes_e, dSigns_e, dItems_e, dItemsT_e, dRng1_e, dRng2_e, dTruth_e, dI_e, dIc_e, dAdd_i, dAdd_s, dEqS_e, dNeS_e, dIsN_e, dIsNotN_e, dIsB_e, dIn_s, dIn_l, dIn_t, dInSign_n, dInSign_y, startR, List.map_cons, List.map_nil, List.length_cons, List.length_nil, List.cons_append, List.nil_append, List.append_nil, List.replicate, Nat.reduceAdd, Nat.reduceSub, Nat.zero_add, nth, put, wipeR, dLen, lenD, dIx, ixD, dSlR, dInt1, dAbs, dStrI, dTupOf, dListOf, dListOfM, tyD, dInsert, dAppend, atM, instD, isInst, DD.isNon, DD.isB, eqS, isL, seqD, updM_same, updM_updM, Option.map_some, Option.bind_some, List.getElem?_cons_succ, List.getElem?_cons_zero, List.set_cons_zero, List.set_cons_succ, ↓reduceIte, exitE, and_true, true_and, Bool.not_true, Bool.not_false, decide_true, decide_false, eq_self, reduceCtorEq, Bool.true_eq_false, Bool.false_eq_true]
          exact ⟨by decide, out h⟩
        | false =>
          simp only [e1, e2, e3] at h
          simp only [boundD, dSeq_e, dNext_e, dBreak_e, dCont_e, dExpr_e, dRet_e, dRetN_e, dIfS_e, dAsg_e, dFor_e, loopD_n, loopD_c, dRaise_e, dRaise1_e, dTry_e, dSetSlot_e, dSetIx_e, dName_e, dGTup_e, dGNil_e, dGCons_e, dVar_e, dC_e, dOp_e, dTest_e, asB_e, dAnd_e, dOr_e, dNot_e, dAndV_e, dOrV_e, dNotV_e, dIf_e, dNil_e, dCons_e, dTup_e, dLst_e, dLstM_e, dBlt_e, dCall_e, dNeg_e, dSl_e, dNoPart_e, dPart_e, dBm_e, dIsi_e, dIsX_e, dXf_e, dSlot_e, dProp_e, dMeth_e, dCMeth_e, dMake_e, dMakeL_e, dLc_e, lcD_n, lcD_c, dYes_e, dSigns_e, dItems_e, dItemsT_e, dRng1_e, dRng2_e, dTruth_e, dI_e, dIc_e, dAdd_i, dAdd_s, dEqS_e, dNeS_e, dIsN_e, dIsNotN_e, dIsB_e, dIn_s, dIn_l, dIn_t, dInSign_n, dInSign_y, startR, List.map_cons, List.map_nil, List.length_cons, List.length_nil, List.cons_append, List.nil_append, List.append_nil, List.replicate, Nat.reduceAdd, Nat.reduceSub, Nat.zero_add, nth, put, wipeR, dLen, lenD, dIx, ixD, dSlR, dInt1, dAbs, dStrI, dTupOf, dListOf, dListOfM, tyD, dInsert, dAppend, atM, instD, isInst, DD.isNon, DD.isB, eqS, isL, seqD, updM_same, updM_updM, Option.map_some, Option.bind_some, List.getElem?_cons_succ, List.getElem?_cons_zero, List.set_cons_zero, List.set_cons_succ, ↓reduceIte, exitE, and_true, true_and, Bool.not_true, Bool.not_false, decide_true, decide_false, eq_self, reduceCtorEq, Bool.true_eq_false, Bool.false_eq_true]
          exact ⟨by decide, by rfl, t, ns, (1 : Int), rfl, by decide, out h⟩
  | false =>
    simp only [r__law_outcome, dSeq_e, dNext_e, dBreak_e, dCont_e, dExpr_e, dRet_e, dRetN_e, dIfS_e, dAsg_e, dFor_e, loopD_n, loopD_c, dRaise_e, dRaise1_e, dTry_e, dSetSlot_e, dSetIx_e, dName_e, dGTup_e, dGNil_e, dGCons_e, dVar_e, dC_e, dOp_e, dTest_e, asB_e, dAnd_e, dOr_e, dNot_e, dAndV_e, dOrV_e, dNotV_e, dIf_e, dNil_e, dCons_e, dTup_e, dLst_e, dLstM_e, dBlt_e, dCall_e, dNeg_e, dSl_e, dNoPart_e, dPart_e, dBm_e, dIsi_e, dIsX_e, dXf_e, dSlot_e, dProp_e, dMeth_e, dCMeth_e, dMake_e, dMakeL_e, dLc_e, lcD_n, lcD_c, dYes_e, dSigns_e, dItems_e, dItemsT_e, dRng1_e, dRng2_e, dTruth_e, dI_e, dIc_e, dAdd_i, dAdd_s, dEqS_e, dNeS_e, dIsN_e, dIsNotN_e, dIsB_e, dIn_s, dIn_l, dIn_t, dInSign_n, dInSign_y, startR, List.map_cons, List.map_nil, List.length_cons, List.length_nil, List.cons_append, List.nil_append, List.append_nil, List.replicate, Nat.reduceAdd, Nat.reduceSub, Nat.zero_add, nth, put, wipeR, dLen, lenD, dIx, ixD, dSlR, dInt1, dAbs, dStrI, dTupOf, dListOf, dListOfM, tyD, dInsert, dAppend, atM, instD, isInst, DD.isNon, DD.isB, eqS, isL, seqD, updM_same, updM_updM, Option.map_some, Option.bind_some, List.getElem?_cons_succ, List.getElem?_cons_zero, List.set_cons_zero, List.set_cons_succ, ↓reduceIte, exitE, and_true, true_and, Bool.not_true, Bool.not_false, decide_true, decide_false, eq_self, reduceCtorEq, Bool.true_eq_false, Bool.false_eq_true]
    refine make_bound ht hn ?_
    unfold bndR
    cases e1 : okName t with
    | false =>
      simp only [e1] at h
      simp only [clsD, x11]
      intro a
      simp only [clPut, clEndD, y10, y12, y16, xn, List.lookup, BEq.rfl, dSeq_e, dNext_e, dBreak_e, dCont_e, dExpr_e, dRet_e, dRetN_e, dIfS_e, dAsg_e, dFor_e, loopD_n, loopD_c, dRaise_e, dRaise1_e, dTry_e, dSetSlot_e, dSetIx_e, dName_e, dGTup_e, dGNil_e, dGCons_e, dVar_e, dC_e, dOp_e, dTest_e, asB_e, dAnd_e, dOr_e, dNot_e, dAndV_e, dOrV_e, dNotV_e, dIf_e, dNil_e, dCons_e, dTup_e, dLst_e, dLstM_e, dBlt_e, dCall_e, dNeg_e, dSl_e, dNoPart_e, dPart_e, dBm_e, dIsi_e, dIsX_e, dXf_e, dSlot_e, dProp_e, dMeth_e, dCMeth_e, dMake_e, dMakeL_e, dLc_e, lcD_n, lcD_c, dYes_e, dSigns_e, dItems_e, dItemsT_e, dRng1_e, dRng2_e, dTruth_e, dI_e, dIc_e, dAdd_i, dAdd_s, dEqS_e, dNeS_e, dIsN_e, dIsNotN_e, dIsB_e, dIn_s, dIn_l, dIn_t, dInSign_n, dInSign_y, startR, List.map_cons, List.map_nil, List.length_cons, List.length_nil, List.cons_append, List.nil_append, List.append_nil, List.replicate, Nat.reduceAdd, Nat.reduceSub, Nat.zero_add, nth, put, wipeR, dLen, lenD, dIx, ixD, dSlR, dInt1, dAbs, dStrI, dTupOf, dListOf, dListOfM, tyD, dInsert, dAppend, atM, instD, isInst, DD.isNon, DD.isB, eqS, isL, seqD, updM_same, updM_updM, Option.map_some, Option.bind_some, List.getElem?_cons_succ, List.getElem?_cons_zero, List.set_cons_zero, List.set_cons_succ, ↓reduceIte, exitE, and_true, true_and, Bool.not_true, Bool.not_false, decide_true, decide_false, eq_self, reduceCtorEq, Bool.true_eq_false, Bool.false_eq_true]
      exact ⟨by decide, out h⟩
    | true =>
      cases e2 : okCols ns with
      | false =>
        simp only [e1, e2] at h
        simp only [clsD, x71, x77]
        intro a
        simp only [clPut, clEndD, y78, y79, y7a, y76, y70, dSeq_e, dNext_e, dBreak_e, dCont_e, dExpr_e, dRet_e, dRetN_e, dIfS_e, dAsg_e, dFor_e, loopD_n, loopD_c, dRaise_e, dRaise1_e, dTry_e, dSetSlot_e, dSetIx_e, dName_e, dGTup_e, dGNil_e, dGCons_e, dVar_e, dC_e, dOp_e, dTest_e, asB_e, dAnd_e, dOr_e, dNot_e, dAndV_e, dOrV_e, dNotV_e, dIf_e, dNil_e, dCons_e, dTup_e, dLst_e, dLstM_e, dBlt_e, dCall_e, dNeg_e, dSl_e, dNoPart_e, dPart_e, dBm_e, dIsi_e, dIsX_e, dXf_e, dSlot_e, dProp_e, dMeth_e, dCMeth_e, dMake_e, dMakeL_e, dLc_e, lcD_n, lcD_c, dYes_e, dSigns_e, dItems_e, dItemsT_e, dRng1_e, dRng2_e, dTruth_e, dI_e, dIc_e, dAdd_i, dAdd_s, dEqS_e, dNeS_e, dIsN_e, dIsNotN_e, dIsB_e, dIn_s, dIn_l, dIn_t, dInSign_n, dInSign_y, startR, List.map_cons, List.map_nil, List.length_cons, List.length_nil, List.cons_append, List.nil_append, List.append_nil, List.replicate, Nat.reduceAdd, Nat.reduceSub, Nat.zero_add, nth, put, wipeR, dLen, lenD, dIx, ixD, dSlR, dInt1, dAbs, dStrI, dTupOf, dListOf, dListOfM, tyD, dInsert, dAppend, atM, instD, isInst, DD.isNon, DD.isB, eqS, isL, seqD, updM_same, updM_updM, Option.map_some, Option.bind_some, List.getElem?_cons_succ, List.getElem?_cons_zero, List.set_cons_zero, List.set_cons_succ, ↓reduceIte, exitE, and_true, true_and, Bool.not_true, Bool.not_false, decide_true, decide_false, eq_self, reduceCtorEq, Bool.true_eq_false, Bool.false_eq_true]
        exact ⟨by decide, out h⟩
      | true =>
        cases e3 : decide (l < 1) with
        | true =>
          simp only [e1, e2, e3] at h
          simp only [clsD, x71, x77]
          intro a
          simp only [clPut, clEndD, y78, y79, y7a, y76, y70, dSeq_e, dNext_e, dBreak_e, dCont_e, dExpr_e, dRet_e, dRetN_e, dIfS_e, dAsg_e, dFor_e, loopD_n, loopD_c, dRaise_e, dRaise1_e, dTry_e, dSetSlot_e, dSetIx_e, dName_e, dGTup_e, dGNil_e, dGCons_e, dVar_e, dC_e, dOp_e, dTest_e, asB_e, dAnd_e, dOr_e, dNot_e, dAndV_e, dOrV_e, dNotV_e, dIf_e, dNil_e, dCons_e, dTup_e, dLst_e, dLstM_e, dBlt_e, dCall_e, dNeg_e, dSl_e, dNoPart_e, dPart_e, dBm_e, dIsi_e, dIsX_e, dXf_e, dSlot_e, dProp_e, dMeth_e, dCMeth_e, dMake_e, dMakeL_e, dLc_e, lcD_n, lcD_c, dYes_e, dSigns_e, dItems_e, dItemsT_e, dRng1_e, dRng2_e, dTruth_e, dI_e, dIc_e, dAdd_i, dAdd_s, dEqS_e, dNeS_e, dIsN_e, dIsNotN_e, dIsB_e, dIn_s, dIn_l, dIn_t, dInSign_n, dInSign_y, startR, List.map_cons, List.map_nil, List.length_cons, List.length_nil, List.cons_append, List.nil_append, List.append_nil, List.replicate, Nat.reduceAdd, Nat.reduceSub, Nat.zero_add, nth, put, wipeR, dLen, lenD, dIx, ixD, dSlR, dInt1, dAbs, dStrI, dTupOf, dListOf, dListOfM, tyD, dInsert, dAppend, atM, instD, isInst, DD.isNon, DD.isB, eqS, isL, seqD, updM_same, updM_updM, Option.map_some, Option.bind_some, List.getElem?_cons_succ, List.getElem?_cons_zero, List.set_cons_zero, List.set_cons_succ, ↓reduceIte, exitE, and_true, true_and, Bool.not_true, Bool.not_false, decide_true, decide_false, eq_self, reduceCtorEq, Bool.true_eq_false, Bool.false_eq_true]
          exact ⟨by decide, out h⟩
        | false =>
          simp only [e1, e2, e3] at h
          simp only [boundD, dSeq_e, dNext_e, dBreak_e, dCont_e, dExpr_e, dRet_e, dRetN_e, dIfS_e, dAsg_e, dFor_e, loopD_n, loopD_c, dRaise_e, dRaise1_e, dTry_e, dSetSlot_e, dSetIx_e, dName_e, dGTup_e, dGNil_e, dGCons_e, dVar_e, dC_e, dOp_e, dTest_e, asB_e, dAnd_e, dOr_e, dNot_e, dAndV_e, dOrV_e, dNotV_e, dIf_e, dNil_e, dCons_e, dTup_e, dLst_e, dLstM_e, dBlt_e, dCall_e, dNeg_e, dSl_e, dNoPart_e, dPart_e, dBm_e, dIsi_e, dIsX_e, dXf_e, dSlot_e, dProp_e, dMeth_e, dCMeth_e, dMake_e, dMakeL_e, dLc_e, lcD_n, lcD_c, dYes_e, dSigns_e, dItems_e, dItemsT_e, dRng1_e, dRng2_e, dTruth_e, dI_e, dIc_e, dAdd_i, dAdd_s, dEqS_e, dNeS_e, dIsN_e, dIsNotN_e, dIsB_e, dIn_s, dIn_l, dIn_t, dInSign_n, dInSign_y, startR, List.map_cons, List.map_nil, List.length_cons, List.length_nil, List.cons_append, List.nil_append, List.append_nil, List.replicate, Nat.reduceAdd, Nat.reduceSub, Nat.zero_add, nth, put, wipeR, dLen, lenD, dIx, ixD, dSlR, dInt1, dAbs, dStrI, dTupOf, dListOf, dListOfM, tyD, dInsert, dAppend, atM, instD, isInst, DD.isNon, DD.isB, eqS, isL, seqD, updM_same, updM_updM, Option.map_some, Option.bind_some, List.getElem?_cons_succ, List.getElem?_cons_zero, List.set_cons_zero, List.set_cons_succ, ↓reduceIte, exitE, and_true, true_and, Bool.not_true, Bool.not_false, decide_true, decide_false, eq_self, reduceCtorEq, Bool.true_eq_false, Bool.false_eq_true]
          exact ⟨by decide, by rfl, t, ns, l, rfl, by decide, out h⟩
/-! ### law: slots 0=script 1=draws 2=far 3=raw 4=good 5=other 6=name 7=bad 8=first 9=table 10=given 11=limit -/
def sp_law : SpD := fun ds M Q _ => ∃ ns : List Int, ds = [.lst (iL ns)] ∧ ns.length ≤ 63 ∧ Q (.bl true) M
theorem pl_ints (n : Nat) (ns : List Int) : plDs n (iL ns) = true := by
  induction ns with
  | nil => unfold iL; simp [plDs]
  | cons z r ih =>
    show (plD n (.int z) && plDs n (iL r)) = true
    rw [ih]
    cases n <;> simp [plD]
theorem pl_tup {n : Nat} {l : List D} (h1 : l.length ≤ 1000000) (h2 : plDs n l = true) : plD (n + 1) (.tup l) = true := by
  unfold plD
  rw [decide_eq_true h1, h2]
  rfl
theorem pl_cons {n : Nat} {d : D} {l : List D} (h1 : plD n d = true) (h2 : plDs n l = true) : plDs n (d :: l) = true := by
  unfold plDs
  rw [h1, h2]
  rfl
theorem pl_nil {n : Nat} : plDs n [] = true := by simp [plDs]
theorem pl_iL {n : Nat} {ns : List Int} (h : ns.length ≤ 1000000) : plD (n + 1) (.tup (iL ns)) = true := pl_tup (by rw [iL_len]; exact h) (pl_ints _ _)
theorem pl_int {n : Nat} {i : Int} : plD n (.int i) = true := by cases n <;> simp [plD]
theorem pl_str {n : Nat} {x : Str} : plD n (.str x) = true := by cases n <;> simp [plD]
theorem pl_bl {n : Nat} {x : Bool} : plD n (.bl x) = true := by cases n <;> simp [plD]
theorem pl_due {t : Str} {ns : List Int} {l : Int} (h : ns.length ≤ 1000000) : plD 6 (dueD t ns l) = true := by
  unfold dueD
  split
  · exact pl_tup (by simp) (pl_cons pl_str (pl_cons pl_str (pl_cons pl_bl (pl_cons pl_bl pl_nil))))
  · split
    · exact pl_tup (by simp) (pl_cons pl_str (pl_cons pl_str (pl_cons pl_bl (pl_cons pl_bl pl_nil))))
    · split
      · exact pl_tup (by simp) (pl_cons pl_str (pl_cons pl_str (pl_cons pl_bl (pl_cons pl_bl pl_nil))))
      · exact pl_tup (by simp) (pl_cons pl_str (pl_cons (pl_tup (by simp) (pl_cons pl_str (pl_cons (pl_iL h) (pl_cons pl_int pl_nil)))) (pl_cons (pl_tup (by simp) (pl_cons pl_str (pl_cons (pl_iL h) pl_nil))) (pl_cons pl_bl pl_nil))))
theorem name_len {x : Str} (h : okName x = true) : x.length ≤ 12 ∧ 1 ≤ x.length := by
  unfold okName at h
  have e := str_len x
  cases hx : x.cps.toList with
  | nil => rw [hx] at h; cases h
  | cons c r =>
    rw [hx] at h e
    obtain ⟨h1, _⟩ := Bool.and_eq_true_iff.mp (show (decide (r.length < 12) && (decide (c ∈ letS) && (c :: r).all okSign)) = true from h)
    have h1 := of_decide_eq_true h1
    rw [List.length_cons] at e
    omega
def r_law  : TSD := (dSeq (dAsg (dCall sp__law_draws (dCons (dVar 0) dNil)) (dName 1))
 (dSeq (dAsg (dCall sp__law_raw (dCons (dVar 0) (dCons (dC (.int 0)) dNil))) (dName 2))
 (dSeq (dAsg (dCall sp__law_cut (dCons (dVar 2) dNil)) (dName 3))
 (dSeq (dAsg (dCall sp__law_given (dCons (dCall sp__law_draw (dCons (dVar 1) (dCons (dC (.int 16)) dNil))) (dCons (dC (.int 4)) dNil))) (dName 4))
 (dSeq (dAsg (dCall sp__law_columns (dCons (dVar 1) (dCons (dVar 4) dNil))) (dName 5))
 (dSeq (dAsg (dCall sp__law_name (dCons (dVar 1) (dCons (dLst dNil) dNil))) (dName 6))
 (dSeq (dAsg (dCall sp__law_spoilt (dCons (dVar 1) (dCons (dVar 6) dNil))) (dName 7))
 (dSeq (dAsg (dMake true true 26 sp_Bound_init (dCons (dVar 6) (dCons (dVar 4) (dCons (dOp dAdd (dC (.int 1)) (dBlt dAbs (dCons (dVar 2) dNil))) dNil)))) (dName 8))
 (dSeq (dFor (dItems (dLst (dCons (dVar 6) (dCons (dVar 7) dNil)))) (dName 9) (dFor (dItems (dLst (dCons (dVar 4) (dCons (dVar 5) dNil)))) (dName 10) (dSeq (dFor (dItems (dLst (dCons (dVar 3) (dCons (dOp dAdd (dC (.int 1)) (dBlt dAbs (dCons (dVar 3) dNil))) (dCons (dOp (dI fun i j => .int (i - j)) (dC (.int 0)) (dBlt dAbs (dCons (dVar 3) dNil))) (dCons (dC (.int 1)) (dCons (dC (.int 0)) dNil))))))) (dName 11) (dIfS (dNot (dTest (dCall sp__law_same (dCons (dCall sp__law_outcome (dCons (dVar 9) (dCons (dVar 10) (dCons (dVar 11) (dCons (dC (.bl false)) dNil))))) (dCons (dCall sp__law_due (dCons (dVar 9) (dCons (dVar 10) (dCons (dVar 11) dNil)))) dNil))))) (dRet (dC (.bl false))) dNext))
 (dIfS (dNot (dTest (dCall sp__law_same (dCons (dCall sp__law_outcome (dCons (dVar 9) (dCons (dVar 10) (dCons (dC (.int 1)) (dCons (dC (.bl true)) dNil))))) (dCons (dCall sp__law_due (dCons (dVar 9) (dCons (dVar 10) (dCons (dC (.int 1)) dNil)))) dNil))))) (dRet (dC (.bl false))) dNext))))
 (dRet (dCall sp__law_same (dCons (dTup (dCons (dSlot 26 2 (dVar 8)) (dCons (dSlot 26 0 (dVar 8)) (dCons (dSlot 26 1 (dVar 8)) (dCons (dProp 26 sp_Bound_door (dVar 8)) dNil))))) (dCons (dTup (dCons (dVar 6) (dCons (dVar 4) (dCons (dOp dAdd (dC (.int 1)) (dBlt dAbs (dCons (dVar 2) dNil))) (dCons (dTup (dCons (dVar 6) (dCons (dVar 4) dNil))) dNil))))) dNil)))))))))))))
theorem len_law {ds M Q E} (h : sp_law ds M Q E) : ds.length = 1 := by
  first
    | (obtain ⟨rfl, _⟩ := h; rfl)
    | (obtain ⟨_, rfl, _⟩ := h; rfl)
    | (obtain ⟨_, _, rfl, _⟩ := h; rfl)
    | (obtain ⟨_, _, _, rfl, _⟩ := h; rfl)
    | (obtain ⟨_, _, _, _, rfl, _⟩ := h; rfl)
    | (obtain ⟨_, _, _, _, _, rfl, _⟩ := h; rfl)
    | (obtain ⟨_, _, _, _, _, _, rfl, _⟩ := h; rfl)
theorem red_law {ds M Q E} (h : sp_law ds M Q E) : r_law (exitX E) (exitE Q) (startR 12 ds) M := by
  obtain ⟨ns, rfl, hn, h⟩ := h
  simp only [r_law, dSeq_e, dNext_e, dBreak_e, dCont_e, dExpr_e, dRet_e, dRetN_e, dIfS_e, dAsg_e, dFor_e, dRaise_e, dRaise1_e, dTry_e, dSetSlot_e, dSetIx_e, dName_e, dGTup_e, dGNil_e, dGCons_e, dVar_e, dC_e, dOp_e, dTest_e, asB_e, dAnd_e, dOr_e, dNot_e, dAndV_e, dOrV_e, dNotV_e, dIf_e, dNil_e, dCons_e, dTup_e, dLst_e, dLstM_e, dBlt_e, dCall_e, dNeg_e, dSl_e, dNoPart_e, dPart_e, dBm_e, dIsi_e, dIsX_e, dXf_e, dSlot_e, dProp_e, dMeth_e, dCMeth_e, dMake_e, dMakeL_e, dLc_e, dYes_e, dSigns_e, dItems_e, dItemsT_e, dRng1_e, dRng2_e, dTruth_e, dI_e, dIc_e, dAdd_i, dAdd_s, dEqS_e, dNeS_e, dIsN_e, dIsNotN_e, dIsB_e, dIn_s, dIn_l, dIn_t, dInSign_n, dInSign_y, startR, List.map_cons, List.map_nil, List.length_cons, List.length_nil, List.cons_append, List.nil_append, List.append_nil, List.replicate, Nat.reduceAdd, Nat.reduceSub, Nat.zero_add, nth, put, wipeR, dLen, lenD, dIx, ixD, dSlR, dInt1, dAbs, dStrI, dTupOf, dListOf, dListOfM, tyD, dInsert, dAppend, atM, instD, isInst, DD.isNon, DD.isB, eqS, isL, seqD, updM_same, updM_updM, Option.map_some, Option.bind_some, List.getElem?_cons_succ, List.getElem?_cons_zero, List.set_cons_zero, List.set_cons_succ, ↓reduceIte, exitE, and_true, true_and, Bool.not_true, Bool.not_false, decide_true, decide_false, eq_self, reduceCtorEq, Bool.true_eq_false, Bool.false_eq_true]
  refine ⟨ns, rfl, hn, fun p o hp ho => ?_⟩
  simp only [dSeq_e, dNext_e, dBreak_e, dCont_e, dExpr_e, dRet_e, dRetN_e, dIfS_e, dAsg_e, dFor_e, dRaise_e, dRaise1_e, dTry_e, dSetSlot_e, dSetIx_e, dName_e, dGTup_e, dGNil_e, dGCons_e, dVar_e, dC_e, dOp_e, dTest_e, asB_e, dAnd_e, dOr_e, dNot_e, dAndV_e, dOrV_e, dNotV_e, dIf_e, dNil_e, dCons_e, dTup_e, dLst_e, dLstM_e, dBlt_e, dCall_e, dNeg_e, dSl_e, dNoPart_e, dPart_e, dBm_e, dIsi_e, dIsX_e, dXf_e, dSlot_e, dProp_e, dMeth_e, dCMeth_e, dMake_e, dMakeL_e, dLc_e, dYes_e, dSigns_e, dItems_e, dItemsT_e, dRng1_e, dRng2_e, dTruth_e, dI_e, dIc_e, dAdd_i, dAdd_s, dEqS_e, dNeS_e, dIsN_e, dIsNotN_e, dIsB_e, dIn_s, dIn_l, dIn_t, dInSign_n, dInSign_y, startR, List.map_cons, List.map_nil, List.length_cons, List.length_nil, List.cons_append, List.nil_append, List.append_nil, List.replicate, Nat.reduceAdd, Nat.reduceSub, Nat.zero_add, nth, put, wipeR, dLen, lenD, dIx, ixD, dSlR, dInt1, dAbs, dStrI, dTupOf, dListOf, dListOfM, tyD, dInsert, dAppend, atM, instD, isInst, DD.isNon, DD.isB, eqS, isL, seqD, updM_same, updM_updM, Option.map_some, Option.bind_some, List.getElem?_cons_succ, List.getElem?_cons_zero, List.set_cons_zero, List.set_cons_succ, ↓reduceIte, exitE, and_true, true_and, Bool.not_true, Bool.not_false, decide_true, decide_false, eq_self, reduceCtorEq, Bool.true_eq_false, Bool.false_eq_true]
  refine ⟨ns, 0, rfl, hn, Int.le_refl 0, fun far => ?_⟩
  simp only [dSeq_e, dNext_e, dBreak_e, dCont_e, dExpr_e, dRet_e, dRetN_e, dIfS_e, dAsg_e, dFor_e, dRaise_e, dRaise1_e, dTry_e, dSetSlot_e, dSetIx_e, dName_e, dGTup_e, dGNil_e, dGCons_e, dVar_e, dC_e, dOp_e, dTest_e, asB_e, dAnd_e, dOr_e, dNot_e, dAndV_e, dOrV_e, dNotV_e, dIf_e, dNil_e, dCons_e, dTup_e, dLst_e, dLstM_e, dBlt_e, dCall_e, dNeg_e, dSl_e, dNoPart_e, dPart_e, dBm_e, dIsi_e, dIsX_e, dXf_e, dSlot_e, dProp_e, dMeth_e, dCMeth_e, dMake_e, dMakeL_e, dLc_e, dYes_e, dSigns_e, dItems_e, dItemsT_e, dRng1_e, dRng2_e, dTruth_e, dI_e, dIc_e, dAdd_i, dAdd_s, dEqS_e, dNeS_e, dIsN_e, dIsNotN_e, dIsB_e, dIn_s, dIn_l, dIn_t, dInSign_n, dInSign_y, startR, List.map_cons, List.map_nil, List.length_cons, List.length_nil, List.cons_append, List.nil_append, List.append_nil, List.replicate, Nat.reduceAdd, Nat.reduceSub, Nat.zero_add, nth, put, wipeR, dLen, lenD, dIx, ixD, dSlR, dInt1, dAbs, dStrI, dTupOf, dListOf, dListOfM, tyD, dInsert, dAppend, atM, instD, isInst, DD.isNon, DD.isB, eqS, isL, seqD, updM_same, updM_updM, Option.map_some, Option.bind_some, List.getElem?_cons_succ, List.getElem?_cons_zero, List.set_cons_zero, List.set_cons_succ, ↓reduceIte, exitE, and_true, true_and, Bool.not_true, Bool.not_false, decide_true, decide_false, eq_self, reduceCtorEq, Bool.true_eq_false, Bool.false_eq_true]
  refine ⟨far, rfl, fun raw => ?_⟩
  simp only [dSeq_e, dNext_e, dBreak_e, dCont_e, dExpr_e, dRet_e, dRetN_e, dIfS_e, dAsg_e, dFor_e, dRaise_e, dRaise1_e, dTry_e, dSetSlot_e, dSetIx_e, dName_e, dGTup_e, dGNil_e, dGCons_e, dVar_e, dC_e, dOp_e, dTest_e, asB_e, dAnd_e, dOr_e, dNot_e, dAndV_e, dOrV_e, dNotV_e, dIf_e, dNil_e, dCons_e, dTup_e, dLst_e, dLstM_e, dBlt_e, dCall_e, dNeg_e, dSl_e, dNoPart_e, dPart_e, dBm_e, dIsi_e, dIsX_e, dXf_e, dSlot_e, dProp_e, dMeth_e, dCMeth_e, dMake_e, dMakeL_e, dLc_e, dYes_e, dSigns_e, dItems_e, dItemsT_e, dRng1_e, dRng2_e, dTruth_e, dI_e, dIc_e, dAdd_i, dAdd_s, dEqS_e, dNeS_e, dIsN_e, dIsNotN_e, dIsB_e, dIn_s, dIn_l, dIn_t, dInSign_n, dInSign_y, startR, List.map_cons, List.map_nil, List.length_cons, List.length_nil, List.cons_append, List.nil_append, List.append_nil, List.replicate, Nat.reduceAdd, Nat.reduceSub, Nat.zero_add, nth, put, wipeR, dLen, lenD, dIx, ixD, dSlR, dInt1, dAbs, dStrI, dTupOf, dListOf, dListOfM, tyD, dInsert, dAppend, atM, instD, isInst, DD.isNon, DD.isB, eqS, isL, seqD, updM_same, updM_updM, Option.map_some, Option.bind_some, List.getElem?_cons_succ, List.getElem?_cons_zero, List.set_cons_zero, List.set_cons_succ, ↓reduceIte, exitE, and_true, true_and, Bool.not_true, Bool.not_false, decide_true, decide_false, eq_self, reduceCtorEq, Bool.true_eq_false, Bool.false_eq_true]
  refine ⟨p, 16, o, rfl, updM_same, ho, by decide, fun r1 o1 _ _ ho1 => ?_⟩
  simp only [dSeq_e, dNext_e, dBreak_e, dCont_e, dExpr_e, dRet_e, dRetN_e, dIfS_e, dAsg_e, dFor_e, dRaise_e, dRaise1_e, dTry_e, dSetSlot_e, dSetIx_e, dName_e, dGTup_e, dGNil_e, dGCons_e, dVar_e, dC_e, dOp_e, dTest_e, asB_e, dAnd_e, dOr_e, dNot_e, dAndV_e, dOrV_e, dNotV_e, dIf_e, dNil_e, dCons_e, dTup_e, dLst_e, dLstM_e, dBlt_e, dCall_e, dNeg_e, dSl_e, dNoPart_e, dPart_e, dBm_e, dIsi_e, dIsX_e, dXf_e, dSlot_e, dProp_e, dMeth_e, dCMeth_e, dMake_e, dMakeL_e, dLc_e, dYes_e, dSigns_e, dItems_e, dItemsT_e, dRng1_e, dRng2_e, dTruth_e, dI_e, dIc_e, dAdd_i, dAdd_s, dEqS_e, dNeS_e, dIsN_e, dIsNotN_e, dIsB_e, dIn_s, dIn_l, dIn_t, dInSign_n, dInSign_y, startR, List.map_cons, List.map_nil, List.length_cons, List.length_nil, List.cons_append, List.nil_append, List.append_nil, List.replicate, Nat.reduceAdd, Nat.reduceSub, Nat.zero_add, nth, put, wipeR, dLen, lenD, dIx, ixD, dSlR, dInt1, dAbs, dStrI, dTupOf, dListOf, dListOfM, tyD, dInsert, dAppend, atM, instD, isInst, DD.isNon, DD.isB, eqS, isL, seqD, updM_same, updM_updM, Option.map_some, Option.bind_some, List.getElem?_cons_succ, List.getElem?_cons_zero, List.set_cons_zero, List.set_cons_succ, ↓reduceIte, exitE, and_true, true_and, Bool.not_true, Bool.not_false, decide_true, decide_false, eq_self, reduceCtorEq, Bool.true_eq_false, Bool.false_eq_true]
  refine ⟨r1, rfl, fun good hgood hg4 => ?_⟩
  simp only [dSeq_e, dNext_e, dBreak_e, dCont_e, dExpr_e, dRet_e, dRetN_e, dIfS_e, dAsg_e, dFor_e, dRaise_e, dRaise1_e, dTry_e, dSetSlot_e, dSetIx_e, dName_e, dGTup_e, dGNil_e, dGCons_e, dVar_e, dC_e, dOp_e, dTest_e, asB_e, dAnd_e, dOr_e, dNot_e, dAndV_e, dOrV_e, dNotV_e, dIf_e, dNil_e, dCons_e, dTup_e, dLst_e, dLstM_e, dBlt_e, dCall_e, dNeg_e, dSl_e, dNoPart_e, dPart_e, dBm_e, dIsi_e, dIsX_e, dXf_e, dSlot_e, dProp_e, dMeth_e, dCMeth_e, dMake_e, dMakeL_e, dLc_e, dYes_e, dSigns_e, dItems_e, dItemsT_e, dRng1_e, dRng2_e, dTruth_e, dI_e, dIc_e, dAdd_i, dAdd_s, dEqS_e, dNeS_e, dIsN_e, dIsNotN_e, dIsB_e, dIn_s, dIn_l, dIn_t, dInSign_n, dInSign_y, startR, List.map_cons, List.map_nil, List.length_cons, List.length_nil, List.cons_append, List.nil_append, List.append_nil, List.replicate, Nat.reduceAdd, Nat.reduceSub, Nat.zero_add, nth, put, wipeR, dLen, lenD, dIx, ixD, dSlR, dInt1, dAbs, dStrI, dTupOf, dListOf, dListOfM, tyD, dInsert, dAppend, atM, instD, isInst, DD.isNon, DD.isB, eqS, isL, seqD, updM_same, updM_updM, Option.map_some, Option.bind_some, List.getElem?_cons_succ, List.getElem?_cons_zero, List.set_cons_zero, List.set_cons_succ, ↓reduceIte, exitE, and_true, true_and, Bool.not_true, Bool.not_false, decide_true, decide_false, eq_self, reduceCtorEq, Bool.true_eq_false, Bool.false_eq_true]
  refine ⟨p, good, o1, rfl, hg4, updM_same, ho1, fun other o2 ho' ho2 => ?_⟩
  simp only [dSeq_e, dNext_e, dBreak_e, dCont_e, dExpr_e, dRet_e, dRetN_e, dIfS_e, dAsg_e, dFor_e, dRaise_e, dRaise1_e, dTry_e, dSetSlot_e, dSetIx_e, dName_e, dGTup_e, dGNil_e, dGCons_e, dVar_e, dC_e, dOp_e, dTest_e, asB_e, dAnd_e, dOr_e, dNot_e, dAndV_e, dOrV_e, dNotV_e, dIf_e, dNil_e, dCons_e, dTup_e, dLst_e, dLstM_e, dBlt_e, dCall_e, dNeg_e, dSl_e, dNoPart_e, dPart_e, dBm_e, dIsi_e, dIsX_e, dXf_e, dSlot_e, dProp_e, dMeth_e, dCMeth_e, dMake_e, dMakeL_e, dLc_e, dYes_e, dSigns_e, dItems_e, dItemsT_e, dRng1_e, dRng2_e, dTruth_e, dI_e, dIc_e, dAdd_i, dAdd_s, dEqS_e, dNeS_e, dIsN_e, dIsNotN_e, dIsB_e, dIn_s, dIn_l, dIn_t, dInSign_n, dInSign_y, startR, List.map_cons, List.map_nil, List.length_cons, List.length_nil, List.cons_append, List.nil_append, List.append_nil, List.replicate, Nat.reduceAdd, Nat.reduceSub, Nat.zero_add, nth, put, wipeR, dLen, lenD, dIx, ixD, dSlR, dInt1, dAbs, dStrI, dTupOf, dListOf, dListOfM, tyD, dInsert, dAppend, atM, instD, isInst, DD.isNon, DD.isB, eqS, isL, seqD, updM_same, updM_updM, Option.map_some, Option.bind_some, List.getElem?_cons_succ, List.getElem?_cons_zero, List.set_cons_zero, List.set_cons_succ, ↓reduceIte, exitE, and_true, true_and, Bool.not_true, Bool.not_false, decide_true, decide_false, eq_self, reduceCtorEq, Bool.true_eq_false, Bool.false_eq_true]
  refine ⟨by decide, p, [], o2, rfl, rfl, updM_same, ho2, fun name o3 hname ho3 => ?_⟩
  simp only [dSeq_e, dNext_e, dBreak_e, dCont_e, dExpr_e, dRet_e, dRetN_e, dIfS_e, dAsg_e, dFor_e, dRaise_e, dRaise1_e, dTry_e, dSetSlot_e, dSetIx_e, dName_e, dGTup_e, dGNil_e, dGCons_e, dVar_e, dC_e, dOp_e, dTest_e, asB_e, dAnd_e, dOr_e, dNot_e, dAndV_e, dOrV_e, dNotV_e, dIf_e, dNil_e, dCons_e, dTup_e, dLst_e, dLstM_e, dBlt_e, dCall_e, dNeg_e, dSl_e, dNoPart_e, dPart_e, dBm_e, dIsi_e, dIsX_e, dXf_e, dSlot_e, dProp_e, dMeth_e, dCMeth_e, dMake_e, dMakeL_e, dLc_e, dYes_e, dSigns_e, dItems_e, dItemsT_e, dRng1_e, dRng2_e, dTruth_e, dI_e, dIc_e, dAdd_i, dAdd_s, dEqS_e, dNeS_e, dIsN_e, dIsNotN_e, dIsB_e, dIn_s, dIn_l, dIn_t, dInSign_n, dInSign_y, startR, List.map_cons, List.map_nil, List.length_cons, List.length_nil, List.cons_append, List.nil_append, List.append_nil, List.replicate, Nat.reduceAdd, Nat.reduceSub, Nat.zero_add, nth, put, wipeR, dLen, lenD, dIx, ixD, dSlR, dInt1, dAbs, dStrI, dTupOf, dListOf, dListOfM, tyD, dInsert, dAppend, atM, instD, isInst, DD.isNon, DD.isB, eqS, isL, seqD, updM_same, updM_updM, Option.map_some, Option.bind_some, List.getElem?_cons_succ, List.getElem?_cons_zero, List.set_cons_zero, List.set_cons_succ, ↓reduceIte, exitE, and_true, true_and, Bool.not_true, Bool.not_false, decide_true, decide_false, eq_self, reduceCtorEq, Bool.true_eq_false, Bool.false_eq_true]
  refine ⟨p, name, o3, rfl, hname, updM_same, ho3, fun bad o4 hbad ho4 => ?_⟩
  have hnl := (name_len hname).1
  simp only [dSeq_e, dNext_e, dBreak_e, dCont_e, dExpr_e, dRet_e, dRetN_e, dIfS_e, dAsg_e, dFor_e, dRaise_e, dRaise1_e, dTry_e, dSetSlot_e, dSetIx_e, dName_e, dGTup_e, dGNil_e, dGCons_e, dVar_e, dC_e, dOp_e, dTest_e, asB_e, dAnd_e, dOr_e, dNot_e, dAndV_e, dOrV_e, dNotV_e, dIf_e, dNil_e, dCons_e, dTup_e, dLst_e, dLstM_e, dBlt_e, dCall_e, dNeg_e, dSl_e, dNoPart_e, dPart_e, dBm_e, dIsi_e, dIsX_e, dXf_e, dSlot_e, dProp_e, dMeth_e, dCMeth_e, dMake_e, dMakeL_e, dLc_e, dYes_e, dSigns_e, dItems_e, dItemsT_e, dRng1_e, dRng2_e, dTruth_e, dI_e, dIc_e, dAdd_i, dAdd_s, dEqS_e, dNeS_e, dIsN_e, dIsNotN_e, dIsB_e, dIn_s, dIn_l, dIn_t, dInSign_n, dInSign_y, startR, List.map_cons, List.map_nil, List.length_cons, List.length_nil, List.cons_append, List.nil_append, List.append_nil, List.replicate, Nat.reduceAdd, Nat.reduceSub, Nat.zero_add, nth, put, wipeR, dLen, lenD, dIx, ixD, dSlR, dInt1, dAbs, dStrI, dTupOf, dListOf, dListOfM, tyD, dInsert, dAppend, atM, instD, isInst, DD.isNon, DD.isB, eqS, isL, seqD, updM_same, updM_updM, Option.map_some, Option.bind_some, List.getElem?_cons_succ, List.getElem?_cons_zero, List.set_cons_zero, List.set_cons_succ, ↓reduceIte, exitE, and_true, true_and, Bool.not_true, Bool.not_false, decide_true, decide_false, eq_self, reduceCtorEq, Bool.true_eq_false, Bool.false_eq_true]
  refine make_bound (by omega) (by omega) ?_
  unfold bndR
  have hl : decide ((1 + if far < 0 then -far else far) < 1) = false := decide_eq_false (by split <;> omega)
  simp only [hname, hgood, hl, dSeq_e, dNext_e, dBreak_e, dCont_e, dExpr_e, dRet_e, dRetN_e, dIfS_e, dAsg_e, dFor_e, dRaise_e, dRaise1_e, dTry_e, dSetSlot_e, dSetIx_e, dName_e, dGTup_e, dGNil_e, dGCons_e, dVar_e, dC_e, dOp_e, dTest_e, asB_e, dAnd_e, dOr_e, dNot_e, dAndV_e, dOrV_e, dNotV_e, dIf_e, dNil_e, dCons_e, dTup_e, dLst_e, dLstM_e, dBlt_e, dCall_e, dNeg_e, dSl_e, dNoPart_e, dPart_e, dBm_e, dIsi_e, dIsX_e, dXf_e, dSlot_e, dProp_e, dMeth_e, dCMeth_e, dMake_e, dMakeL_e, dLc_e, dYes_e, dSigns_e, dItems_e, dItemsT_e, dRng1_e, dRng2_e, dTruth_e, dI_e, dIc_e, dAdd_i, dAdd_s, dEqS_e, dNeS_e, dIsN_e, dIsNotN_e, dIsB_e, dIn_s, dIn_l, dIn_t, dInSign_n, dInSign_y, startR, List.map_cons, List.map_nil, List.length_cons, List.length_nil, List.cons_append, List.nil_append, List.append_nil, List.replicate, Nat.reduceAdd, Nat.reduceSub, Nat.zero_add, nth, put, wipeR, dLen, lenD, dIx, ixD, dSlR, dInt1, dAbs, dStrI, dTupOf, dListOf, dListOfM, tyD, dInsert, dAppend, atM, instD, isInst, DD.isNon, DD.isB, eqS, isL, seqD, updM_same, updM_updM, Option.map_some, Option.bind_some, List.getElem?_cons_succ, List.getElem?_cons_zero, List.set_cons_zero, List.set_cons_succ, ↓reduceIte, exitE, and_true, true_and, Bool.not_true, Bool.not_false, decide_true, decide_false, eq_self, reduceCtorEq, Bool.true_eq_false, Bool.false_eq_true]
  refine ⟨by decide, ?_⟩
  refine loop_inv (fun k ρ M' => M' = updM M p o4 ∧ ∃ a b c, ρ = [some (D.lst (iL ns)), some (D.adr p), some (D.int far), some (D.int raw), some (D.tup (iL good)),
              some (D.tup (iL other)), some (D.str name), some (D.str bad),
              some (boundD name good (1 + if far < 0 then -far else far)), a, b, c]) (fun k d ρ M' rest hd hP hr => ?_) (fun ρ M' hP => ?_) ⟨rfl, _, _, _, rfl⟩
  · obtain ⟨rfl, a, b, c, rfl⟩ := hP
    obtain ⟨t, rfl, ht⟩ : ∃ t : Str, d = .str t ∧ t.length ≤ 1000000 := by
      have z := List.mem_of_getElem? hd
      simp only [List.mem_cons, List.not_mem_nil, or_false] at z
      rcases z with rfl | rfl
      · exact ⟨_, rfl, by omega⟩
      · exact ⟨_, rfl, by omega⟩
    simp only [dSeq_e, dNext_e, dBreak_e, dCont_e, dExpr_e, dRet_e, dRetN_e, dIfS_e, dAsg_e, dFor_e, dRaise_e, dRaise1_e, dTry_e, dSetSlot_e, dSetIx_e, dName_e, dGTup_e, dGNil_e, dGCons_e, dVar_e, dC_e, dOp_e, dTest_e, asB_e, dAnd_e, dOr_e, dNot_e, dAndV_e, dOrV_e, dNotV_e, dIf_e, dNil_e, dCons_e, dTup_e, dLst_e, dLstM_e, dBlt_e, dCall_e, dNeg_e, dSl_e, dNoPart_e, dPart_e, dBm_e, dIsi_e, dIsX_e, dXf_e, dSlot_e, dProp_e, dMeth_e, dCMeth_e, dMake_e, dMakeL_e, dLc_e, dYes_e, dSigns_e, dItems_e, dItemsT_e, dRng1_e, dRng2_e, dTruth_e, dI_e, dIc_e, dAdd_i, dAdd_s, dEqS_e, dNeS_e, dIsN_e, dIsNotN_e, dIsB_e, dIn_s, dIn_l, dIn_t, dInSign_n, dInSign_y, startR, List.map_cons, List.map_nil, List.length_cons, List.length_nil, List.cons_append, List.nil_append, List.append_nil, List.replicate, Nat.reduceAdd, Nat.reduceSub, Nat.zero_add, nth, put, wipeR, dLen, lenD, dIx, ixD, dSlR, dInt1, dAbs, dStrI, dTupOf, dListOf, dListOfM, tyD, dInsert, dAppend, atM, instD, isInst, DD.isNon, DD.isB, eqS, isL, seqD, updM_same, updM_updM, Option.map_some, Option.bind_some, List.getElem?_cons_succ, List.getElem?_cons_zero, List.set_cons_zero, List.set_cons_succ, ↓reduceIte, exitE, and_true, true_and, Bool.not_true, Bool.not_false, decide_true, decide_false, eq_self, reduceCtorEq, Bool.true_eq_false, Bool.false_eq_true]
    refine ⟨by decide, ?_⟩
    refine loop_inv (fun k ρ M' => M' = updM M p o4 ∧ ∃ b c, ρ = [some (D.lst (iL ns)), some (D.adr p), some (D.int far), some (D.int raw), some (D.tup (iL good)),
              some (D.tup (iL other)), some (D.str name), some (D.str bad),
              some (boundD name good (1 + if far < 0 then -far else far)), some (.str t), b, c]) (fun k d ρ M' rest2 hd hP hr2 => ?_) (fun ρ M' hP => ?_) ⟨rfl, _, _, rfl⟩
    · obtain ⟨rfl, b, c, rfl⟩ := hP
      obtain ⟨g, rfl, hg⟩ : ∃ g : List Int, d = .tup (iL g) ∧ g.length ≤ 1000000 := by
        have z := List.mem_of_getElem? hd
        simp only [List.mem_cons, List.not_mem_nil, or_false] at z
        rcases z with rfl | rfl
        · exact ⟨_, rfl, by omega⟩
        · exact ⟨_, rfl, by omega⟩
      simp only [dSeq_e, dNext_e, dBreak_e, dCont_e, dExpr_e, dRet_e, dRetN_e, dIfS_e, dAsg_e, dFor_e, dRaise_e, dRaise1_e, dTry_e, dSetSlot_e, dSetIx_e, dName_e, dGTup_e, dGNil_e, dGCons_e, dVar_e, dC_e, dOp_e, dTest_e, asB_e, dAnd_e, dOr_e, dNot_e, dAndV_e, dOrV_e, dNotV_e, dIf_e, dNil_e, dCons_e, dTup_e, dLst_e, dLstM_e, dBlt_e, dCall_e, dNeg_e, dSl_e, dNoPart_e, dPart_e, dBm_e, dIsi_e, dIsX_e, dXf_e, dSlot_e, dProp_e, dMeth_e, dCMeth_e, dMake_e, dMakeL_e, dLc_e, dYes_e, dSigns_e, dItems_e, dItemsT_e, dRng1_e, dRng2_e, dTruth_e, dI_e, dIc_e, dAdd_i, dAdd_s, dEqS_e, dNeS_e, dIsN_e, dIsNotN_e, dIsB_e, dIn_s, dIn_l, dIn_t, dInSign_n, dInSign_y, startR, List.map_cons, List.map_nil, List.length_cons, List.length_nil, List.cons_append, List.nil_append, List.append_nil, List.replicate, Nat.reduceAdd, Nat.reduceSub, Nat.zero_add, nth, put, wipeR, dLen, lenD, dIx, ixD, dSlR, dInt1, dAbs, dStrI, dTupOf, dListOf, dListOfM, tyD, dInsert, dAppend, atM, instD, isInst, DD.isNon, DD.isB, eqS, isL, seqD, updM_same, updM_updM, Option.map_some, Option.bind_some, List.getElem?_cons_succ, List.getElem?_cons_zero, List.set_cons_zero, List.set_cons_succ, ↓reduceIte, exitE, and_true, true_and, Bool.not_true, Bool.not_false, decide_true, decide_false, eq_self, reduceCtorEq, Bool.true_eq_false, Bool.false_eq_true]
      refine ⟨by decide, ?_⟩
      refine loop_inv (fun k ρ M' => M' = updM M p o4 ∧ ∃ c, ρ = [some (D.lst (iL ns)), some (D.adr p), some (D.int far), some (D.int raw), some (D.tup (iL good)),
              some (D.tup (iL other)), some (D.str name), some (D.str bad),
              some (boundD name good (1 + if far < 0 then -far else far)), some (.str t), some (.tup (iL g)), c]) (fun k d ρ M' rest3 hd hP hr3 => ?_) (fun ρ M' hP => ?_) ⟨rfl, _, rfl⟩
      · obtain ⟨rfl, c, rfl⟩ := hP
        obtain ⟨l, rfl⟩ : ∃ l : Int, d = .int l := by
          have z := List.mem_of_getElem? hd
          simp only [List.mem_cons, List.not_mem_nil, or_false] at z
          rcases z with rfl | rfl | rfl | rfl | rfl <;> exact ⟨_, rfl⟩
        simp only [dSeq_e, dNext_e, dBreak_e, dCont_e, dExpr_e, dRet_e, dRetN_e, dIfS_e, dAsg_e, dFor_e, dRaise_e, dRaise1_e, dTry_e, dSetSlot_e, dSetIx_e, dName_e, dGTup_e, dGNil_e, dGCons_e, dVar_e, dC_e, dOp_e, dTest_e, asB_e, dAnd_e, dOr_e, dNot_e, dAndV_e, dOrV_e, dNotV_e, dIf_e, dNil_e, dCons_e, dTup_e, dLst_e, dLstM_e, dBlt_e, dCall_e, dNeg_e, dSl_e, dNoPart_e, dPart_e, dBm_e, dIsi_e, dIsX_e, dXf_e, dSlot_e, dProp_e, dMeth_e, dCMeth_e, dMake_e, dMakeL_e, dLc_e, dYes_e, dSigns_e, dItems_e, dItemsT_e, dRng1_e, dRng2_e, dTruth_e, dI_e, dIc_e, dAdd_i, dAdd_s, dEqS_e, dNeS_e, dIsN_e, dIsNotN_e, dIsB_e, dIn_s, dIn_l, dIn_t, dInSign_n, dInSign_y, startR, List.map_cons, List.map_nil, List.length_cons, List.length_nil, List.cons_append, List.nil_append, List.append_nil, List.replicate, Nat.reduceAdd, Nat.reduceSub, Nat.zero_add, nth, put, wipeR, dLen, lenD, dIx, ixD, dSlR, dInt1, dAbs, dStrI, dTupOf, dListOf, dListOfM, tyD, dInsert, dAppend, atM, instD, isInst, DD.isNon, DD.isB, eqS, isL, seqD, updM_same, updM_updM, Option.map_some, Option.bind_some, List.getElem?_cons_succ, List.getElem?_cons_zero, List.set_cons_zero, List.set_cons_succ, ↓reduceIte, exitE, and_true, true_and, Bool.not_true, Bool.not_false, decide_true, decide_false, eq_self, reduceCtorEq, Bool.true_eq_false, Bool.false_eq_true]
        refine ⟨t, g, l, false, rfl, ht, hg, (fun z => Bool.noConfusion z), ?_⟩
        simp only [dSeq_e, dNext_e, dBreak_e, dCont_e, dExpr_e, dRet_e, dRetN_e, dIfS_e, dAsg_e, dFor_e, dRaise_e, dRaise1_e, dTry_e, dSetSlot_e, dSetIx_e, dName_e, dGTup_e, dGNil_e, dGCons_e, dVar_e, dC_e, dOp_e, dTest_e, asB_e, dAnd_e, dOr_e, dNot_e, dAndV_e, dOrV_e, dNotV_e, dIf_e, dNil_e, dCons_e, dTup_e, dLst_e, dLstM_e, dBlt_e, dCall_e, dNeg_e, dSl_e, dNoPart_e, dPart_e, dBm_e, dIsi_e, dIsX_e, dXf_e, dSlot_e, dProp_e, dMeth_e, dCMeth_e, dMake_e, dMakeL_e, dLc_e, dYes_e, dSigns_e, dItems_e, dItemsT_e, dRng1_e, dRng2_e, dTruth_e, dI_e, dIc_e, dAdd_i, dAdd_s, dEqS_e, dNeS_e, dIsN_e, dIsNotN_e, dIsB_e, dIn_s, dIn_l, dIn_t, dInSign_n, dInSign_y, startR, List.map_cons, List.map_nil, List.length_cons, List.length_nil, List.cons_append, List.nil_append, List.append_nil, List.replicate, Nat.reduceAdd, Nat.reduceSub, Nat.zero_add, nth, put, wipeR, dLen, lenD, dIx, ixD, dSlR, dInt1, dAbs, dStrI, dTupOf, dListOf, dListOfM, tyD, dInsert, dAppend, atM, instD, isInst, DD.isNon, DD.isB, eqS, isL, seqD, updM_same, updM_updM, Option.map_some, Option.bind_some, List.getElem?_cons_succ, List.getElem?_cons_zero, List.set_cons_zero, List.set_cons_succ, ↓reduceIte, exitE, and_true, true_and, Bool.not_true, Bool.not_false, decide_true, decide_false, eq_self, reduceCtorEq, Bool.true_eq_false, Bool.false_eq_true]
        refine ⟨t, g, l, rfl, ht, ?_⟩
        simp only [dSeq_e, dNext_e, dBreak_e, dCont_e, dExpr_e, dRet_e, dRetN_e, dIfS_e, dAsg_e, dFor_e, dRaise_e, dRaise1_e, dTry_e, dSetSlot_e, dSetIx_e, dName_e, dGTup_e, dGNil_e, dGCons_e, dVar_e, dC_e, dOp_e, dTest_e, asB_e, dAnd_e, dOr_e, dNot_e, dAndV_e, dOrV_e, dNotV_e, dIf_e, dNil_e, dCons_e, dTup_e, dLst_e, dLstM_e, dBlt_e, dCall_e, dNeg_e, dSl_e, dNoPart_e, dPart_e, dBm_e, dIsi_e, dIsX_e, dXf_e, dSlot_e, dProp_e, dMeth_e, dCMeth_e, dMake_e, dMakeL_e, dLc_e, dYes_e, dSigns_e, dItems_e, dItemsT_e, dRng1_e, dRng2_e, dTruth_e, dI_e, dIc_e, dAdd_i, dAdd_s, dEqS_e, dNeS_e, dIsN_e, dIsNotN_e, dIsB_e, dIn_s, dIn_l, dIn_t, dInSign_n, dInSign_y, startR, List.map_cons, List.map_nil, List.length_cons, List.length_nil, List.cons_append, List.nil_append, List.append_nil, List.replicate, Nat.reduceAdd, Nat.reduceSub, Nat.zero_add, nth, put, wipeR, dLen, lenD, dIx, ixD, dSlR, dInt1, dAbs, dStrI, dTupOf, dListOf, dListOfM, tyD, dInsert, dAppend, atM, instD, isInst, DD.isNon, DD.isB, eqS, isL, seqD, updM_same, updM_updM, Option.map_some, Option.bind_some, List.getElem?_cons_succ, List.getElem?_cons_zero, List.set_cons_zero, List.set_cons_succ, ↓reduceIte, exitE, and_true, true_and, Bool.not_true, Bool.not_false, decide_true, decide_false, eq_self, reduceCtorEq, Bool.true_eq_false, Bool.false_eq_true]
        refine ⟨dueD t g l, rfl, pl_due hg, ?_⟩
        simp only [dSeq_e, dNext_e, dBreak_e, dCont_e, dExpr_e, dRet_e, dRetN_e, dIfS_e, dAsg_e, dFor_e, dRaise_e, dRaise1_e, dTry_e, dSetSlot_e, dSetIx_e, dName_e, dGTup_e, dGNil_e, dGCons_e, dVar_e, dC_e, dOp_e, dTest_e, asB_e, dAnd_e, dOr_e, dNot_e, dAndV_e, dOrV_e, dNotV_e, dIf_e, dNil_e, dCons_e, dTup_e, dLst_e, dLstM_e, dBlt_e, dCall_e, dNeg_e, dSl_e, dNoPart_e, dPart_e, dBm_e, dIsi_e, dIsX_e, dXf_e, dSlot_e, dProp_e, dMeth_e, dCMeth_e, dMake_e, dMakeL_e, dLc_e, dYes_e, dSigns_e, dItems_e, dItemsT_e, dRng1_e, dRng2_e, dTruth_e, dI_e, dIc_e, dAdd_i, dAdd_s, dEqS_e, dNeS_e, dIsN_e, dIsNotN_e, dIsB_e, dIn_s, dIn_l, dIn_t, dInSign_n, dInSign_y, startR, List.map_cons, List.map_nil, List.length_cons, List.length_nil, List.cons_append, List.nil_append, List.append_nil, List.replicate, Nat.reduceAdd, Nat.reduceSub, Nat.zero_add, nth, put, wipeR, dLen, lenD, dIx, ixD, dSlR, dInt1, dAbs, dStrI, dTupOf, dListOf, dListOfM, tyD, dInsert, dAppend, atM, instD, isInst, DD.isNon, DD.isB, eqS, isL, seqD, updM_same, updM_updM, Option.map_some, Option.bind_some, List.getElem?_cons_succ, List.getElem?_cons_zero, List.set_cons_zero, List.set_cons_succ, ↓reduceIte, exitE, and_true, true_and, Bool.not_true, Bool.not_false, decide_true, decide_false, eq_self, reduceCtorEq, Bool.true_eq_false, Bool.false_eq_true]
        exact hr3 _ _ ⟨rfl, _, rfl⟩
      · obtain ⟨rfl, c, rfl⟩ := hP
        simp only [dSeq_e, dNext_e, dBreak_e, dCont_e, dExpr_e, dRet_e, dRetN_e, dIfS_e, dAsg_e, dFor_e, dRaise_e, dRaise1_e, dTry_e, dSetSlot_e, dSetIx_e, dName_e, dGTup_e, dGNil_e, dGCons_e, dVar_e, dC_e, dOp_e, dTest_e, asB_e, dAnd_e, dOr_e, dNot_e, dAndV_e, dOrV_e, dNotV_e, dIf_e, dNil_e, dCons_e, dTup_e, dLst_e, dLstM_e, dBlt_e, dCall_e, dNeg_e, dSl_e, dNoPart_e, dPart_e, dBm_e, dIsi_e, dIsX_e, dXf_e, dSlot_e, dProp_e, dMeth_e, dCMeth_e, dMake_e, dMakeL_e, dLc_e, dYes_e, dSigns_e, dItems_e, dItemsT_e, dRng1_e, dRng2_e, dTruth_e, dI_e, dIc_e, dAdd_i, dAdd_s, dEqS_e, dNeS_e, dIsN_e, dIsNotN_e, dIsB_e, dIn_s, dIn_l, dIn_t, dInSign_n, dInSign_y, startR, List.map_cons, List.map_nil, List.length_cons, List.length_nil, List.cons_append, List.nil_append, List.append_nil, List.replicate, Nat.reduceAdd, Nat.reduceSub, Nat.zero_add, nth, put, wipeR, dLen, lenD, dIx, ixD, dSlR, dInt1, dAbs, dStrI, dTupOf, dListOf, dListOfM, tyD, dInsert, dAppend, atM, instD, isInst, DD.isNon, DD.isB, eqS, isL, seqD, updM_same, updM_updM, Option.map_some, Option.bind_some, List.getElem?_cons_succ, List.getElem?_cons_zero, List.set_cons_zero, List.set_cons_succ, ↓reduceIte, exitE, and_true, true_and, Bool.not_true, Bool.not_false, decide_true, decide_false, eq_self, reduceCtorEq, Bool.true_eq_false, Bool.false_eq_true]
        refine ⟨t, g, 1, true, rfl, ht, hg, fun _ => rfl, ?_⟩
        simp only [dSeq_e, dNext_e, dBreak_e, dCont_e, dExpr_e, dRet_e, dRetN_e, dIfS_e, dAsg_e, dFor_e, dRaise_e, dRaise1_e, dTry_e, dSetSlot_e, dSetIx_e, dName_e, dGTup_e, dGNil_e, dGCons_e, dVar_e, dC_e, dOp_e, dTest_e, asB_e, dAnd_e, dOr_e, dNot_e, dAndV_e, dOrV_e, dNotV_e, dIf_e, dNil_e, dCons_e, dTup_e, dLst_e, dLstM_e, dBlt_e, dCall_e, dNeg_e, dSl_e, dNoPart_e, dPart_e, dBm_e, dIsi_e, dIsX_e, dXf_e, dSlot_e, dProp_e, dMeth_e, dCMeth_e, dMake_e, dMakeL_e, dLc_e, dYes_e, dSigns_e, dItems_e, dItemsT_e, dRng1_e, dRng2_e, dTruth_e, dI_e, dIc_e, dAdd_i, dAdd_s, dEqS_e, dNeS_e, dIsN_e, dIsNotN_e, dIsB_e, dIn_s, dIn_l, dIn_t, dInSign_n, dInSign_y, startR, List.map_cons, List.map_nil, List.length_cons, List.length_nil, List.cons_append, List.nil_append, List.append_nil, List.replicate, Nat.reduceAdd, Nat.reduceSub, Nat.zero_add, nth, put, wipeR, dLen, lenD, dIx, ixD, dSlR, dInt1, dAbs, dStrI, dTupOf, dListOf, dListOfM, tyD, dInsert, dAppend, atM, instD, isInst, DD.isNon, DD.isB, eqS, isL, seqD, updM_same, updM_updM, Option.map_some, Option.bind_some, List.getElem?_cons_succ, List.getElem?_cons_zero, List.set_cons_zero, List.set_cons_succ, ↓reduceIte, exitE, and_true, true_and, Bool.not_true, Bool.not_false, decide_true, decide_false, eq_self, reduceCtorEq, Bool.true_eq_false, Bool.false_eq_true]
        refine ⟨t, g, 1, rfl, ht, ?_⟩
        simp only [dSeq_e, dNext_e, dBreak_e, dCont_e, dExpr_e, dRet_e, dRetN_e, dIfS_e, dAsg_e, dFor_e, dRaise_e, dRaise1_e, dTry_e, dSetSlot_e, dSetIx_e, dName_e, dGTup_e, dGNil_e, dGCons_e, dVar_e, dC_e, dOp_e, dTest_e, asB_e, dAnd_e, dOr_e, dNot_e, dAndV_e, dOrV_e, dNotV_e, dIf_e, dNil_e, dCons_e, dTup_e, dLst_e, dLstM_e, dBlt_e, dCall_e, dNeg_e, dSl_e, dNoPart_e, dPart_e, dBm_e, dIsi_e, dIsX_e, dXf_e, dSlot_e, dProp_e, dMeth_e, dCMeth_e, dMake_e, dMakeL_e, dLc_e, dYes_e, dSigns_e, dItems_e, dItemsT_e, dRng1_e, dRng2_e, dTruth_e, dI_e, dIc_e, dAdd_i, dAdd_s, dEqS_e, dNeS_e, dIsN_e, dIsNotN_e, dIsB_e, dIn_s, dIn_l, dIn_t, dInSign_n, dInSign_y, startR, List.map_cons, List.map_nil, List.length_cons, List.length_nil, List.cons_append, List.nil_append, List.append_nil, List.replicate, Nat.reduceAdd, Nat.reduceSub, Nat.zero_add, nth, put, wipeR, dLen, lenD, dIx, ixD, dSlR, dInt1, dAbs, dStrI, dTupOf, dListOf, dListOfM, tyD, dInsert, dAppend, atM, instD, isInst, DD.isNon, DD.isB, eqS, isL, seqD, updM_same, updM_updM, Option.map_some, Option.bind_some, List.getElem?_cons_succ, List.getElem?_cons_zero, List.set_cons_zero, List.set_cons_succ, ↓reduceIte, exitE, and_true, true_and, Bool.not_true, Bool.not_false, decide_true, decide_false, eq_self, reduceCtorEq, Bool.true_eq_false, Bool.false_eq_true]
        refine ⟨dueD t g 1, rfl, pl_due hg, ?_⟩
        simp only [dSeq_e, dNext_e, dBreak_e, dCont_e, dExpr_e, dRet_e, dRetN_e, dIfS_e, dAsg_e, dFor_e, dRaise_e, dRaise1_e, dTry_e, dSetSlot_e, dSetIx_e, dName_e, dGTup_e, dGNil_e, dGCons_e, dVar_e, dC_e, dOp_e, dTest_e, asB_e, dAnd_e, dOr_e, dNot_e, dAndV_e, dOrV_e, dNotV_e, dIf_e, dNil_e, dCons_e, dTup_e, dLst_e, dLstM_e, dBlt_e, dCall_e, dNeg_e, dSl_e, dNoPart_e, dPart_e, dBm_e, dIsi_e, dIsX_e, dXf_e, dSlot_e, dProp_e, dMeth_e, dCMeth_e, dMake_e, dMakeL_e, dLc_e, dYes_e, dSigns_e, dItems_e, dItemsT_e, dRng1_e, dRng2_e, dTruth_e, dI_e, dIc_e, dAdd_i, dAdd_s, dEqS_e, dNeS_e, dIsN_e, dIsNotN_e, dIsB_e, dIn_s, dIn_l, dIn_t, dInSign_n, dInSign_y, startR, List.map_cons, List.map_nil, List.length_cons, List.length_nil, List.cons_append, List.nil_append, List.append_nil, List.replicate, Nat.reduceAdd, Nat.reduceSub, Nat.zero_add, nth, put, wipeR, dLen, lenD, dIx, ixD, dSlR, dInt1, dAbs, dStrI, dTupOf, dListOf, dListOfM, tyD, dInsert, dAppend, atM, instD, isInst, DD.isNon, DD.isB, eqS, isL, seqD, updM_same, updM_updM, Option.map_some, Option.bind_some, List.getElem?_cons_succ, List.getElem?_cons_zero, List.set_cons_zero, List.set_cons_succ, ↓reduceIte, exitE, and_true, true_and, Bool.not_true, Bool.not_false, decide_true, decide_false, eq_self, reduceCtorEq, Bool.true_eq_false, Bool.false_eq_true]
        exact hr2 _ _ ⟨rfl, _, _, rfl⟩
    · obtain ⟨rfl, b, c, rfl⟩ := hP
      exact hr _ _ ⟨rfl, _, _, _, rfl⟩
  · obtain ⟨rfl, a, b, c, rfl⟩ := hP
    simp only [boundD, dSeq_e, dNext_e, dBreak_e, dCont_e, dExpr_e, dRet_e, dRetN_e, dIfS_e, dAsg_e, dFor_e, dRaise_e, dRaise1_e, dTry_e, dSetSlot_e, dSetIx_e, dName_e, dGTup_e, dGNil_e, dGCons_e, dVar_e, dC_e, dOp_e, dTest_e, asB_e, dAnd_e, dOr_e, dNot_e, dAndV_e, dOrV_e, dNotV_e, dIf_e, dNil_e, dCons_e, dTup_e, dLst_e, dLstM_e, dBlt_e, dCall_e, dNeg_e, dSl_e, dNoPart_e, dPart_e, dBm_e, dIsi_e, dIsX_e, dXf_e, dSlot_e, dProp_e, dMeth_e, dCMeth_e, dMake_e, dMakeL_e, dLc_e, dYes_e, dSigns_e, dItems_e, dItemsT_e, dRng1_e, dRng2_e, dTruth_e, dI_e, dIc_e, dAdd_i, dAdd_s, dEqS_e, dNeS_e, dIsN_e, dIsNotN_e, dIsB_e, dIn_s, dIn_l, dIn_t, dInSign_n, dInSign_y, startR, List.map_cons, List.map_nil, List.length_cons, List.length_nil, List.cons_append, List.nil_append, List.append_nil, List.replicate, Nat.reduceAdd, Nat.reduceSub, Nat.zero_add, nth, put, wipeR, dLen, lenD, dIx, ixD, dSlR, dInt1, dAbs, dStrI, dTupOf, dListOf, dListOfM, tyD, dInsert, dAppend, atM, instD, isInst, DD.isNon, DD.isB, eqS, isL, seqD, updM_same, updM_updM, Option.map_some, Option.bind_some, List.getElem?_cons_succ, List.getElem?_cons_zero, List.set_cons_zero, List.set_cons_succ, ↓reduceIte, exitE, and_true, true_and, Bool.not_true, Bool.not_false, decide_true, decide_false, eq_self, reduceCtorEq, Bool.true_eq_false, Bool.false_eq_true]
    refine ⟨by rfl, name, good, _, rfl, by decide, by decide, by decide, ?_⟩
    have hg6 : good.length ≤ 1000000 := by omega
    refine ⟨_, rfl, pl_tup (by simp) (pl_cons pl_str (pl_cons (pl_iL hg6) (pl_cons pl_int (pl_cons (pl_tup (by simp) (pl_cons pl_str (pl_cons (pl_iL hg6) pl_nil))) pl_nil)))), ?_⟩
    exact ⟨M, Sub.upd hp, h⟩
theorem sp_law_ok (ns : List Int) (h : ns.length ≤ 63) (hz : ∀ z ∈ ns, Builtin.Int.intBits z ≤ 1048576) : sp_law [.lst (ns.map D.int)] DH.noM (fun v _ => v = .bl true) fun _ _ => False := ⟨ns, rfl, h, rfl⟩
end Q

namespace Q
open PySem PySem.Spec PyProof.Rows L2 DD DH
theorem sc_is_name : FnScope ["text", "char"] ["text"] (defScope (top 16)) := ⟨rfl, rfl, rfl, by decide +kernel, rfl, by decide +kernel, by decide +kernel⟩
theorem bn_is_name {K : PySem.W.Frag} {fd : FuncData} (F : Fun K "is_name" "is_name" (top 16) (He.ga K "is_name") fd) : Binds K fd ["text"] [] := F.binds fun _ _ _ _ _ _ us hl => match us, hl with | [_], _ => rfl
theorem fn_is_name {w : World} {K : PySem.W.Frag} {mg : Str → Option Value} {base : Heap} (S : DH.SaysH P hd K) (X0 : K.In base) (G : base.Ns mainGlobals mg) {fd : FuncData} (F : Fun K "is_name" "is_name" (top 16) (He.ga K "is_name") fd) : FnOk P w K mg base (L2.CX P w) 2 (He.ga K "is_name") fd ["text"] (toSp (cad cs K) sp_is_name) := by
  refine fnD (body := r_is_name ) F sc_is_name (fun ds M Q E h => len_is_name h) (fun cdv A outer s H E hr c => ?_) (fun ds M Q E h => red_is_name h)
  exact ((pdss_cons (pds_if (pdw_or (pdt_cmp opd_lt (pd_blt cd_len (by rfl) (g_len S X0 G) rfl (pda_cons (pd_var 0) pda_nil)) pd_int) (pdw_or (pdt_cmp opd_gt (pd_blt cd_len (by rfl) (g_len S X0 G) rfl (pda_cons (pd_var 0) pda_nil)) (pd_gint (by rfl) (g_LONGEST_NAME S X0 G))) (pdw_or1 (pdt_cmp opd_notIn (pd_ix (pd_var 0) pd_int) (pd_gstr (by rfl) (g_LETTERS S X0 G)))))).pt (pdss_one (pds_ret pd_bl)) pdss_nil)
 (pdss_cons (pds_for (passes_of (by rfl)) (by rfl) (pdi_str (pd_var 0)) (pdg_name (i := 1) sc_is_name.nd (by rfl) (by first | exact Or.inl rfl | exact Or.inr rfl)) (pdss_one (pds_if (pdw_and (pdt_cmp opd_notIn (pd_var 1) (pd_gstr (by rfl) (g_LETTERS S X0 G))) (pdw_and1 (pdt_cmp opd_notIn (pd_var 1) (pd_gstr (by rfl) (g_DIGITS S X0 G))))).pt (pdss_one (pds_ret pd_bl)) pdss_nil)))
 (pdss_one (pds_ret pd_bl)))) : PDSs c (defBody (top 16)) (r_is_name ))
theorem cal_is_name {w : World} {K : PySem.W.Frag} {mg : Str → Option Value} {base : Heap} (S : DH.SaysH P hd K) (X0 : K.In base) (G : base.Ns mainGlobals mg) : Cal P w K mg base (cad cs K) "is_name" 2 ["text"] sp_is_name := by
  obtain ⟨fd, F⟩ := DH.fun_dA (S.def_ 0 rfl)
  exact ⟨_, fd, fn_is_name S X0 G F, g_is_name S X0 G, F.kp, bn_is_name F⟩
theorem sc_check_name : FnScope ["text"] ["text"] (defScope (top 17)) := ⟨rfl, rfl, rfl, by decide +kernel, rfl, by decide +kernel, by decide +kernel⟩
theorem bn_check_name {K : PySem.W.Frag} {fd : FuncData} (F : Fun K "check_name" "check_name" (top 17) (He.ga K "check_name") fd) : Binds K fd ["text"] [] := F.binds fun _ _ _ _ _ _ us hl => match us, hl with | [_], _ => rfl
theorem fn_check_name {w : World} {K : PySem.W.Frag} {mg : Str → Option Value} {base : Heap} (S : DH.SaysH P hd K) (X0 : K.In base) (G : base.Ns mainGlobals mg) {fd : FuncData} (F : Fun K "check_name" "check_name" (top 17) (He.ga K "check_name") fd) : FnOk P w K mg base (L2.CX P w) 3 (He.ga K "check_name") fd ["text"] (toSp (cad cs K) sp_check_name) := by
  refine fnD (body := r_check_name ) F sc_check_name (fun ds M Q E h => len_check_name h) (fun cdv A outer s H E hr c => ?_) (fun ds M Q E h => red_check_name h)
  exact ((pdss_one (pds_if (pdt_not (pdt_val (pd_call (cal_is_name S X0 G) (hr.mono (by decide)) (by rfl) (pda_cons (pd_var 0) pda_nil)))) (pdss_one (pds_raise1 (cn := 1) (f := "name") (sx_BadName S) (by rfl) hr (g_BadName S X0 G) (by rfl) (pd_var 0))) pdss_nil)) : PDSs c (defBody (top 17)) (r_check_name ))
theorem cal_check_name {w : World} {K : PySem.W.Frag} {mg : Str → Option Value} {base : Heap} (S : DH.SaysH P hd K) (X0 : K.In base) (G : base.Ns mainGlobals mg) : Cal P w K mg base (cad cs K) "check_name" 3 ["text"] sp_check_name := by
  obtain ⟨fd, F⟩ := DH.fun_dA (S.def_ 1 rfl)
  exact ⟨_, fd, fn_check_name S X0 G F, g_check_name S X0 G, F.kp, bn_check_name F⟩
theorem sc_check_given : FnScope ["given", "last", "column"] ["given"] (defScope (top 25)) := ⟨rfl, rfl, rfl, by decide +kernel, rfl, by decide +kernel, by decide +kernel⟩
theorem bn_check_given {K : PySem.W.Frag} {fd : FuncData} (F : Fun K "check_given" "check_given" (top 25) (He.ga K "check_given") fd) : Binds K fd ["given"] [] := F.binds fun _ _ _ _ _ _ us hl => match us, hl with | [_], _ => rfl
theorem fn_check_given {w : World} {K : PySem.W.Frag} {mg : Str → Option Value} {base : Heap} (S : DH.SaysH P hd K) (X0 : K.In base) (G : base.Ns mainGlobals mg) {fd : FuncData} (F : Fun K "check_given" "check_given" (top 25) (He.ga K "check_given") fd) : FnOk P w K mg base (L2.CX P w) 2 (He.ga K "check_given") fd ["given"] (toSp (cad cs K) sp_check_given) := by
  refine fnD (body := r_check_given ) F sc_check_given (fun ds M Q E h => len_check_given h) (fun cdv A outer s H E hr c => ?_) (fun ds M Q E h => red_check_given h)
  exact ((pdss_cons (pds_set (i := 1) sc_check_given.nd (by rfl) (by first | exact Or.inl rfl | exact Or.inr rfl) (pd_neg pd_int))
 (pdss_one (pds_for (passes_of (by rfl)) (by rfl) (pdi_tup (pd_var 0)) (pdg_name (i := 2) sc_check_given.nd (by rfl) (by first | exact Or.inl rfl | exact Or.inr rfl)) (pdss_cons (pds_if (pdw_or (pdt_cmp opd_le (pd_var 2) (pd_var 1)) (pdw_or1 (pdt_cmp opd_ge (pd_var 2) (pd_gint (by rfl) (g_WIDEST S X0 G))))).pt (pdss_one (pds_raise (cn := 7) (px_BadBound S) (by rfl) (g_BadBound S X0 G) (by rfl))) pdss_nil)
 (pdss_one (pds_set (i := 1) sc_check_given.nd (by rfl) (by first | exact Or.inl rfl | exact Or.inr rfl) (pd_var 2))))))) : PDSs c (defBody (top 25)) (r_check_given ))
theorem cal_check_given {w : World} {K : PySem.W.Frag} {mg : Str → Option Value} {base : Heap} (S : DH.SaysH P hd K) (X0 : K.In base) (G : base.Ns mainGlobals mg) : Cal P w K mg base (cad cs K) "check_given" 2 ["given"] sp_check_given := by
  obtain ⟨fd, F⟩ := DH.fun_dA (S.def_ 2 rfl)
  exact ⟨_, fd, fn_check_given S X0 G F, g_check_given S X0 G, F.kp, bn_check_given F⟩
theorem sc_Bound_init : FnScope ["self", "table", "given", "limit"] ["self", "table", "given", "limit"] (defScope (inC 27 1)) := ⟨rfl, rfl, rfl, by decide +kernel, rfl, by decide +kernel, by decide +kernel⟩
theorem bn_Bound_init {K : PySem.W.Frag} {fd : FuncData} (F : Fun K "__init__" "Bound.__init__" (inC 27 1) (He.ma K (He.ga K "Bound") "__init__") fd) : Binds K fd ["self", "table", "given", "limit"] [] := F.binds fun _ _ _ _ _ _ us hl => match us, hl with | [_, _, _, _], _ => rfl
theorem fn_Bound_init {w : World} {K : PySem.W.Frag} {mg : Str → Option Value} {base : Heap} (S : DH.SaysH P hd K) (X0 : K.In base) (G : base.Ns mainGlobals mg) {fd : FuncData} (F : Fun K "__init__" "Bound.__init__" (inC 27 1) (He.ma K (He.ga K "Bound") "__init__") fd) : FnOk P w K mg base (L2.CX P w) 4 (He.ma K (He.ga K "Bound") "__init__") fd ["self", "table", "given", "limit"] (toSp (cad cs K) sp_Bound_init) := by
  refine fnD (body := r_Bound_init ) F sc_Bound_init (fun ds M Q E h => len_Bound_init h) (fun cdv A outer s H E hr c => ?_) (fun ds M Q E h => red_Bound_init h)
  exact ((pdss_cons (pds_expr (pd_call (cal_check_name S X0 G) (hr.mono (by decide)) (by rfl) (pda_cons (pd_var 1) pda_nil)))
 (pdss_cons (pds_expr (pd_call (cal_check_given S X0 G) (hr.mono (by decide)) (by rfl) (pda_cons (pd_var 2) pda_nil)))
 (pdss_cons (pds_if (pdt_cmp opd_lt (pd_var 3) pd_int) (pdss_one (pds_raise (cn := 7) (px_BadBound S) (by rfl) (g_BadBound S X0 G) (by rfl))) pdss_nil)
 (pdss_cons (pds_slot (sl_Bound_table S) (pd_var 0) (pd_var 1))
 (pdss_cons (pds_slot (sl_Bound_given S) (pd_var 0) (pd_ty cd_tup (by rfl) (g_tuple S X0 G) rfl (pda_cons (pd_var 2) pda_nil)))
 (pdss_one (pds_slot (sl_Bound_limit S) (pd_var 0) (pd_var 3)))))))) : PDSs c (defBody (inC 27 1)) (r_Bound_init ))
theorem new_Bound {w : World} {K : PySem.W.Frag} {mg : Str → Option Value} {base : Heap} (S : DH.SaysH P hd K) (X0 : K.In base) (G : base.Ns mainGlobals mg) : NewF P w K mg base (cad cs K) 26 "Bound" 4 ["self", "table", "given", "limit"] sp_Bound_init := by
  obtain ⟨fd, F⟩ := DH.fun_dA (S.def_ 3 rfl)
  exact ⟨⟨_, fd, fn_Bound_init S X0 G F, mk_Bound S, bn_Bound_init F⟩, g_Bound S X0 G⟩
theorem sc_Bound_single : FnScope ["cls", "table", "given"] ["cls", "table", "given"] (defScope (inC 27 2)) := ⟨rfl, rfl, rfl, by decide +kernel, rfl, by decide +kernel, by decide +kernel⟩
theorem bn_Bound_single {K : PySem.W.Frag} {fd : FuncData} (F : Fun K "single" "Bound.single" (inC 27 2) (He5.wf K (He.ga K "Bound") "classmethod" "single") fd) : Binds K fd ["cls", "table", "given"] [] := F.binds fun _ _ _ _ _ _ us hl => match us, hl with | [_, _, _], _ => rfl
theorem fn_Bound_single {w : World} {K : PySem.W.Frag} {mg : Str → Option Value} {base : Heap} (S : DH.SaysH P hd K) (X0 : K.In base) (G : base.Ns mainGlobals mg) {fd : FuncData} (F : Fun K "single" "Bound.single" (inC 27 2) (He5.wf K (He.ga K "Bound") "classmethod" "single") fd) : FnOk P w K mg base (L2.CX P w) 6 (He5.wf K (He.ga K "Bound") "classmethod" "single") fd ["cls", "table", "given"] (toSp (cad cs K) (sp_Bound_single (cad cs K))) := by
  refine fnD (body := r_Bound_single (cad cs K)) F sc_Bound_single (fun ds M Q E h => len_Bound_single h) (fun cdv A outer s H E hr c => ?_) (fun ds M Q E h => red_Bound_single h)
  exact ((pdss_one (pds_ret (pd_makeL true true (new_Bound S X0 G) (hr.mono (by decide)) (i := 0) (by rfl) (by first | exact Or.inl rfl | exact Or.inr (Or.inl rfl) | exact Or.inr (Or.inr rfl)) (pda_cons (pd_var 1) (pda_cons (pd_var 2) (pda_cons pd_int pda_nil)))))) : PDSs c (defBody (inC 27 2)) (r_Bound_single (cad cs K)))
theorem cm_Bound_single {w : World} {K : PySem.W.Frag} {mg : Str → Option Value} {base : Heap} (S : DH.SaysH P hd K) (X0 : K.In base) (G : base.Ns mainGlobals mg) : CMetF P w K mg base (cad cs K) 26 "single" 6 (sp_Bound_single (cad cs K)) := by
  obtain ⟨fd, F⟩ := DH.fun_dA (S.def_ 4 rfl)
  exact ⟨⟨_, _, _, fnA_of (fn_Bound_single S X0 G F) (bn_Bound_single F), (cmf_Bound_single S).1, (cmf_Bound_single S).2⟩⟩
theorem sc_Bound_door : FnScope ["self"] ["self"] (defScope (inC 27 4)) := ⟨rfl, rfl, rfl, by decide +kernel, rfl, by decide +kernel, by decide +kernel⟩
theorem bn_Bound_door {K : PySem.W.Frag} {fd : FuncData} (F : Fun K "door" "Bound.door" (inC 27 4) (He5.wf K (He.ga K "Bound") "property" "door") fd) : Binds K fd ["self"] [] := F.binds fun _ _ _ _ _ _ us hl => match us, hl with | [_], _ => rfl
theorem fn_Bound_door {w : World} {K : PySem.W.Frag} {mg : Str → Option Value} {base : Heap} (S : DH.SaysH P hd K) (X0 : K.In base) (G : base.Ns mainGlobals mg) {fd : FuncData} (F : Fun K "door" "Bound.door" (inC 27 4) (He5.wf K (He.ga K "Bound") "property" "door") fd) : FnOk P w K mg base (L2.CX P w) 2 (He5.wf K (He.ga K "Bound") "property" "door") fd ["self"] (toSp (cad cs K) sp_Bound_door) := by
  refine fnD (body := r_Bound_door ) F sc_Bound_door (fun ds M Q E h => len_Bound_door h) (fun cdv A outer s H E hr c => ?_) (fun ds M Q E h => red_Bound_door h)
  exact ((pdss_one (pds_ret (pd_tup (pda_cons (pd_slot (sl_Bound_table S) (pd_var 0)) (pda_cons (pd_slot (sl_Bound_given S) (pd_var 0)) pda_nil))))) : PDSs c (defBody (inC 27 4)) (r_Bound_door ))
theorem prop_Bound_door {w : World} {K : PySem.W.Frag} {mg : Str → Option Value} {base : Heap} (S : DH.SaysH P hd K) (X0 : K.In base) (G : base.Ns mainGlobals mg) : PropF P w K mg base (cad cs K) 26 "door" 2 sp_Bound_door := by
  obtain ⟨fd, F⟩ := DH.fun_dA (S.def_ 5 rfl)
  obtain ⟨p1, p2, p3, p4, p5, p6⟩ := prf_Bound_door S
  exact ⟨⟨_, _, fnA_of (fn_Bound_door S X0 G F) (bn_Bound_door F), p1, p2, p3, p4, p5, p6⟩⟩
theorem sc__law_draws : FnScope ["script"] ["script"] (defScope (top 29)) := ⟨rfl, rfl, rfl, by decide +kernel, rfl, by decide +kernel, by decide +kernel⟩
theorem bn__law_draws {K : PySem.W.Frag} {fd : FuncData} (F : Fun K "_law_draws" "_law_draws" (top 29) (He.ga K "_law_draws") fd) : Binds K fd ["script"] [] := F.binds fun _ _ _ _ _ _ us hl => match us, hl with | [_], _ => rfl
theorem fn__law_draws {w : World} {K : PySem.W.Frag} {mg : Str → Option Value} {base : Heap} (S : DH.SaysH P hd K) (X0 : K.In base) (G : base.Ns mainGlobals mg) {fd : FuncData} (F : Fun K "_law_draws" "_law_draws" (top 29) (He.ga K "_law_draws") fd) : FnOk P w K mg base (L2.CX P w) 2 (He.ga K "_law_draws") fd ["script"] (toSp (cad cs K) sp__law_draws) := by
  refine fnD (body := r__law_draws ) F sc__law_draws (fun ds M Q E h => len__law_draws h) (fun cdv A outer s H E hr c => ?_) (fun ds M Q E h => red__law_draws h)
  exact ((pdss_one (pds_ret (pd_lstM (pda_cons (pd_ty cd_list (by rfl) (g_list S X0 G) rfl (pda_cons (pd_var 0) pda_nil)) (pda_cons pd_int (pda_cons pd_int (pda_cons pd_int pda_nil))))))) : PDSs c (defBody (top 29)) (r__law_draws ))
theorem cal__law_draws {w : World} {K : PySem.W.Frag} {mg : Str → Option Value} {base : Heap} (S : DH.SaysH P hd K) (X0 : K.In base) (G : base.Ns mainGlobals mg) : Cal P w K mg base (cad cs K) "_law_draws" 2 ["script"] sp__law_draws := by
  obtain ⟨fd, F⟩ := DH.fun_dA (S.def_ 6 rfl)
  exact ⟨_, fd, fn__law_draws S X0 G F, g__law_draws S X0 G, F.kp, bn__law_draws F⟩
theorem sc__law_mixed : FnScope ["cell", "turn", "number"] ["cell", "turn"] (defScope (top 30)) := ⟨rfl, rfl, rfl, by decide +kernel, rfl, by decide +kernel, by decide +kernel⟩
theorem bn__law_mixed {K : PySem.W.Frag} {fd : FuncData} (F : Fun K "_law_mixed" "_law_mixed" (top 30) (He.ga K "_law_mixed") fd) : Binds K fd ["cell", "turn"] [] := F.binds fun _ _ _ _ _ _ us hl => match us, hl with | [_, _], _ => rfl
theorem fn__law_mixed {w : World} {K : PySem.W.Frag} {mg : Str → Option Value} {base : Heap} (S : DH.SaysH P hd K) (X0 : K.In base) (G : base.Ns mainGlobals mg) {fd : FuncData} (F : Fun K "_law_mixed" "_law_mixed" (top 30) (He.ga K "_law_mixed") fd) : FnOk P w K mg base (L2.CX P w) 2 (He.ga K "_law_mixed") fd ["cell", "turn"] (toSp (cad cs K) sp__law_mixed) := by
  refine fnD (body := r__law_mixed ) F sc__law_mixed (fun ds M Q E h => len__law_mixed h) (fun cdv A outer s H E hr c => ?_) (fun ds M Q E h => red__law_mixed h)
  exact ((pdss_cons (pds_set (i := 2) sc__law_mixed.nd (by rfl) (by first | exact Or.inl rfl | exact Or.inr rfl) (pd_op opd_mod (pd_ty cd_int (by rfl) (g_int S X0 G) rfl (pda_cons (pd_op opd_add (pd_op opd_add (pd_op opd_mul (pd_ty cd_int (by rfl) (g_int S X0 G) rfl (pda_cons (pd_var 0) pda_nil)) pd_int) (pd_op opd_mul (pd_var 1) pd_int)) pd_int) pda_nil)) pd_int))
 (pdss_one (pds_ret (pd_op opd_mod (pd_ty cd_int (by rfl) (g_int S X0 G) rfl (pda_cons (pd_op opd_add (pd_op opd_add (pd_op opd_mul (pd_var 2) pd_int) (pd_op opd_mul (pd_var 1) pd_int)) pd_int) pda_nil)) pd_int)))) : PDSs c (defBody (top 30)) (r__law_mixed ))
theorem cal__law_mixed {w : World} {K : PySem.W.Frag} {mg : Str → Option Value} {base : Heap} (S : DH.SaysH P hd K) (X0 : K.In base) (G : base.Ns mainGlobals mg) : Cal P w K mg base (cad cs K) "_law_mixed" 2 ["cell", "turn"] sp__law_mixed := by
  obtain ⟨fd, F⟩ := DH.fun_dA (S.def_ 7 rfl)
  exact ⟨_, fd, fn__law_mixed S X0 G F, g__law_mixed S X0 G, F.kp, bn__law_mixed F⟩
theorem sc__law_draw : FnScope ["draws", "many", "left", "cells", "cell", "turn"] ["draws", "many"] (defScope (top 31)) := ⟨rfl, rfl, rfl, by decide +kernel, rfl, by decide +kernel, by decide +kernel⟩
theorem bn__law_draw {K : PySem.W.Frag} {fd : FuncData} (F : Fun K "_law_draw" "_law_draw" (top 31) (He.ga K "_law_draw") fd) : Binds K fd ["draws", "many"] [] := F.binds fun _ _ _ _ _ _ us hl => match us, hl with | [_, _], _ => rfl
theorem fn__law_draw {w : World} {K : PySem.W.Frag} {mg : Str → Option Value} {base : Heap} (S : DH.SaysH P hd K) (X0 : K.In base) (G : base.Ns mainGlobals mg) {fd : FuncData} (F : Fun K "_law_draw" "_law_draw" (top 31) (He.ga K "_law_draw") fd) : FnOk P w K mg base (L2.CX P w) 3 (He.ga K "_law_draw") fd ["draws", "many"] (toSp (cad cs K) sp__law_draw) := by
  refine fnD (body := r__law_draw ) F sc__law_draw (fun ds M Q E h => len__law_draw h) (fun cdv A outer s H E hr c => ?_) (fun ds M Q E h => red__law_draw h)
  exact ((pdss_cons (pds_if (pdt_cmp opd_lt (pd_var 1) pd_int) (pdss_one (pds_ret pd_int)) pdss_nil)
 (pdss_cons (pds_if (pdt_cmp opd_gt (pd_ix (pd_var 0) pd_int) pd_int) (pdss_cons (pds_set (i := 2) sc__law_draw.nd (by rfl) (by first | exact Or.inl rfl | exact Or.inr rfl) (pd_ix (pd_var 0) pd_int))
 (pdss_cons (pds_setIx (pd_var 0) pd_int (pd_op opd_fdiv (pd_var 2) (pd_var 1)) (by intro _; rfl))
 (pdss_one (pds_ret (pd_op opd_mod (pd_ty cd_int (by rfl) (g_int S X0 G) rfl (pda_cons (pd_var 2) pda_nil)) (pd_var 1)))))) pdss_nil)
 (pdss_cons (pds_set (i := 3) sc__law_draw.nd (by rfl) (by first | exact Or.inl rfl | exact Or.inr rfl) (pd_ix (pd_var 0) pd_int))
 (pdss_cons (pds_if (pdt_cmp opd_ge (pd_ix (pd_var 0) pd_int) (pd_blt cd_len (by rfl) (g_len S X0 G) rfl (pda_cons (pd_var 3) pda_nil))) (pdss_one (pds_ret pd_int)) pdss_nil)
 (pdss_cons (pds_set (i := 4) sc__law_draw.nd (by rfl) (by first | exact Or.inl rfl | exact Or.inr rfl) (pd_ix (pd_var 3) (pd_ix (pd_var 0) pd_int)))
 (pdss_cons (pds_if (pdt_cmp opd_ge (pd_var 4) (pd_op opd_pow pd_int pd_int)) (pdss_cons (pds_setIx (pd_var 0) pd_int (pd_op opd_add (pd_ix (pd_var 0) pd_int) pd_int) (by intro _; rfl))
 (pdss_cons (pds_setIx (pd_var 0) pd_int (pd_op opd_fdiv (pd_var 4) (pd_var 1)) (by intro _; rfl))
 (pdss_one (pds_ret (pd_op opd_mod (pd_ty cd_int (by rfl) (g_int S X0 G) rfl (pda_cons (pd_var 4) pda_nil)) (pd_var 1)))))) pdss_nil)
 (pdss_cons (pds_set (i := 5) sc__law_draw.nd (by rfl) (by first | exact Or.inl rfl | exact Or.inr rfl) (pd_ix (pd_var 0) pd_int))
 (pdss_cons (pds_setIx (pd_var 0) pd_int (pd_op opd_add (pd_var 5) pd_int) (by intro _; rfl))
 (pdss_cons (pds_if (pdt_cmp opd_eqS (pd_var 5) pd_int) (pdss_cons (pds_setIx (pd_var 0) pd_int (pd_op opd_add (pd_ix (pd_var 0) pd_int) pd_int) (by intro _; rfl))
 (pdss_one (pds_setIx (pd_var 0) pd_int pd_int (by intro _; rfl)))) pdss_nil)
 (pdss_one (pds_ret (pd_op opd_mod (pd_ty cd_int (by rfl) (g_int S X0 G) rfl (pda_cons (pd_call (cal__law_mixed S X0 G) (hr.mono (by decide)) (by rfl) (pda_cons (pd_var 4) (pda_cons (pd_var 5) pda_nil))) pda_nil)) (pd_var 1))))))))))))) : PDSs c (defBody (top 31)) (r__law_draw ))
theorem cal__law_draw {w : World} {K : PySem.W.Frag} {mg : Str → Option Value} {base : Heap} (S : DH.SaysH P hd K) (X0 : K.In base) (G : base.Ns mainGlobals mg) : Cal P w K mg base (cad cs K) "_law_draw" 3 ["draws", "many"] sp__law_draw := by
  obtain ⟨fd, F⟩ := DH.fun_dA (S.def_ 8 rfl)
  exact ⟨_, fd, fn__law_draw S X0 G F, g__law_draw S X0 G, F.kp, bn__law_draw F⟩
theorem sc__law_name : FnScope ["draws", "taken", "letters", "signs", "many", "name", "k", "found"] ["draws", "taken"] (defScope (top 32)) := ⟨rfl, rfl, rfl, by decide +kernel, rfl, by decide +kernel, by decide +kernel⟩
theorem bn__law_name {K : PySem.W.Frag} {fd : FuncData} (F : Fun K "_law_name" "_law_name" (top 32) (He.ga K "_law_name") fd) : Binds K fd ["draws", "taken"] [] := F.binds fun _ _ _ _ _ _ us hl => match us, hl with | [_, _], _ => rfl
theorem fn__law_name {w : World} {K : PySem.W.Frag} {mg : Str → Option Value} {base : Heap} (S : DH.SaysH P hd K) (X0 : K.In base) (G : base.Ns mainGlobals mg) {fd : FuncData} (F : Fun K "_law_name" "_law_name" (top 32) (He.ga K "_law_name") fd) : FnOk P w K mg base (L2.CX P w) 4 (He.ga K "_law_name") fd ["draws", "taken"] (toSp (cad cs K) sp__law_name) := by
  refine fnD (body := r__law_name ) F sc__law_name (fun ds M Q E h => len__law_name h) (fun cdv A outer s H E hr c => ?_) (fun ds M Q E h => red__law_name h)
  exact ((pdss_cons (pds_set (i := 2) sc__law_name.nd (by rfl) (by first | exact Or.inl rfl | exact Or.inr rfl) pd_str)
 (pdss_cons (pds_set (i := 3) sc__law_name.nd (by rfl) (by first | exact Or.inl rfl | exact Or.inr rfl) (pd_op opd_add (pd_var 2) pd_str))
 (pdss_cons (pds_set (i := 4) sc__law_name.nd (by rfl) (by first | exact Or.inl rfl | exact Or.inr rfl) (pd_call (cal__law_draw S X0 G) (hr.mono (by decide)) (by rfl) (pda_cons (pd_var 0) (pda_cons pd_int pda_nil))))
 (pdss_cons (pds_if (pdt_cmp opd_eqS (pd_var 4) pd_int) (pdss_one (pds_set (i := 4) sc__law_name.nd (by rfl) (by first | exact Or.inl rfl | exact Or.inr rfl) pd_int)) pdss_nil)
 (pdss_cons (pds_set (i := 5) sc__law_name.nd (by rfl) (by first | exact Or.inl rfl | exact Or.inr rfl) (pd_ix (pd_var 2) (pd_call (cal__law_draw S X0 G) (hr.mono (by decide)) (by rfl) (pda_cons (pd_var 0) (pda_cons pd_int pda_nil)))))
 (pdss_cons (pds_for (passes_of (by rfl)) (by rfl) (pdi_rng1 (by rfl) (g_range S X0 G) (pda_cons (pd_var 4) pda_nil)) (pdg_name (i := 6) sc__law_name.nd (by rfl) (by first | exact Or.inl rfl | exact Or.inr rfl)) (pdss_one (pds_set (i := 5) sc__law_name.nd (by rfl) (by first | exact Or.inl rfl | exact Or.inr rfl) (pd_op opd_add (pd_var 5) (pd_ix (pd_var 3) (pd_call (cal__law_draw S X0 G) (hr.mono (by decide)) (by rfl) (pda_cons (pd_var 0) (pda_cons pd_int pda_nil))))))))
 (pdss_cons (pds_set (i := 7) sc__law_name.nd (by rfl) (by first | exact Or.inl rfl | exact Or.inr rfl) (pd_var 5))
 (pdss_cons (pds_for (passes_of (by rfl)) (by rfl) (pdi_rng1 (by rfl) (g_range S X0 G) (pda_cons pd_int pda_nil)) (pdg_name (i := 6) sc__law_name.nd (by rfl) (by first | exact Or.inl rfl | exact Or.inr rfl)) (pdss_one (pds_if (pdt_cmp opd_in (pd_var 7) (pd_var 1)) (pdss_one (pds_set (i := 7) sc__law_name.nd (by rfl) (by first | exact Or.inl rfl | exact Or.inr rfl) (pd_op opd_add (pd_var 5) (pd_ty cd_strI (by rfl) (g_str S X0 G) rfl (pda_cons (pd_var 6) pda_nil))))) pdss_nil)))
 (pdss_one (pds_ret (pd_var 7))))))))))) : PDSs c (defBody (top 32)) (r__law_name ))
theorem cal__law_name {w : World} {K : PySem.W.Frag} {mg : Str → Option Value} {base : Heap} (S : DH.SaysH P hd K) (X0 : K.In base) (G : base.Ns mainGlobals mg) : Cal P w K mg base (cad cs K) "_law_name" 4 ["draws", "taken"] sp__law_name := by
  obtain ⟨fd, F⟩ := DH.fun_dA (S.def_ 9 rfl)
  exact ⟨_, fd, fn__law_name S X0 G F, g__law_name S X0 G, F.kp, bn__law_name F⟩
theorem sc__law_given : FnScope ["code", "width", "column"] ["code", "width"] (defScope (top 33)) := ⟨rfl, rfl, rfl, by decide +kernel, rfl, by decide +kernel, by decide +kernel⟩
theorem bn__law_given {K : PySem.W.Frag} {fd : FuncData} (F : Fun K "_law_given" "_law_given" (top 33) (He.ga K "_law_given") fd) : Binds K fd ["code", "width"] [] := F.binds fun _ _ _ _ _ _ us hl => match us, hl with | [_, _], _ => rfl
theorem fn__law_given {w : World} {K : PySem.W.Frag} {mg : Str → Option Value} {base : Heap} (S : DH.SaysH P hd K) (X0 : K.In base) (G : base.Ns mainGlobals mg) {fd : FuncData} (F : Fun K "_law_given" "_law_given" (top 33) (He.ga K "_law_given") fd) : FnOk P w K mg base (L2.CX P w) 2 (He.ga K "_law_given") fd ["code", "width"] (toSp (cad cs K) sp__law_given) := by
  refine fnD (body := r__law_given ) F sc__law_given (fun ds M Q E h => len__law_given h) (fun cdv A outer s H E hr c => ?_) (fun ds M Q E h => red__law_given h)
  exact ((pdss_one (pds_ret (pd_ty cd_tup (by rfl) (g_tuple S X0 G) rfl (pda_cons (pd_lc (by rfl) sc__law_given.nd (pdi_rng1 (by rfl) (g_range S X0 G) (pda_cons (pd_var 1) pda_nil)) (blkB_ok (own := [("column", 2)]) (by rfl)) (own_name (by decide)) (fun _ _ _ _ _ => (pg_name (i := 2) sc__law_given.nd (by rfl) (by first | exact Or.inl rfl | exact Or.inr rfl))) (fun _ _ _ _ _ => (pdts_one (pdt_cmp opd_eqS (pd_op opd_mod (pd_ty cd_int (by rfl) (g_int S X0 G) rfl (pda_cons (pd_op opd_fdiv (pd_var 0) (pd_ix (pd_lst (pda_cons pd_int (pda_cons pd_int (pda_cons pd_int (pda_cons pd_int pda_nil))))) (pd_var 2))) pda_nil)) pd_int) pd_int))) (fun _ _ _ _ _ => (pd_var 2))) pda_nil)))) : PDSs c (defBody (top 33)) (r__law_given ))
theorem cal__law_given {w : World} {K : PySem.W.Frag} {mg : Str → Option Value} {base : Heap} (S : DH.SaysH P hd K) (X0 : K.In base) (G : base.Ns mainGlobals mg) : Cal P w K mg base (cad cs K) "_law_given" 2 ["code", "width"] sp__law_given := by
  obtain ⟨fd, F⟩ := DH.fun_dA (S.def_ 10 rfl)
  exact ⟨_, fd, fn__law_given S X0 G F, g__law_given S X0 G, F.kp, bn__law_given F⟩
theorem sc__law_same : FnScope ["actual", "expected", "k"] ["actual", "expected"] (defScope (top 34)) := ⟨rfl, rfl, rfl, by decide +kernel, rfl, by decide +kernel, by decide +kernel⟩
theorem bn__law_same {K : PySem.W.Frag} {fd : FuncData} (F : Fun K "_law_same" "_law_same" (top 34) (He.ga K "_law_same") fd) : Binds K fd ["actual", "expected"] [] := F.binds fun _ _ _ _ _ _ us hl => match us, hl with | [_, _], _ => rfl
theorem fnr__law_same {w : World} {K : PySem.W.Frag} {mg : Str → Option Value} {base : Heap} (S : DH.SaysH P hd K) (X0 : K.In base) (G : base.Ns mainGlobals mg) {fd : FuncData} (F : Fun K "_law_same" "_law_same" (top 34) (He.ga K "_law_same") fd) : ∀ n : Nat, FnOk P w K mg base (L2.CX P w) (n + 2) (He.ga K "_law_same") fd ["actual", "expected"] (toSp (cad cs K) (sp_same n))
  | 0 => by
    have IH : Cal P w K mg base (cad cs K) "_law_same" 0 ["actual", "expected"] (fun _ _ _ _ => False) := ⟨_, fd, fn_no, g__law_same S X0 G, F.kp, bn__law_same F⟩
    refine fnD (body := r__law_same fun _ _ _ _ => False) F sc__law_same (fun ds M Q E h => len__law_same h) (fun cdv A outer s H E hr c => ?_) (fun ds M Q E h => red__law_same_0 h)
    exact ((pdss_cons (pds_if (pdt_cmp opd_isN (pd_var 1) pd_non) (pdss_one (pds_ret (pd_cmp opd_isN (pd_var 0) pd_non))) pdss_nil)
 (pdss_cons (pds_if (pdt_cmp opd_isB (pd_var 1) pd_bl) (pdss_one (pds_ret (pd_cmp opd_isB (pd_var 0) pd_bl))) pdss_nil)
 (pdss_cons (pds_if (pdt_cmp opd_isB (pd_var 1) pd_bl) (pdss_one (pds_ret (pd_cmp opd_isB (pd_var 0) pd_bl))) pdss_nil)
 (pdss_cons (pds_if (pdt_val (pd_isi (isa := isa) (.b .int) (T_isa S) (by rfl) (g_isinstance S X0 G) (pd_var 1) (pe_cty .int (by rfl) (g_int S X0 G) rfl))) (pdss_one (pds_ret (pd_and (pd_isi (isa := isa) (.b .int) (T_isa S) (by rfl) (g_isinstance S X0 G) (pd_var 0) (pe_cty .int (by rfl) (g_int S X0 G) rfl)) (pd_and (pd_not (pd_isi (isa := isa) (.b .bl) (T_isa S) (by rfl) (g_isinstance S X0 G) (pd_var 0) (pe_cty .bl (by rfl) (g_bool S X0 G) rfl))) (pd_one (pd_cmp opd_eqS (pd_var 0) (pd_var 1))))))) pdss_nil)
 (pdss_cons (pds_if (pdt_val (pd_isi (isa := isa) (.b .str) (T_isa S) (by rfl) (g_isinstance S X0 G) (pd_var 1) (pe_cty .str (by rfl) (g_str S X0 G) rfl))) (pdss_one (pds_ret (pd_and (pd_isi (isa := isa) (.b .str) (T_isa S) (by rfl) (g_isinstance S X0 G) (pd_var 0) (pe_cty .str (by rfl) (g_str S X0 G) rfl)) (pd_one (pd_cmp opd_eqS (pd_var 0) (pd_var 1)))))) pdss_nil)
 (pdss_cons (pds_if (pdw_and (pdt_val (pd_isi (isa := isa) (.b .tup) (T_isa S) (by rfl) (g_isinstance S X0 G) (pd_var 1) (pe_cty .tup (by rfl) (g_tuple S X0 G) rfl))) (pdw_and1 (pdt_not (pdt_val (pd_isi (isa := isa) (.b .tup) (T_isa S) (by rfl) (g_isinstance S X0 G) (pd_var 0) (pe_cty .tup (by rfl) (g_tuple S X0 G) rfl)))))).pt (pdss_one (pds_ret pd_bl)) pdss_nil)
 (pdss_cons (pds_if (pdw_and (pdt_val (pd_isi (isa := isa) (.b .lst) (T_isa S) (by rfl) (g_isinstance S X0 G) (pd_var 1) (pe_cty .lst (by rfl) (g_list S X0 G) rfl))) (pdw_and1 (pdt_not (pdt_val (pd_isi (isa := isa) (.b .lst) (T_isa S) (by rfl) (g_isinstance S X0 G) (pd_var 0) (pe_cty .lst (by rfl) (g_list S X0 G) rfl)))))).pt (pdss_one (pds_ret pd_bl)) pdss_nil)
 (pdss_cons (pds_if (pdt_cmp opd_neS (pd_blt cd_len (by rfl) (g_len S X0 G) rfl (pda_cons (pd_var 0) pda_nil)) (pd_blt cd_len (by rfl) (g_len S X0 G) rfl (pda_cons (pd_var 1) pda_nil))) (pdss_one (pds_ret pd_bl)) pdss_nil)
 (pdss_cons (pds_for (passes_of (by rfl)) (by rfl) (pdi_rng1 (by rfl) (g_range S X0 G) (pda_cons (pd_blt cd_len (by rfl) (g_len S X0 G) rfl (pda_cons (pd_var 1) pda_nil)) pda_nil)) (pdg_name (i := 2) sc__law_same.nd (by rfl) (by first | exact Or.inl rfl | exact Or.inr rfl)) (pdss_one (pds_if (pdt_not (pdt_val (pd_call IH (hr.mono (by omega)) (by rfl) (pda_cons (pd_ix (pd_var 0) (pd_var 2)) (pda_cons (pd_ix (pd_var 1) (pd_var 2)) pda_nil))))) (pdss_one (pds_ret pd_bl)) pdss_nil)))
 (pdss_one (pds_ret pd_bl))))))))))) : PDSs c (defBody (top 34)) (r__law_same fun _ _ _ _ => False))
  | n + 1 => by
    have IH : Cal P w K mg base (cad cs K) "_law_same" (n + 2) ["actual", "expected"] (sp_same n) := ⟨_, fd, fnr__law_same S X0 G F n, g__law_same S X0 G, F.kp, bn__law_same F⟩
    refine fnD (body := r__law_same (sp_same n)) F sc__law_same (fun ds M Q E h => len__law_same h) (fun cdv A outer s H E hr c => ?_) (fun ds M Q E h => red__law_same h)
    exact ((pdss_cons (pds_if (pdt_cmp opd_isN (pd_var 1) pd_non) (pdss_one (pds_ret (pd_cmp opd_isN (pd_var 0) pd_non))) pdss_nil)
 (pdss_cons (pds_if (pdt_cmp opd_isB (pd_var 1) pd_bl) (pdss_one (pds_ret (pd_cmp opd_isB (pd_var 0) pd_bl))) pdss_nil)
 (pdss_cons (pds_if (pdt_cmp opd_isB (pd_var 1) pd_bl) (pdss_one (pds_ret (pd_cmp opd_isB (pd_var 0) pd_bl))) pdss_nil)
 (pdss_cons (pds_if (pdt_val (pd_isi (isa := isa) (.b .int) (T_isa S) (by rfl) (g_isinstance S X0 G) (pd_var 1) (pe_cty .int (by rfl) (g_int S X0 G) rfl))) (pdss_one (pds_ret (pd_and (pd_isi (isa := isa) (.b .int) (T_isa S) (by rfl) (g_isinstance S X0 G) (pd_var 0) (pe_cty .int (by rfl) (g_int S X0 G) rfl)) (pd_and (pd_not (pd_isi (isa := isa) (.b .bl) (T_isa S) (by rfl) (g_isinstance S X0 G) (pd_var 0) (pe_cty .bl (by rfl) (g_bool S X0 G) rfl))) (pd_one (pd_cmp opd_eqS (pd_var 0) (pd_var 1))))))) pdss_nil)
 (pdss_cons (pds_if (pdt_val (pd_isi (isa := isa) (.b .str) (T_isa S) (by rfl) (g_isinstance S X0 G) (pd_var 1) (pe_cty .str (by rfl) (g_str S X0 G) rfl))) (pdss_one (pds_ret (pd_and (pd_isi (isa := isa) (.b .str) (T_isa S) (by rfl) (g_isinstance S X0 G) (pd_var 0) (pe_cty .str (by rfl) (g_str S X0 G) rfl)) (pd_one (pd_cmp opd_eqS (pd_var 0) (pd_var 1)))))) pdss_nil)
 (pdss_cons (pds_if (pdw_and (pdt_val (pd_isi (isa := isa) (.b .tup) (T_isa S) (by rfl) (g_isinstance S X0 G) (pd_var 1) (pe_cty .tup (by rfl) (g_tuple S X0 G) rfl))) (pdw_and1 (pdt_not (pdt_val (pd_isi (isa := isa) (.b .tup) (T_isa S) (by rfl) (g_isinstance S X0 G) (pd_var 0) (pe_cty .tup (by rfl) (g_tuple S X0 G) rfl)))))).pt (pdss_one (pds_ret pd_bl)) pdss_nil)
 (pdss_cons (pds_if (pdw_and (pdt_val (pd_isi (isa := isa) (.b .lst) (T_isa S) (by rfl) (g_isinstance S X0 G) (pd_var 1) (pe_cty .lst (by rfl) (g_list S X0 G) rfl))) (pdw_and1 (pdt_not (pdt_val (pd_isi (isa := isa) (.b .lst) (T_isa S) (by rfl) (g_isinstance S X0 G) (pd_var 0) (pe_cty .lst (by rfl) (g_list S X0 G) rfl)))))).pt (pdss_one (pds_ret pd_bl)) pdss_nil)
 (pdss_cons (pds_if (pdt_cmp opd_neS (pd_blt cd_len (by rfl) (g_len S X0 G) rfl (pda_cons (pd_var 0) pda_nil)) (pd_blt cd_len (by rfl) (g_len S X0 G) rfl (pda_cons (pd_var 1) pda_nil))) (pdss_one (pds_ret pd_bl)) pdss_nil)
 (pdss_cons (pds_for (passes_of (by rfl)) (by rfl) (pdi_rng1 (by rfl) (g_range S X0 G) (pda_cons (pd_blt cd_len (by rfl) (g_len S X0 G) rfl (pda_cons (pd_var 1) pda_nil)) pda_nil)) (pdg_name (i := 2) sc__law_same.nd (by rfl) (by first | exact Or.inl rfl | exact Or.inr rfl)) (pdss_one (pds_if (pdt_not (pdt_val (pd_call IH (hr.mono (by omega)) (by rfl) (pda_cons (pd_ix (pd_var 0) (pd_var 2)) (pda_cons (pd_ix (pd_var 1) (pd_var 2)) pda_nil))))) (pdss_one (pds_ret pd_bl)) pdss_nil)))
 (pdss_one (pds_ret pd_bl))))))))))) : PDSs c (defBody (top 34)) (r__law_same (sp_same n)))
theorem fn__law_same {w : World} {K : PySem.W.Frag} {mg : Str → Option Value} {base : Heap} (S : DH.SaysH P hd K) (X0 : K.In base) (G : base.Ns mainGlobals mg) {fd : FuncData} (F : Fun K "_law_same" "_law_same" (top 34) (He.ga K "_law_same") fd) : FnOk P w K mg base (L2.CX P w) 8 (He.ga K "_law_same") fd ["actual", "expected"] (toSp (cad cs K) sp__law_same) := (fnr__law_same S X0 G F 6)
theorem cal__law_same {w : World} {K : PySem.W.Frag} {mg : Str → Option Value} {base : Heap} (S : DH.SaysH P hd K) (X0 : K.In base) (G : base.Ns mainGlobals mg) : Cal P w K mg base (cad cs K) "_law_same" 8 ["actual", "expected"] sp__law_same := by
  obtain ⟨fd, F⟩ := DH.fun_dA (S.def_ 11 rfl)
  exact ⟨_, fd, fn__law_same S X0 G F, g__law_same S X0 G, F.kp, bn__law_same F⟩
theorem sc__law_raw : FnScope ["script", "k"] ["script", "k"] (defScope (top 35)) := ⟨rfl, rfl, rfl, by decide +kernel, rfl, by decide +kernel, by decide +kernel⟩
theorem bn__law_raw {K : PySem.W.Frag} {fd : FuncData} (F : Fun K "_law_raw" "_law_raw" (top 35) (He.ga K "_law_raw") fd) : Binds K fd ["script", "k"] [] := F.binds fun _ _ _ _ _ _ us hl => match us, hl with | [_, _], _ => rfl
theorem fn__law_raw {w : World} {K : PySem.W.Frag} {mg : Str → Option Value} {base : Heap} (S : DH.SaysH P hd K) (X0 : K.In base) (G : base.Ns mainGlobals mg) {fd : FuncData} (F : Fun K "_law_raw" "_law_raw" (top 35) (He.ga K "_law_raw") fd) : FnOk P w K mg base (L2.CX P w) 2 (He.ga K "_law_raw") fd ["script", "k"] (toSp (cad cs K) sp__law_raw) := by
  refine fnD (body := r__law_raw ) F sc__law_raw (fun ds M Q E h => len__law_raw h) (fun cdv A outer s H E hr c => ?_) (fun ds M Q E h => red__law_raw h)
  exact ((pdss_cons (pds_if (pdt_cmp opd_lt (pd_var 1) (pd_blt cd_len (by rfl) (g_len S X0 G) rfl (pda_cons (pd_var 0) pda_nil))) (pdss_one (pds_ret (pd_ix (pd_var 0) (pd_op opd_sub (pd_op opd_sub (pd_blt cd_len (by rfl) (g_len S X0 G) rfl (pda_cons (pd_var 0) pda_nil)) pd_int) (pd_var 1))))) pdss_nil)
 (pdss_one (pds_ret pd_int))) : PDSs c (defBody (top 35)) (r__law_raw ))
theorem cal__law_raw {w : World} {K : PySem.W.Frag} {mg : Str → Option Value} {base : Heap} (S : DH.SaysH P hd K) (X0 : K.In base) (G : base.Ns mainGlobals mg) : Cal P w K mg base (cad cs K) "_law_raw" 2 ["script", "k"] sp__law_raw := by
  obtain ⟨fd, F⟩ := DH.fun_dA (S.def_ 12 rfl)
  exact ⟨_, fd, fn__law_raw S X0 G F, g__law_raw S X0 G, F.kp, bn__law_raw F⟩
theorem sc__law_cut : FnScope ["number"] ["number"] (defScope (top 36)) := ⟨rfl, rfl, rfl, by decide +kernel, rfl, by decide +kernel, by decide +kernel⟩
theorem bn__law_cut {K : PySem.W.Frag} {fd : FuncData} (F : Fun K "_law_cut" "_law_cut" (top 36) (He.ga K "_law_cut") fd) : Binds K fd ["number"] [] := F.binds fun _ _ _ _ _ _ us hl => match us, hl with | [_], _ => rfl
theorem fn__law_cut {w : World} {K : PySem.W.Frag} {mg : Str → Option Value} {base : Heap} (S : DH.SaysH P hd K) (X0 : K.In base) (G : base.Ns mainGlobals mg) {fd : FuncData} (F : Fun K "_law_cut" "_law_cut" (top 36) (He.ga K "_law_cut") fd) : FnOk P w K mg base (L2.CX P w) 2 (He.ga K "_law_cut") fd ["number"] (toSp (cad cs K) sp__law_cut) := by
  refine fnD (body := r__law_cut ) F sc__law_cut (fun ds M Q E h => len__law_cut h) (fun cdv A outer s H E hr c => ?_) (fun ds M Q E h => red__law_cut h)
  exact ((pdss_cons (pds_if (pdt_cmp opd_lt (pd_var 0) pd_int) (pdss_one (pds_ret (pd_op opd_sub (pd_neg pd_int) (pd_op opd_mod (pd_ty cd_int (by rfl) (g_int S X0 G) rfl (pda_cons (pd_op opd_sub (pd_neg pd_int) (pd_var 0)) pda_nil)) (pd_op opd_pow pd_int pd_int))))) pdss_nil)
 (pdss_one (pds_ret (pd_op opd_mod (pd_ty cd_int (by rfl) (g_int S X0 G) rfl (pda_cons (pd_var 0) pda_nil)) (pd_op opd_pow pd_int pd_int))))) : PDSs c (defBody (top 36)) (r__law_cut ))
theorem cal__law_cut {w : World} {K : PySem.W.Frag} {mg : Str → Option Value} {base : Heap} (S : DH.SaysH P hd K) (X0 : K.In base) (G : base.Ns mainGlobals mg) : Cal P w K mg base (cad cs K) "_law_cut" 2 ["number"] sp__law_cut := by
  obtain ⟨fd, F⟩ := DH.fun_dA (S.def_ 13 rfl)
  exact ⟨_, fd, fn__law_cut S X0 G F, g__law_cut S X0 G, F.kp, bn__law_cut F⟩
theorem sc__law_named : FnScope ["text", "letters", "sign"] ["text"] (defScope (top 37)) := ⟨rfl, rfl, rfl, by decide +kernel, rfl, by decide +kernel, by decide +kernel⟩
theorem bn__law_named {K : PySem.W.Frag} {fd : FuncData} (F : Fun K "_law_named" "_law_named" (top 37) (He.ga K "_law_named") fd) : Binds K fd ["text"] [] := F.binds fun _ _ _ _ _ _ us hl => match us, hl with | [_], _ => rfl
theorem fn__law_named {w : World} {K : PySem.W.Frag} {mg : Str → Option Value} {base : Heap} (S : DH.SaysH P hd K) (X0 : K.In base) (G : base.Ns mainGlobals mg) {fd : FuncData} (F : Fun K "_law_named" "_law_named" (top 37) (He.ga K "_law_named") fd) : FnOk P w K mg base (L2.CX P w) 2 (He.ga K "_law_named") fd ["text"] (toSp (cad cs K) sp__law_named) := by
  refine fnD (body := r__law_named ) F sc__law_named (fun ds M Q E h => len__law_named h) (fun cdv A outer s H E hr c => ?_) (fun ds M Q E h => red__law_named h)
  exact ((pdss_cons (pds_set (i := 1) sc__law_named.nd (by rfl) (by first | exact Or.inl rfl | exact Or.inr rfl) pd_str)
 (pdss_cons (pds_if (pdw_or (pdt_cmp opd_lt (pd_blt cd_len (by rfl) (g_len S X0 G) rfl (pda_cons (pd_var 0) pda_nil)) pd_int) (pdw_or (pdt_cmp opd_gt (pd_blt cd_len (by rfl) (g_len S X0 G) rfl (pda_cons (pd_var 0) pda_nil)) pd_int) (pdw_or1 (pdt_cmp opd_notIn (pd_ix (pd_var 0) pd_int) (pd_var 1))))).pt (pdss_one (pds_ret pd_bl)) pdss_nil)
 (pdss_one (pds_ret (pd_cmp opd_eqS (pd_blt cd_len (by rfl) (g_len S X0 G) rfl (pda_cons (pd_lc (by rfl) sc__law_named.nd (pdi_str (pd_var 0)) (blkB_ok (own := [("sign", 2)]) (by rfl)) (own_name (by decide)) (fun _ _ _ _ _ => (pg_name (i := 2) sc__law_named.nd (by rfl) (by first | exact Or.inl rfl | exact Or.inr rfl))) (fun _ _ _ _ _ => (pdts_one (pdt_cmp opd_notIn (pd_var 2) (pd_op opd_add (pd_var 1) pd_str)))) (fun _ _ _ _ _ => (pd_var 2))) pda_nil)) pd_int))))) : PDSs c (defBody (top 37)) (r__law_named ))
theorem cal__law_named {w : World} {K : PySem.W.Frag} {mg : Str → Option Value} {base : Heap} (S : DH.SaysH P hd K) (X0 : K.In base) (G : base.Ns mainGlobals mg) : Cal P w K mg base (cad cs K) "_law_named" 2 ["text"] sp__law_named := by
  obtain ⟨fd, F⟩ := DH.fun_dA (S.def_ 14 rfl)
  exact ⟨_, fd, fn__law_named S X0 G F, g__law_named S X0 G, F.kp, bn__law_named F⟩
theorem sc__law_spoilt : FnScope ["draws", "name", "signs", "way", "place"] ["draws", "name"] (defScope (top 38)) := ⟨rfl, rfl, rfl, by decide +kernel, rfl, by decide +kernel, by decide +kernel⟩
theorem bn__law_spoilt {K : PySem.W.Frag} {fd : FuncData} (F : Fun K "_law_spoilt" "_law_spoilt" (top 38) (He.ga K "_law_spoilt") fd) : Binds K fd ["draws", "name"] [] := F.binds fun _ _ _ _ _ _ us hl => match us, hl with | [_, _], _ => rfl
theorem fn__law_spoilt {w : World} {K : PySem.W.Frag} {mg : Str → Option Value} {base : Heap} (S : DH.SaysH P hd K) (X0 : K.In base) (G : base.Ns mainGlobals mg) {fd : FuncData} (F : Fun K "_law_spoilt" "_law_spoilt" (top 38) (He.ga K "_law_spoilt") fd) : FnOk P w K mg base (L2.CX P w) 4 (He.ga K "_law_spoilt") fd ["draws", "name"] (toSp (cad cs K) sp__law_spoilt) := by
  refine fnD (body := r__law_spoilt ) F sc__law_spoilt (fun ds M Q E h => len__law_spoilt h) (fun cdv A outer s H E hr c => ?_) (fun ds M Q E h => red__law_spoilt h)
  exact ((pdss_cons (pds_set (i := 2) sc__law_spoilt.nd (by rfl) (by first | exact Or.inl rfl | exact Or.inr rfl) pd_str)
 (pdss_cons (pds_set (i := 3) sc__law_spoilt.nd (by rfl) (by first | exact Or.inl rfl | exact Or.inr rfl) (pd_call (cal__law_draw S X0 G) (hr.mono (by decide)) (by rfl) (pda_cons (pd_var 0) (pda_cons pd_int pda_nil))))
 (pdss_cons (pds_if (pdt_cmp opd_eqS (pd_var 3) pd_int) (pdss_one (pds_ret pd_str)) pdss_nil)
 (pdss_cons (pds_if (pdt_cmp opd_eqS (pd_var 3) pd_int) (pdss_one (pds_ret (pd_slice (pd_op opd_add (pd_var 1) pd_str) pdo_none (pdo_some pd_int)))) pdss_nil)
 (pdss_cons (pds_if (pdt_cmp opd_eqS (pd_var 3) pd_int) (pdss_one (pds_ret (pd_op opd_add (pd_ix pd_str (pd_call (cal__law_draw S X0 G) (hr.mono (by decide)) (by rfl) (pda_cons (pd_var 0) (pda_cons pd_int pda_nil)))) (pd_slice (pd_var 1) (pdo_some pd_int) pdo_none)))) pdss_nil)
 (pdss_cons (pds_set (i := 4) sc__law_spoilt.nd (by rfl) (by first | exact Or.inl rfl | exact Or.inr rfl) (pd_call (cal__law_draw S X0 G) (hr.mono (by decide)) (by rfl) (pda_cons (pd_var 0) (pda_cons (pd_blt cd_len (by rfl) (g_len S X0 G) rfl (pda_cons (pd_var 1) pda_nil)) pda_nil))))
 (pdss_one (pds_ret (pd_op opd_add (pd_op opd_add (pd_slice (pd_var 1) pdo_none (pdo_some (pd_var 4))) (pd_ix (pd_var 2) (pd_call (cal__law_draw S X0 G) (hr.mono (by decide)) (by rfl) (pda_cons (pd_var 0) (pda_cons (pd_blt cd_len (by rfl) (g_len S X0 G) rfl (pda_cons (pd_var 2) pda_nil)) pda_nil))))) (pd_slice (pd_var 1) (pdo_some (pd_op opd_add (pd_var 4) pd_int)) pdo_none)))))))))) : PDSs c (defBody (top 38)) (r__law_spoilt ))
theorem cal__law_spoilt {w : World} {K : PySem.W.Frag} {mg : Str → Option Value} {base : Heap} (S : DH.SaysH P hd K) (X0 : K.In base) (G : base.Ns mainGlobals mg) : Cal P w K mg base (cad cs K) "_law_spoilt" 4 ["draws", "name"] sp__law_spoilt := by
  obtain ⟨fd, F⟩ := DH.fun_dA (S.def_ 15 rfl)
  exact ⟨_, fd, fn__law_spoilt S X0 G F, g__law_spoilt S X0 G, F.kp, bn__law_spoilt F⟩
theorem sc__law_columns : FnScope ["draws", "good", "way", "k", "columns", "place", "column"] ["draws", "good"] (defScope (top 39)) := ⟨rfl, rfl, rfl, by decide +kernel, rfl, by decide +kernel, by decide +kernel⟩
theorem bn__law_columns {K : PySem.W.Frag} {fd : FuncData} (F : Fun K "_law_columns" "_law_columns" (top 39) (He.ga K "_law_columns") fd) : Binds K fd ["draws", "good"] [] := F.binds fun _ _ _ _ _ _ us hl => match us, hl with | [_, _], _ => rfl
theorem fn__law_columns {w : World} {K : PySem.W.Frag} {mg : Str → Option Value} {base : Heap} (S : DH.SaysH P hd K) (X0 : K.In base) (G : base.Ns mainGlobals mg) {fd : FuncData} (F : Fun K "_law_columns" "_law_columns" (top 39) (He.ga K "_law_columns") fd) : FnOk P w K mg base (L2.CX P w) 4 (He.ga K "_law_columns") fd ["draws", "good"] (toSp (cad cs K) sp__law_columns) := by
  refine fnD (body := r__law_columns ) F sc__law_columns (fun ds M Q E h => len__law_columns h) (fun cdv A outer s H E hr c => ?_) (fun ds M Q E h => red__law_columns h)
  exact ((pdss_cons (pds_set (i := 2) sc__law_columns.nd (by rfl) (by first | exact Or.inl rfl | exact Or.inr rfl) (pd_call (cal__law_draw S X0 G) (hr.mono (by decide)) (by rfl) (pda_cons (pd_var 0) (pda_cons pd_int pda_nil))))
 (pdss_cons (pds_if (pdt_cmp opd_eqS (pd_var 2) pd_int) (pdss_one (pds_ret (pd_ty cd_tup (by rfl) (g_tuple S X0 G) rfl (pda_cons (pd_lc (by rfl) sc__law_columns.nd (pdi_rng1 (by rfl) (g_range S X0 G) (pda_cons (pd_call (cal__law_draw S X0 G) (hr.mono (by decide)) (by rfl) (pda_cons (pd_var 0) (pda_cons pd_int pda_nil))) pda_nil)) (blkB_ok (own := [("k", 3)]) (by rfl)) (own_name (by decide)) (fun _ _ _ _ _ => (pg_name (i := 3) sc__law_columns.nd (by rfl) (by first | exact Or.inl rfl | exact Or.inr rfl))) (fun _ _ _ _ _ => pdts_nil) (fun _ _ _ _ _ => (pd_op opd_sub (pd_call (cal__law_draw S X0 G) (hr.mono (by decide)) (by rfl) (pda_cons (pd_var 0) (pda_cons pd_int pda_nil))) pd_int))) pda_nil)))) pdss_nil)
 (pdss_cons (pds_set (i := 4) sc__law_columns.nd (by rfl) (by first | exact Or.inl rfl | exact Or.inr rfl) (pd_ty cd_listM (by rfl) (g_list S X0 G) rfl (pda_cons (pd_var 1) pda_nil)))
 (pdss_cons (pds_set (i := 5) sc__law_columns.nd (by rfl) (by first | exact Or.inl rfl | exact Or.inr rfl) (pd_call (cal__law_draw S X0 G) (hr.mono (by decide)) (by rfl) (pda_cons (pd_var 0) (pda_cons (pd_op opd_add (pd_blt cd_len (by rfl) (g_len S X0 G) rfl (pda_cons (pd_var 4) pda_nil)) pd_int) pda_nil))))
 (pdss_cons (pds_set (i := 6) sc__law_columns.nd (by rfl) (by first | exact Or.inl rfl | exact Or.inr rfl) (pd_op opd_sub (pd_call (cal__law_draw S X0 G) (hr.mono (by decide)) (by rfl) (pda_cons (pd_var 0) (pda_cons pd_int pda_nil))) pd_int))
 (pdss_cons (pds_if (pdt_cmp opd_eqS (pd_call (cal__law_draw S X0 G) (hr.mono (by decide)) (by rfl) (pda_cons (pd_var 0) (pda_cons pd_int pda_nil))) pd_int) (pdss_one (pds_set (i := 6) sc__law_columns.nd (by rfl) (by first | exact Or.inl rfl | exact Or.inr rfl) (pd_op opd_pow pd_int pd_int))) pdss_nil)
 (pdss_cons (pds_if (pdt_cmp opd_eqS (pd_var 2) pd_int) (pdss_one (pds_expr (pd_bm md_insert PySem.F.plainAttrs_list PySem.F.slot_list_insert PySem.F.type_list_insert (pd_var 4) (pda_cons (pd_var 5) (pda_cons (pd_var 6) pda_nil))))) (pdss_one (pds_if (pdt_cmp opd_lt (pd_var 5) (pd_blt cd_len (by rfl) (g_len S X0 G) rfl (pda_cons (pd_var 4) pda_nil))) (pdss_one (pds_setIx (pd_var 4) (pd_var 5) (pd_var 6) (by intro _; rfl))) pdss_nil)))
 (pdss_one (pds_ret (pd_ty cd_tup (by rfl) (g_tuple S X0 G) rfl (pda_cons (pd_var 4) pda_nil))))))))))) : PDSs c (defBody (top 39)) (r__law_columns ))
theorem cal__law_columns {w : World} {K : PySem.W.Frag} {mg : Str → Option Value} {base : Heap} (S : DH.SaysH P hd K) (X0 : K.In base) (G : base.Ns mainGlobals mg) : Cal P w K mg base (cad cs K) "_law_columns" 4 ["draws", "good"] sp__law_columns := by
  obtain ⟨fd, F⟩ := DH.fun_dA (S.def_ 16 rfl)
  exact ⟨_, fd, fn__law_columns S X0 G F, g__law_columns S X0 G, F.kp, bn__law_columns F⟩
theorem sc__law_ascending : FnScope ["columns", "last", "column"] ["columns"] (defScope (top 40)) := ⟨rfl, rfl, rfl, by decide +kernel, rfl, by decide +kernel, by decide +kernel⟩
theorem bn__law_ascending {K : PySem.W.Frag} {fd : FuncData} (F : Fun K "_law_ascending" "_law_ascending" (top 40) (He.ga K "_law_ascending") fd) : Binds K fd ["columns"] [] := F.binds fun _ _ _ _ _ _ us hl => match us, hl with | [_], _ => rfl
theorem fn__law_ascending {w : World} {K : PySem.W.Frag} {mg : Str → Option Value} {base : Heap} (S : DH.SaysH P hd K) (X0 : K.In base) (G : base.Ns mainGlobals mg) {fd : FuncData} (F : Fun K "_law_ascending" "_law_ascending" (top 40) (He.ga K "_law_ascending") fd) : FnOk P w K mg base (L2.CX P w) 2 (He.ga K "_law_ascending") fd ["columns"] (toSp (cad cs K) sp__law_ascending) := by
  refine fnD (body := r__law_ascending ) F sc__law_ascending (fun ds M Q E h => len__law_ascending h) (fun cdv A outer s H E hr c => ?_) (fun ds M Q E h => red__law_ascending h)
  exact ((pdss_cons (pds_set (i := 1) sc__law_ascending.nd (by rfl) (by first | exact Or.inl rfl | exact Or.inr rfl) (pd_neg pd_int))
 (pdss_cons (pds_for (passes_of (by rfl)) (by rfl) (pdi_tup (pd_var 0)) (pdg_name (i := 2) sc__law_ascending.nd (by rfl) (by first | exact Or.inl rfl | exact Or.inr rfl)) (pdss_cons (pds_if (pdw_or (pdt_cmp opd_le (pd_var 2) (pd_var 1)) (pdw_or1 (pdt_cmp opd_gt (pd_var 2) pd_int))).pt (pdss_one (pds_ret pd_bl)) pdss_nil)
 (pdss_one (pds_set (i := 1) sc__law_ascending.nd (by rfl) (by first | exact Or.inl rfl | exact Or.inr rfl) (pd_var 2)))))
 (pdss_one (pds_ret pd_bl)))) : PDSs c (defBody (top 40)) (r__law_ascending ))
theorem cal__law_ascending {w : World} {K : PySem.W.Frag} {mg : Str → Option Value} {base : Heap} (S : DH.SaysH P hd K) (X0 : K.In base) (G : base.Ns mainGlobals mg) : Cal P w K mg base (cad cs K) "_law_ascending" 2 ["columns"] sp__law_ascending := by
  obtain ⟨fd, F⟩ := DH.fun_dA (S.def_ 17 rfl)
  exact ⟨_, fd, fn__law_ascending S X0 G F, g__law_ascending S X0 G, F.kp, bn__law_ascending F⟩
theorem sc__law_due : FnScope ["table", "given", "limit"] ["table", "given", "limit"] (defScope (top 41)) := ⟨rfl, rfl, rfl, by decide +kernel, rfl, by decide +kernel, by decide +kernel⟩
theorem bn__law_due {K : PySem.W.Frag} {fd : FuncData} (F : Fun K "_law_due" "_law_due" (top 41) (He.ga K "_law_due") fd) : Binds K fd ["table", "given", "limit"] [] := F.binds fun _ _ _ _ _ _ us hl => match us, hl with | [_, _, _], _ => rfl
theorem fn__law_due {w : World} {K : PySem.W.Frag} {mg : Str → Option Value} {base : Heap} (S : DH.SaysH P hd K) (X0 : K.In base) (G : base.Ns mainGlobals mg) {fd : FuncData} (F : Fun K "_law_due" "_law_due" (top 41) (He.ga K "_law_due") fd) : FnOk P w K mg base (L2.CX P w) 3 (He.ga K "_law_due") fd ["table", "given", "limit"] (toSp (cad cs K) sp__law_due) := by
  refine fnD (body := r__law_due ) F sc__law_due (fun ds M Q E h => len__law_due h) (fun cdv A outer s H E hr c => ?_) (fun ds M Q E h => red__law_due h)
  exact ((pdss_cons (pds_if (pdt_not (pdt_val (pd_call (cal__law_named S X0 G) (hr.mono (by decide)) (by rfl) (pda_cons (pd_var 0) pda_nil)))) (pdss_one (pds_ret (pd_tup (pda_cons pd_str (pda_cons (pd_var 0) (pda_cons pd_bl (pda_cons pd_bl pda_nil))))))) pdss_nil)
 (pdss_cons (pds_if (pdw_or (pdt_not (pdt_val (pd_call (cal__law_ascending S X0 G) (hr.mono (by decide)) (by rfl) (pda_cons (pd_var 1) pda_nil)))) (pdw_or1 (pdt_cmp opd_lt (pd_var 2) pd_int))).pt (pdss_one (pds_ret (pd_tup (pda_cons pd_str (pda_cons pd_str (pda_cons pd_bl (pda_cons pd_bl pda_nil))))))) pdss_nil)
 (pdss_one (pds_ret (pd_tup (pda_cons pd_str (pda_cons (pd_tup (pda_cons (pd_var 0) (pda_cons (pd_var 1) (pda_cons (pd_var 2) pda_nil)))) (pda_cons (pd_tup (pda_cons (pd_var 0) (pda_cons (pd_var 1) pda_nil))) (pda_cons pd_bl pda_nil))))))))) : PDSs c (defBody (top 41)) (r__law_due ))
theorem cal__law_due {w : World} {K : PySem.W.Frag} {mg : Str → Option Value} {base : Heap} (S : DH.SaysH P hd K) (X0 : K.In base) (G : base.Ns mainGlobals mg) : Cal P w K mg base (cad cs K) "_law_due" 3 ["table", "given", "limit"] sp__law_due := by
  obtain ⟨fd, F⟩ := DH.fun_dA (S.def_ 18 rfl)
  exact ⟨_, fd, fn__law_due S X0 G F, g__law_due S X0 G, F.kp, bn__law_due F⟩
theorem sc__law_outcome : FnScope ["table", "given", "limit", "single", "made", "e", "strange"] ["table", "given", "limit", "single"] (defScope (top 42)) := ⟨rfl, rfl, rfl, by decide +kernel, rfl, by decide +kernel, by decide +kernel⟩
theorem bn__law_outcome {K : PySem.W.Frag} {fd : FuncData} (F : Fun K "_law_outcome" "_law_outcome" (top 42) (He.ga K "_law_outcome") fd) : Binds K fd ["table", "given", "limit", "single"] [] := F.binds fun _ _ _ _ _ _ us hl => match us, hl with | [_, _, _, _], _ => rfl
theorem fn__law_outcome {w : World} {K : PySem.W.Frag} {mg : Str → Option Value} {base : Heap} (S : DH.SaysH P hd K) (X0 : K.In base) (G : base.Ns mainGlobals mg) {fd : FuncData} (F : Fun K "_law_outcome" "_law_outcome" (top 42) (He.ga K "_law_outcome") fd) : FnOk P w K mg base (L2.CX P w) 7 (He.ga K "_law_outcome") fd ["table", "given", "limit", "single"] (toSp (cad cs K) sp__law_outcome) := by
  refine fnD (body := r__law_outcome (cad cs K)) F sc__law_outcome (fun ds M Q E h => len__law_outcome h) (fun cdv A outer s H E hr c => ?_) (fun ds M Q E h => red__law_outcome h)
  exact ((pdss_cons (pds_try (isa := exm) (T_exm S) (by rfl) (by rfl) sc__law_outcome.nd (fun ps xe hp c => (pdss_one (pds_if (pdt_val (pd_var 3)) (pdss_one (pds_set (i := 4) sc__law_outcome.nd (by rfl) (by first | exact Or.inl rfl | exact Or.inr rfl) (pd_cmeth (cm_Bound_single S X0 G) (hr.mono (by decide)) (pd_gref (a := cad cs K 26) (by rfl) (g_Bound S X0 G)) (pda_cons (pd_var 0) (pda_cons (pd_var 1) pda_nil))))) (pdss_one (pds_set (i := 4) sc__law_outcome.nd (by rfl) (by first | exact Or.inl rfl | exact Or.inr rfl) (pd_make true true (new_Bound S X0 G) (hr.mono (by decide)) (by rfl) (pda_cons (pd_var 0) (pda_cons (pd_var 1) (pda_cons (pd_var 2) pda_nil))))))))) (.named (q := ⟨1, (some 5), fun a er => (dRet (dTup (dCons (dC (.str "name")) (dCons (dXf xf_name "name" a er (dVar 5)) (dCons (dIsX isx (.o 0) a er (dVar 5)) (dCons (dOrV (dIsX isx (.o 2) a er (dVar 5)) (dIsX isx (.o 6) a er (dVar 5))) dNil))))))⟩) (j := 5) rfl (by rfl) (by rfl) ⟨by rfl, by decide, .inl (g_BadName S X0 G)⟩ (fun a ob cls d ps hz hd er c re rm hED => asT (dRet (dTup (dCons (dC (.str "name")) (dCons (dXf xf_name "name" a er (dVar 5)) (dCons (dIsX isx (.o 0) a er (dVar 5)) (dCons (dOrV (dIsX isx (.o 2) a er (dVar 5)) (dIsX isx (.o 6) a er (dVar 5))) dNil)))))) (pdss_one (pds_ret (pd_tup (pda_cons pd_str (pda_cons (pd_xf (xf := xf_name) (T_xf_name S) hz hd re rm (pd_var 5)) (pda_cons (pd_isX (isx := isx) (.o 0) (T_isx S) hz hd re rm (by rfl) (g_isinstance S X0 G) (pd_var 5) (pe_cref (k := 0) (by rfl) (g_LooksError S X0 G))) (pda_cons (pd_or (pd_isX (isx := isx) (.o 2) (T_isx S) hz hd re rm (by rfl) (g_isinstance S X0 G) (pd_var 5) (pe_cref (k := 2) (by rfl) (g_DoubleName S X0 G))) (pd_one (pd_isX (isx := isx) (.o 6) (T_isx S) hz hd re rm (by rfl) (g_isinstance S X0 G) (pd_var 5) (pe_cref (k := 6) (by rfl) (g_BookError S X0 G))))) pda_nil)))))))) (.named (q := ⟨7, (some 5), fun a er => (dSeq (dAsg (dOrV (dIsX isx (.o 8) a er (dVar 5)) (dOrV (dIsX isx (.o 9) a er (dVar 5)) (dIsX isx (.o 10) a er (dVar 5)))) (dName 6))
 (dRet (dTup (dCons (dC (.str "bound")) (dCons (dC (.str "")) (dCons (dAndV (dIsX isx (.o 6) a er (dVar 5)) (dIsX isx (.o 0) a er (dVar 5))) (dCons (dVar 6) dNil)))))))⟩) (j := 5) rfl (by rfl) (by rfl) ⟨by rfl, by decide, .inl (g_BadBound S X0 G)⟩ (fun a ob cls d ps hz hd er c re rm hED => asT (dSeq (dAsg (dOrV (dIsX isx (.o 8) a er (dVar 5)) (dOrV (dIsX isx (.o 9) a er (dVar 5)) (dIsX isx (.o 10) a er (dVar 5)))) (dName 6))
 (dRet (dTup (dCons (dC (.str "bound")) (dCons (dC (.str "")) (dCons (dAndV (dIsX isx (.o 6) a er (dVar 5)) (dIsX isx (.o 0) a er (dVar 5))) (dCons (dVar 6) dNil))))))) (pdss_cons (pds_set (i := 6) sc__law_outcome.nd (by rfl) (by first | exact Or.inl rfl | exact Or.inr rfl) (pd_or (pd_isX (isx := isx) (.o 8) (T_isx S) hz hd re rm (by rfl) (g_isinstance S X0 G) (pd_var 5) (pe_cref (k := 8) (by rfl) (g_NestedBound S X0 G))) (pd_or (pd_isX (isx := isx) (.o 9) (T_isx S) hz hd re rm (by rfl) (g_isinstance S X0 G) (pd_var 5) (pe_cref (k := 9) (by rfl) (g_NoDoor S X0 G))) (pd_one (pd_isX (isx := isx) (.o 10) (T_isx S) hz hd re rm (by rfl) (g_isinstance S X0 G) (pd_var 5) (pe_cref (k := 10) (by rfl) (g_OtherSchema S X0 G)))))))
 (pdss_one (pds_ret (pd_tup (pda_cons pd_str (pda_cons pd_str (pda_cons (pd_and (pd_isX (isx := isx) (.o 6) (T_isx S) hz hd re rm (by rfl) (g_isinstance S X0 G) (pd_var 5) (pe_cref (k := 6) (by rfl) (g_BookError S X0 G))) (pd_one (pd_isX (isx := isx) (.o 0) (T_isx S) hz hd re rm (by rfl) (g_isinstance S X0 G) (pd_var 5) (pe_cref (k := 0) (by rfl) (g_LooksError S X0 G))))) (pda_cons (pd_var 6) pda_nil))))))))) ClsOk.nil)))
 (pdss_one (pds_ret (pd_tup (pda_cons pd_str (pda_cons (pd_tup (pda_cons (pd_slot (sl_Bound_table S) (pd_var 4)) (pda_cons (pd_slot (sl_Bound_given S) (pd_var 4)) (pda_cons (pd_slot (sl_Bound_limit S) (pd_var 4)) pda_nil)))) (pda_cons (pd_prop (prop_Bound_door S X0 G) (hr.mono (by decide)) (pd_var 4)) (pda_cons pd_bl pda_nil)))))))) : PDSs c (defBody (top 42)) (r__law_outcome (cad cs K)))
theorem cal__law_outcome {w : World} {K : PySem.W.Frag} {mg : Str → Option Value} {base : Heap} (S : DH.SaysH P hd K) (X0 : K.In base) (G : base.Ns mainGlobals mg) : Cal P w K mg base (cad cs K) "_law_outcome" 7 ["table", "given", "limit", "single"] sp__law_outcome := by
  obtain ⟨fd, F⟩ := DH.fun_dA (S.def_ 19 rfl)
  exact ⟨_, fd, fn__law_outcome S X0 G F, g__law_outcome S X0 G, F.kp, bn__law_outcome F⟩
theorem sc_law : FnScope ["script", "draws", "far", "raw", "good", "other", "name", "bad", "first", "table", "given", "limit"] ["script"] (defScope (top 43)) := ⟨rfl, rfl, rfl, by decide +kernel, rfl, by decide +kernel, by decide +kernel⟩
theorem bn_law {K : PySem.W.Frag} {fd : FuncData} (F : Fun K "law" "law" (top 43) (He.ga K "law") fd) : Binds K fd ["script"] [] := F.binds fun _ _ _ _ _ _ us hl => match us, hl with | [_], _ => rfl
theorem fn_law {w : World} {K : PySem.W.Frag} {mg : Str → Option Value} {base : Heap} (S : DH.SaysH P hd K) (X0 : K.In base) (G : base.Ns mainGlobals mg) {fd : FuncData} (F : Fun K "law" "law" (top 43) (He.ga K "law") fd) : FnOk P w K mg base (L2.CX P w) 9 (He.ga K "law") fd ["script"] (toSp (cad cs K) sp_law) := by
  refine fnD (body := r_law ) F sc_law (fun ds M Q E h => len_law h) (fun cdv A outer s H E hr c => ?_) (fun ds M Q E h => red_law h)
  exact ((pdss_cons (pds_set (i := 1) sc_law.nd (by rfl) (by first | exact Or.inl rfl | exact Or.inr rfl) (pd_call (cal__law_draws S X0 G) (hr.mono (by decide)) (by rfl) (pda_cons (pd_var 0) pda_nil)))
 (pdss_cons (pds_set (i := 2) sc_law.nd (by rfl) (by first | exact Or.inl rfl | exact Or.inr rfl) (pd_call (cal__law_raw S X0 G) (hr.mono (by decide)) (by rfl) (pda_cons (pd_var 0) (pda_cons pd_int pda_nil))))
 (pdss_cons (pds_set (i := 3) sc_law.nd (by rfl) (by first | exact Or.inl rfl | exact Or.inr rfl) (pd_call (cal__law_cut S X0 G) (hr.mono (by decide)) (by rfl) (pda_cons (pd_var 2) pda_nil)))
 (pdss_cons (pds_set (i := 4) sc_law.nd (by rfl) (by first | exact Or.inl rfl | exact Or.inr rfl) (pd_call (cal__law_given S X0 G) (hr.mono (by decide)) (by rfl) (pda_cons (pd_call (cal__law_draw S X0 G) (hr.mono (by decide)) (by rfl) (pda_cons (pd_var 1) (pda_cons pd_int pda_nil))) (pda_cons pd_int pda_nil))))
 (pdss_cons (pds_set (i := 5) sc_law.nd (by rfl) (by first | exact Or.inl rfl | exact Or.inr rfl) (pd_call (cal__law_columns S X0 G) (hr.mono (by decide)) (by rfl) (pda_cons (pd_var 1) (pda_cons (pd_var 4) pda_nil))))
 (pdss_cons (pds_set (i := 6) sc_law.nd (by rfl) (by first | exact Or.inl rfl | exact Or.inr rfl) (pd_call (cal__law_name S X0 G) (hr.mono (by decide)) (by rfl) (pda_cons (pd_var 1) (pda_cons (pd_lst pda_nil) pda_nil))))
 (pdss_cons (pds_set (i := 7) sc_law.nd (by rfl) (by first | exact Or.inl rfl | exact Or.inr rfl) (pd_call (cal__law_spoilt S X0 G) (hr.mono (by decide)) (by rfl) (pda_cons (pd_var 1) (pda_cons (pd_var 6) pda_nil))))
 (pdss_cons (pds_set (i := 8) sc_law.nd (by rfl) (by first | exact Or.inl rfl | exact Or.inr rfl) (pd_make true true (new_Bound S X0 G) (hr.mono (by decide)) (by rfl) (pda_cons (pd_var 6) (pda_cons (pd_var 4) (pda_cons (pd_op opd_add pd_int (pd_blt cd_abs (by rfl) (g_abs S X0 G) rfl (pda_cons (pd_var 2) pda_nil))) pda_nil)))))
 (pdss_cons (pds_for (passes_of (by rfl)) (by rfl) (pdi_lst (pd_lst (pda_cons (pd_var 6) (pda_cons (pd_var 7) pda_nil)))) (pdg_name (i := 9) sc_law.nd (by rfl) (by first | exact Or.inl rfl | exact Or.inr rfl)) (pdss_one (pds_for (passes_of (by rfl)) (by rfl) (pdi_lst (pd_lst (pda_cons (pd_var 4) (pda_cons (pd_var 5) pda_nil)))) (pdg_name (i := 10) sc_law.nd (by rfl) (by first | exact Or.inl rfl | exact Or.inr rfl)) (pdss_cons (pds_for (passes_of (by rfl)) (by rfl) (pdi_lst (pd_lst (pda_cons (pd_var 3) (pda_cons (pd_op opd_add pd_int (pd_blt cd_abs (by rfl) (g_abs S X0 G) rfl (pda_cons (pd_var 3) pda_nil))) (pda_cons (pd_op opd_sub pd_int (pd_blt cd_abs (by rfl) (g_abs S X0 G) rfl (pda_cons (pd_var 3) pda_nil))) (pda_cons pd_int (pda_cons pd_int pda_nil))))))) (pdg_name (i := 11) sc_law.nd (by rfl) (by first | exact Or.inl rfl | exact Or.inr rfl)) (pdss_one (pds_if (pdt_not (pdt_val (pd_call (cal__law_same S X0 G) (hr.mono (by decide)) (by rfl) (pda_cons (pd_call (cal__law_outcome S X0 G) (hr.mono (by decide)) (by rfl) (pda_cons (pd_var 9) (pda_cons (pd_var 10) (pda_cons (pd_var 11) (pda_cons pd_bl pda_nil))))) (pda_cons (pd_call (cal__law_due S X0 G) (hr.mono (by decide)) (by rfl) (pda_cons (pd_var 9) (pda_cons (pd_var 10) (pda_cons (pd_var 11) pda_nil)))) pda_nil))))) (pdss_one (pds_ret pd_bl)) pdss_nil)))
 (pdss_one (pds_if (pdt_not (pdt_val (pd_call (cal__law_same S X0 G) (hr.mono (by decide)) (by rfl) (pda_cons (pd_call (cal__law_outcome S X0 G) (hr.mono (by decide)) (by rfl) (pda_cons (pd_var 9) (pda_cons (pd_var 10) (pda_cons pd_int (pda_cons pd_bl pda_nil))))) (pda_cons (pd_call (cal__law_due S X0 G) (hr.mono (by decide)) (by rfl) (pda_cons (pd_var 9) (pda_cons (pd_var 10) (pda_cons pd_int pda_nil)))) pda_nil))))) (pdss_one (pds_ret pd_bl)) pdss_nil))))))
 (pdss_one (pds_ret (pd_call (cal__law_same S X0 G) (hr.mono (by decide)) (by rfl) (pda_cons (pd_tup (pda_cons (pd_slot (sl_Bound_table S) (pd_var 8)) (pda_cons (pd_slot (sl_Bound_given S) (pd_var 8)) (pda_cons (pd_slot (sl_Bound_limit S) (pd_var 8)) (pda_cons (pd_prop (prop_Bound_door S X0 G) (hr.mono (by decide)) (pd_var 8)) pda_nil))))) (pda_cons (pd_tup (pda_cons (pd_var 6) (pda_cons (pd_var 4) (pda_cons (pd_op opd_add pd_int (pd_blt cd_abs (by rfl) (g_abs S X0 G) rfl (pda_cons (pd_var 2) pda_nil))) (pda_cons (pd_tup (pda_cons (pd_var 6) (pda_cons (pd_var 4) pda_nil))) pda_nil))))) pda_nil)))))))))))))) : PDSs c (defBody (top 43)) (r_law ))
theorem cal_law {w : World} {K : PySem.W.Frag} {mg : Str → Option Value} {base : Heap} (S : DH.SaysH P hd K) (X0 : K.In base) (G : base.Ns mainGlobals mg) : Cal P w K mg base (cad cs K) "law" 9 ["script"] sp_law := by
  obtain ⟨fd, F⟩ := DH.fun_dA (S.def_ 20 rfl)
  exact ⟨_, fd, fn_law S X0 G F, g_law S X0 G, F.kp, bn_law F⟩
end Q
open PySem PySem.W PySem.Calls PyProof.Rows
theorem PySem.Challenge.cw_steadylooks_k07_bounds_made_and_refused_holds : PySem.Challenge.rw_steadylooks_k07_bounds_made_and_refused.Holds := by
  w_on; o_law
  refine HandSHeadRun.head_any (r := OpenLaw.row PySem.Challenge.rw_steadylooks_k07_bounds_made_and_refused) (q := view (OpenLaw.row PySem.Challenge.rw_steadylooks_k07_bounds_made_and_refused).prog [43]) (H := Q.hk) (ob := Q.ob) (M := 20000) (loose := Q.loose) (d := HandSHeadRun.topDef (OpenLaw.row PySem.Challenge.rw_steadylooks_k07_bounds_made_and_refused).prog 43) (kwd := []) Q.ob_eq
    (by kernel_rfl) (fun s => by kernel_rfl) Q.run (by kernel_rfl) (by kernel_rfl) (by kernel_rfl) (by rfl) (by first | assumption | decide +kernel) (by decide +kernel) ⟨rfl, rfl, rfl, rfl, rfl, by decide +kernel⟩ ?hw ?hc
  case hw => w_witness2
  case hc =>
    refine DH.walk_D (l := PySem.Challenge.rw_steadylooks_k07_bounds_made_and_refused) (n := 63) (k := 9) (x := "script") (hd := Q.hd) (m := 6) rfl (by decide) (by kernel_rfl) ⟨rfl, by decide, by decide⟩ ?F
    intro w mg fa h K X0 S G hmg0
    have hmg : mg ("law" : PySem.Str) = some (.ref fa) := by
      have e : (HandSHeadRun.topDef (OpenLaw.row PySem.Challenge.rw_steadylooks_k07_bounds_made_and_refused).prog 43).name = ("law" : PySem.Str) := by kernel_rfl
      rw [← e]
      exact hmg0
    have e := hmg.symm.trans (Q.g_law S X0 G)
    cases e
    obtain ⟨fd, F⟩ := S.def_ 20 (x := DH.dA (fun K => He.ga K "law") "law" "law" (Q.top 43)) rfl
    have F0 : L2.Fun K "law" "law" (Q.top 43) (He.ga K "law") fd := He5.fun_of (kws := []) F
    have b := L2.FunD.bindsA (ps := ["script"]) (kws := []) F fun _ _ _ _ _ _ us hl => match us, hl with | [_], _ => rfl
    exact ⟨DH.cad Q.cs K, fd, Q.sp_law, fun s u => b s [u] rfl, fun ns hn hz => Q.sp_law_ok ns hn hz, fun base X1 G1 => Q.fn_law S X1 G1 F0⟩
