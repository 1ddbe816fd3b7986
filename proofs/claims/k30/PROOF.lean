import PyProof.Rows.All
import Wide.All
import OpenK.AllK
import Wide.FinOn
import HandS.ForMost
import HandS.Exc
import HandS.ExcInit
import HandS.ExcField
import HandS.ExcIs
import KE.KExcSuper
import KE.KSuper
import HandS.Wide
import HandS.Flow
import HandS.Style
import HandS.Deep
import HandS.TupAny
import HandS.NoneIn
import HandS.IsInst
import HandS.WideBits
import HandS.Gcd
import HandS.Conv
import HandS.Zip
import HandS.SortRule
import HandS.SortInts
import KE.KSortTupAny
import HandS.TupSets
import KE.KSetDisp
import HandS.SetIn
import KE.KExcIs
import HandS.Iter
import KE.DataFind
import PyProof.ReprRoads
import PyProof.NeKinds
import PyProof.FactsAll.dict_2
import PyProof.FactsAll.subtypes_1
import HandS.Star
import KE.GoesEnumKw
import PyProof.TwoTypesSub
import PyProof.FactsAll.bool_3
import PyProof.FactsAll.int_5
import PyProof.ReprBulk
import KE.RegKSuper
import PySem.Challenge.RW_slitsheets_k30_whole_lots_of_the_heart
set_option Elab.async false
set_option linter.all false
set_option maxRecDepth 100000
set_option maxHeartbeats 4000000
/-! XA: the package's own errors: their classes, and how one is made -/
namespace XA
open PySem PySem.W PySem.Calls PyProof.Rows PySem.HandSPX
/-- the __init__ that stands in a class -/
def initOf : Stmt → Stmt
  | .ClassDef _ _ _ (f :: _) _ _ _ _ _ _ _ => f
  | s => s
/-- the text of __init__(self, value=None): super().__init__(); self.value = value -/
structure InitTxt (A : Arguments) (B : List Stmt) (S : Scope) : Prop where
  ar : ∃ p1 p2 c, A = { posonlyargs := [], args := [{ arg := "self", annotation := none, pos := p1 }, { arg := "value", annotation := none, pos := p2 }], vararg := none, kwonlyargs := [], kw_defaults := [], kwarg := none, defaults := [c] }
  bd : ∃ p0 p1 p2 p3 p4 q1 q2 q3 q4, B = [.Expr (.Call (.Attribute (.Call (.Name "super" p0) [] [] p1) "__init__" p2) [] [] p3) p4, .Assign [.Attribute (.Name "self" q1) "value" q2] (.Name "value" q3) q4] ∧
    (∃ pl : Sem Bool, ∀ env : Env, eval (.Call (.Attribute (.Call (.Name "super" p0) [] [] p1) "__init__" p2) [] [] p3) env = (do
      let ov ← attributeBase (.Call (.Name "super" p0) [] [] p1) "__init__" env (eval (.Call (.Name "super" p0) [] [] p1) env)
      standAt p2.atName
      let (f, first) ← holding [ov] (getMethod ov "__init__" pl)
      callWith p3 f first (backTo p3 (starEach [] env)) [])) ∧
    ∀ env : Env, swapsWith (.Call (.Attribute (.Call (.Name "super" p0) [] [] p1) "__init__" p2) [] [] p3) none p4.line env = pure false
  sc : S = { kind := .function, names := [(PySem.Str.ofString "self", .local), (PySem.Str.ofString "value", .local), (PySem.Str.ofString "__class__", .free), (PySem.Str.ofString "super", .globalImplicit)], isGenerator := false, isCoroutine := false, more := [] }
def sheetTail : List Value := [.type "ValueError", .type "Exception", .type "BaseException", .type "object"]
def errTail (S : Addr) : List Value := .ref S :: sheetTail
/-- the common class of the errors stands at S -/
structure ShC (K : Frag) (S : Addr) : Prop where
  ns : nsIn K mainGlobals "SheetError" = some (some (.ref S))
  cls : ∃ q N bs sn sub ab col dd k0 k1 k2 k3 k5, K.lookup S = some (excClassObj "SheetError" q S N bs sheetTail true sn sub ab col dd k0 k1 k2 k3 k5 "ValueError.__new__")
/-- the error class x stands at C -/
structure ErC (K : Frag) (x : Str) (C S : Addr) : Prop where
  ns : nsIn K mainGlobals x = some (some (.ref C))
  sh : ShC K S
  ne : x ≠ "SheetError"
  cls : ∃ q N bs sn sub ab col dd k0 k1 k2 k3 k5, K.lookup C = some (excClassObj x q C N bs (errTail S) true sn sub ab col dd k0 k1 k2 k3 k5 "ValueError.__new__")
  sa : findIn K (.ref C) "__setattr__" = some (some (.builtin "object.__setattr__"))
  ga : findIn K (.ref C) "__getattribute__" = some (some (.builtin "BaseException.__getattribute__"))
  gg : findIn K (.ref C) "__getattr__" = some none
  nv : findIn K (.ref C) "value" = some none
  kp : keepIn K (.ref C) = true
  hc : findIn K (.ref C) "__class__" = some (some (.builtin "object.__class__"))
  gs : specialIn K (.builtin "object.__class__") "__get__" = some (some (.builtin "getset_descriptor.__get__"))
  tk : takesIn K (.builtin "object.__class__") = some true
/-- .. and may be raised: its __init__ -/
structure ErM (P : Program) (K : Frag) (mg : Str → Option Value) (x : Str) (C S fI : Addr) : Prop where
  er : ErC K x C S
  gC : mg x = some (.ref C)
  iC : findIn K (.ref C) "__init__" = some (some (.ref fI))
  sup : alongIn K "__init__" (errTail S) = some (some (.builtin "ValueError.__init__"))
  any : nsIn K cStatics "thirdparty.any" = some none
  msup : mg "super" = none
  fn : ∃ (oc : Value) (od : Option Addr) (A : Arguments) (B : List Stmt) (Sc : Scope) (q : Str) (dV kV doc pm : Value) (an : Option Addr) (cda cc : Addr) (ct : Value) (osl : Array (Option Value)), InitTxt A B Sc ∧ oc = .type "function" ∧
    K.lookup fI = some ⟨oc, od, .func (fnX "__init__" q A B Sc [("__class__", cc)] dV kV doc pm an (.ref cda) ct), osl⟩ ∧ codeIn K (.ref cda) q = true ∧
    (∃ c d sl, K.lookup cc = some ⟨c, d, .cell (some (.ref C)), sl⟩) ∧ (∃ td c d n sl, dV = .ref td ∧ K.lookup td = some ⟨c, d, .seq #[.none] n, sl⟩) ∧ (∃ c d vs sl file tf, K.lookup cda = some ⟨c, d, .fields vs, sl⟩ ∧ vs[2]? = some (.str file tf) ∧ ((P.main.file : Str) == file) = true)
  top : (P.main.scope.names.lookup ("super" : Str)).isSome = false
theorem refs_err (S : Addr) : refsVE (errTail S) = true := by show refsVE sheetTail = true; decide
section
variable {K : Frag} {x y : Str} {C D S S' : Addr}
theorem ErC.clsIn (T : ErC K x C S) : ∃ cd, PySem.W.clsIn K C = some cd ∧ cd.mro = .ref C :: errTail S ∧ cd.hasDict = true ∧ cd.name = x := by
  obtain ⟨q, N, bs, sn, sub, ab, col, dd, k0, k1, k2, k3, k5, h⟩ := T.cls
  exact ⟨_, by unfold PySem.W.clsIn; rw [h], rfl, rfl, rfl⟩
theorem ShC.clsIn (T : ShC K S) : ∃ cd, PySem.W.clsIn K S = some cd ∧ cd.mro = .ref S :: sheetTail ∧ cd.name = "SheetError" := by
  obtain ⟨q, N, bs, sn, sub, ab, col, dd, k0, k1, k2, k3, k5, h⟩ := T.cls
  exact ⟨_, by unfold PySem.W.clsIn; rw [h], rfl, rfl⟩
theorem ErC.ty (T : ErC K x C S) : typeIn K (.ref C) = some (.type "type") := by
  obtain ⟨q, N, bs, sn, sub, ab, col, dd, k0, k1, k2, k3, k5, h⟩ := T.cls
  show (K.lookup C).map (·.cls) = _
  rw [h]; rfl
theorem ShC.ty (T : ShC K S) : typeIn K (.ref S) = some (.type "type") := by
  obtain ⟨q, N, bs, sn, sub, ab, col, dd, k0, k1, k2, k3, k5, h⟩ := T.cls
  show (K.lookup S).map (·.cls) = _
  rw [h]; rfl
theorem ErC.sub (T : ErC K x C S) (b : Value) : subIn K (.ref C) b = some ((Value.ref C :: errTail S).contains b) := by
  obtain ⟨cd, h, hm, _⟩ := T.clsIn
  show mroIn K C b = _
  unfold mroIn
  rw [h, Option.bind_some, hm]; rfl
theorem ShC.sub (T : ShC K S) (b : Value) : subIn K (.ref S) b = some ((Value.ref S :: sheetTail).contains b) := by
  obtain ⟨cd, h, hm, _⟩ := T.clsIn
  show mroIn K S b = _
  unfold mroIn
  rw [h, Option.bind_some, hm]; rfl
theorem ErC.subT (T : ErC K x C S) (n : String) (h : sheetTail.contains (.type n) = true) : subIn K (.ref C) (.type n) = some true := by
  rw [T.sub]; show some (Value.type n == Value.ref C || (Value.type n == Value.ref S || sheetTail.contains (.type n))) = _
  rw [h, Bool.or_true, Bool.or_true]
theorem ErC.uniq (T : ErC K x C S) (T' : ErC K x D S') : C = D := by
  have := T.ns.symm.trans T'.ns
  exact Value.ref.inj (Option.some.inj (Option.some.inj this))
theorem ShC.uniq (T : ShC K S) (T' : ShC K S') : S = S' := by
  have := T.ns.symm.trans T'.ns
  exact Value.ref.inj (Option.some.inj (Option.some.inj this))
theorem ErC.apart (T : ErC K x C S) (T' : ErC K y D S') (h : x ≠ y) : C ≠ D := fun e => by
  obtain ⟨cd, h1, _, _, h2⟩ := T.clsIn
  obtain ⟨cd', h1', _, _, h2'⟩ := T'.clsIn
  rw [e, h1'] at h1
  cases h1
  exact h (h2.symm.trans h2')
theorem ErC.notS (T : ErC K x C S) : C ≠ S := fun e => by
  obtain ⟨cd, h1, _, _, h2⟩ := T.clsIn
  obtain ⟨cd', h1', _, h2'⟩ := T.sh.clsIn
  rw [e, h1'] at h1
  cases h1
  exact T.ne (h2.symm.trans h2')
/-- is an error of the class x one of the class y -/
def under (x y : Str) : Bool := x == y || y == "SheetError"
theorem ErC.subE (T : ErC K x C S) (T' : ErC K y D S') : subIn K (.ref C) (.ref D) = some (under x y) := by
  have eS := T.sh.uniq T'.sh
  subst eS
  rw [T.sub]
  show some (Value.ref D == Value.ref C || (Value.ref D == Value.ref S || sheetTail.contains (.ref D))) = _
  have h3 : sheetTail.contains (Value.ref D) = false := by simp [sheetTail]
  have h2 : (Value.ref D == Value.ref S) = false := by simp [T'.notS]
  have hy : (y == ("SheetError" : Str)) = false := by simp [T'.ne]
  unfold under
  rw [h3, h2, hy, Bool.or_false, Bool.or_false, Bool.or_false]
  by_cases h : x = y
  · subst h
    have := T.uniq T'
    subst this
    simp
  · have := T.apart T' h
    rw [beq_eq_false_iff_ne.mpr h, beq_eq_false_iff_ne.mpr fun z => this (Value.ref.inj z).symm]
theorem ErC.subS (T : ErC K x C S) (T' : ShC K S') : subIn K (.ref C) (.ref S') = some true := by
  have eS := T.sh.uniq T'
  subst eS
  rw [T.sub]
  show some (Value.ref S == Value.ref C || (Value.ref S == Value.ref S || sheetTail.contains (.ref S))) = _
  simp
/-- a class of errors, with its name: one of them, or their common one -/
def AnyC (K : Frag) (y : Str) (D : Addr) : Prop := (∃ S, ErC K y D S) ∨ (y = "SheetError" ∧ ShC K D)
theorem ErC.subA (T : ErC K x C S) (A : AnyC K y D) : subIn K (.ref C) (.ref D) = some (under x y) := by
  rcases A with ⟨S', T'⟩ | ⟨rfl, T'⟩
  · exact T.subE T'
  · rw [T.subS T']; simp [under]
theorem AnyC.ns (A : AnyC K y D) : nsIn K mainGlobals y = some (some (.ref D)) := by
  rcases A with ⟨S', T'⟩ | ⟨rfl, T'⟩
  · exact T'.ns
  · exact T'.ns
theorem AnyC.ty (A : AnyC K y D) : typeIn K (.ref D) = some (.type "type") := by
  rcases A with ⟨S', T'⟩ | ⟨rfl, T'⟩
  · exact T'.ty
  · exact T'.ty
theorem AnyC.isC (A : AnyC K y D) : (PySem.W.clsIn K D).isSome = true := by
  rcases A with ⟨S', T'⟩ | ⟨rfl, T'⟩
  · obtain ⟨cd, h, _⟩ := T'.clsIn; rw [h]; rfl
  · obtain ⟨cd, h, _⟩ := T'.clsIn; rw [h]; rfl
theorem AnyC.base (A : AnyC K y D) : subIn K (.ref D) (.type "BaseException") = some true := by
  rcases A with ⟨S', T'⟩ | ⟨rfl, T'⟩
  · exact T'.subT "BaseException" (by decide)
  · rw [T'.sub]; show some (Value.type "BaseException" == Value.ref D || sheetTail.contains (.type "BaseException")) = _
    rw [show sheetTail.contains (.type "BaseException") = true by decide, Bool.or_true]
theorem ErC.exm (T : ErC K x C S) (A : AnyC K y D) : exmOne K (.ref C) (.ref D) = some (under x y) := by
  unfold exmOne
  rw [if_pos (by rw [A.base]; rfl)]
  unfold kitCls
  dsimp only
  rw [if_pos (by rw [A.isC, A.ty]; rfl)]
  exact T.subA A
theorem ErC.excC (T : ErC K x C S) : L2.ExcC K C := ⟨T.ga, T.gg, T.subT _ (by decide), by obtain ⟨cd, h, _, hd, _⟩ := T.clsIn; unfold hasDictIn; rw [h]; exact hd, T.hc, T.gs, T.tk, by
  have := T.subT "object" (by decide)
  exact this⟩
theorem ErC.xfC (T : ErC K x C S) : L2.XfC K C := ⟨T.ga, T.gg, T.subT _ (by decide), T.excC.hd⟩
end
/-! ### an error is made -/
/-- what __init__ leaves of a fresh error at x -/
structure InitEnd (h h' : Heap) (x C dx t1 : Addr) (v : Value) : Prop where
  keep : ∀ b o, b ≠ x → h.get? b = some o → h'.get? b = some o
  obj : h'.get? x = some (excO C t1 |> fun o => { o with dict := some dx })
  dbig : h.objs.size ≤ dx
  dne : dx ≠ x
  ns : h'.Ns1 dx (fun y => if y = "value" then some v else none)
/-- a made error -/
structure Made (h h' : Heap) (e C d : Addr) (v : Value) : Prop where
  keep : ∀ b o, h.get? b = some o → h'.get? b = some o
  new : h.objs.size ≤ e
  obj : ∃ oe vs, h'.get? e = some oe ∧ oe.cls = .ref C ∧ oe.dict = some d ∧ oe.data = .fields vs ∧ vs[1]? = some .none
  dbig : h.objs.size ≤ d
  dne : d ≠ e
  ns : h'.Ns1 d (fun y => if y = "value" then some v else none)
section
variable {prog : Program} {w : World} {A : Around} {E : Value → Shared → Prop} {K : Frag} {mg mb : Str → Option Value} {C S fI : Addr} {x : Str}
theorem init_walk (T : ErM prog K mg x C S fI) {R : Result → Shared → Prop} {s : Shared} {e t0 : Addr} {v : Value} (X : K.In s.heap) (hlim : s.heap.NoLimit) (hg : s.heap.Ns mainGlobals mg) (hb : s.heap.Ns builtinsNs mb) (hbb : ∀ y : Str, y ≠ "__name__" → mb y = bootBuiltins y)
    (hx : s.heap.get? e = some (excO C t0)) (hnx : K.lookup e = none) (hroom : A.depth < recursionLimit)
    (hq : ∀ h' tk dx t1, InitEnd s.heap h' e C dx t1 v → R (.ok (.ret .none)) { s with heap := h', toks := tk }) :
    codeAny (model prog w) A (.call (.ref fI) ⟨[.ref e, v], []⟩) R s := by
  obtain ⟨oc, od, Ar, Bd, Sc, q, dV, kV, doc, pm, an, cda, cc, ct, osl, IT, hoc, ho, hcd, ⟨cl, cld, csl, hcell⟩, ⟨td, tc, tdd, tn, tsl, rfl, htd⟩, ⟨c1, d1, vs1, sl1, file, tf, hcode, hvs, hfile⟩⟩ := T.fn
  obtain ⟨⟨p1, p2, dd0, rfl⟩, ⟨b0, b1, b2, b3, b4, b5, b6, b7, b8, rfl, ⟨pl, hev⟩, hsw⟩, rfl⟩ := IT
  have hcl := T.er.clsIn
  obtain ⟨cd, hcd1, hmro, hhd, _⟩ := hcl
  have hb5 : ∀ x ∈ ([(PySem.Str.ofString "self", NameKind.local), (PySem.Str.ofString "value", .local), (PySem.Str.ofString "__class__", .free), (PySem.Str.ofString "super", .globalImplicit)] : List (Str × NameKind)), x.2 ≠ .cell := by decide
  refine ks_codeAny_call_defAt (binds := [("self", .ref e), ("value", v)]) hroom (X _ _ ho) rfl hlim (codeRec_of X hcd) rfl (BindsTo.of_defaults (T := td) rfl (X _ _ htd) rfl (by first | rfl | with_unfolding_all rfl) (by first | rfl | with_unfolding_all rfl)) hb5 (locs rfl) (fun h₁ hn k => ?_)
  have X₁ : K.In h₁ := X.keeps k
  have hx₁ := k _ _ hx
  have hxL : s.heap.objs.size ≠ e := Nat.ne_of_gt (Heap.lt_size hx)
  show _root_.PySem.wpAt _ (A.deeper (ksEnv q { kind := .function, names := [(PySem.Str.ofString "self", .local), (PySem.Str.ofString "value", .local), (PySem.Str.ofString "__class__", .free), (PySem.Str.ofString "super", .globalImplicit)], isGenerator := false, isCoroutine := false, more := [] } s.heap.objs.size fI (.ref cda) cc)) (.func _ (ksEnv q { kind := .function, names := [(PySem.Str.ofString "self", .local), (PySem.Str.ofString "value", .local), (PySem.Str.ofString "__class__", .free), (PySem.Str.ofString "super", .globalImplicit)], isGenerator := false, isCoroutine := false, more := [] } s.heap.objs.size fI (.ref cda) cc)) (execs _ (ksEnv q { kind := .function, names := [(PySem.Str.ofString "self", .local), (PySem.Str.ofString "value", .local), (PySem.Str.ofString "__class__", .free), (PySem.Str.ofString "super", .globalImplicit)], isGenerator := false, isCoroutine := false, more := [] } s.heap.objs.size fI (.ref cda) cc)) _ _ _
  refine ks_wpAt_execs_cons (ks_wpAt_Expr_any (ks_wpAt_MethodCall (pl := pl) ?_ (hev _)) rfl (hsw _))
  refine ks_wpAt_super_base (f := fI) (cc := cda) (by first | rfl | with_unfolding_all rfl) (by first | rfl | with_unfolding_all rfl) (by decide) rfl (X₁ _ _ ho) rfl rfl rfl (X₁ _ _ hcode) rfl hvs hfile T.top ?_
  refine ks_loadName_global rfl (by first | rfl | with_unfolding_all rfl) (loadGlobal_builtin (hg.keeps k) T.msup (hb.keeps k) ((hbb _ (by decide +kernel)).trans PyProof.Rows.Boot.«super») ⟨rfl, ?_⟩)
  refine wpAny_loadName_free rfl (by first | rfl | with_unfolding_all rfl) rfl ⟨_, X₁ _ _ hcell, rfl⟩ ?_
  refine wpAny_loadName_local rfl (by first | rfl | with_unfolding_all rfl) hn (v := .ref e) (by first | rfl | with_unfolding_all rfl | kernel_rfl) ?_
  obtain ⟨oC, hoC, hoC2⟩ : ∃ oC, h₁.get? C = some oC ∧ oC.data = .cls cd := by
    unfold PySem.W.clsIn at hcd1
    split at hcd1
    · rename_i ho'
      cases hcd1
      exact ⟨_, X₁ _ _ ho', rfl⟩
    · cases hcd1
  have hCe : e ≠ C := fun z => by
    rw [z, hoC] at hx₁
    cases hx₁
    cases hoC2
  have hsubC : mroIn K C (.ref C) = some true := by
    have := T.er.sub (.ref C)
    rw [show (Value.ref C :: errTail S).contains (.ref C) = true by simp] at this
    exact this
  refine ks_wpAny_isType_cls hoC hoC2 ⟨rfl, ?_⟩
  refine ks_wpAny_call_super hoC hoC2 hx₁ rfl (fun c z => by cases z) (looks_mroIn X₁ hsubC) (fun h2 hso k2 => ?_)
  have X₂ : K.In h2 := X₁.keeps k2
  have hx₂ := k2 _ _ hx₁
  have hI : Looks (model prog w) h2 (isInstance (.ref e) (.type "ValueError")) true := by
    have I : InstAt h2 e (excO C t0) C none := ⟨hx₂, rfl, rfl, trivial⟩
    exact I.type.andThen (looks_subIn X₂ (T.er.subT "ValueError" (by decide)))
  refine kxs_getMethod kxs_ValueError hso (looks_opaque X₂ T.any) (l₀ := cd.mro) (fun A Q E s k q => wpAny_bind ((looks_clsIn X₂ hcd1) A _ E s k (wpAny_pure q))) rfl X₂ (by rw [hmro]; simpa using T.sup) hI hCe (by decide) ?_
  refine kxs_callWith (i := "ValueError.__init__") (x := e) rfl (evalArgs_empty ⟨Heap.get?_push_at rfl rfl, ?_⟩)
  have hu : (h2.push (kxs_mw "ValueError.__init__" e)).get? h2.objs.size = some (kxs_mw "ValueError.__init__" e) := Heap.get?_push_at rfl rfl
  have k3 : ∀ b o, h2.get? b = some o → (h2.push (kxs_mw "ValueError.__init__" e)).get? b = some o := fun b o z => Heap.get?_push_of_some _ z
  obtain ⟨qn, N, bs, sn, sub, ab, col, dd, m0, m1, m2, m3, m5, hCl⟩ := T.er.cls
  refine wpAny_call (codeAny_of_tree ?_)
  show wpAny _ _ (callAny (.ref h2.objs.size) ⟨[], []⟩) _ _ _
  simp only [callAny]
  refine wpAny_bind (wpAny_load hu ?_)
  refine KFB.if_so (by simp only [kxs_mw]; decide) ?_
  simp only [kxs_mw]
  refine wpAny_bind (check_bound_init F.excBase_ValueError.toExcCallFacts (k3 _ _ (X₂ _ _ hCl)) (k3 _ _ hx₂) rfl ?_)
  refine wpAny_bind (wpAny_pure (wpAny_pure ?_))
  refine ⟨plainId_quiet F.excBase_ValueError.init.plain _, codeAny_builtin F.excBase_ValueError.initEntry ?_⟩
  refine exc_init_tree (cls := .ref C) (t0 := t0) (dv := none) (c2 := .none) (c3 := .none) (b4 := .bool false) (k3 _ _ hx₂) (by rw [sizeLine_eq]; decide) (fun h4 k4 hx4 htup => ?_)
  show _root_.PySem.wpAt _ _ _ (execs _ _) _ _ _
  have kk : ∀ b o, b ≠ e → s.heap.get? b = some o → h4.get? b = some o := fun b o hb z => k4 b o hb (k3 _ _ (k2 _ _ (k _ _ z)))
  have X4 : K.In h4 := fun a o z => kk a o (fun y => by rw [y, hnx] at z; cases z) (X a o z)
  have hn4 : h4.Ns s.heap.objs.size (fun y => ([("self", Value.ref e), ("value", v)] : List (Str × Value)).reverse.lookup y) := by
    obtain ⟨oL, es, ep, z, r⟩ := hn
    exact ⟨oL, es, ep, k4 _ _ hxL (k3 _ _ (k2 _ _ z)), r⟩
  have hz4 : s.heap.objs.size ≤ h4.objs.size := Nat.le_of_lt hn4.lt
  refine wpAt_of_wpAny (wpAny_execs_cons (plainObj_wpAny_Assign_Attribute ?_))
  refine wpAny_Name (wpAny_loadName_local rfl (by first | rfl | with_unfolding_all rfl) hn4 (v := v) rfl ?_) (by decide)
  refine wpAny_Name (wpAny_loadName_local rfl (by first | rfl | with_unfolding_all rfl) hn4 (v := .ref e) rfl ?_) (by decide)
  refine set_plain X4 (od := none) ⟨hx4, rfl, rfl, trivial⟩ T.er.sa ?_
  refine exc_osa X4 hx4 hcd1 (by rw [hmro]; exact refs_err S) hhd T.er.nv (fun h5 tk5 dx k5 dn dne hx5 hn5 => ?_)
  refine wpAny_execs_nil ?_
  exact hq h5 tk5 dx _ ⟨fun b o hb z => k5 b o hb (kk b o hb z), hx5, Nat.le_trans hz4 dn, dne, hn5⟩
end
end XA
/-! XB: errors over the hand layer: one is made and raised; a try whose error stays known behind it -/
namespace XA
open PySem PySem.W PySem.Calls PyProof.Rows PySem.HandSPX
section
variable {prog : Program} {w : World} {A : Around} {E : Value → Shared → Prop} {K : Frag} {mg mb : Str → Option Value} {C S fI : Addr} {x : Str}
theorem err_made (T : ErM prog K mg x C S fI) {R : Result → Shared → Prop} {s : Shared} {v : Value} (tI : typeIn K (.ref fI) = some (.type "function")) (X : K.In s.heap) (hlim : s.heap.NoLimit) (hg : s.heap.Ns mainGlobals mg) (hb : s.heap.Ns builtinsNs mb) (hbb : ∀ y : Str, y ≠ "__name__" → mb y = bootBuiltins y)
    (hroom : A.depth + 1 < recursionLimit) (hq : ∀ h' tk e d, Made s.heap h' e C d v → R (.ok (.ret (.ref e))) { s with heap := h', toks := tk }) :
    codeAny (model prog w) A (.call (.ref C) ⟨[v], []⟩) R s := by
  obtain ⟨qn, N, bs, sn, sub, ab, col, dd, m0, m1, m2, m3, m5, hCl⟩ := T.er.cls
  obtain ⟨hp, g, dr, tk, os⟩ := s
  have hz1 : [v].length ≤ sizeLine := by rw [sizeLine_eq]; exact (by decide : 1 ≤ 16777216)
  have k : ∀ b o, hp.get? b = some o → ((hp.push (kdv_tup [v])).push (excO C hp.objs.size)).get? b = some o := fun b o z => Heap.get?_push_of_some _ (Heap.get?_push_of_some _ z)
  have hget : ((hp.push (kdv_tup [v])).push (excO C hp.objs.size)).get? (hp.objs.size + 1) = some (excO C hp.objs.size) := by heap_get
  have hnx : K.lookup (hp.objs.size + 1) = none := by
    cases z : K.lookup (hp.objs.size + 1) with
    | none => rfl
    | some o =>
      have y : hp.get? (hp.objs.size + 1) = some o := X _ _ z
      exact absurd (Nat.lt_of_succ_lt (Heap.lt_size y)) (Nat.lt_irrefl _)
  refine call_own F.excBase_ValueError (fun Y => refsVE_contains Y (errTail S) (refs_err S)) (X _ _ hCl) (looks_findIn X T.iC) (fun self => bind_fn X self tI) hz1 ?_
  refine init_walk (s := ⟨(hp.push (kdv_tup [v])).push (excO C hp.objs.size), g, dr, tk, os⟩) T (X.keeps k) (hlim.keeps k) (hg.keeps k) (hb.keeps k) hbb hget hnx hroom fun h' tk' dx t1 ⟨k', hx, dn, dne, hns⟩ => ?_
  have old : ∀ b o, hp.get? b = some o → h'.get? b = some o := fun b o z => k' b o (Nat.ne_of_lt (Nat.lt_succ_of_lt (Heap.lt_size z))) (k b o z)
  have z : hp.objs.size + 1 + 1 ≤ dx := by
    have q := dn
    rw [Heap.size_push, Heap.size_push] at q
    exact q
  exact ⟨rfl, hq h' tk' (hp.objs.size + 1) dx ⟨old, Nat.le_succ _, ⟨_, _, hx, rfl, rfl, rfl, rfl⟩, Nat.le_trans (Nat.le_trans (Nat.le_succ _) (Nat.le_succ _)) z, dne, hns⟩⟩
end
theorem fnTy {P : Program} {K : Frag} {mg : Str → Option Value} {x : Str} {C S fI : Addr} (T : ErM P K mg x C S fI) : typeIn K (.ref fI) = some (.type "function") := by
  obtain ⟨oc, od, Ar, Bd, Sc, q, dV, kV, doc, pm, an, cda, cc, ct, osl, IT, hoc, ho, _⟩ := T.fn
  show (K.lookup fI).map (·.cls) = _
  rw [ho, hoc]; rfl
end XA
namespace L2
open PySem PySem.Spec PyProof.Rows XA
theorem relO_one {f0 : Str} {v : V} {u : Value} (r : RelV v u) (f : Str) : RelO (List.lookup f [(f0, v)]) (if f = f0 then some u else none) := by
  by_cases hw : f = f0
  · subst hw
    rw [if_pos rfl, show List.lookup f [(f, v)] = some v by simp [List.lookup]]
    exact r
  · rw [if_neg hw, show List.lookup f [(f0, v)] = none by simp [List.lookup, beq_eq_false_iff_ne.mpr hw]]
    trivial
section
variable {X : Cx} {x : Str} {C S fI : Addr}
/-- x(e) -/
def tMkE (C : Addr) (ta : TA) : St → Hp → XK → Prop := fun σ H Q => ta σ H fun vs H1 => ∃ v, vs = [v] ∧ ∀ d, H1 d = none → Q (.ref C) (some d) (upd H1 d (.xd [(("value" : Str), v)]))
theorem pmk_err {a : Expr} {ta : TA} {p pos : Pos} {k : Nat} (T : XA.ErM X.prog X.K X.mg x C S fI) (hr : Room k X.A) (ha : PA X [a] ta) (hg : Gl X x)
    (he : starEach (a :: []) X.env = (false, eval a X.env) :: starEach [] X.env := by rfl) (hpl : (backTo pos (starEach [] X.env)).any (·.1) = false := by rfl) (hdb : (x == ("__debug__" : Str)) = false := by decide) :
    PMk X (.Call (.Name x p) [a] [] pos) (tMkE C ta) := by
  intro pins s σ H Q I h
  refine wpAny_Call_Name_kw (ld_glob I hg T.gC ?_ hdb)
  refine PySem.W.callWith_K (h₀ := X.base) I.ok.mod.kin T.er.kp (thn (ha.run pos pins s σ H _ I h) fun us s1 ⟨vs, H1, I1, r1, v, ev, q1⟩ => ?_) he hpl
  subst ev
  refine ⟨I1.kIn, ?_⟩
  cases r1 with
  | @cons _ v' _ us' rv rn =>
    cases rn
    show wpAny _ _ (call (.ref C) [v']) _ _ _
    have hlim := I1.nolimit
    obtain ⟨mb, hb1, hb2⟩ := I1.mod.blt
    have hgl := I1.mod.glob.keeps I1.bk
    have hbl := hb1.keeps I1.bk
    obtain ⟨hp, g, dr, tk, os⟩ := s1
    refine wpAny_call (err_made T (fnTy T) I1.kIn hlim hgl hbl hb2 (by have := hr.dp; omega) fun h' tk' e d M => ?_)
    show MkP X pins σ Q (.ref e) ⟨h', g, dr, tk', os⟩
    obtain ⟨oe, fv, hoe, hc, hd, hdat, h1⟩ := M.obj
    have hns := M.ns
    obtain ⟨G', g1, g2⟩ := restrict h' fun b => decide (b ≠ e)
    have gk : ∀ b, b ≠ e → G'.get? b = h'.get? b := fun b hb => g1 b (decide_eq_true hb)
    have ge : G'.get? e = none := g2 e (by simp)
    have old : ∀ b o, hp.get? b = some o → G'.get? b = some o := fun b o q => (gk b (Nat.ne_of_lt (Nat.lt_of_lt_of_le (Heap.lt_size q) M.new))).trans (M.keep b o q)
    have ob : ObjOk X.prog X.w (upd H1 d (.xd [(("value" : Str), v)])) G' d (.xd [(("value" : Str), v)]) :=
      ⟨_, hns.at (fun o q => (gk d M.dne).trans q), fun f => relO_one rv f⟩
    have J : Inv X pins σ (upd H1 d (.xd [(("value" : Str), v)])) ⟨G', g, dr, tk', os⟩ := I1.laid (t' := tk') old M.dbig ob
    refine ⟨e, oe, fv, ⟨G', g, dr, tk', os⟩, _, .ref C, some d, rfl, J, fun b o q => ?_, ge, hoe, ⟨hc, hd⟩, hdat, h1, ?_, rfl, I1.bare, raises_own (T.er.subT "BaseException" (by decide)) T.er.ty, q1 d (I1.hok.fresh M.dbig)⟩
    · by_cases hb : b = e
      · have q' : G'.get? b = some o := q
        rw [hb, ge] at q'; cases q'
      · exact (gk b hb).symm.trans q
    · rw [upd_ne (Ne.symm M.dne)]
      exact I1.hok.fresh M.new
end
/-! ### try: the error is tracked from the suite on -/
/-- at a: an error of the class at C with its own dict at dd -/
def ErAt (a C dd : Addr) (h : Heap) : Prop := ∃ vs sl, h.get? a = some { cls := .ref C, dict := some dd, data := .fields vs, slots := sl }
def erO (a C dd : Addr) : HO := .ext (ErAt a C dd)
section
variable {X : Cx} {pins : List (Addr × Obj)} {σ : St} {H : Hp} {sI s' : Shared} {B : Heap}
theorem adopt {a C dd : Addr} (I : Inv X pins σ H sI) (nb : ∀ b o, sI.heap.get? b = some o → b ∉ frs X.stack → B.get? b = some o) (st : B.StaysIn s'.heap) (up : sI.heap.UpToSlots s'.heap) (os : s'.os = sI.os) (ag : AllBare s'.gens)
    (nB : B.get? a = none) (nF : a ∉ frs X.stack) (na : H a = none) (ha : ErAt a C dd s'.heap) : Inv X pins σ (upd H a (erO a C dd)) s' := by
  have nI : sI.heap.get? a = none := by
    cases z : sI.heap.get? a with
    | none => rfl
    | some o => rw [nb a o z nF] at nB; cases nB
  have ne : ∀ {b : Addr} {o : Obj}, sI.heap.get? b = some o → b ≠ a := fun {b o} z y => by rw [y, nI] at z; cases z
  have nf : ∀ b ∈ frs X.stack, ∀ o, sI.heap.get? b = some o → ∃ sl, s'.heap.get? b = some { o with slots := sl } := fun b hb o e => by
    obtain ⟨_, o', e', hd⟩ := I.stack.mem hb
    rw [e] at e'
    cases e'
    exact up b o e hd
  have hok0 : HOk X.prog X.w H s'.heap := (I.inGround nb).kept st
  have hok : HOk X.prog X.w (upd H a (erO a C dd)) s'.heap := fun b o q => by
    by_cases hb : b = a
    · subst hb
      rw [upd_same] at q
      cases q
      obtain ⟨vs, sl, hv⟩ := ha
      exact ⟨⟨vs, sl, hv⟩, ⟨_, hv⟩, fun h1 h2 z kk => by
        obtain ⟨vs', sl', z'⟩ := z
        exact ⟨vs', sl', kk _ z'⟩⟩
    · rw [upd_ne hb] at q
      refine (hok0 b o q).stay (fun c v _ z => z) (fun c hc => ?_) fun c xs hc => ?_
      · rw [upd_ne (fun z => by rw [z, na] at hc; cases hc)]; exact hc
      · rw [upd_ne (fun z => by rw [z, na] at hc; cases hc)]; exact hc
  have no : ∀ {b : Addr} {o : HO}, H b = some o → upd H a (erO a C dd) b = some o := fun {b o} z => by
    rw [upd_ne (fun y => by rw [y, na] at z; cases z)]; exact z
  have J := I.call (ch := []) (h' := s'.heap) (g' := s'.gens) (t' := s'.toks) (d' := s'.drawn) (H' := upd H a (erO a C dd))
    ⟨fun b o e _ hb _ => st b o (nb b o e hb), fun b o e _ hb _ => nf b hb o e, fun b o e n _ => by rw [upd_ne (ne e)]; exact n, fun b o e _ => by
      by_cases hb : b ∈ frs X.stack
      · obtain ⟨sl, q⟩ := nf b hb o e
        exact ⟨_, q⟩
      · exact ⟨o, st b o (nb b o e hb)⟩, fun _ _ e => no e, fun _ _ _ e => no e, fun b ps e => ⟨#[], by rw [no e]; simp⟩⟩
    hok ag (fun _ z => nomatch z)
  obtain ⟨a1, a2, a3, a4, a5⟩ := s'
  have e5 : a5 = sI.os := os
  subst e5
  exact J
end
/-- the context of a suite, the error being tracked -/
abbrev sui (X : Cx) (a : Addr) (pn : List (Addr × Obj)) : Cx := X.suite a pn
section
variable {X : Cx} {pins : List (Addr × Obj)} {σ : St} {H : Hp} {s : Shared} {a : Addr}
theorem toSui (I : Inv X pins σ H s) : Inv (sui X a (X.pn ++ pins)) [] σ H s :=
  ⟨I.ok.suite _ _, I.os, I.bare, I.base, I.loc, I.cell, I.free, I.freeC, fun p hp => I.pin p (by rw [List.append_nil] at hp; exact hp), I.hok, I.len⟩
theorem ofSui {pn' : List (Addr × Obj)} (I : Inv (sui X a (X.pn ++ pins)) pn' σ H s) (ok : X.Ok) : Inv X pins σ H s :=
  ⟨ok, I.os, I.bare, I.base, I.loc, I.cell, I.free, I.freeC, fun p hp => I.pin p (List.mem_append_left _ hp), I.hok, I.len⟩
end
/-- what 'except c as n' wishes of an error of the body, slot i being n's -/
def wSui (K : PySem.W.Frag) (c : Value) (i : Nat) (ts : TS) (Wout : WX) (D : Ends) : WX := fun cls d σ H => ∃ (C dd : Addr), cls = .ref C ∧ d = some dd ∧
  ∃ b, PySem.W.exmOne K cls c = some b ∧ (b = true → ∀ a, H a = none → ts { nx := fun σ' H' => D.nx (σ'.set i none) H', rt := D.rt, bk := fun σ' H' => D.bk (σ'.set i none) H', ct := fun σ' H' => D.ct (σ'.set i none) H' } (σ.set i (some (.ref a))) (upd H a (erO a C dd))) ∧ (b = false → Wout cls d σ H)
section
variable {X : Cx} {x n : Str} {c : Value} {i : Nat} {body suite : List Stmt} {b₀ : Stmt} {np pos pos' : Pos} {tb : WX → TS} {ts : TS} {Wout : WX}
theorem ps_try_sui (hs : X.stack = X.env :: X.outer) (hf : X.env.frame = some X.env.locals) (hN : X.N.Nodup) (hi : X.N[i]? = some n) (hln : X.env.kindOf n = some .local) (hc : Names X x c) (tk : Takes X Wout)
    (hb : ∀ (W : WX) (pn : List (Addr × Obj)) (xe : Value → Shared → Prop), Takes (X.tr pn xe) W → PassesOwn (model X.prog X.w) X.A X.env xe → PSs (X.tr pn xe) body (tb W))
    (hsu : ∀ (a : Addr) (pn : List (Addr × Obj)), PSs (sui X a pn) (b₀ :: suite) ts) :
    PS X (.Try body [.ExceptHandler (some (.Name x np)) (some n) (b₀ :: suite) pos'] [] [] pos) (fun D σ H => tb (wSui X.K c i ts Wout D) D σ H) := by
  refine ⟨fun pins s σ H D I h => ?_⟩
  have okX := I.ok
  have hfr : X.A.frames = some (X.env :: X.outer) := by rw [okX.frames, hs]
  refine wpAny_Try_except ?_
  refine wpAny_mono ((hb (wSui X.K c i ts Wout D) (X.pn ++ pins) (fun e s₁ => wpAny (model X.prog X.w) X.A (noteFrame e X.env) (fun _ s₂ => wpAny (model X.prog X.w) X.A (setFlight e none) (fun _ s₃ =>
    wpAny (model X.prog X.w) X.A (handleBy e X.env [.ExceptHandler (some (.Name x np)) (some n) (b₀ :: suite) pos']) (SP X pins D) X.xe s₃) X.xe s₂) X.xe s₁) (fun u s1 xx => ?_) PassesOwn.looking).run [] s σ H D (I.toTry _) h)
    (fun fl s1 hsp => ?_) (fun _ _ y => y)
  · obtain ⟨a, B, sI, pins1, σ1, H1, cls, d, rfl, J0, nb, up, sky, na, os, ag, C, dd, rfl, rfl, b, hb1, hyes, hno⟩ := xx
    have J : Inv X pins σ1 H1 sI := J0.ofTry okX
    have skyX : Sky B (X.env :: X.outer) a (Zc (.ref C) (some dd)) X.env.locals s1.heap := by rw [← hs]; exact sky
    refine Sky.land Zc.steady hfr hf skyX fun h3 fly3 up3 => ?_
    have J3 : Inv X pins σ1 H1 { s1 with heap := h3 } := J.landed nb fly3.1 (up.trans up3) os ag
    obtain ⟨oe3, vs3, he3, hz3, hd3⟩ := fly3.there
    have nFr : a ∉ frs (X.env :: X.outer) := fun hm => by
      obtain ⟨_, o', e', hnf⟩ := fly3.2.2.1.mem hm
      rw [he3] at e'
      cases e'
      exact hnf _ hd3
    refine wpAny_handleBy_cons (codeAny_handlers_test ?_) (by intro z; cases z)
    have LT : PySem.W.Looks (model X.prog X.w) h3 (typeOf (.ref a)) (.ref C) := fun A Q E s k q => wpAny_typeOf_ref (k _ _ he3) (by rw [hz3.1]; exact q)
    have LM := PySem.W.exm_one (M := model X.prog X.w) J3.kIn LT hb1
    have test : ∀ {Q : Value → Shared → Prop} {E : Value → Shared → Prop}, Q c { s1 with heap := h3 } → wpAny (model X.prog X.w) (X.A.mark (some (.ref a))) (eval (.Name x np) X.env) Q E { s1 with heap := h3 } := fun {Q E} q => by
      have S3 := toSui (a := a) J3
      obtain ⟨g1, g2, m1 | ⟨m1, m2, m3⟩⟩ := hc
      · exact ld_glob (X := sui X a (X.pn ++ pins)) S3 g1 m1 q g2
      · exact ld_blt (X := sui X a (X.pn ++ pins)) S3 g1 m1 m2 q m3 g2
    refine test (LM.here ?_)
    cases b with
    | true =>
      refine codeAny_handlers_suite_as (HandSPX.lands_againZ fly3 fun h4 fly4 up4 => ?_)
      obtain ⟨oe4, vs4, he4, hz4, hd4⟩ := fly4.there
      have hat : ErAt a C dd h4 := by
        obtain ⟨z1, z2⟩ := hz4
        obtain ⟨q1, q2, q3, q4⟩ := oe4
        dsimp only at z1 z2 hd4
        subst z1 z2 hd4
        exact ⟨_, _, he4⟩
      have J4 : Inv X pins σ1 (upd H1 a (erO a C dd)) { s1 with heap := h4 } := adopt J nb fly4.1 ((up.trans up3).trans up4) os ag fly4.2.1 (by rw [hs]; exact nFr) na hat
      refine store_ok (X := sui X a (X.pn ++ pins)) (v := .ref a) (toSui (a := a) J4) hN hi (.inl hln) rfl (fun s5 S5 => ?_) (.inr hln)
      refine wpAny_mono ((hsu a (X.pn ++ pins)).run [] s5 _ _ _ S5 (hyes rfl a na)) (fun fl s6 hsp => ?_) (fun _ _ z => False.elim z)
      have away : ∀ {σ6 : St} {H6 : Hp} {Q : Shared → Prop}, Inv (sui X a (X.pn ++ pins)) [] σ6 H6 s6 → (∀ s7, Inv X pins (σ6.set i none) H6 s7 → Q s7) →
          wpAny (model X.prog X.w) X.A (do bindName X.env n .none; unbindBehindTheSuite X.env n pos') (fun _ s7 => Q s7) X.xe s6 := fun {σ6 H6 Q} S6 q => gone_ok (ofSui S6 okX) hN hi hln q
      match fl, hsp with
      | .next, ⟨σ6, H6, S6, q6⟩ => exact away S6 fun s7 J7 => ⟨_, _, J7, q6⟩
      | .brk, ⟨σ6, H6, S6, q6⟩ => exact away S6 fun s7 J7 => ⟨_, _, J7, q6⟩
      | .cont, ⟨σ6, H6, S6, q6⟩ => exact away S6 fun s7 J7 => ⟨_, _, J7, q6⟩
      | .ret u, ⟨v6, σ6, H6, S6, r6, q6⟩ => exact away S6 fun s7 J7 => ⟨_, _, _, J7, r6, q6⟩
    | false =>
      show wpAny _ X.A (handleBy (.ref a) X.env []) _ _ _
      refine wpAny_handleBy_nil ?_
      obtain ⟨k1, k2, k3, oe, vs, T, oT, ts', he, hz, hd, h1, hr⟩ := id fly3
      unfold PySem.passOn
      refine wpAny_bind (wpAny_field he hd h1 ?_)
      rw [if_neg (show ¬ ((Value.ref T == Value.none) = true) from by simp)]
      have onward : wpAny (model X.prog X.w) X.A (setFlight (.ref a) X.env.frame) (fun _ s4 => wpAny (model X.prog X.w) X.A (throw (.ref a) : Sem Flow) (SP X pins D) X.xe s4) X.xe { s1 with heap := h3 } := by
        rw [hf]
        refine HandSPX.setFlight_upZ fly3 fun h4 hh4 up4 => wpAny_throw (tk _ _ ⟨a, B, sI, pins, σ1, H1, .ref C, some dd, rfl, J, nb, (up.trans up3).trans up4, .inr (.inr (by rw [hs]; exact hh4)), na, os, ag, hno rfl⟩)
      first
        | exact wpAny_bind (wpAny_pure (wpAny_bind onward))
        | exact wpAny_bind onward
  · match fl, hsp with
    | .next, ⟨σ', H', J', q⟩ => exact wpAny_execs_nil ⟨σ', H', J'.ofTry okX, q⟩
    | .brk, ⟨σ', H', J', q⟩ => exact ⟨σ', H', J'.ofTry okX, q⟩
    | .cont, ⟨σ', H', J', q⟩ => exact ⟨σ', H', J'.ofTry okX, q⟩
    | .ret u, ⟨v, σ', H', J', r, q⟩ => exact ⟨v, σ', H', J'.ofTry okX, r, q⟩
end
end L2
namespace XA
open PySem PySem.W PySem.Calls PyProof.Rows PySem.HandSPX
/-- the common class -/
theorem shC_mk {K : Frag} {S N : Addr} {q : Str} {bs : List Value} {sn : List Str} {sub : List Value} {ab : Bool} {col : Option Bool} {dd : Option Addr} {k0 k1 k2 k3 k5 : Option Value} (ns : nsIn K mainGlobals "SheetError" = some (some (.ref S)))
    (lk : K.lookup S = some (excClassObj "SheetError" q S N bs [.type "ValueError", .type "Exception", .type "BaseException", .type "object"] true sn sub ab col dd k0 k1 k2 k3 k5 "ValueError.__new__")) : ShC K S :=
  ⟨ns, ⟨q, N, bs, sn, sub, ab, col, dd, k0, k1, k2, k3, k5, lk⟩⟩
/-- an error's class, from what the top has left -/
theorem erM_mk {P : Program} {K : Frag} {h : Heap} {mg : Str → Option Value} {x : Str} {C S fI N cda cc td : Addr} {q qf : Str} {bs : List Value} {sn : List Str} {sub : List Value} {ab : Bool} {col : Option Bool} {dd : Option Addr} {k0 k1 k2 k3 k5 : Option Value}
    {A : Arguments} {B : List Stmt} {Sc : Scope} {od an : Option Addr} {kV doc pm ct : Value} {osl : Array (Option Value)} {c1 c2 c3 : Value} {d1 d2 d3 : Option Addr} {sl1 sl2 sl3 : Array (Option Value)} {n : Nat} {vs : Array Value} {file : Str} {tf : Tok}
    (X : K.In h) (G : h.Ns mainGlobals mg) (sh : ShC K S) (it : InitTxt A B Sc) (ne : x ≠ "SheetError")
    (ns : nsIn K mainGlobals x = some (some (.ref C)))
    (lk : K.lookup C = some (excClassObj x q C N bs [.ref S, .type "ValueError", .type "Exception", .type "BaseException", .type "object"] true sn sub ab col dd k0 k1 k2 k3 k5 "ValueError.__new__"))
    (sa : findIn K (.ref C) "__setattr__" = some (some (.builtin "object.__setattr__"))) (ga : findIn K (.ref C) "__getattribute__" = some (some (.builtin "BaseException.__getattribute__"))) (gg : findIn K (.ref C) "__getattr__" = some none)
    (nv : findIn K (.ref C) "value" = some none) (kp : keepIn K (.ref C) = true) (hc : findIn K (.ref C) "__class__" = some (some (.builtin "object.__class__")))
    (gs : specialIn K (.builtin "object.__class__") "__get__" = some (some (.builtin "getset_descriptor.__get__"))) (tk : takesIn K (.builtin "object.__class__") = some true)
    (iC : findIn K (.ref C) "__init__" = some (some (.ref fI))) (sup : alongIn K "__init__" [.ref S, .type "ValueError", .type "Exception", .type "BaseException", .type "object"] = some (some (.builtin "ValueError.__init__")))
    (any : nsIn K cStatics "thirdparty.any" = some none) (msup : nsIn K mainGlobals "super" = some none)
    (lf : K.lookup fI = some ⟨.type "function", od, .func (fnX "__init__" qf A B Sc [("__class__", cc)] (.ref td) kV doc pm an (.ref cda) ct), osl⟩) (cd : codeIn K (.ref cda) qf = true)
    (lc : K.lookup cc = some ⟨c1, d1, .cell (some (.ref C)), sl1⟩) (lt : K.lookup td = some ⟨c2, d2, .seq #[.none] n, sl2⟩) (lv : K.lookup cda = some ⟨c3, d3, .fields vs, sl3⟩) (hv : vs[2]? = some (.str file tf)) (hf : ((P.main.file : Str) == file) = true)
    (top : (P.main.scope.names.lookup ("super" : Str)).isSome = false) : ∃ C S fI, ErM P K mg x C S fI :=
  ⟨C, S, fI, ⟨⟨ns, sh, ne, ⟨q, N, bs, sn, sub, ab, col, dd, k0, k1, k2, k3, k5, lk⟩, sa, ga, gg, nv, kp, hc, gs, tk⟩, mg_of X G ns, iC, sup, any, mg_none_of X G msup,
    ⟨_, od, A, B, Sc, qf, _, kV, doc, pm, an, cda, cc, ct, osl, it, rfl, lf, cd, ⟨c1, d1, sl1, lc⟩, ⟨td, c2, d2, n, sl2, rfl, lt⟩, ⟨c3, d3, vs, sl3, file, tf, lv, hv, hf⟩⟩, top⟩⟩
end XA
/-! DL1: data D, what represents it, the state of a def as plain data, the judgements -/
namespace DL
open PySem PySem.Spec PyProof.Rows L2
inductive D where
  | non
  | bl (b : Bool)
  | int (i : Int)
  | str (x : Str)
  | tup (l : List D)
  | lst (l : List D)
  | dct0
  | scr (ns : List Int)
  | own (k : Nat)
  | exc (x : Str) (d : D)
  | glb (x : Str)
  | val (v : V)
abbrev St := L2.St
abbrev Env := List (Option D)
inductive Own where
  | lst (ds : List D)
  | dead
abbrev Mem := List Own
/-- where the owned cells stand; the lists that are being made out of sight -/
structure Ph where
  cells : List Addr
  hid : List (Addr × HO)
abbrev Ph.add (ph : Ph) (p : Addr) : Ph := { ph with cells := ph.cells ++ [p] }
abbrev Ph.cut (ph : Ph) (n : Nat) : Ph := { ph with cells := ph.cells.take n }
abbrev fVal : Str := "value"
/-- a tuple that stands still: one that was made, or one of the module's -/
def TupK (K : PySem.W.Frag) (S : Hp) (a : Addr) (xs : List V) : Prop := S a = some (.tup xs) ∨
  ∃ (o : Obj) (its : Array Value) (n : Nat), K.lookup a = some o ∧ o.cls = .type "tuple" ∧ o.data = .seq its n ∧ its.size ≤ sizeLine ∧ Vals xs its.toList
theorem TupK.ext {K : PySem.W.Frag} {S S' : Hp} {a : Addr} {xs : List V} (h : TupK K S a xs) (s : Same S S') : TupK K S' a xs := h.imp (fun z => s _ _ z) fun z => z
theorem TupK.sq {K : PySem.W.Frag} {S H : Hp} {a : Addr} {xs : List V} (h : TupK K S a xs) (s : Same S H) : SqT K H a xs := h.elim (fun z => SqT.of (s _ _ z)) .inr
mutual
inductive Rep (K : PySem.W.Frag) (ph : Ph) (S : Hp) : V → D → Prop
  | non : Rep K ph S .non .non
  | bl (b : Bool) : Rep K ph S (.bl b) (.bl b)
  | int (i : Int) : Rep K ph S (.int i) (.int i)
  | str (x : Str) : Rep K ph S (.str x) (.str x)
  | tup {a : Addr} {xs : List V} {ds : List D} : TupK K S a xs → RepAll K ph S xs ds → Rep K ph S (.ref a) (.tup ds)
  | lst {a : Addr} {xs : List V} {ds : List D} : S a = some (.lst xs) → RepAll K ph S xs ds → Rep K ph S (.ref a) (.lst ds)
  | scr {a : Addr} {ns : List Int} : SqL K S a (ns.map V.int) → Rep K ph S (.ref a) (.scr ns)
  | dct0 {a : Addr} : S a = some (.dK []) → Rep K ph S (.ref a) .dct0
  | own {a : Addr} {k : Nat} : ph.cells[k]? = some a → Rep K ph S (.ref a) (.own k)
  | exc {a C T dd : Addr} {x : Str} {v : V} {d : D} : XA.ErC K x C T → S a = some (erO a C dd) → S dd = some (.xd [(fVal, v)]) → Rep K ph S v d → Rep K ph S (.ref a) (.exc x d)
  | glb {a : Addr} {x : Str} : PySem.W.nsIn K mainGlobals x = some (some (.ref a)) → Rep K ph S (.ref a) (.glb x)
  | val (v : V) : Rep K ph S v (.val v)
inductive RepAll (K : PySem.W.Frag) (ph : Ph) (S : Hp) : List V → List D → Prop
  | nil : RepAll K ph S [] []
  | cons {v : V} {vs : List V} {d : D} {ds : List D} : Rep K ph S v d → RepAll K ph S vs ds → RepAll K ph S (v :: vs) (d :: ds)
end
structure Ext (ph : Ph) (S : Hp) (ph' : Ph) (S' : Hp) : Prop where
  pre : ∀ (k : Nat) (a : Addr), ph.cells[k]? = some a → ph'.cells[k]? = some a
  same : Same S S'
  hid : ph'.hid = ph.hid
theorem Ext.refl {ph : Ph} {S : Hp} : Ext ph S ph S := ⟨fun _ _ h => h, fun _ _ h => h, rfl⟩
theorem Ext.trans {ph ph1 ph2 : Ph} {S S1 S2 : Hp} (a : Ext ph S ph1 S1) (b : Ext ph1 S1 ph2 S2) : Ext ph S ph2 S2 :=
  ⟨fun k x h => b.pre k x (a.pre k x h), a.same.trans b.same, b.hid.trans a.hid⟩
section
variable {K : PySem.W.Frag} {ph ph' : Ph} {S S' : Hp}
mutual
theorem Rep.ext (x : Ext ph S ph' S') : ∀ (d : D) (v : V), Rep K ph S v d → Rep K ph' S' v d
  | .non, _, h => by cases h; exact .non
  | .bl _, _, h => by cases h; exact .bl _
  | .int _, _, h => by cases h; exact .int _
  | .str _, _, h => by cases h; exact .str _
  | .tup ds, _, h => by
    cases h with
    | tup h1 h2 => exact .tup (h1.ext x.same) (RepAll.ext x ds _ h2)
  | .lst ds, _, h => by
    cases h with
    | lst h1 h2 => exact .lst (x.same _ _ h1) (RepAll.ext x ds _ h2)
  | .dct0, _, h => by
    cases h with
    | dct0 h1 => exact .dct0 (x.same _ _ h1)
  | .scr ns, _, h => by
    cases h with
    | scr h1 => exact .scr (x.same.seq h1)
  | .own k, _, h => by
    cases h with
    | own h1 => exact .own (x.pre _ _ h1)
  | .glb _, _, h => by
    cases h with
    | glb h1 => exact .glb h1
  | .exc C d, _, h => by
    cases h with
    | exc h0 h1 h2 h3 => exact .exc h0 (x.same _ _ h1) (x.same _ _ h2) (Rep.ext x d _ h3)
  | .val v, _, h => by cases h; exact .val _
theorem RepAll.ext (x : Ext ph S ph' S') : ∀ (ds : List D) (vs : List V), RepAll K ph S vs ds → RepAll K ph' S' vs ds
  | [], _, h => by cases h; exact .nil
  | d :: ds, _, h => by
    cases h with
    | cons h1 h2 => exact .cons (Rep.ext x d _ h1) (RepAll.ext x ds _ h2)
end
theorem Rep.up {d : D} {v : V} (h : Rep K ph S v d) (x : Ext ph S ph' S') : Rep K ph' S' v d := Rep.ext x d v h
theorem RepAll.up {ds : List D} {vs : List V} (h : RepAll K ph S vs ds) (x : Ext ph S ph' S') : RepAll K ph' S' vs ds := RepAll.ext x ds vs h
theorem RepAll.len : ∀ {vs : List V} {ds : List D}, RepAll K ph S vs ds → vs.length = ds.length
  | _, _, .nil => rfl
  | _, _, .cons _ t => by rw [List.length_cons, List.length_cons, RepAll.len t]
theorem RepAll.get : ∀ {vs : List V} {ds : List D} {i : Nat} {d : D}, RepAll K ph S vs ds → ds[i]? = some d → ∃ v, vs[i]? = some v ∧ Rep K ph S v d
  | _, _, _, _, .nil, e => by simp at e
  | _, _, 0, _, .cons r _, e => by simp at e; subst e; exact ⟨_, rfl, r⟩
  | _, _, i + 1, _, .cons _ t, e => by
    obtain ⟨v, e1, r⟩ := RepAll.get (i := i) t (by simpa using e)
    exact ⟨v, by simpa using e1, r⟩
theorem RepAll.app : ∀ {vs ws : List V} {ds es : List D}, RepAll K ph S vs ds → RepAll K ph S ws es → RepAll K ph S (vs ++ ws) (ds ++ es)
  | _, _, _, _, .nil, q => q
  | _, _, _, _, .cons r t, q => .cons r (RepAll.app t q)
theorem RepAll.take : ∀ {vs : List V} {ds : List D} (n : Nat), RepAll K ph S vs ds → RepAll K ph S (vs.take n) (ds.take n)
  | _, _, 0, _ => .nil
  | _, _, _ + 1, .nil => .nil
  | _, _, n + 1, .cons r t => .cons r (RepAll.take n t)
theorem RepAll.drop : ∀ {vs : List V} {ds : List D} (n : Nat), RepAll K ph S vs ds → RepAll K ph S (vs.drop n) (ds.drop n)
  | _, _, 0, r => r
  | _, _, _ + 1, .nil => .nil
  | _, _, n + 1, .cons r t => RepAll.drop n t
theorem RepAll.set {v : V} {d : D} (r : Rep K ph S v d) : ∀ {vs : List V} {ds : List D} (i : Nat), RepAll K ph S vs ds → RepAll K ph S (vs.set i v) (ds.set i d)
  | _, _, _, .nil => .nil
  | _, _, 0, .cons _ t => .cons r t
  | _, _, i + 1, .cons q t => .cons q (RepAll.set r i t)
theorem RepAll.rep {v : V} {d : D} (r : Rep K ph S v d) : ∀ n : Nat, RepAll K ph S (List.replicate n v) (List.replicate n d)
  | 0 => .nil
  | n + 1 => .cons r (RepAll.rep r n)
theorem RepAll.ints : ∀ ns : List Int, RepAll K ph S (ns.map V.int) (ns.map D.int)
  | [] => .nil
  | n :: ns => .cons (.int n) (RepAll.ints ns)
end
/-- the state (σ, H) is told by the names' data ρ and the owned cells M -/
structure Sat (K : PySem.W.Frag) (ph : Ph) (S : Hp) (r : Env) (M : Mem) (σ : St) (H : Hp) : Prop where
  sub : Same S H
  len : ph.cells.length = M.length
  nd : ph.cells.Nodup
  trk : ∀ (k : Nat) (a : Addr), ph.cells[k]? = some a → ∃ o, H a = some o
  cell : ∀ (k : Nat) (ds : List D), M[k]? = some (.lst ds) → ∃ a xs, ph.cells[k]? = some a ∧ S a = none ∧ H a = some (.lst xs) ∧ RepAll K ph S xs ds
  hid : ∀ p ∈ ph.hid, H p.1 = some p.2 ∧ S p.1 = none ∧ p.1 ∉ ph.cells
  hnd : (ph.hid.map (·.1)).Nodup
  el : r.length = σ.length
  env : ∀ (i : Nat) (d : D), r[i]? = some (some d) → ∃ v, σ[i]? = some (some v) ∧ Rep K ph S v d
abbrev DQ := D → Mem → Prop
abbrev DTE := Env → Mem → DQ → Prop
abbrev DTT := Env → Mem → (Bool → Mem → Prop) → Prop
abbrev DTA := Env → Mem → (List D → Mem → Prop) → Prop
structure DEnds where
  nx : Env → Mem → Prop
  rt : DQ
  bk : Env → Mem → Prop := fun _ _ => False
  ct : Env → Mem → Prop := fun _ _ => False
abbrev DTS := DEnds → Env → Mem → Prop
/-- behind a piece, from (ph, S): the state as it is then, and what is wanted of it -/
def Aft (K : PySem.W.Frag) (ph : Ph) (S : Hp) (r : Env) (σ : St) (H : Hp) (Q : Ph → Hp → Mem → Prop) : Prop :=
  ∃ ph' S' M, Ext ph S ph' S' ∧ Sat K ph' S' r M σ H ∧ Q ph' S' M
def post (K : PySem.W.Frag) (ph : Ph) (S : Hp) (r : Env) (σ : St) (Q : DQ) : VK := fun v H => Aft K ph S r σ H fun ph' S' M => ∃ d, Rep K ph' S' v d ∧ Q d M
def postT (K : PySem.W.Frag) (ph : Ph) (S : Hp) (r : Env) (σ : St) (Q : Bool → Mem → Prop) : Bool → Hp → Prop := fun b H => Aft K ph S r σ H fun _ _ M => Q b M
def postA (K : PySem.W.Frag) (ph : Ph) (S : Hp) (r : Env) (σ : St) (Q : List D → Mem → Prop) : List V → Hp → Prop := fun vs H => Aft K ph S r σ H fun ph' S' M => ∃ ds, RepAll K ph' S' vs ds ∧ Q ds M
def postN (K : PySem.W.Frag) (ph : Ph) (S : Hp) (Q : Env → Mem → Prop) : St → Hp → Prop := fun σ H => ∃ r, Aft K ph S r σ H fun _ _ M => Q r M
/-- behind a return the names are gone -/
def postR (K : PySem.W.Frag) (ph : Ph) (S : Hp) (Q : DQ) : VK := fun v H => ∃ r σ, post K ph S r σ Q v H
structure DE (X : Cx) (e : Expr) (t : DTE) : Prop where
  pe : PE X e (fun σ H Q => ∃ ph S r M Q0, Sat X.K ph S r M σ H ∧ t r M Q0 ∧ ∀ v H', post X.K ph S r σ Q0 v H' → Q v H')
structure DT (X : Cx) (e : Expr) (t : DTT) : Prop where
  pt : PT X e (fun σ H Q => ∃ ph S r M Q0, Sat X.K ph S r M σ H ∧ t r M Q0 ∧ ∀ b H', postT X.K ph S r σ Q0 b H' → Q b H')
structure DW (X : Cx) (e : Expr) (t : DTT) : Prop where
  pw : PW X e (fun σ H Q => ∃ ph S r M Q0, Sat X.K ph S r M σ H ∧ t r M Q0 ∧ ∀ b H', postT X.K ph S r σ Q0 b H' → Q b H')
structure DA (X : Cx) (es : List Expr) (t : DTA) : Prop where
  pa : PA X es (fun σ H Q => ∃ ph S r M Q0, Sat X.K ph S r M σ H ∧ t r M Q0 ∧ ∀ vs H', postA X.K ph S r σ Q0 vs H' → Q vs H')
def lfS (K : PySem.W.Frag) (t : DTS) : TS := fun E σ H => ∃ ph S r M E0, Sat K ph S r M σ H ∧ t E0 r M ∧ (∀ σ' H', postN K ph S E0.nx σ' H' → E.nx σ' H') ∧ (∀ v H', postR K ph S E0.rt v H' → E.rt v H') ∧ (∀ σ' H', postN K ph S E0.bk σ' H' → E.bk σ' H') ∧ (∀ σ' H', postN K ph S E0.ct σ' H' → E.ct σ' H')
structure DS (X : Cx) (st : Stmt) (t : DTS) : Prop where
  ps : PS X st (lfS X.K t)
structure DSs (X : Cx) (sts : List Stmt) (t : DTS) : Prop where
  pss : PSs X sts (lfS X.K t)
/-! ### weakening the hand layer's judgements -/
section
variable {X : Cx}
theorem PE.weak {e : Expr} {t t' : TE} (h : PE X e t) (w : ∀ σ H Q, t' σ H Q → t σ H Q) : PE X e t' := ⟨fun pins s σ H Q I q => h.run pins s σ H Q I (w _ _ _ q)⟩
theorem PT.weak {e : Expr} {t t' : TT} (h : PT X e t) (w : ∀ σ H Q, t' σ H Q → t σ H Q) : PT X e t' := ⟨fun pins s σ H Q I q => h.run pins s σ H Q I (w _ _ _ q)⟩
theorem PW.weak {e : Expr} {t t' : TT} (h : PW X e t) (w : ∀ σ H Q, t' σ H Q → t σ H Q) : PW X e t' := ⟨fun wh pins s σ H Q I q => h.run wh pins s σ H Q I (w _ _ _ q)⟩
theorem PA.weak {e : List Expr} {t t' : TA} (h : PA X e t) (w : ∀ σ H Q, t' σ H Q → t σ H Q) : PA X e t' := ⟨fun pos pins s σ H Q I q => h.run pos pins s σ H Q I (w _ _ _ q)⟩
theorem PS.weak {e : Stmt} {t t' : TS} (h : PS X e t) (w : ∀ E σ H, t' E σ H → t E σ H) : PS X e t' := ⟨fun pins s σ H Q I q => h.run pins s σ H Q I (w _ _ _ q)⟩
theorem PSs.weak {e : List Stmt} {t t' : TS} (h : PSs X e t) (w : ∀ E σ H, t' E σ H → t E σ H) : PSs X e t' := ⟨fun pins s σ H Q I q => h.run pins s σ H Q I (w _ _ _ q)⟩
/-- from a rule of the hand layer -/
theorem DE.of {e : Expr} {t' : TE} {t : DTE} (h : PE X e t') (w : ∀ ph S r M σ H Q, Sat X.K ph S r M σ H → t r M Q → ∀ Q', (∀ v H', post X.K ph S r σ Q v H' → Q' v H') → t' σ H Q') : DE X e t :=
  ⟨PE.weak h fun σ H Q ⟨ph, S, r, M, Q0, hs, ht, hq⟩ => w ph S r M σ H Q0 hs ht Q hq⟩
theorem DT.of {e : Expr} {t' : TT} {t : DTT} (h : PT X e t') (w : ∀ ph S r M σ H Q, Sat X.K ph S r M σ H → t r M Q → ∀ Q', (∀ v H', postT X.K ph S r σ Q v H' → Q' v H') → t' σ H Q') : DT X e t :=
  ⟨PT.weak h fun σ H Q ⟨ph, S, r, M, Q0, hs, ht, hq⟩ => w ph S r M σ H Q0 hs ht Q hq⟩
theorem DW.of {e : Expr} {t' : TT} {t : DTT} (h : PW X e t') (w : ∀ ph S r M σ H Q, Sat X.K ph S r M σ H → t r M Q → ∀ Q', (∀ v H', postT X.K ph S r σ Q v H' → Q' v H') → t' σ H Q') : DW X e t :=
  ⟨PW.weak h fun σ H Q ⟨ph, S, r, M, Q0, hs, ht, hq⟩ => w ph S r M σ H Q0 hs ht Q hq⟩
theorem DA.of {e : List Expr} {t' : TA} {t : DTA} (h : PA X e t') (w : ∀ ph S r M σ H Q, Sat X.K ph S r M σ H → t r M Q → ∀ Q', (∀ v H', postA X.K ph S r σ Q v H' → Q' v H') → t' σ H Q') : DA X e t :=
  ⟨PA.weak h fun σ H Q ⟨ph, S, r, M, Q0, hs, ht, hq⟩ => w ph S r M σ H Q0 hs ht Q hq⟩
/-- the end of a reading: this value, this state -/
theorem Aft.here {K : PySem.W.Frag} {ph : Ph} {S : Hp} {r : Env} {σ : St} {H : Hp} {M : Mem} {Q : Ph → Hp → Mem → Prop} (h : Sat K ph S r M σ H) (q : Q ph S M) : Aft K ph S r σ H Q := ⟨ph, S, M, .refl, h, q⟩
theorem Aft.up {K : PySem.W.Frag} {ph ph1 : Ph} {S S1 : Hp} {r : Env} {σ : St} {H : Hp} {Q : Ph → Hp → Mem → Prop} (x : Ext ph S ph1 S1) (h : Aft K ph1 S1 r σ H Q) : Aft K ph S r σ H Q :=
  let ⟨ph', S', M, x', hs, q⟩ := h
  ⟨ph', S', M, x.trans x', hs, q⟩
/-! ### the simplest expressions -/
def dC (d : D) : DTE := fun _ M Q => Q d M
theorem de_c {e : Expr} {v : V} {d : D} (h : PE X e (tC v)) (hr : ∀ ph S, Rep X.K ph S v d) : DE X e (dC d) :=
  DE.of h fun ph S r M σ H Q hs ht Q' hq => hq _ _ (Aft.here hs ⟨d, hr _ _, ht⟩)
theorem de_int {i j pos} : DE X (.Constant (.int i) j pos) (dC (.int i)) := de_c pe_int fun _ _ => .int _
theorem de_bl {b j pos} : DE X (.Constant (.bool b) j pos) (dC (.bl b)) := de_c pe_bl fun _ _ => .bl _
theorem de_non {j pos} : DE X (.Constant .none j pos) (dC .non) := de_c pe_non fun _ _ => .non
def dVar (i : Nat) : DTE := fun r M Q => match r[i]? with
  | some (some d) => Q d M
  | _ => False
theorem de_var {e : Expr} (i : Nat) (h : PE X e (tVar i)) : DE X e (dVar i) :=
  DE.of h fun ph S r M σ H Q hs ht Q' hq => by
    unfold dVar at ht
    split at ht
    · rename_i d e
      obtain ⟨v, e1, rv⟩ := hs.env i d e
      exact ⟨v, e1, hq _ _ (Aft.here hs ⟨d, rv, ht⟩)⟩
    · exact ht.elim
/-- the name in slot i -/
theorem dv (i : Nat) {x : Str} {pos : Pos} (hN : X.N[i]? = some x := by rfl) (hv : Vis X.env.scope x := by first | exact Or.inl rfl | exact Or.inr (Or.inl rfl) | exact Or.inr (Or.inr rfl)) (hd : (x == ("__debug__" : Str)) = false := by decide)
    (hcd : (x == ("__classdict__" : Str)) = false := by decide) : DE X (.Name x pos) (dVar i) := de_var i (pe_var hN hv hd hcd)
theorem de_globI {x : Str} {i : Int} {t : Tok} {pos : Pos} (hg : Gl X x) (hm : X.mg x = some (.int i t)) (hd : (x == ("__debug__" : Str)) = false := by decide) : DE X (.Name x pos) (dC (.int i)) :=
  de_c (pe_glob (v := .int i) hg hm ⟨t, rfl⟩ hd) fun _ _ => .int _
end
end DL
/-! DL2: heaps that change; data as PyData; operators -/
namespace DL
open PySem PySem.Spec PyProof.Rows L2
mutual
def toPy : D → Option PyData
  | .non => some .none
  | .bl b => some (.bool b)
  | .int i => some (.int i)
  | .str x => some (.str x)
  | .tup l => match toPyAll l with
    | some ps => some (.tuple ps)
    | none => none
  | .lst l => match toPyAll l with
    | some ps => some (.list ps)
    | none => none
  | .dct0 => some (.dict [])
  | .scr _ => none
  | .own _ => none
  | .exc _ _ => none
  | .glb _ => none
  | .val _ => none
def toPyAll : List D → Option (List PyData)
  | [] => some []
  | d :: ds => match toPy d, toPyAll ds with
    | some p, some ps => some (p :: ps)
    | _, _ => none
end
section
variable {K : PySem.W.Frag} {ph ph' : Ph} {S S' : Hp} {r : Env} {M : Mem} {σ : St} {H : Hp} {p : Addr}
mutual
theorem Rep.hidP {c : List Addr} {l l' : List (Addr × HO)} : ∀ (d : D) (v : V), Rep K ⟨c, l⟩ S v d → Rep K ⟨c, l'⟩ S v d
  | .non, _, h => by cases h; exact .non
  | .bl _, _, h => by cases h; exact .bl _
  | .int _, _, h => by cases h; exact .int _
  | .str _, _, h => by cases h; exact .str _
  | .tup ds, _, h => by
    cases h with
    | tup h1 h2 => exact .tup h1 (RepAll.hidP ds _ h2)
  | .lst ds, _, h => by
    cases h with
    | lst h1 h2 => exact .lst h1 (RepAll.hidP ds _ h2)
  | .dct0, _, h => by
    cases h with
    | dct0 h1 => exact .dct0 h1
  | .scr ns, _, h => by
    cases h with
    | scr h1 => exact .scr h1
  | .own k, _, h => by
    cases h with
    | own h1 => exact .own h1
  | .glb _, _, h => by
    cases h with
    | glb h1 => exact .glb h1
  | .exc C d, _, h => by
    cases h with
    | exc h0 h1 h2 h3 => exact .exc h0 h1 h2 (Rep.hidP d _ h3)
  | .val v, _, h => by cases h; exact .val _
theorem RepAll.hidP {c : List Addr} {l l' : List (Addr × HO)} : ∀ (ds : List D) (vs : List V), RepAll K ⟨c, l⟩ S vs ds → RepAll K ⟨c, l'⟩ S vs ds
  | [], _, h => by cases h; exact .nil
  | d :: ds, _, h => by
    cases h with
    | cons h1 h2 => exact .cons (Rep.hidP d _ h1) (RepAll.hidP ds _ h2)
end
theorem Rep.hid {c : List Addr} {l l' : List (Addr × HO)} {d : D} {v : V} (h : Rep K ⟨c, l⟩ S v d) : Rep K ⟨c, l'⟩ S v d := Rep.hidP d v h
theorem RepAll.hid {c : List Addr} {l l' : List (Addr × HO)} {d : List D} {v : List V} (h : RepAll K ⟨c, l⟩ S v d) : RepAll K ⟨c, l'⟩ S v d := RepAll.hidP d v h
theorem Sat.read {d : D} {v : V} (h : Sat K ph S r M σ H) (q : Rep K ph S v d) : Rep K ph H v d := q.up ⟨fun _ _ e => e, h.sub, rfl⟩
theorem Sat.readAll {d : List D} {v : List V} (h : Sat K ph S r M σ H) (q : RepAll K ph S v d) : RepAll K ph H v d := q.up ⟨fun _ _ e => e, h.sub, rfl⟩
theorem Sat.noS (h : Sat K ph S r M σ H) (hp : H p = none) : S p = none := h.sub.free hp
theorem Sat.notin (h : Sat K ph S r M σ H) (hp : H p = none) : ∀ (k : Nat), ph.cells[k]? ≠ some p := fun k e => by
  obtain ⟨o, ho⟩ := h.trk k p e
  rw [hp] at ho; cases ho
theorem sameUpd {p : Addr} {o : HO} (h : H p = none) : Same H (upd H p o) := fun b x e => by
  rw [upd_ne (ne_of_none e h)]
  exact e
/-- a new object that is only read -/
theorem Sat.frz (h : Sat K ph S r M σ H) (hp : H p = none) (o : HO) : Ext ph S ph (upd S p o) ∧ Sat K ph (upd S p o) r M σ (upd H p o) := by
  have x : Ext ph S ph (upd S p o) := ⟨fun _ _ e => e, sameUpd (h.noS hp), rfl⟩
  refine ⟨x, fun b y e => ?_, h.len, h.nd, fun k a e => ?_, fun k ds e => ?_, fun q hq => ?_, h.hnd, h.el, fun i d e => ?_⟩
  · by_cases hb : b = p
    · rw [hb, upd_same] at e ⊢
      exact e
    · rw [upd_ne hb] at e ⊢
      exact h.sub b y e
  · obtain ⟨u, hu⟩ := h.trk k a e
    exact ⟨u, sameUpd hp _ _ hu⟩
  · obtain ⟨a, xs, h1, h2, h3, h4⟩ := h.cell k ds e
    have ne : a ≠ p := fun z => by rw [z, hp] at h3; cases h3
    refine ⟨a, xs, h1, ?_, ?_, h4.up x⟩
    · rw [upd_ne ne]; exact h2
    · rw [upd_ne ne]; exact h3
  · obtain ⟨h1, h2, h3⟩ := h.hid q hq
    have ne : q.1 ≠ p := fun z => by rw [z, hp] at h1; cases h1
    exact ⟨by rw [upd_ne ne]; exact h1, by rw [upd_ne ne]; exact h2, h3⟩
  · obtain ⟨v, e1, q⟩ := h.env i d e
    exact ⟨v, e1, q.up x⟩
/-- a new list that may be changed -/
theorem Sat.new (h : Sat K ph S r M σ H) (hp : H p = none) {xs : List V} {ds : List D} (hr : RepAll K ph S xs ds) :
    Ext ph S (ph.add p) S ∧ Sat K (ph.add p) S r (M ++ [.lst ds]) σ (upd H p (.lst xs)) ∧ (ph.add p).cells[M.length]? = some p := by
  have x : Ext ph S (ph.add p) S := ⟨fun k a e => by
    rw [List.getElem?_append_left (List.getElem?_eq_some_iff.mp e).1]; exact e, fun _ _ e => e, rfl⟩
  have here : (ph.add p).cells[M.length]? = some p := by
    rw [← h.len, List.getElem?_append_right (Nat.le_refl _), Nat.sub_self]; rfl
  have old : ∀ (k : Nat) (a : Addr), (ph.add p).cells[k]? = some a → ph.cells[k]? = some a ∨ (k = ph.cells.length ∧ a = p) := fun k a e => by
    by_cases hk : k < ph.cells.length
    · rw [List.getElem?_append_left hk] at e
      exact .inl e
    · rw [List.getElem?_append_right (by omega)] at e
      cases hk' : k - ph.cells.length with
      | zero =>
        rw [hk'] at e
        exact .inr ⟨by omega, (Option.some.inj e).symm⟩
      | succ n => rw [hk'] at e; simp at e
  refine ⟨x, ⟨fun b y e => sameUpd hp _ _ (h.sub b y e), by rw [List.length_append, List.length_append, h.len]; rfl, ?_, fun k a e => ?_, fun k es e => ?_, fun q hq => ?_, h.hnd, h.el, fun i d e => ?_⟩, here⟩
  · rw [List.nodup_append]
    refine ⟨h.nd, by simp, fun a ha b hb z => ?_⟩
    have hb' : b = p := by simpa using hb
    obtain ⟨k, hk⟩ := List.mem_iff_getElem?.mp ha
    exact h.notin hp k (by rw [hk, z, hb'])
  · rcases old k a e with q | ⟨_, q⟩
    · obtain ⟨u, hu⟩ := h.trk k a q
      exact ⟨u, sameUpd hp _ _ hu⟩
    · exact ⟨_, by rw [q, upd_same]⟩
  · by_cases hk : k < M.length
    · rw [List.getElem?_append_left hk] at e
      obtain ⟨a, ys, h1, h2, h3, h4⟩ := h.cell k es e
      exact ⟨a, ys, x.pre _ _ h1, h2, sameUpd hp _ _ h3, h4.up x⟩
    · rw [List.getElem?_append_right (by omega)] at e
      cases hk' : k - M.length with
      | succ n => rw [hk'] at e; simp at e
      | zero =>
        rw [hk'] at e
        have e' : ds = es := by simpa using e
        have k' : k = M.length := by omega
        subst e'
        subst k'
        exact ⟨p, xs, here, h.noS hp, upd_same, hr.up x⟩
  · obtain ⟨h1, h2, h3⟩ := h.hid q hq
    have ne : q.1 ≠ p := fun z => by rw [z, hp] at h1; cases h1
    exact ⟨by rw [upd_ne ne]; exact h1, h2, fun z => (List.mem_append.mp z).elim h3 fun z => ne (by simpa using z)⟩
  · obtain ⟨v, e1, q⟩ := h.env i d e
    exact ⟨v, e1, q.up x⟩
theorem nd_ix {l : List Addr} (hN : l.Nodup) {i j : Nat} {x : Addr} (a : l[i]? = some x) (b : l[j]? = some x) : i = j := by
  obtain ⟨h1, e1⟩ := List.getElem?_eq_some_iff.mp a
  obtain ⟨h2, e2⟩ := List.getElem?_eq_some_iff.mp b
  exact (List.getElem_inj hN).mp (e1.trans e2.symm)
/-- an owned list is changed -/
theorem Sat.put (h : Sat K ph S r M σ H) {k : Nat} {ds es : List D} {xs : List V} (hk : M[k]? = some (.lst ds)) {a : Addr} (ha : ph.cells[k]? = some a) (hr : RepAll K ph S xs es) :
    Sat K ph S r (M.set k (.lst es)) σ (upd H a (.lst xs)) := by
  obtain ⟨a', ys, h1, h2, h3, h4⟩ := h.cell k ds hk
  rw [ha] at h1
  cases h1
  have kl : k < M.length := (List.getElem?_eq_some_iff.mp hk).1
  refine ⟨fun b y e => ?_, by rw [List.length_set]; exact h.len, h.nd, fun j b e => ?_, fun j fs e => ?_, fun q hq => ?_, h.hnd, h.el, h.env⟩
  · rw [upd_ne (fun z => by rw [z, h2] at e; cases e)]
    exact h.sub b y e
  · by_cases hb : b = a
    · exact ⟨_, by rw [hb, upd_same]⟩
    · rw [upd_ne hb]; exact h.trk j b e
  · by_cases hj : j = k
    · subst hj
      rw [List.getElem?_set_self kl] at e
      cases e
      exact ⟨a, xs, ha, h2, upd_same, hr⟩
    · rw [List.getElem?_set_ne (Ne.symm hj)] at e
      obtain ⟨b, zs, q1, q2, q3, q4⟩ := h.cell j fs e
      have nb : b ≠ a := fun z => by rw [z] at q1; exact hj (nd_ix h.nd q1 ha)
      exact ⟨b, zs, q1, q2, by rw [upd_ne nb]; exact q3, q4⟩
  · obtain ⟨h1, h2, h3⟩ := h.hid q hq
    have ne : q.1 ≠ a := fun z => h3 (by rw [z]; exact List.mem_of_getElem? ha)
    exact ⟨by rw [upd_ne ne]; exact h1, h2, h3⟩
/-- an owned list is changed no more -/
theorem Sat.freeze (h : Sat K ph S r M σ H) {k : Nat} {ds : List D} (hk : M[k]? = some (.lst ds)) :
    ∃ a xs, ph.cells[k]? = some a ∧ Ext ph S ph (upd S a (.lst xs)) ∧ Sat K ph (upd S a (.lst xs)) r (M.set k .dead) σ H ∧ Rep K ph (upd S a (.lst xs)) (.ref a) (.lst ds) := by
  obtain ⟨a, xs, h1, h2, h3, h4⟩ := h.cell k ds hk
  have x : Ext ph S ph (upd S a (.lst xs)) := ⟨fun _ _ e => e, sameUpd h2, rfl⟩
  refine ⟨a, xs, h1, x, ⟨fun b y e => ?_, by rw [List.length_set]; exact h.len, h.nd, h.trk, fun j fs e => ?_, fun q hq => ?_, h.hnd, h.el, fun i d e => ?_⟩, .lst upd_same (h4.up x)⟩
  · by_cases hb : b = a
    · rw [hb, upd_same] at e
      rw [hb, ← e]; exact h3
    · rw [upd_ne hb] at e
      exact h.sub b y e
  · have kl : k < M.length := (List.getElem?_eq_some_iff.mp hk).1
    by_cases hj : j = k
    · subst hj
      rw [List.getElem?_set_self kl] at e
      cases e
    · rw [List.getElem?_set_ne (Ne.symm hj)] at e
      obtain ⟨b, zs, q1, q2, q3, q4⟩ := h.cell j fs e
      have nb : b ≠ a := fun z => by rw [z] at q1; exact hj (nd_ix h.nd q1 h1)
      exact ⟨b, zs, q1, by rw [upd_ne nb]; exact q2, q3, q4.up x⟩
  · obtain ⟨g1, g2, g3⟩ := h.hid q hq
    have ne : q.1 ≠ a := fun z => g3 (by rw [z]; exact List.mem_of_getElem? h1)
    exact ⟨g1, by rw [upd_ne ne]; exact g2, g3⟩
  · obtain ⟨v, e1, q⟩ := h.env i d e
    exact ⟨v, e1, q.up x⟩
/-- the names change -/
theorem Sat.setN (h : Sat K ph S r M σ H) {i : Nat} {d : D} {v : V} (q : Rep K ph S v d) : Sat K ph S (r.set i (some d)) M (σ.set i (some v)) H := by
  refine ⟨h.sub, h.len, h.nd, h.trk, h.cell, h.hid, h.hnd, by rw [List.length_set, List.length_set]; exact h.el, fun j e hj => ?_⟩
  by_cases hi : j = i
  · subst hi
    have jl : j < r.length := by
      have := (List.getElem?_eq_some_iff.mp hj).1
      rwa [List.length_set] at this
    rw [List.getElem?_set_self jl] at hj
    cases hj
    exact ⟨v, by rw [List.getElem?_set_self (by rw [← h.el]; exact jl)], q⟩
  · rw [List.getElem?_set_ne (Ne.symm hi)] at hj
    rw [List.getElem?_set_ne (Ne.symm hi)]
    exact h.env j e hj
/-- a new list, out of sight while it is made -/
theorem Sat.hide (h : Sat K ph S r M σ H) (hp : H p = none) (o : HO) : Sat K { ph with hid := (p, o) :: ph.hid } S r M σ (upd H p o) := by
  refine ⟨fun b y e => sameUpd hp _ _ (h.sub b y e), h.len, h.nd, fun k a e => ?_, fun k ds e => ?_, fun q hq => ?_, ?_, h.el, fun i d e => ?_⟩
  · obtain ⟨u, hu⟩ := h.trk k a e
    exact ⟨u, sameUpd hp _ _ hu⟩
  · obtain ⟨a, xs, h1, h2, h3, h4⟩ := h.cell k ds e
    exact ⟨a, xs, h1, h2, sameUpd hp _ _ h3, RepAll.hid h4⟩
  · rcases List.mem_cons.mp hq with e | hq
    · rw [e]
      exact ⟨upd_same, h.noS hp, fun z => by
        obtain ⟨k, hk⟩ := List.mem_iff_getElem?.mp z
        exact h.notin hp k hk⟩
    · obtain ⟨h1, h2, h3⟩ := h.hid q hq
      exact ⟨sameUpd hp _ _ h1, h2, h3⟩
  · refine List.nodup_cons.mpr ⟨fun z => ?_, h.hnd⟩
    obtain ⟨q, hq, e⟩ := List.mem_map.mp z
    obtain ⟨h1, _, _⟩ := h.hid q hq
    have e' : q.1 = p := e
    rw [e', hp] at h1; cases h1
  · obtain ⟨v, e1, q⟩ := h.env i d e
    exact ⟨v, e1, Rep.hid q⟩
theorem hid_ne {p : Addr} {o : HO} {l : List (Addr × HO)} (h : ((p, o) :: l).map (·.1) |>.Nodup) : ∀ q ∈ l, q.1 ≠ p := fun q hq e =>
  (List.nodup_cons.mp h).1 (List.mem_map.mpr ⟨q, hq, e⟩)
/-- the hidden list changes -/
theorem Sat.hset {o o' : HO} {l : List (Addr × HO)} {c : List Addr} (h : Sat K ⟨c, (p, o) :: l⟩ S r M σ H) : Sat K ⟨c, (p, o') :: l⟩ S r M σ (upd H p o') := by
  obtain ⟨g1, g2, g3⟩ := h.hid _ List.mem_cons_self
  have nS : ∀ b y, S b = some y → b ≠ p := fun b y e z => by rw [z, g2] at e; cases e
  have nc : ∀ (k : Nat) (a : Addr), c[k]? = some a → a ≠ p := fun k a e z => g3 (by rw [← z]; exact List.mem_of_getElem? e)
  refine ⟨fun b y e => by rw [upd_ne (nS b y e)]; exact h.sub b y e, h.len, h.nd, fun k a e => ?_, fun k ds e => ?_, fun q hq => ?_, h.hnd, h.el, fun i d e => ?_⟩
  · obtain ⟨u, hu⟩ := h.trk k a e
    exact ⟨u, by rw [upd_ne (nc k a e)]; exact hu⟩
  · obtain ⟨a, xs, h1, h2, h3, h4⟩ := h.cell k ds e
    exact ⟨a, xs, h1, h2, by rw [upd_ne (nc k a h1)]; exact h3, RepAll.hid h4⟩
  · rcases List.mem_cons.mp hq with e | hq
    · rw [e]
      exact ⟨upd_same, g2, g3⟩
    · obtain ⟨h1, h2, h3⟩ := h.hid q (List.mem_cons_of_mem _ hq)
      exact ⟨by rw [upd_ne (hid_ne h.hnd q hq)]; exact h1, h2, h3⟩
  · obtain ⟨v, e1, q⟩ := h.env i d e
    exact ⟨v, e1, Rep.hid q⟩
/-- the hidden list is done: it is only read from now on -/
theorem Sat.hfrz {o : HO} {l : List (Addr × HO)} {c : List Addr} (h : Sat K ⟨c, (p, o) :: l⟩ S r M σ H) : Ext ⟨c, l⟩ S ⟨c, l⟩ (upd S p o) ∧ Sat K ⟨c, l⟩ (upd S p o) r M σ H := by
  obtain ⟨g1, g2, g3⟩ := h.hid _ List.mem_cons_self
  have x : Ext ⟨c, l⟩ S ⟨c, l⟩ (upd S p o) := ⟨fun _ _ e => e, sameUpd g2, rfl⟩
  refine ⟨x, fun b y e => ?_, h.len, h.nd, h.trk, fun k ds e => ?_, fun q hq => ?_, (List.nodup_cons.mp h.hnd).2, h.el, fun i d e => ?_⟩
  · by_cases hb : b = p
    · rw [hb, upd_same] at e
      rw [hb, ← e]; exact g1
    · rw [upd_ne hb] at e
      exact h.sub b y e
  · obtain ⟨a, xs, h1, h2, h3, h4⟩ := h.cell k ds e
    have ne : a ≠ p := fun z => g3 (by rw [← z]; exact List.mem_of_getElem? h1)
    exact ⟨a, xs, h1, by rw [upd_ne ne]; exact h2, h3, (RepAll.hid h4).up x⟩
  · obtain ⟨h1, h2, h3⟩ := h.hid q (List.mem_cons_of_mem _ hq)
    exact ⟨h1, by rw [upd_ne (hid_ne h.hnd q hq)]; exact h2, h3⟩
  · obtain ⟨v, e1, q⟩ := h.env i d e
    exact ⟨v, e1, (Rep.hid q).up x⟩
/-- .. or it is owned from now on -/
theorem Sat.hown {xs : List V} {ds : List D} {l : List (Addr × HO)} {c : List Addr} (h : Sat K ⟨c, (p, .lst xs) :: l⟩ S r M σ H) (q : RepAll K ⟨c, l⟩ S xs ds) :
    Ext ⟨c, l⟩ S ⟨c ++ [p], l⟩ S ∧ Sat K ⟨c ++ [p], l⟩ S r (M ++ [.lst ds]) σ H ∧ (c ++ [p])[M.length]? = some p := by
  obtain ⟨g1, g2, g3⟩ := h.hid _ List.mem_cons_self
  have hl : c.length = M.length := h.len
  have x : Ext ⟨c, l⟩ S ⟨c ++ [p], l⟩ S := ⟨fun k a e => by
    show (c ++ [p])[k]? = _
    rw [List.getElem?_append_left (List.getElem?_eq_some_iff.mp e).1]; exact e, fun _ _ e => e, rfl⟩
  have here : (c ++ [p])[M.length]? = some p := by rw [← hl, List.getElem?_append_right (Nat.le_refl _), Nat.sub_self]; rfl
  have old : ∀ (k : Nat) (a : Addr), (c ++ [p])[k]? = some a → c[k]? = some a ∨ a = p := fun k a e => by
    by_cases hk : k < c.length
    · rw [List.getElem?_append_left hk] at e
      exact .inl e
    · rw [List.getElem?_append_right (by omega)] at e
      cases hk' : k - c.length with
      | zero => rw [hk'] at e; exact .inr (Option.some.inj e).symm
      | succ n => rw [hk'] at e; simp at e
  refine ⟨x, ⟨h.sub, ?_, ?_, fun k a e => ?_, fun k es e => ?_, fun q hq => ?_, (List.nodup_cons.mp h.hnd).2, h.el, fun i d e => ?_⟩, here⟩
  · show (c ++ [p]).length = _
    rw [List.length_append, List.length_append, hl]; rfl
  · show (c ++ [p]).Nodup
    rw [List.nodup_append]
    exact ⟨h.nd, by simp, fun a ha b hb z => g3 (by rw [show b = p by simpa using hb] at z; rw [← z]; exact ha)⟩
  · rcases old k a e with z | z
    · exact h.trk k a z
    · exact ⟨_, by rw [z]; exact g1⟩
  · by_cases hk : k < M.length
    · rw [List.getElem?_append_left hk] at e
      obtain ⟨a, ys, h1, h2, h3, h4⟩ := h.cell k es e
      exact ⟨a, ys, x.pre _ _ h1, h2, h3, (RepAll.hid h4).up x⟩
    · rw [List.getElem?_append_right (by omega)] at e
      cases hk' : k - M.length with
      | succ n => rw [hk'] at e; simp at e
      | zero =>
        rw [hk'] at e
        have e' : ds = es := by simpa using e
        have k' : k = M.length := by omega
        subst e'
        subst k'
        exact ⟨p, xs, here, g2, g1, q.up x⟩
  · obtain ⟨h1, h2, h3⟩ := h.hid q (List.mem_cons_of_mem _ hq)
    exact ⟨h1, h2, fun z => by
      rcases List.mem_append.mp z with z | z
      · exact h3 z
      · exact hid_ne h.hnd q hq (by simpa using z)⟩
  · obtain ⟨v, e1, q⟩ := h.env i d e
    exact ⟨v, e1, (Rep.hid q).up x⟩
/-! ### data as the library's data -/
variable {X : Cx} {pins : List (Addr × Obj)} {s : Shared}
mutual
theorem Rep.reads (I : Inv X pins σ H s) : ∀ (d : D) (v : V) (u : Value) (p : PyData), Rep X.K ph H v d → RelV v u → toPy d = some p → ∃ as, Reads s.heap u p as ∧ ∀ a ∈ as, H a ≠ none
  | .non, _, _, _, h, rv, e => by cases h; cases rv; cases e; exact ⟨_, .none, fun _ z => nomatch z⟩
  | .bl _, _, _, _, h, rv, e => by cases h; cases rv; cases e; exact ⟨_, .bool _, fun _ z => nomatch z⟩
  | .int _, _, _, _, h, rv, e => by cases h; obtain ⟨t, rfl⟩ := rv; cases e; exact ⟨_, .int _ _, fun _ z => nomatch z⟩
  | .str _, _, _, _, h, rv, e => by cases h; obtain ⟨t, rfl⟩ := rv; cases e; exact ⟨_, .str _ _, fun _ z => nomatch z⟩
  | .tup ds, _, _, _, h, rv, e => by
    cases h with
    | tup h1 h2 =>
      cases rv
      simp only [toPy] at e
      split at e
      · rename_i ps ep
        cases e
        obtain ⟨its, rx, ⟨o, ho, hc, n, hd⟩, _⟩ := I.tuple (h1.sq fun _ _ z => z)
        obtain ⟨as, q, qa⟩ := RepAll.reads I ds _ its ps h2 rx ep
        exact ⟨_, .tuple ho hc hd q, qa⟩
      · cases e
  | .lst ds, _, _, _, h, rv, e => by
    cases h with
    | lst h1 h2 =>
      cases rv
      simp only [toPy] at e
      split at e
      · rename_i ps ep
        cases e
        obtain ⟨its, rx, ⟨o, n, ho, hc, _, hd⟩, _⟩ := I.list (SqL.of h1)
        obtain ⟨as, q, qa⟩ := RepAll.reads I ds _ its ps h2 rx ep
        refine ⟨_, .list ho hc hd q, fun a ha => ?_⟩
        rcases List.mem_cons.mp ha with e | ha
        · rw [e, h1]; exact fun z => nomatch z
        · exact qa a ha
      · cases e
  | .dct0, _, _, _, h, rv, e => by
    cases h with
    | dct0 h1 =>
      cases rv
      cases e
      obtain ⟨_, _, vs, hk, o, es, ep, ho, hx, hd, _, he, _⟩ := I.hok _ _ h1
      cases hk
      have e0 : es = #[] := by
        cases es with
        | mk l =>
          cases l with
          | nil => rfl
          | cons x l => exact nomatch he
      subst e0
      refine ⟨_, .dict ho hx.1 hd .nil .nil, fun a ha => ?_⟩
      simp at ha
      rw [ha, h1]; exact fun z => nomatch z
  | .scr ns, _, _, _, _, _, e => by cases e
  | .own _, _, _, _, _, _, e => by cases e
  | .exc _ _, _, _, _, _, _, e => by cases e
  | .glb _, _, _, _, _, _, e => by cases e
  | .val _, _, _, _, _, _, e => by cases e
theorem RepAll.reads (I : Inv X pins σ H s) : ∀ (ds : List D) (vs : List V) (us : List Value) (ps : List PyData), RepAll X.K ph H vs ds → Vals vs us → toPyAll ds = some ps → ∃ as, ReadsAll s.heap us ps as ∧ ∀ a ∈ as, H a ≠ none
  | [], _, _, _, h, rv, e => by cases h; cases rv; cases e; exact ⟨_, .nil, fun _ z => nomatch z⟩
  | d :: ds, _, _, _, h, rv, e => by
    cases h with
    | cons h1 h2 =>
      cases rv with
      | cons r1 r2 =>
        simp only [toPyAll] at e
        split at e
        · rename_i p ps ep eps
          cases e
          obtain ⟨as, q1, a1⟩ := Rep.reads I d _ _ p h1 r1 ep
          obtain ⟨bs, q2, a2⟩ := RepAll.reads I ds _ _ ps h2 r2 eps
          refine ⟨_, .cons q1 q2, fun a ha => ?_⟩
          rcases List.mem_append.mp ha with ha | ha
          · exact a1 a ha
          · exact a2 a ha
        · cases e
end
end
end DL
/-! DL3: operators, comparisons, truth, displays -/
namespace DL
open PySem PySem.Spec PyProof.Rows L2
variable {X : Cx}
/-! ### two values -/
abbrev G2 := D → D → Mem → DQ → Prop
def OpD (X : Cx) (f : Value → Value → Sem Value) (g : G2) : Prop :=
  ∀ (pins : List (Addr × Obj)) (s : Shared) (σ : St) (H : Hp) (ph : Ph) (S : Hp) (r : Env) (M : Mem) (x y : V) (dx dy : D) (v u : Value) (Q : DQ),
    Inv X pins σ H s → Sat X.K ph S r M σ H → RelV x v → RelV y u → Rep X.K ph S x dx → Rep X.K ph S y dy → g dx dy M Q →
    wpAny (model X.prog X.w) X.A (f v u) (EP X pins σ (post X.K ph S r σ Q)) X.xe s
theorem OpD.of {f : Value → Value → Sem Value} {r2 : R2} {g : G2} (h : OpR X f r2)
    (w : ∀ (σ : St) (H : Hp) (ph : Ph) (S : Hp) (r : Env) (M : Mem) (x y : V) (dx dy : D) (Q : DQ), Sat X.K ph S r M σ H → Rep X.K ph S x dx → Rep X.K ph S y dy → g dx dy M Q → r2 x y H (post X.K ph S r σ Q)) : OpD X f g :=
  fun pins s σ H ph S r M x y dx dy v u Q I hs rx ry qx qy hg => h pins s σ H x y v u _ I rx ry (w σ H ph S r M x y dx dy Q hs qx qy hg)
theorem binD {a b : Expr} {ta tb : DTE} (ha : DE X a ta) (hb : DE X b tb) {pins : List (Addr × Obj)} {s : Shared} {σ : St} {H : Hp} {ph : Ph} {S : Hp} {r : Env} {M : Mem} {g : D → D → Mem → Prop}
    (I : Inv X pins σ H s) (hs : Sat X.K ph S r M σ H) (h : ta r M fun x M1 => tb r M1 fun y M2 => g x y M2) {α : Type} {Q : α → Shared → Prop} {f : Value → Value → Sem α}
    (hf : ∀ v u s2 x y dx dy H2 ph2 S2 M2, Ext ph S ph2 S2 → Inv X pins σ H2 s2 → Sat X.K ph2 S2 r M2 σ H2 → RelV x v → RelV y u → Rep X.K ph2 S2 x dx → Rep X.K ph2 S2 y dy → g dx dy M2 → wpAny (model X.prog X.w) X.A (f v u) Q X.xe s2) :
    wpAny (model X.prog X.w) X.A (eval a X.env) (fun v s1 => wpAny (model X.prog X.w) X.A (eval b X.env) (fun u s2 => wpAny (model X.prog X.w) X.A (f v u) Q X.xe s2) X.xe s1) X.xe s := by
  refine thn (ha.pe.run pins s σ H _ I ⟨ph, S, r, M, _, hs, h, fun _ _ q => q⟩) fun v s1 ⟨x, H1, I1, r1, ph1, S1, M1, x1, hs1, dx, q1, h1⟩ => ?_
  refine thn (hb.pe.run pins s1 σ H1 _ I1 ⟨ph1, S1, r, M1, _, hs1, h1, fun _ _ q => q⟩) fun u s2 ⟨y, H2, I2, r2, ph2, S2, M2, x2, hs2, dy, q2, h2⟩ => ?_
  exact hf v u s2 x y dx dy H2 ph2 S2 M2 (x1.trans x2) I2 hs2 r1 r2 (q1.up x2) q2 h2
def dOp (g : G2) (ta tb : DTE) : DTE := fun r M Q => ta r M fun x M1 => tb r M1 fun y M2 => g x y M2 Q
theorem EP.up {pins : List (Addr × Obj)} {σ : St} {ph ph1 : Ph} {S S1 : Hp} {r : Env} {Q : DQ} {u : Value} {s : Shared} (x : Ext ph S ph1 S1) (h : EP X pins σ (post X.K ph1 S1 r σ Q) u s) {Q' : VK} (w : ∀ v H', post X.K ph S r σ Q v H' → Q' v H') : EP X pins σ Q' u s :=
  let ⟨v, H', I, rv, q⟩ := h
  ⟨v, H', I, rv, w _ _ (Aft.up x q)⟩
theorem de_op {a b : Expr} {ta tb : DTE} {op : Operator} {g : G2} {pos : Pos} (ho : OpD X (binaryOp op) g) (ha : DE X a ta) (hb : DE X b tb) : DE X (.BinOp a op b pos) (dOp g ta tb) :=
  ⟨⟨fun pins s σ H Q I ⟨ph, S, r, M, Q0, hs, ht, hq⟩ => wpAny_BinOp (binD ha hb I hs ht fun v u s2 x y dx dy H2 ph2 S2 M2 x2 I2 hs2 rx ry qx qy h =>
    thn (ho pins s2 σ H2 ph2 S2 r M2 x y dx dy v u Q0 I2 hs2 rx ry qx qy h) fun _ _ q => EP.up x2 q hq)⟩⟩
theorem de_cmp {a b : Expr} {ta tb : DTE} {op : CmpOp} {g : G2} {pos : Pos} (ho : OpD X (compareOp op) g) (ha : DE X a ta) (hb : DE X b tb) (hm : behindInMarks op b = false) : DE X (.Compare a [op] [b] pos) (dOp g ta tb) :=
  ⟨⟨fun pins s σ H Q I ⟨ph, S, r, M, Q0, hs, ht, hq⟩ => wpAny_Compare1 (binD ha hb I hs ht fun v u s2 x y dx dy H2 ph2 S2 M2 x2 I2 hs2 rx ry qx qy h =>
    thn (ho pins s2 σ H2 ph2 S2 r M2 x y dx dy v u Q0 I2 hs2 rx ry qx qy h) fun _ _ q => EP.up x2 q hq) hm⟩⟩
/-! ### arithmetic -/
/-- of moderate size -/
def Sm (i : Int) : Prop := i.natAbs.log2 < 400000
theorem Sm.of {i : Int} (n : Nat) (h : i.natAbs < 2 ^ n) (hn : n ≤ 400000 := by decide) : Sm i := by
  unfold Sm
  by_cases h0 : i.natAbs = 0
  · rw [h0]; decide
  · exact Nat.lt_of_lt_of_le ((Nat.log2_lt h0).mpr h) hn
def rBin (C : Int → Int → Prop) (f : Int → Int → Int) : G2 := fun x y M Q => match x, y with
  | .int i, .int j => C i j ∧ Q (.int (f i j)) M
  | _, _ => False
theorem opd_int {F : Value → Value → Sem Value} {C : Int → Int → Prop} {f : Int → Int → Int} (h : OpR X F (rI C fun i j => .int (f i j))) : OpD X F (rBin C f) :=
  OpD.of h fun σ H ph S r M x y dx dy Q hs rx ry hg => by
    cases dx <;> cases dy <;> first | exact hg.elim | skip
    cases rx; cases ry
    exact ⟨_, _, rfl, rfl, hg.1, Aft.here hs ⟨_, .int _, hg.2⟩⟩
theorem opd_sub : OpD X (binaryOp .Sub) (rBin (fun _ _ => True) fun i j => i - j) := opd_int (fun pins s σ H x y v u Q I r1 r2 ⟨i, j, e1, e2, _, q⟩ => op_sub pins s σ H x y v u Q I r1 r2 ⟨i, j, e1, e2, q⟩)
def CMul (i j : Int) : Prop := Sm i ∧ Sm j
def CDiv (_ j : Int) : Prop := j ≠ 0 ∧ j.natAbs.log2 < 9000
def CMod (_ j : Int) : Prop := j ≠ 0
def CPow (a n : Int) : Prop := 0 ≤ n ∧ (Builtin.Int.intBits a : Int) * n ≤ 2 ^ 27
theorem opd_mulI : OpD X (binaryOp .Mult) (rBin CMul fun i j => i * j) := opd_int (fun pins s σ H x y v u Q I r1 r2 ⟨i, j, e1, e2, c, q⟩ => op_mulW pins s σ H x y v u Q I r1 r2 ⟨i, j, e1, e2, by have h1 := c.1; have h2 := c.2; unfold Sm at h1 h2; unfold L2.CMulW; omega, q⟩)
theorem op_fdivG : OpR X (binaryOp .FloorDiv) (rI CDiv fun i j => .int (i.fdiv j)) := opI fun i j _ _ _ _ _ hc q => floordiv_int hc.1 q (.inl (PyProof.noPylong_of_log2 hc.2))
theorem opd_fdiv : OpD X (binaryOp .FloorDiv) (rBin CDiv fun i j => i.fdiv j) := opd_int op_fdivG
theorem opd_mod : OpD X (binaryOp .Mod) (rBin CMod fun i j => i.fmod j) := opd_int op_modN
theorem op_powG : OpR X (binaryOp .Pow) (rI CPow fun i j => .int (i ^ j.toNat)) := opI fun i j _ _ _ _ _ hc q => pow_int hc.1 hc.2 q
theorem opd_pow : OpD X (binaryOp .Pow) (rBin CPow fun i j => i ^ j.toNat) := opd_int op_powG
/-- x + y -/
def gAdd : G2 := fun x y M Q => match x, y with
  | .int i, .int j => Q (.int (i + j)) M
  | .str a, .str b => a.length + b.length ≤ sizeLine ∧ Q (.str (a ++ b)) M
  | .lst a, .lst b => a.length + b.length ≤ sizeLine ∧ Q (.lst (a ++ b)) M
  | .tup a, .tup b => a.length + b.length ≤ sizeLine ∧ Q (.tup (a ++ b)) M
  | .own k, .lst b => match M[k]? with
    | some (.lst a) => a.length + b.length ≤ sizeLine ∧ Q (.lst (a ++ b)) M
    | _ => False
  | .lst b, .own k => match M[k]? with
    | some (.lst a) => b.length + a.length ≤ sizeLine ∧ Q (.lst (b ++ a)) M
    | _ => False
  | _, _ => False
theorem Aft.frz {K : PySem.W.Frag} {ph : Ph} {S : Hp} {r : Env} {σ : St} {H : Hp} {M : Mem} {p : Addr} {o : HO} {Q : Ph → Hp → Mem → Prop} (h : Sat K ph S r M σ H) (hp : H p = none) (q : Ext ph S ph (upd S p o) → Q ph (upd S p o) M) : Aft K ph S r σ (upd H p o) Q :=
  let ⟨x, hs⟩ := h.frz hp o
  ⟨ph, _, M, x, hs, q x⟩
theorem opd_add : OpD X (binaryOp .Add) gAdd := by
  intro pins s σ H ph S r M x y dx dy v u Q I hs rx ry qx qy hg
  cases dx <;> cases dy <;> first | exact hg.elim | skip
  · cases qx; cases qy
    exact op_add pins s σ H _ _ v u _ I rx ry ⟨_, _, rfl, rfl, Aft.here hs ⟨_, .int _, hg⟩⟩
  · cases qx; cases qy
    exact op_add_str pins s σ H _ _ v u _ I rx ry ⟨_, _, rfl, rfl, hg.1, Aft.here hs ⟨_, .str _, hg.2⟩⟩
  · cases qx with
    | tup h1 h2 =>
      cases qy with
      | tup h3 h4 =>
        obtain ⟨hz, q⟩ := hg
        rename_i xs _ ys
        have e1 := h2.len
        have e2 := h4.len
        refine op_catA pins s σ H _ _ v u _ I rx ry ⟨_, _, xs, ys, rfl, rfl, h1.sq hs.sub, h3.sq hs.sub, by omega, fun z => ?_, fun _ z => ?_, fun _ _ p hp => Aft.frz hs hp fun x => ⟨_, .tup (.inl upd_same) ((h2.app h4).up x), q⟩⟩
        · refine Aft.here hs ⟨_, .tup h3 ?_, q⟩
          rw [z] at h2
          cases h2
          exact h4
        · refine Aft.here hs ⟨_, .tup h1 ?_, q⟩
          rw [z] at h4
          cases h4
          rw [List.append_nil]; exact h2
  · cases qx with
    | lst h1 h2 =>
      cases qy with
      | lst h3 h4 =>
        have e1 := h2.len
        have e2 := h4.len
        exact op_cat pins s σ H _ _ v u _ I rx ry ⟨_, _, _, _, rfl, rfl, hs.sub _ _ h1, hs.sub _ _ h3, by have := hg.1; omega, fun p hp => Aft.frz hs hp fun x => ⟨_, .lst upd_same ((h2.app h4).up x), hg.2⟩⟩
  · cases qx with
    | lst h1 h2 =>
      cases qy with
      | own h3 =>
        rename_i b k _ _ _
        simp only [gAdd] at hg
        split at hg
        · rename_i a hk
          obtain ⟨a1, xs1, c1, c2, c3, c4⟩ := hs.cell k a hk
          rw [h3] at c1; cases c1
          have e1 := h2.len
          have e2 := c4.len
          exact op_cat pins s σ H _ _ v u _ I rx ry ⟨_, _, _, _, rfl, rfl, hs.sub _ _ h1, c3, by have := hg.1; omega, fun p hp => Aft.frz hs hp fun x => ⟨_, .lst upd_same ((h2.app c4).up x), hg.2⟩⟩
        · exact hg.elim
  · cases qx with
    | own h3 =>
      cases qy with
      | lst h1 h2 =>
        rename_i k b _ _ _
        simp only [gAdd] at hg
        split at hg
        · rename_i a hk
          obtain ⟨a1, xs1, c1, c2, c3, c4⟩ := hs.cell k a hk
          rw [h3] at c1; cases c1
          have e1 := h2.len
          have e2 := c4.len
          exact op_cat pins s σ H _ _ v u _ I rx ry ⟨_, _, _, _, rfl, rfl, c3, hs.sub _ _ h1, by have := hg.1; omega, fun p hp => Aft.frz hs hp fun x => ⟨_, .lst upd_same ((c4.app h2).up x), hg.2⟩⟩
        · exact hg.elim
/-! ### comparisons -/
def gCmpI (p : Int → Int → Bool) : G2 := fun x y M Q => match x, y with
  | .int i, .int j => Q (.bl (p i j)) M
  | _, _ => False
theorem opd_cmpI {F : Value → Value → Sem Value} {p : Int → Int → Bool} (h : OpR X F (rI0 fun i j => .bl (p i j))) : OpD X F (gCmpI p) :=
  OpD.of h fun σ H ph S r M x y dx dy Q hs rx ry hg => by
    cases dx <;> cases dy <;> first | exact hg.elim | skip
    cases rx; cases ry
    exact ⟨_, _, rfl, rfl, Aft.here hs ⟨_, .bl _, hg⟩⟩
theorem opd_lt : OpD X (compareOp .Lt) (gCmpI fun i j => decide (i < j)) := opd_cmpI op_lt
theorem opd_le : OpD X (compareOp .LtE) (gCmpI fun i j => decide (i ≤ j)) := opd_cmpI op_le
theorem opd_gt : OpD X (compareOp .Gt) (gCmpI fun i j => decide (j < i)) := opd_cmpI op_gt
theorem opd_ge : OpD X (compareOp .GtE) (gCmpI fun i j => decide (j ≤ i)) := opd_cmpI op_ge
/-- an owned list as it stands -/
def res (M : Mem) : D → D
  | .own k => match M[k]? with
    | some (.lst ds) => .lst ds
    | _ => .own k
  | d => d
theorem Rep.res {K : PySem.W.Frag} {ph : Ph} {S : Hp} {r : Env} {M : Mem} {σ : St} {H : Hp} {v : V} {d : D} (hs : Sat K ph S r M σ H) (q : Rep K ph S v d) : Rep K ph H v (res M d) := by
  cases d <;> first | exact hs.read q | skip
  rename_i k
  unfold DL.res
  dsimp only
  split
  · rename_i ds hk
    cases q with
    | own h =>
      obtain ⟨a, xs, c1, c2, c3, c4⟩ := hs.cell k ds hk
      rw [h] at c1; cases c1
      exact .lst c3 (hs.readAll c4)
  · exact hs.read q
/-- data that may be compared -/
def cmpd (d : D) : Option PyData := match toPy d with
  | some p => if SeqAt.shaped p = true then some p else none
  | none => none
theorem cmpd_some {d : D} {p : PyData} (h : cmpd d = some p) : toPy d = some p ∧ SeqAt.shaped p = true := by
  unfold cmpd at h
  split at h
  · rename_i p' e
    by_cases hs : SeqAt.shaped p' = true
    · rw [if_pos hs] at h; cases h; exact ⟨e, hs⟩
    · rw [if_neg hs] at h; cases h
  · cases h
/-- x == y of two data read; none: not covered -/
def eqB (x y : D) : Option Bool := match x, y with
  | .str a, .str b => some (a == b)
  | x, y => match cmpd x, cmpd y with
    | some p, some q => some (PyData.eqv p q)
    | _, _ => none
theorem eqB_of {x y : D} {b : Bool} (h : eqB x y = some b) : (∃ p q, x = .str p ∧ y = .str q ∧ b = (p == q)) ∨ ∃ p q, cmpd x = some p ∧ cmpd y = some q ∧ b = PyData.eqv p q := by
  unfold eqB at h
  split at h
  · exact .inl ⟨_, _, rfl, rfl, (Option.some.inj h).symm⟩
  · split at h
    · rename_i e1 e2; exact .inr ⟨_, _, e1, e2, (Option.some.inj h).symm⟩
    · cases h
def gEq : G2 := fun x y M Q => match eqB (res M x) (res M y) with
  | some b => Q (.bl b) M
  | none => False
def gNe : G2 := fun x y M Q => match eqB (res M x) (res M y) with
  | some b => Q (.bl (!b)) M
  | none => False
theorem res_str {M : Mem} {d : D} {z : Str} (h : res M d = .str z) : d = .str z := by
  cases d <;> first | exact h | skip
  rename_i k
  unfold res at h
  dsimp only at h
  split at h <;> cases h
theorem opd_eq (hu : X.A.units + 64 < cLine) : OpD X (compareOp .Eq) gEq := by
  intro pins s σ H ph S r M x y dx dy v u Q I hs rx ry qx qy hg
  unfold gEq at hg
  split at hg
  · rename_i b e
    rcases eqB_of e with ⟨p, q, e1, e2, rfl⟩ | ⟨p, q, e1, e2, rfl⟩
    · cases res_str e1; cases res_str e2
      cases qx; cases qy
      obtain ⟨_, rfl⟩ := rx
      obtain ⟨_, rfl⟩ := ry
      exact PyProof.Rows.eq_str ⟨.bl _, H, I, rfl, Aft.here hs ⟨_, .bl _, hg⟩⟩
    · obtain ⟨as, h1, _⟩ := Rep.reads I _ _ _ _ (Rep.res hs qx) rx (cmpd_some e1).1
      obtain ⟨bs, h2, _⟩ := Rep.reads I _ _ _ _ (Rep.res hs qy) ry (cmpd_some e2).1
      exact SeqAt.compareEq_shaped h1 h2 (cmpd_some e1).2 (cmpd_some e2).2 hu ⟨.bl _, H, I, rfl, Aft.here hs ⟨_, .bl _, hg⟩⟩
  · exact hg.elim
theorem opd_ne (hu : X.A.units + 64 < cLine) : OpD X (compareOp .NotEq) gNe := by
  intro pins s σ H ph S r M x y dx dy v u Q I hs rx ry qx qy hg
  unfold gNe at hg
  split at hg
  · rename_i b e
    rcases eqB_of e with ⟨p, q, e1, e2, rfl⟩ | ⟨p, q, e1, e2, rfl⟩
    · cases res_str e1; cases res_str e2
      cases qx; cases qy
      obtain ⟨_, rfl⟩ := rx
      obtain ⟨_, rfl⟩ := ry
      exact PyProof.Rows.ne_str ⟨.bl _, H, I, rfl, Aft.here hs ⟨_, .bl _, hg⟩⟩
    · obtain ⟨as, h1, _⟩ := Rep.reads I _ _ _ _ (Rep.res hs qx) rx (cmpd_some e1).1
      obtain ⟨bs, h2, _⟩ := Rep.reads I _ _ _ _ (Rep.res hs qy) ry (cmpd_some e2).1
      exact SeqAt.compareNe_shaped h1 h2 (cmpd_some e1).2 (cmpd_some e2).2 hu ⟨.bl _, H, I, rfl, Aft.here hs ⟨_, .bl _, hg⟩⟩
  · exact hg.elim
/-- x in y, y a list -/
def gIn (neg : Bool) : G2 := fun x y M Q => match cmpd (res M x), cmpd (res M y) with
  | some p, some (.list ps) => Q (.bl ((ps.any fun z => PyData.eqv z p) != neg)) M
  | _, _ => False
theorem opd_in (hu : X.A.units + 65 < cLine) : OpD X (compareOp .In) (gIn false) := by
  intro pins s σ H ph S r M x y dx dy v u Q I hs rx ry qx qy hg
  unfold gIn at hg
  split at hg
  · rename_i p ps e1 e2
    obtain ⟨as, h1, _⟩ := Rep.reads I _ _ _ _ (Rep.res hs qx) rx (cmpd_some e1).1
    obtain ⟨bs, h2, _⟩ := Rep.reads I _ _ _ _ (Rep.res hs qy) ry (cmpd_some e2).1
    refine SeqAt.in_list_reads h2 h1 (SeqAt.canLay_of_shaped (cmpd_some e2).2) (SeqAt.canLay_of_shaped (cmpd_some e1).2) (room_in_shaped (cmpd_some e1).2 hu) ⟨.bl _, H, I, rfl, Aft.here hs ⟨_, .bl _, ?_⟩⟩
    rw [Bool.bne_false] at hg; exact hg
  · exact hg.elim
theorem opd_notin (hu : X.A.units + 65 < cLine) : OpD X (compareOp .NotIn) (gIn true) := by
  intro pins s σ H ph S r M x y dx dy v u Q I hs rx ry qx qy hg
  unfold gIn at hg
  split at hg
  · rename_i p ps e1 e2
    obtain ⟨as, h1, _⟩ := Rep.reads I _ _ _ _ (Rep.res hs qx) rx (cmpd_some e1).1
    obtain ⟨bs, h2, _⟩ := Rep.reads I _ _ _ _ (Rep.res hs qy) ry (cmpd_some e2).1
    refine SeqAt.notIn_list_reads h2 h1 (SeqAt.canLay_of_shaped (cmpd_some e2).2) (SeqAt.canLay_of_shaped (cmpd_some e1).2) (room_in_shaped (cmpd_some e1).2 hu) ⟨.bl _, H, I, rfl, Aft.here hs ⟨_, .bl _, ?_⟩⟩
    rw [Bool.bne_true] at hg; exact hg
  · exact hg.elim
end DL
/-! DL4: is, truth, chains, and/or/not, displays, subscripts, argument lists -/
namespace DL
open PySem PySem.Spec PyProof.Rows L2
variable {X : Cx}
/-! ### is -/
/-- x is y, y written None, True or False -/
def isB (x y : D) : Option Bool := match x, y with
  | .non, .non => some true
  | .bl b, .non => some false
  | .int _, .non => some false
  | .str _, .non => some false
  | .tup _, .non => some false
  | .lst _, .non => some false
  | .own _, .non => some false
  | .dct0, .non => some false
  | .exc _ _, .non => some false
  | .bl a, .bl b => some (decide (a = b))
  | .non, .bl _ => some false
  | .int _, .bl _ => some false
  | .str _, .bl _ => some false
  | .tup _, .bl _ => some false
  | .lst _, .bl _ => some false
  | .own _, .bl _ => some false
  | .dct0, .bl _ => some false
  | _, _ => none
def gIs (neg : Bool) : G2 := fun x y M Q => match isB x y with
  | some b => Q (.bl (b != neg)) M
  | none => False
theorem opd_is : OpD X (compareOp .Is) (gIs false) := by
  intro pins s σ H ph S r M x y dx dy v u Q I hs rx ry qx qy hg
  have fin : ∀ b : Bool, Q (.bl (b != false)) M → EP X pins σ (post X.K ph S r σ Q) (.bool b) s := fun b q => ⟨.bl b, H, I, rfl, Aft.here hs ⟨_, .bl _, by rwa [Bool.bne_false] at q⟩⟩
  cases dy <;> cases dx <;> first | exact hg.elim | skip
  all_goals cases qx <;> cases qy
  all_goals (first | (obtain ⟨t, rfl⟩ := rx) | cases rx)
  all_goals cases ry
  all_goals first
    | exact wpAny_is_other rfl (fun z => nomatch z) (fin false hg)
    | exact wpAny_is_self rfl (fin true hg)
    | skip
  rename_i b c
  by_cases e : c = b
  · subst e
    exact wpAny_is_self rfl (fin true (by simpa [gIs, isB] using hg))
  · exact wpAny_is_other rfl (fun z => e (Value.bool.inj z)) (fin false (by simpa [gIs, isB, e] using hg))
/-! ### truth -/
def tru (M : Mem) : D → Option Bool
  | .non => some false
  | .bl b => some b
  | .int i => some (i != 0)
  | .str x => if x.length ≤ sizeLine then some ((x.length : Int) != 0) else none
  | .tup l => some (!l.isEmpty)
  | .lst l => some (!l.isEmpty)
  | .own k => match M[k]? with
    | some (.lst l) => some (!l.isEmpty)
    | _ => none
  | .dct0 => some false
  | _ => none
theorem isEmp {K : PySem.W.Frag} {ph : Ph} {S : Hp} {xs : List V} {ds : List D} (h : RepAll K ph S xs ds) : (!ds.isEmpty) = !xs.isEmpty := by cases h <;> rfl
theorem tru_V {K : PySem.W.Frag} {ph : Ph} {S : Hp} {r : Env} {M : Mem} {σ : St} {H : Hp} {x : V} {d : D} {k : Bool} (hs : Sat K ph S r M σ H) (q : Rep K ph S x d) (h : tru M d = some k) : TruV K x H k := by
  cases d with
  | non => cases q; exact (Option.some.inj h).symm
  | bl b => cases q; exact (Option.some.inj h).symm
  | int i => cases q; exact (Option.some.inj h).symm
  | str z =>
    cases q
    have h' : (if z.length ≤ sizeLine then some ((z.length : Int) != 0) else none) = some k := h
    by_cases hz : z.length ≤ sizeLine
    · rw [if_pos hz] at h'
      exact ⟨hz, (Option.some.inj h').symm⟩
    · rw [if_neg hz] at h'; cases h'
  | tup l =>
    cases q with
    | tup h1 h2 => exact .inr (.inl ⟨_, h1.sq hs.sub, by rw [← isEmp h2]; exact (Option.some.inj h).symm⟩)
  | lst l =>
    cases q with
    | lst h1 h2 => exact .inl ⟨_, SqL.of (hs.sub _ _ h1), by rw [← isEmp h2]; exact (Option.some.inj h).symm⟩
  | dct0 =>
    cases q with
    | dct0 h1 => exact .inr (.inr ⟨_, hs.sub _ _ h1, (Option.some.inj h).symm⟩)
  | own j =>
    cases q with
    | own h1 =>
      unfold tru at h
      dsimp only at h
      split at h
      · rename_i l hk
        obtain ⟨a, xs, c1, c2, c3, c4⟩ := hs.cell j l hk
        rw [h1] at c1; cases c1
        exact .inl ⟨_, SqL.of c3, by rw [← isEmp c4]; exact (Option.some.inj h).symm⟩
      · cases h
  | scr ns => cases h
  | exc C d => cases h
  | glb x => cases h
  | val v => cases h
/-- what d's truth is -/
def gTru (d : D) (M : Mem) (Q : Bool → Prop) : Prop := match tru M d with
  | some b => Q b
  | none => False
def dTru (t : DTE) : DTT := fun r M Q => t r M fun d M1 => gTru d M1 fun b => Q b M1
theorem gTru_some {d : D} {M : Mem} {Q : Bool → Prop} (h : gTru d M Q) : ∃ b, tru M d = some b ∧ Q b := by
  unfold gTru at h
  split at h
  · rename_i b e; exact ⟨b, e, h⟩
  · exact h.elim
/-- an expression as a test -/
theorem dt_tru {e : Expr} {t : DTE} (h : DE X e t) (he : ∀ whole, isTrue e X.env whole = (do let v ← whole; standAt e.pos; holding [v] (truthy v)) := by intro _; rfl) : DT X e (dTru t) :=
  DT.of (pt_truth h.pe he) fun ph S r M σ H Q hs ht Q' hq => ⟨ph, S, r, M, _, hs, ht, fun v H1 h1 => by
    obtain ⟨ph1, S1, M1, x1, hs1, d, q1, g1⟩ := h1
    obtain ⟨b, eb, qb⟩ := gTru_some g1
    exact ⟨b, tru_V hs1 q1 eb, hq _ _ ⟨ph1, S1, M1, x1, hs1, qb⟩⟩⟩
/-- a comparison as a test -/
theorem dt_cmp {a b : Expr} {ta tb : DTE} {op : CmpOp} {g : G2} {pos : Pos} (ho : OpD X (compareOp op) g) (ha : DE X a ta) (hb : DE X b tb) (hm : behindInMarks op b = false) : DT X (.Compare a [op] [b] pos) (dTru (dOp g ta tb)) :=
  ⟨⟨fun pins s σ H Q I ⟨ph, S, r, M, Q0, hs, ht, hq⟩ => wpAny_isTrue_Compare1 (binD ha hb I hs ht fun v u s2 x y dx dy H2 ph2 S2 M2 x2 I2 hs2 rx ry qx qy h =>
    thn (ho pins s2 σ H2 ph2 S2 r M2 x y dx dy v u _ I2 hs2 rx ry qx qy h) fun c s3 ⟨z, H3, I3, r3, ph3, S3, M3, x3, hs3, d, q3, g3⟩ => by
      obtain ⟨k, ek, qk⟩ := gTru_some g3
      exact tru_ok pins s3 σ H3 z c Q I3 r3 ⟨k, tru_V hs3 q3 ek, hq _ _ ⟨ph3, S3, M3, x2.trans x3, hs3, qk⟩⟩) hm⟩⟩
/-! ### a < b < c -/
def dChain (g g' : G2) (ta tb tc : DTE) : DTE := fun r M Q => ta r M fun x M1 => tb r M1 fun y M2 => g x y M2 fun z M3 => gTru z M3 fun k => if k = true then tc r M3 fun w M4 => g' y w M4 Q else Q z M3
/-! ### and, or, not -/
def dAnd (t u : DTT) : DTT := fun r M Q => t r M fun c M1 => if c = true then u r M1 Q else Q false M1
def dOr (t u : DTT) : DTT := fun r M Q => t r M fun c M1 => if c = true then Q true M1 else u r M1 Q
def dNot (t : DTT) : DTT := fun r M Q => t r M fun c M1 => Q (!c) M1
variable {a b : Expr} {rest : List Expr} {pos : Pos}
theorem DW.dt {e : Expr} {t : DTT} (h : DW X e t) : DT X e t := ⟨h.pw.pt⟩
theorem dw_and1 {t : DTT} (h : DT X a t) : DW X (.BoolOp .And [a] pos) t := ⟨pw_and1 h.pt⟩
theorem dw_or1 {t : DTT} (h : DT X a t) : DW X (.BoolOp .Or [a] pos) t := ⟨pw_or1 h.pt⟩
theorem dw_and {t u : DTT} (h : DT X a t) (h2 : DW X (.BoolOp .And (b :: rest) pos) u) : DW X (.BoolOp .And (a :: b :: rest) pos) (dAnd t u) :=
  DW.of (pw_and h.pt h2.pw) fun ph S r M σ H Q hs ht Q' hq => ⟨ph, S, r, M, _, hs, ht, fun c H1 ⟨ph1, S1, M1, x1, hs1, h1⟩ => by
    cases c with
    | true => exact ⟨ph1, S1, r, M1, _, hs1, h1, fun c' H2 h2 => hq _ _ (Aft.up x1 h2)⟩
    | false => exact hq _ _ ⟨ph1, S1, M1, x1, hs1, h1⟩⟩
theorem dw_or {t u : DTT} (h : DT X a t) (h2 : DW X (.BoolOp .Or (b :: rest) pos) u) : DW X (.BoolOp .Or (a :: b :: rest) pos) (dOr t u) :=
  DW.of (pw_or h.pt h2.pw) fun ph S r M σ H Q hs ht Q' hq => ⟨ph, S, r, M, _, hs, ht, fun c H1 ⟨ph1, S1, M1, x1, hs1, h1⟩ => by
    cases c with
    | false => exact ⟨ph1, S1, r, M1, _, hs1, h1, fun c' H2 h2 => hq _ _ (Aft.up x1 h2)⟩
    | true => exact hq _ _ ⟨ph1, S1, M1, x1, hs1, h1⟩⟩
theorem dt_not {t : DTT} (h : DT X a t) : DT X (.UnaryOp .Not a pos) (dNot t) :=
  DT.of (pt_not h.pt) fun ph S r M σ H Q hs ht Q' hq => ⟨ph, S, r, M, _, hs, ht, fun c H1 h1 => hq _ _ h1⟩
/-- as values -/
def dAndV (t u : DTE) : DTE := fun r M Q => t r M fun d M1 => gTru d M1 fun c => if c = true then u r M1 Q else Q d M1
def dOrV (t u : DTE) : DTE := fun r M Q => t r M fun d M1 => gTru d M1 fun c => if c = true then Q d M1 else u r M1 Q
def dNotV (t : DTE) : DTE := fun r M Q => t r M fun d M1 => gTru d M1 fun c => Q (.bl (!c)) M1
theorem de_one {op} {t : DTE} (h : DE X a t) : DE X (.BoolOp op [a] pos) t := ⟨pe_one h.pe⟩
theorem de_and {t u : DTE} (h : DE X a t) (h2 : DE X (.BoolOp .And (b :: rest) pos) u) : DE X (.BoolOp .And (a :: b :: rest) pos) (dAndV t u) :=
  DE.of (pe_andT h.pe h2.pe) fun ph S r M σ H Q hs ht Q' hq => ⟨ph, S, r, M, _, hs, ht, fun v H1 ⟨ph1, S1, M1, x1, hs1, d, q1, g1⟩ => by
    obtain ⟨c, ec, qc⟩ := gTru_some g1
    refine ⟨c, tru_V hs1 q1 ec, ?_⟩
    cases c with
    | true => exact ⟨ph1, S1, r, M1, _, hs1, qc, fun c' H2 h2 => hq _ _ (Aft.up x1 h2)⟩
    | false => exact hq _ _ ⟨ph1, S1, M1, x1, hs1, _, q1, qc⟩⟩
theorem de_or {t u : DTE} (h : DE X a t) (h2 : DE X (.BoolOp .Or (b :: rest) pos) u) : DE X (.BoolOp .Or (a :: b :: rest) pos) (dOrV t u) :=
  DE.of (pe_orT h.pe h2.pe) fun ph S r M σ H Q hs ht Q' hq => ⟨ph, S, r, M, _, hs, ht, fun v H1 ⟨ph1, S1, M1, x1, hs1, d, q1, g1⟩ => by
    obtain ⟨c, ec, qc⟩ := gTru_some g1
    refine ⟨c, tru_V hs1 q1 ec, ?_⟩
    cases c with
    | false => exact ⟨ph1, S1, r, M1, _, hs1, qc, fun c' H2 h2 => hq _ _ (Aft.up x1 h2)⟩
    | true => exact hq _ _ ⟨ph1, S1, M1, x1, hs1, _, q1, qc⟩⟩
theorem de_not {t : DTE} (h : DE X a t) : DE X (.UnaryOp .Not a pos) (dNotV t) :=
  DE.of (pe_notT h.pe) fun ph S r M σ H Q hs ht Q' hq => ⟨ph, S, r, M, _, hs, ht, fun v H1 ⟨ph1, S1, M1, x1, hs1, d, q1, g1⟩ => by
    obtain ⟨c, ec, qc⟩ := gTru_some g1
    exact ⟨c, tru_V hs1 q1 ec, hq _ _ ⟨ph1, S1, M1, x1, hs1, _, .bl _, qc⟩⟩⟩
/-- a if t else b -/
def dIf (t : DTT) (u w : DTE) : DTE := fun r M Q => t r M fun c M1 => if c = true then u r M1 Q else w r M1 Q
theorem de_if {c : Expr} {t : DTT} {u w : DTE} (h : DT X c t) (h1 : DE X a u) (h2 : DE X b w) : DE X (.IfExp c a b pos) (dIf t u w) :=
  DE.of (pe_ifExp h.pt h1.pe h2.pe) fun ph S r M σ H Q hs ht Q' hq => ⟨ph, S, r, M, _, hs, ht, fun c H1 ⟨ph1, S1, M1, x1, hs1, g1⟩ => by
    cases c with
    | true => exact ⟨ph1, S1, r, M1, _, hs1, g1, fun c' H2 h2 => hq _ _ (Aft.up x1 h2)⟩
    | false => exact ⟨ph1, S1, r, M1, _, hs1, g1, fun c' H2 h2 => hq _ _ (Aft.up x1 h2)⟩⟩
/-- -a -/
def gNeg (d : D) (M : Mem) (Q : DQ) : Prop := match d with
  | .int i => Q (.int (-i)) M
  | _ => False
def dNeg (t : DTE) : DTE := fun r M Q => t r M fun d M1 => gNeg d M1 Q
/-! ### argument lists, displays -/
def dNil : DTA := fun _ M Q => Q [] M
def dCons (t : DTE) (u : DTA) : DTA := fun r M Q => t r M fun d M1 => u r M1 fun ds M2 => Q (d :: ds) M2
theorem da_nil : DA X [] dNil := DA.of pa_nil fun ph S r M σ H Q hs ht Q' hq => hq _ _ (Aft.here hs ⟨_, .nil, ht⟩)
theorem da_cons {e : Expr} {es : List Expr} {t : DTE} {u : DTA} (h : DE X e t) (h2 : DA X es u) (hs : starEach (e :: es) X.env = (false, eval e X.env) :: starEach es X.env := by rfl) : DA X (e :: es) (dCons t u) :=
  DA.of (pa_cons h.pe h2.pa hs) fun ph S r M σ H Q hs ht Q' hq => ⟨ph, S, r, M, _, hs, ht, fun v H1 ⟨ph1, S1, M1, x1, hs1, d, q1, g1⟩ =>
    ⟨ph1, S1, r, M1, _, hs1, g1, fun vs H2 ⟨ph2, S2, M2, x2, hs2, ds, q2, g2⟩ => hq _ _ ⟨ph2, S2, M2, x1.trans x2, hs2, _, .cons (q1.up x2) q2, g2⟩⟩⟩
def dTup (t : DTA) : DTE := fun r M Q => t r M fun ds M1 => ds.length ≤ sizeLine ∧ Q (.tup ds) M1
def dLst (t : DTA) : DTE := fun r M Q => t r M fun ds M1 => ds.length ≤ sizeLine ∧ Q (.lst ds) M1
/-- a list that will be changed -/
def dOwn (t : DTA) : DTE := fun r M Q => t r M fun ds M1 => ds.length ≤ sizeLine ∧ Q (.own M1.length) (M1 ++ [.lst ds])
theorem de_tup {es : List Expr} {x1} {t : DTA} (h : DA X es t) : DE X (.Tuple es x1 pos) (dTup t) :=
  DE.of (pe_tup h.pa) fun ph S r M σ H Q hs ht Q' hq => ⟨ph, S, r, M, _, hs, ht, fun vs H1 ⟨ph1, S1, M1, x1, hs1, ds, q1, hz, g1⟩ =>
    ⟨by rw [q1.len]; exact hz, fun p hp => hq _ _ (Aft.up x1 (Aft.frz hs1 hp fun x => ⟨_, .tup (.inl upd_same) (q1.up x), g1⟩))⟩⟩
theorem de_lst {es : List Expr} {t : DTA} (h : DA X es t) : DE X (.List es pos) (dLst t) :=
  DE.of (pe_lst h.pa) fun ph S r M σ H Q hs ht Q' hq => ⟨ph, S, r, M, _, hs, ht, fun vs H1 ⟨ph1, S1, M1, x1, hs1, ds, q1, hz, g1⟩ =>
    ⟨by rw [q1.len]; exact hz, fun p hp => hq _ _ (Aft.up x1 (Aft.frz hs1 hp fun x => ⟨_, .lst upd_same (q1.up x), g1⟩))⟩⟩
theorem Aft.own {K : PySem.W.Frag} {ph : Ph} {S : Hp} {r : Env} {σ : St} {H : Hp} {M : Mem} {p : Addr} {xs : List V} {ds : List D} {Q : DQ} (h : Sat K ph S r M σ H) (hp : H p = none) (hr : RepAll K ph S xs ds) (q : Q (.own M.length) (M ++ [.lst ds])) :
    post K ph S r σ Q (.ref p) (upd H p (.lst xs)) :=
  let ⟨x, hs, e⟩ := h.new hp hr
  ⟨_, _, _, x, hs, _, .own e, q⟩
theorem de_own {es : List Expr} {t : DTA} (h : DA X es t) : DE X (.List es pos) (dOwn t) :=
  DE.of (pe_lst h.pa) fun ph S r M σ H Q hs ht Q' hq => ⟨ph, S, r, M, _, hs, ht, fun vs H1 ⟨ph1, S1, M1, x1, hs1, ds, q1, hz, g1⟩ =>
    ⟨by rw [q1.len]; exact hz, fun p hp => hq _ _ (Aft.up x1 (Aft.own hs1 hp q1 g1))⟩⟩
/-! ### subscripts -/
/-- d's item at i, for every kind of sequence -/
def gIx : G2 := fun x y M Q => match res M x, y with
  | .lst l, .int i => match atI l i with
    | some d => Q d M
    | none => False
  | .tup l, .int i => match atI l i with
    | some d => Q d M
    | none => False
  | .scr ns, .int i => match atI ns i with
    | some n => Q (.int n) M
    | none => False
  | _, _ => False
theorem atI_rep {K : PySem.W.Frag} {ph : Ph} {S : Hp} {vs : List V} {ds : List D} {i : Int} {d : D} (h : RepAll K ph S vs ds) (e : atI ds i = some d) : ∃ v, atI vs i = some v ∧ Rep K ph S v d := by
  unfold atI at e ⊢
  rw [h.len]
  cases q : ixN ds.length i with
  | none => rw [q] at e; cases e
  | some j =>
    rw [q] at e
    exact h.get e
theorem atI_map {α β : Type} {f : α → β} {l : List α} {i : Int} {x : α} (e : atI l i = some x) : atI (l.map f) i = some (f x) := by
  unfold atI at e ⊢
  rw [List.length_map]
  cases q : ixN l.length i with
  | none => rw [q] at e; cases e
  | some j =>
    rw [q] at e
    show (l.map f)[j]? = _
    rw [List.getElem?_map]
    rw [show l[j]? = some x from e]
    rfl
/-- an owned list's items represent over S -/
theorem res_lst {K : PySem.W.Frag} {ph : Ph} {S : Hp} {r : Env} {M : Mem} {σ : St} {H : Hp} {v : V} {d : D} {l : List D} (hs : Sat K ph S r M σ H) (q : Rep K ph S v d) (e : res M d = .lst l) : ∃ a xs, v = .ref a ∧ H a = some (.lst xs) ∧ RepAll K ph S xs l := by
  cases d <;> first | (unfold res at e; cases e; done) | skip
  · cases e
    cases q with
    | lst h1 h2 => exact ⟨_, _, rfl, hs.sub _ _ h1, h2⟩
  · rename_i k
    unfold res at e
    dsimp only at e
    split at e
    · rename_i ds hk
      cases e
      cases q with
      | own h =>
        obtain ⟨a, xs, c1, c2, c3, c4⟩ := hs.cell k _ hk
        rw [h] at c1; cases c1
        exact ⟨_, _, rfl, c3, c4⟩
    · cases e
theorem res_tup {M : Mem} {d : D} {l : List D} (e : res M d = .tup l) : d = .tup l := by
  cases d <;> first | exact e | skip
  unfold res at e
  dsimp only at e
  split at e <;> cases e
theorem res_scr {M : Mem} {d : D} {l : List Int} (e : res M d = .scr l) : d = .scr l := by
  cases d <;> first | exact e | skip
  unfold res at e
  dsimp only at e
  split at e <;> cases e
theorem de_ix {ta tb : DTE} (ha : DE X a ta) (hb : DE X b tb) (hs : PlainIx b := by exact fun _ _ => rfl) : DE X (.Subscript a b pos) (dOp gIx ta tb) :=
  DE.of (pe_ix (ix_list.or ix_tup) ha.pe hb.pe hs) fun ph S r M σ H Q hs ht Q' hq => ⟨ph, S, r, M, _, hs, ht, fun v H1 ⟨ph1, S1, M1, x1, hs1, d, q1, g1⟩ =>
    ⟨ph1, S1, r, M1, _, hs1, g1, fun u H2 ⟨ph2, S2, M2, x2, hs2, e, q2, g2⟩ => by
      have q1' := q1.up x2
      have xx := x1.trans x2
      replace g2 : gIx d e M2 Q := g2
      unfold gIx at g2
      split at g2
      · rename_i l i er
        cases q2
        split at g2
        · rename_i d' ei
          obtain ⟨p, xs, rfl, hp, hx⟩ := res_lst hs2 q1' er
          obtain ⟨w, ew, qw⟩ := atI_rep hx ei
          exact .inl ⟨p, xs, i, w, rfl, rfl, SqL.of hp, ew, hq _ _ ⟨ph2, S2, M2, xx, hs2, _, qw, g2⟩⟩
        · exact g2.elim
      · rename_i l i er
        cases q2
        split at g2
        · rename_i d' ei
          cases res_tup er
          cases q1' with
          | tup h1 h2 =>
            obtain ⟨w, ew, qw⟩ := atI_rep h2 ei
            exact .inr ⟨_, _, i, w, rfl, rfl, h1.sq hs2.sub, ew, hq _ _ ⟨ph2, S2, M2, xx, hs2, _, qw, g2⟩⟩
        · exact g2.elim
      · rename_i ns i er
        cases q2
        split at g2
        · rename_i n ei
          cases res_scr er
          cases q1' with
          | scr h1 => exact .inl ⟨_, _, i, _, rfl, rfl, hs2.sub.seq h1, atI_map ei, hq _ _ ⟨ph2, S2, M2, xx, hs2, _, .int _, g2⟩⟩
        · exact g2.elim
      · exact g2.elim⟩⟩
end DL
/-! DL5: defs and their calls -/
namespace DL
open PySem PySem.Spec PyProof.Rows L2
/-! ### a def's promise over the hand layer, where no guard runs -/
structure FnG (P : Program) (w : World) (K : PySem.W.Frag) (mg : Str → Option Value) (base : Heap) (CX : CXT) (k : Nat) (f : Addr) (fd : FuncData) (ps : List Str) (sp : Sp) : Prop where
  len : ∀ vs H Q E, sp vs H Q E → vs.length = ps.length
  run : ∀ (A : Around) (outer : List PySem.Env) (s : Shared) (H : Hp) (args : Args) (us : List Value) (vs : List V) (Q : VK) (E : XK), Room k A → A.guards = some [] → Env0 P w K mg base A outer s H → BindsTo s fd args (ps.zip us) → Vals vs us → sp vs H Q E →
    codeAny (model P w) A (.call (.ref f) args) (CR CX outer P w H s Q E) s
theorem FnG.mono {P : Program} {w : World} {K : PySem.W.Frag} {mg : Str → Option Value} {base : Heap} {CX : CXT} {j k : Nat} {f : Addr} {fd : FuncData} {ps : List Str} {sp : Sp} (F : FnG P w K mg base CX j f fd ps sp) (h : j ≤ k) :
    FnG P w K mg base CX k f fd ps sp := ⟨F.len, fun A outer s H args us vs Q E hr => F.run A outer s H args us vs Q E (hr.mono h)⟩
section
variable {X : Cx} {CX : CXT} {k : Nat} {f : Addr} {fd : FuncData} {ps : List Str} {sp : Sp} {dvs : List V} {ds : List Value} {E : XK} {x : Str} {p pos : Pos} {e : Expr} {es : List Expr} {t : TA}
theorem run_fnG {pins : List (Addr × Obj)} {σ : St} {H : Hp} {s : Shared} {Q : VK} {us : List Value} {vs : List V} (F : FnG X.prog X.w X.K X.mg X.base CX k f fd ps sp) (hr : Room k X.A) (gd : X.A.guards = some []) (hb : Binds X.K fd ps ds) (hd : Vals dvs ds) (hx : Passes CX X E)
    (I : Inv X pins σ H s) (r : Vals vs us) (h : sp (vs ++ dvs) H Q E) : wpAny (model X.prog X.w) X.A (call (.ref f) us) (EP X pins σ Q) X.xe s := by
  have r2 : Vals (vs ++ dvs) (us ++ ds) := r.append hd
  have hl : (us ++ ds).length = ps.length := by rw [← r2.length]; exact F.len _ _ _ _ h
  refine wpAny_call (codeAny_mono (F.run X.A X.stack s H ⟨us, []⟩ (us ++ ds) (vs ++ dvs) Q E hr gd I.env0 (hb s us I.kIn hl) r2 h) fun r s' hq => ?_)
  match r, hq with
  | .error e, hq => exact hx pins σ H s e s' I hq
  | .ok (.ret u), hq => exact I.after hq
  | .ok .next, hq => exact False.elim hq
  | .ok .brk, hq => exact False.elim hq
  | .ok .cont, hq => exact False.elim hq
theorem pe_callG (F : FnG X.prog X.w X.K X.mg X.base CX k f fd ps sp) (hr : Room k X.A) (gd : X.A.guards = some []) (hg : Gl X x) (hm : X.mg x = some (.ref f)) (hk : PySem.W.keepIn X.K (.ref f) = true) (hb : Binds X.K fd ps ds) (hd : Vals dvs ds) (hx : Passes CX X E)
    (ha : PA X (e :: es) t) (hdb : (x == ("__debug__" : Str)) = false := by decide) (he : starEach (e :: es) X.env = (false, eval e X.env) :: starEach es X.env := by rfl) (hpl : (backTo pos (starEach es X.env)).any (·.1) = false := by rfl) :
    PE X (.Call (.Name x p) (e :: es) [] pos) (tCall sp dvs E t) :=
  ⟨fun pins s σ H Q I h => wpAny_Call_Name_kw (ld_glob I hg hm (PySem.W.callWith_K (h₀ := X.base) I.ok.mod.kin hk (thn (ha.run pos pins s σ H _ I h) fun us s1 ⟨vs, H1, I1, r, q⟩ => ⟨I1.kIn, run_fnG F hr gd hb hd hx I1 r q⟩) he hpl) hdb)⟩
end
/-- a def by its body -/
theorem fnG_of {CX : CXT} {P : Program} {w : World} {K : PySem.W.Frag} {mg : Str → Option Value} {base : Heap} {k : Nat} {f : Addr} {name qual : Str} {params : Arguments} {body : List Stmt} {scope : Scope} {dV kV doc pm cdv ct oc : Value} {an od : Option Addr}
    {osl : Array (Option Value)} {N ps : List Str} {sp : Sp} (lk : K.lookup f = some ⟨oc, od, .func (PySem.W.fnOf name qual params body scope dV kV doc pm an cdv ct), osl⟩) (hcd : PySem.W.codeIn K cdv qual = true) (S : FnScope N ps scope)
    (len : ∀ vs H Q E, sp vs H Q E → vs.length = ps.length)
    (hbody : ∀ (A : Around) (outer : List PySem.Env) (s : Shared) (H : Hp) (vs : List V) (Q : VK) (E : XK), Room k (A.deeper (envOfC qual scope s.heap.objs.size f cdv)) → A.guards = some [] → sp vs H Q E →
      ∃ t, PSs (cxOf CX P w K mg base N qual scope f cdv A outer s H E) body t ∧ t { nx := fun _ H' => Q .non H', rt := Q } (start N vs) H) :
    FnG P w K mg base CX (k + 1) f (PySem.W.fnOf name qual params body scope dV kV doc pm an cdv ct) ps sp := by
  refine ⟨len, fun A outer s H args us vs Q E hr gd e0 hb r hsp => ?_⟩
  have hl := len _ _ _ _ hsp
  have KX : K.In s.heap := e0.mod.kin.keeps fun b o e => (e0.bs b o e).1
  have lim : s.heap.NoLimit := e0.mod.nolimit.keeps fun b o e => (e0.bs b o e).1
  refine codeAny_call_function hr.depth (KX _ _ lk) rfl S.co S.gen rfl (PySem.W.codeRec_of KX hcd) (hb _ _ _ _ ?_)
  refine wpAny_newFunctionEnv_cells S.kind (fun y hy => ?_) fun env he s1 x => ?_
  · rcases S.par y.1 (List.of_mem_zip (a := y.1) (b := y.2) hy).1 with q | q
    · exact .inl q
    · exact .inr ⟨q, PySem.W.cellsFrom_some _ _ _ (.inl q)⟩
  subst he
  refine ⟨lim.keeps x.toInCall.keep, codeAny_func ?_⟩
  obtain ⟨t, ht, hq⟩ := hbody A outer s H vs Q E (hr.deeper _) gd hsp
  have I : Inv (cxOf CX P w K mg base N qual scope f cdv A outer s H E) [] (start N vs) H s1 := inv_start S hr.hd e0 hl r x
  refine wpAny_mono (ht.run [] s1 (start N vs) H _ I hq) (fun fl s' hs => ?_) fun e s' hs => hs
  match fl, hs with
  | .ret u, ⟨v, σ', H', J, rv, q⟩ => exact ⟨v, H', J.os, J.bare, J.base, J.hok, rv, q⟩
  | .next, ⟨σ', H', J, q⟩ => exact ⟨V.non, H', J.os, J.bare, J.base, J.hok, rfl, q⟩
  | .brk, ⟨_, _, _, q⟩ => exact False.elim q
  | .cont, ⟨_, _, _, q⟩ => exact False.elim q
/-! ### a def's promise over data -/
/-- what is wanted of an exception: its class, its value, the cells -/
abbrev DX := Str → D → Mem → Prop
abbrev DSp := List D → Mem → DQ → DX → Prop
def DX0 : DX := fun _ _ _ => False
def postM (K : PySem.W.Frag) (ph : Ph) (S : Hp) (Q : DQ) : VK := post K ph S [] [] Q
def postX (K : PySem.W.Frag) (ph : Ph) (S : Hp) (E : DX) : XK := fun cls d H => ∃ (x : Str) (C T dd : Addr) (v : V) (dv : D), XA.ErC K x C T ∧ cls = .ref C ∧ d = some dd ∧
  Aft K ph S [] [] H fun ph' S' M => S' dd = some (.xd [(fVal, v)]) ∧ Rep K ph' S' v dv ∧ E x dv M
def lfSp (K : PySem.W.Frag) (n : Nat) (sp : DSp) : Sp := fun vs H Q E => ∃ ph S M ds Q0 E0, ds.length = n ∧ Sat K ph S [] M [] H ∧ RepAll K ph S vs ds ∧ sp ds M Q0 E0 ∧ (∀ v H', postM K ph S Q0 v H' → Q v H') ∧ (∀ cls d H', postX K ph S E0 cls d H' → E cls d H')
abbrev FnD (P : Program) (w : World) (K : PySem.W.Frag) (mg : Str → Option Value) (base : Heap) (CX : CXT) (k : Nat) (f : Addr) (fd : FuncData) (ps : List Str) (sp : DSp) : Prop :=
  FnG P w K mg base CX k f fd ps (lfSp K ps.length sp)
theorem Sat.drop {K : PySem.W.Frag} {ph : Ph} {S : Hp} {r : Env} {M : Mem} {σ : St} {H : Hp} (h : Sat K ph S r M σ H) : Sat K ph S [] M [] H :=
  ⟨h.sub, h.len, h.nd, h.trk, h.cell, h.hid, h.hnd, rfl, fun i d e => by simp at e⟩
/-- behind a call the names are as they were -/
theorem Sat.back {K : PySem.W.Frag} {ph ph' : Ph} {S S' : Hp} {r : Env} {M M' : Mem} {σ : St} {H H' : Hp} (h : Sat K ph S r M σ H) (x : Ext ph S ph' S') (h' : Sat K ph' S' [] M' [] H') : Sat K ph' S' r M' σ H' :=
  ⟨h'.sub, h'.len, h'.nd, h'.trk, h'.cell, h'.hid, h'.hnd, h.el, fun i d e => let ⟨v, e1, q⟩ := h.env i d e; ⟨v, e1, q.up x⟩⟩
section
variable {X : Cx} {CX : CXT} {k : Nat} {f : Addr} {fd : FuncData} {ps : List Str} {sp : DSp} {x : Str} {p pos : Pos} {e : Expr} {es : List Expr} {t : DTA}
/-- f(..), then the defaults -/
def dCall (n : Nat) (sp : DSp) (dvs : List D) (E : DX) (t : DTA) : DTE := fun r M Q => t r M fun ds M1 => (ds ++ dvs).length = n ∧ sp (ds ++ dvs) M1 Q E
/-- a value that is the same everywhere -/
def Cst (K : PySem.W.Frag) (v : V) (d : D) : Prop := ∀ ph S, Rep K ph S v d
inductive Csts (K : PySem.W.Frag) : List V → List D → Prop
  | nil : Csts K [] []
  | cons {v : V} {d : D} {vs : List V} {ds : List D} : Cst K v d → Csts K vs ds → Csts K (v :: vs) (d :: ds)
theorem Csts.rep {K : PySem.W.Frag} {ph : Ph} {S : Hp} : ∀ {vs : List V} {ds : List D}, Csts K vs ds → RepAll K ph S vs ds
  | _, _, .nil => .nil
  | _, _, .cons h t => .cons (h _ _) t.rep
theorem lf_call {t' : TA} {dvs : List V} {dds : List D} {E' : XK} {E : DX} (hE : ∀ ph S cls d H', postX X.K ph S E cls d H' → E' cls d H') (hc : Csts X.K dvs dds) {ph : Ph} {S : Hp} {r : Env} {M : Mem} {σ : St} {H : Hp} {Q : DQ} {Q' : VK} (hs : Sat X.K ph S r M σ H) (ht : dCall ps.length sp dds E t r M Q) (hq : ∀ v H', post X.K ph S r σ Q v H' → Q' v H')
    (w : ∀ Q1 : List V → Hp → Prop, (∀ vs H', postA X.K ph S r σ (fun ds M1 => (ds ++ dds).length = ps.length ∧ sp (ds ++ dds) M1 Q E) vs H' → Q1 vs H') → t' σ H Q1) : tCall (lfSp X.K ps.length sp) dvs E' t' σ H Q' :=
  w _ fun vs H1 ⟨ph1, S1, M1, x1, hs1, ds, q1, hl, h1⟩ => ⟨ph1, S1, M1, ds ++ dds, Q, E, hl, hs1.drop, q1.app hc.rep, h1, fun v H2 ⟨ph2, S2, M2, x2, hs2, d, q2, h2⟩ => hq _ _ ⟨ph2, S2, M2, x1.trans x2, hs1.back x2 hs2, d, q2, h2⟩, fun cls d H2 h2 => hE _ _ _ _ _ h2⟩
theorem de_callX {dvs : List V} {dds : List D} {ds : List Value} {E' : XK} {E : DX} (F : FnD X.prog X.w X.K X.mg X.base CX k f fd ps sp) (hr : Room k X.A) (gd : X.A.guards = some []) (hm : X.mg x = some (.ref f)) (hk : PySem.W.keepIn X.K (.ref f) = true) (hb : Binds X.K fd ps ds) (hd : Vals dvs ds) (hc : Csts X.K dvs dds) (hx : Passes CX X E') (hE : ∀ ph S cls d H', postX X.K ph S E cls d H' → E' cls d H')
    (ha : DA X (e :: es) t) (hg : Gl X x := by rfl) (hdb : (x == ("__debug__" : Str)) = false := by decide) (he : starEach (e :: es) X.env = (false, eval e X.env) :: starEach es X.env := by rfl) (hpl : (backTo pos (starEach es X.env)).any (·.1) = false := by rfl) :
    DE X (.Call (.Name x p) (e :: es) [] pos) (dCall ps.length sp dds E t) :=
  DE.of (pe_callG F hr gd hg hm hk hb hd hx ha.pa hdb he hpl) fun ph S r M σ H Q hs ht Q' hq => lf_call hE hc hs ht hq fun Q1 hQ1 => ⟨ph, S, r, M, _, hs, ht, hQ1⟩
theorem pX0 : ∀ ph S cls d H', postX X.K ph S DX0 cls d H' → E0 cls d H' := fun _ _ _ _ _ ⟨_, _, _, _, _, _, _, _, _, _, _, _, _, _, _, _, z⟩ => z
/-- what is told of a def of the module, for its callers -/
structure Def (P : Program) (w : World) (K : PySem.W.Frag) (mg : Str → Option Value) (base : Heap) (CX : CXT) (k : Nat) (x : Str) (st : Stmt) (ps : List Str) (sp : DSp) : Prop where
  ex : ∃ (f : Addr) (fd : FuncData), FnD P w K mg base CX k f fd ps sp ∧ mg x = some (.ref f) ∧ PySem.W.keepIn K (.ref f) = true ∧ Binds K fd ps [] ∧ Fun K x x st f fd
/-- a call of a def from which nothing is raised -/
theorem dcall {n : Nat} {st : Stmt} {P : Program} {w : World} {K : PySem.W.Frag} {mg : Str → Option Value} {base : Heap} (F : Def P w K mg base CX0 k x st ps sp) {j : Nat} (hr : Room j X.A) (gd : X.A.guards = some []) (ha : DA X (e :: es) t) (hj : k ≤ j := by decide) (hn : ps.length = n := by rfl)
    (h1 : P = X.prog := by rfl) (h2 : w = X.w := by rfl) (h3 : K = X.K := by rfl) (h4 : mg = X.mg := by rfl) (h5 : base = X.base := by rfl) (hg : Gl X x := by rfl) (hdb : (x == ("__debug__" : Str)) = false := by decide) (he : starEach (e :: es) X.env = (false, eval e X.env) :: starEach es X.env := by rfl)
    (hpl : (backTo pos (starEach es X.env)).any (·.1) = false := by rfl) : DE X (.Call (.Name x p) (e :: es) [] pos) (dCall n sp [] DX0 t) := by
  subst h1 h2 h3 h4 h5 hn
  obtain ⟨f, fd, h1, h2, h3, h4, _⟩ := F.ex
  exact de_callX h1 (hr.mono hj) gd h2 h3 h4 .nil .nil pass0 pX0 ha hg hdb he hpl
end
/-! ### at the end of a def: the cells that it made are left behind -/
mutual
def below (n : Nat) : D → Bool
  | .tup l => belowAll n l
  | .lst l => belowAll n l
  | .own k => decide (k < n)
  | .exc _ d => below n d
  | _ => true
def belowAll (n : Nat) : List D → Bool
  | [] => true
  | d :: ds => below n d && belowAll n ds
end
def belowO (n : Nat) : Own → Bool
  | .lst l => belowAll n l
  | .dead => true
section
variable {K : PySem.W.Frag} {ph : Ph} {S : Hp} {n : Nat}
mutual
theorem Rep.take : ∀ (d : D) (v : V), below n d = true → Rep K ph S v d → Rep K (ph.cut n) S v d
  | .non, _, _, h => by cases h; exact .non
  | .bl _, _, _, h => by cases h; exact .bl _
  | .int _, _, _, h => by cases h; exact .int _
  | .str _, _, _, h => by cases h; exact .str _
  | .tup ds, _, e, h => by
    cases h with
    | tup h1 h2 => exact .tup h1 (RepAll.takeP ds _ (by simpa only [below] using e) h2)
  | .lst ds, _, e, h => by
    cases h with
    | lst h1 h2 => exact .lst h1 (RepAll.takeP ds _ (by simpa only [below] using e) h2)
  | .dct0, _, _, h => by
    cases h with
    | dct0 h1 => exact .dct0 h1
  | .scr ns, _, _, h => by
    cases h with
    | scr h1 => exact .scr h1
  | .own k, _, e, h => by
    cases h with
    | own h1 =>
      have e' : k < n := of_decide_eq_true (by simpa only [below] using e)
      exact .own (by show (ph.cells.take n)[k]? = _; rw [List.getElem?_take_of_lt e']; exact h1)
  | .glb _, _, _, h => by
    cases h with
    | glb h1 => exact .glb h1
  | .exc C d, _, e, h => by
    cases h with
    | exc h0 h1 h2 h3 => exact .exc h0 h1 h2 (Rep.take d _ (by simpa only [below] using e) h3)
  | .val v, _, _, h => by cases h; exact .val _
theorem RepAll.takeP : ∀ (ds : List D) (vs : List V), belowAll n ds = true → RepAll K ph S vs ds → RepAll K (ph.cut n) S vs ds
  | [], _, _, h => by cases h; exact .nil
  | d :: ds, _, e, h => by
    have e' : below n d = true ∧ belowAll n ds = true := by simpa only [belowAll, Bool.and_eq_true] using e
    cases h with
    | cons h1 h2 => exact .cons (Rep.take d _ e'.1 h1) (RepAll.takeP ds _ e'.2 h2)
end
mutual
theorem Rep.belowP : ∀ (d : D) (v : V), Rep K ph S v d → below ph.cells.length d = true
  | .non, _, _ => by simp only [below]
  | .bl _, _, _ => by simp only [below]
  | .int _, _, _ => by simp only [below]
  | .str _, _, _ => by simp only [below]
  | .tup ds, _, h => by
    cases h with
    | tup h1 h2 => simp only [below]; exact RepAll.belowP ds _ h2
  | .lst ds, _, h => by
    cases h with
    | lst h1 h2 => simp only [below]; exact RepAll.belowP ds _ h2
  | .dct0, _, _ => by simp only [below]
  | .scr ns, _, _ => by simp only [below]
  | .own k, _, h => by
    cases h with
    | own h1 => simp only [below]; exact decide_eq_true (List.getElem?_eq_some_iff.mp h1).1
  | .glb _, _, _ => by simp only [below]
  | .exc C d, _, h => by
    cases h with
    | exc h0 h1 h2 h3 => simp only [below]; exact Rep.belowP d _ h3
  | .val v, _, _ => by simp only [below]
theorem RepAll.belowP : ∀ (ds : List D) (vs : List V), RepAll K ph S vs ds → belowAll ph.cells.length ds = true
  | [], _, _ => by simp only [belowAll]
  | d :: ds, _, h => by
    cases h with
    | cons h1 h2 => simp only [belowAll, Bool.and_eq_true]; exact ⟨Rep.belowP d _ h1, RepAll.belowP ds _ h2⟩
end
end
mutual
theorem below.mono {m n : Nat} (hmn : m ≤ n) : ∀ d : D, below m d = true → below n d = true
  | .non, _ => by simp only [below]
  | .bl _, _ => by simp only [below]
  | .int _, _ => by simp only [below]
  | .str _, _ => by simp only [below]
  | .tup ds, h => by
    simp only [below] at h ⊢
    exact belowAll.mono hmn ds h
  | .lst ds, h => by
    simp only [below] at h ⊢
    exact belowAll.mono hmn ds h
  | .dct0, _ => by simp only [below]
  | .scr _, _ => by simp only [below]
  | .own k, h => by
    simp only [below] at h ⊢
    have := of_decide_eq_true h
    exact decide_eq_true (by omega)
  | .glb _, _ => by simp only [below]
  | .exc _ d, h => by
    simp only [below] at h ⊢
    exact below.mono hmn d h
  | .val _, _ => by simp only [below]
theorem belowAll.mono {m n : Nat} (hmn : m ≤ n) : ∀ ds : List D, belowAll m ds = true → belowAll n ds = true
  | [], _ => by simp only [belowAll]
  | d :: ds, h => by
    simp only [belowAll, Bool.and_eq_true] at h ⊢
    exact ⟨below.mono hmn d h.1, belowAll.mono hmn ds h.2⟩
end
/-- d and the cells M1 are what stays of M': all else was made by the def -/
def Rtq (M : Mem) (Q : DQ) : DQ := fun d M' => ∃ M1 G, M' = M1 ++ G ∧ M.length ≤ M1.length ∧ below M1.length d = true ∧ (∀ (i : Nat) (c : Own), M1[i]? = some c → M[i]? = some c ∨ belowO M1.length c = true) ∧ Q d M1
theorem Sat.leave {K : PySem.W.Frag} {ph ph1 : Ph} {S S1 : Hp} {r : Env} {M M1 G : Mem} {σ : St} {H H1 : Hp} (h0 : Sat K ph S [] M [] H) (x : Ext ph S ph1 S1) (h : Sat K ph1 S1 r (M1 ++ G) σ H1) (hl : M.length ≤ M1.length) (hc : ∀ (i : Nat) (c : Own), M1[i]? = some c → M[i]? = some c ∨ belowO M1.length c = true) :
    Ext ph S (ph1.cut M1.length) S1 ∧ Sat K (ph1.cut M1.length) S1 [] M1 [] H1 := by
  have hpl : M1.length ≤ ph1.cells.length := by have := h.len; rw [List.length_append] at this; omega
  have up : ∀ (k : Nat) (a : Addr), k < M1.length → ph1.cells[k]? = some a → (ph1.cut M1.length).cells[k]? = some a := fun k a hk e => by show (ph1.cells.take M1.length)[k]? = _; rw [List.getElem?_take_of_lt hk]; exact e
  have dn : ∀ (k : Nat) (a : Addr), (ph1.cut M1.length).cells[k]? = some a → ph1.cells[k]? = some a := fun k a e => by
    replace e : (ph1.cells.take M1.length)[k]? = some a := e
    have hk : k < M1.length := by
      have := (List.getElem?_eq_some_iff.mp e).1
      rw [List.length_take] at this; omega
    rw [List.getElem?_take_of_lt hk] at e; exact e
  refine ⟨⟨fun k a e => up k a ?_ (x.pre k a e), x.same, x.hid⟩, h.sub, ?_, h.nd.sublist (List.take_sublist _ _), fun k a e => h.trk k a (dn k a e), fun k ds e => ?_, fun q hq => ?_, h.hnd, rfl, fun i d e => by simp at e⟩
  · refine Nat.lt_of_lt_of_le ?_ hl
    rw [← h0.len]; exact (List.getElem?_eq_some_iff.mp e).1
  · show (ph1.cells.take M1.length).length = _
    rw [List.length_take]; omega
  · have kl : k < M1.length := (List.getElem?_eq_some_iff.mp e).1
    obtain ⟨a, xs, c1, c2, c3, c4⟩ := h.cell k ds (by rw [List.getElem?_append_left kl]; exact e)
    refine ⟨a, xs, up k a (by omega) c1, c2, c3, RepAll.takeP ds xs ?_ c4⟩
    rcases hc k _ e with q | q
    · obtain ⟨_, _, _, _, _, b4⟩ := h0.cell k ds q
      refine belowAll.mono hl _ ?_
      rw [← h0.len]; exact RepAll.belowP _ _ b4
    · simpa only [belowO] using q
  · obtain ⟨h1, h2, h3⟩ := h.hid q hq
    exact ⟨h1, h2, fun z => h3 (List.mem_of_mem_take z)⟩
theorem Rtq.out {K : PySem.W.Frag} {ph : Ph} {S : Hp} {M : Mem} {H : Hp} {Q : DQ} (h0 : Sat K ph S [] M [] H) {v : V} {H1 : Hp} (h : postR K ph S (Rtq M Q) v H1) : postM K ph S Q v H1 := by
  obtain ⟨r, σ, ph1, S1, M', x, hs, d, q, M1, G, rfl, hl, hb, hc, hq⟩ := h
  obtain ⟨x2, hs2⟩ := Sat.leave h0 x hs hl hc
  exact ⟨_, _, _, x2, hs2, d, Rep.take d v hb q, hq⟩
/-- the names at the entry -/
def startD (n : Nat) (ds : List D) : Env := ds.map some ++ List.replicate (n - ds.length) none
theorem Sat.start {K : PySem.W.Frag} {ph : Ph} {S : Hp} {M : Mem} {H : Hp} {vs : List V} {ds : List D} (h : Sat K ph S [] M [] H) (q : RepAll K ph S vs ds) (N : List Str) : Sat K ph S (startD N.length ds) M (L2.start N vs) H := by
  refine ⟨h.sub, h.len, h.nd, h.trk, h.cell, h.hid, h.hnd, ?_, fun i d e => ?_⟩
  · unfold startD L2.start
    rw [List.length_append, List.length_append, List.length_map, List.length_map, List.length_replicate, List.length_replicate, q.len]
  · unfold startD at e
    by_cases hi : i < ds.length
    · rw [List.getElem?_append_left (by rw [List.length_map]; exact hi), List.getElem?_map] at e
      cases e' : ds[i]? with
      | none => rw [e'] at e; cases e
      | some d' =>
        rw [e'] at e
        have e2 : d' = d := by simpa using e
        subst e2
        obtain ⟨v, ev, qv⟩ := q.get e'
        refine ⟨v, ?_, qv⟩
        unfold L2.start
        rw [List.getElem?_append_left (by rw [List.length_map, q.len]; exact hi), List.getElem?_map, ev]
        rfl
    · rw [List.getElem?_append_right (by rw [List.length_map]; omega), List.getElem?_replicate] at e
      split at e <;> cases e
/-- what the body's end is for the def -/
def dEnds (M : Mem) (Q : DQ) : DEnds := { nx := fun _ M' => Rtq M Q .non M', rt := Rtq M Q }
section
variable {P : Program} {w : World} {K : PySem.W.Frag} {mg : Str → Option Value} {base : Heap}
/-- THE RULE: a def from which nothing is raised, by its body; its end leaves its own cells behind -/
theorem Fun.okD {x qual : Str} {st : Stmt} {f : Addr} {fd : FuncData} {N ps : List Str} {k : Nat} {sp : DSp} {t : DTS} (F : Fun K x qual st f fd) (S : FnScope N ps (defScope st))
    (hder : ∀ (cdv : Value) (A : Around) (outer : List PySem.Env) (s : Shared) (H : Hp) (E : XK), Room k (A.deeper (envOfC qual (defScope st) s.heap.objs.size f cdv)) → (A.deeper (envOfC qual (defScope st) s.heap.objs.size f cdv)).guards = some [] →
      DSs (cxOf CX0 P w K mg base N qual (defScope st) f cdv A outer s H E).nox (defBody st) t)
    (hread : ∀ ds M Q, ds.length = ps.length → sp ds M Q DX0 → t (dEnds M Q) (startD N.length ds) M)
    (hX : ∀ ds M Q E, sp ds M Q E → sp ds M Q DX0 := by exact fun _ _ _ _ h => h) : FnD P w K mg base CX0 (k + 1) f fd ps sp := by
  obtain ⟨oc, od, kV, doc, pm, an, cdv, ct, osl, rfl, lk, hcd⟩ := F.ex
  refine fnG_of lk hcd S (fun vs H Q E h => ?_) fun A outer s H vs Q E hr gd hsp => ?_
  · obtain ⟨_, _, _, _, _, _, hl, _, q, _⟩ := h
    rw [q.len]; exact hl
  · obtain ⟨ph, S0, M, ds, Q0, E0, hl, hs, hq, h, h1, h2⟩ := hsp
    refine ⟨_, (hder cdv A outer s H E hr gd).pss.nox, ph, S0, startD N.length ds, M, dEnds M Q0, hs.start hq N, hread ds M Q0 hl (hX _ _ _ _ h), ?_, ?_, ?_, ?_⟩
    · rintro σ' H' ⟨r, ph1, S1, M1, x, hs1, z⟩
      exact h1 _ _ (Rtq.out hs ⟨r, σ', ph1, S1, M1, x, hs1, .non, .non, z⟩)
    · exact fun v H' z => h1 _ _ (Rtq.out hs z)
    · rintro σ' H' ⟨r, ph1, S1, M1, x, hs1, z⟩
      exact z.elim
    · rintro σ' H' ⟨r, ph1, S1, M1, x, hs1, z⟩
      exact z.elim
end
end DL
/-! DL6: statements, loops, comprehensions -/
namespace DL
open PySem PySem.Spec PyProof.Rows L2
variable {X : Cx}
theorem DS.of {st : Stmt} {t' : TS} {t : DTS} (h : PS X st t') (w : ∀ ph S r M σ H E, Sat X.K ph S r M σ H → t E r M → ∀ E', (∀ σ' H', postN X.K ph S E.nx σ' H' → E'.nx σ' H') → (∀ v H', postR X.K ph S E.rt v H' → E'.rt v H') → (∀ σ' H', postN X.K ph S E.bk σ' H' → E'.bk σ' H') → (∀ σ' H', postN X.K ph S E.ct σ' H' → E'.ct σ' H') → t' E' σ H) : DS X st t :=
  ⟨PS.weak h fun E σ H ⟨ph, S, r, M, E0, hs, ht, h1, h2, h3, h4⟩ => w ph S r M σ H E0 hs ht E h1 h2 h3 h4⟩
theorem postN.up {K : PySem.W.Frag} {ph ph1 : Ph} {S S1 : Hp} {Q : Env → Mem → Prop} {σ : St} {H : Hp} (x : Ext ph S ph1 S1) (h : postN K ph1 S1 Q σ H) : postN K ph S Q σ H := let ⟨r, q⟩ := h; ⟨r, Aft.up x q⟩
theorem postR.up {K : PySem.W.Frag} {ph ph1 : Ph} {S S1 : Hp} {Q : DQ} {v : V} {H : Hp} (x : Ext ph S ph1 S1) (h : postR K ph1 S1 Q v H) : postR K ph S Q v H := let ⟨r, σ, q⟩ := h; ⟨r, σ, Aft.up x q⟩
/-! ### blocks -/
def dNext : DTS := fun E r M => E.nx r M
def dSeq (t u : DTS) : DTS := fun E r M => t { E with nx := u E } r M
theorem dss_nil : DSs X [] dNext := ⟨PSs.weak pss_nil fun E σ H ⟨ph, S, r, M, E0, hs, ht, h1, _, _, _⟩ => h1 _ _ ⟨r, Aft.here hs ht⟩⟩
theorem lf_on {ph ph1 : Ph} {S S1 : Hp} {r : Env} {M : Mem} {σ : St} {H : Hp} {t : DTS} {E : DEnds} {E' : Ends} (x : Ext ph S ph1 S1) (hs : Sat X.K ph1 S1 r M σ H) (ht : t E r M)
    (h1 : ∀ σ' H', postN X.K ph S E.nx σ' H' → E'.nx σ' H') (h2 : ∀ v H', postR X.K ph S E.rt v H' → E'.rt v H') (h3 : ∀ σ' H', postN X.K ph S E.bk σ' H' → E'.bk σ' H') (h4 : ∀ σ' H', postN X.K ph S E.ct σ' H' → E'.ct σ' H') : lfS X.K t E' σ H :=
  ⟨ph1, S1, r, M, E, hs, ht, fun _ _ z => h1 _ _ (z.up x), fun _ _ z => h2 _ _ (z.up x), fun _ _ z => h3 _ _ (z.up x), fun _ _ z => h4 _ _ (z.up x)⟩
theorem dss_cons {st : Stmt} {rest : List Stmt} {t u : DTS} (h : DS X st t) (h' : DSs X rest u) : DSs X (st :: rest) (dSeq t u) :=
  ⟨PSs.weak (pss_cons h.ps h'.pss) fun E σ H ⟨ph, S, r, M, E0, hs, ht, h1, h2, h3, h4⟩ =>
    ⟨ph, S, r, M, { E0 with nx := u E0 }, hs, ht, fun σ' H' ⟨r1, ph1, S1, M1, x, hs1, z⟩ => lf_on x hs1 z h1 h2 h3 h4, h2, h3, h4⟩⟩
theorem dss_one {st : Stmt} {t : DTS} (h : DS X st t) : DSs X [st] t := ⟨pss_one h.ps⟩
def dNever : DTS := fun _ _ _ => False
section
variable {pos : Pos}
/-- an expression whose value is dropped -/
def dDrop (t : DTE) : DTS := fun E r M => t r M fun _ M1 => E.nx r M1
theorem ds_expr {e : Expr} {t : DTE} (he : DE X e t) (hs : swapsWith e none pos.line X.env = pure false := by rfl) : DS X (.Expr e pos) (dDrop t) :=
  DS.of (ps_expr he.pe hs) fun ph S r M σ H E hs ht E' h1 _ _ _ => ⟨ph, S, r, M, _, hs, ht, fun v H' ⟨ph1, S1, M1, x, hs1, d, _, z⟩ => h1 _ _ ⟨r, ph1, S1, M1, x, hs1, z⟩⟩
def dRet (t : DTE) : DTS := fun E r M => t r M E.rt
theorem ds_ret {e : Expr} {t : DTE} (he : DE X e t) : DS X (.Return (some e) pos) (dRet t) :=
  DS.of (ps_ret he.pe) fun ph S r M σ H E hs ht E' _ h2 _ _ => ⟨ph, S, r, M, _, hs, ht, fun v H' z => h2 _ _ ⟨r, σ, z⟩⟩
def dRetN : DTS := fun E _ M => E.rt .non M
def dIfS (c : DTT) (t u : DTS) : DTS := fun E r M => c r M fun b M1 => if b = true then t E r M1 else u E r M1
theorem ds_if {c : Expr} {a b : List Stmt} {tc : DTT} {t u : DTS} (hc : DT X c tc) (ha : DSs X a t) (hb : DSs X b u) : DS X (.If c a b pos) (dIfS tc t u) :=
  DS.of (ps_if hc.pt ha.pss hb.pss) fun ph S r M σ H E hs ht E' h1 h2 h3 h4 => ⟨ph, S, r, M, _, hs, ht, fun k H1 ⟨ph1, S1, M1, x, hs1, z⟩ => by
    cases k with
    | true => exact lf_on x hs1 z h1 h2 h3 h4
    | false => exact lf_on x hs1 z h1 h2 h3 h4⟩
end
/-! ### targets -/
abbrev DTG := D → Env → Mem → (Env → Mem → Prop) → Prop
structure DG (X : Cx) (target : Expr) (g : DTG) : Prop where
  pg : PG X target (fun v σ H Q => ∃ ph S r M d Q0, Sat X.K ph S r M σ H ∧ Rep X.K ph S v d ∧ g d r M Q0 ∧ ∀ σ' H', postN X.K ph S Q0 σ' H' → Q σ' H')
def dName (i : Nat) : DTG := fun d r M Q => Q (r.set i (some d)) M
theorem dg_name {i : Nat} {x : Str} {pos : Pos} (hN : X.N.Nodup) (hi : X.N[i]? = some x := by rfl) (hx : Loc X.env.scope x := by first | exact Or.inl rfl | exact Or.inr rfl) (hf : X.fn x = true ∨ X.env.scope.names.lookup x = some .local := by first | exact .inl rfl | exact .inr rfl | assumption) : DG X (.Name x pos) (dName i) :=
  ⟨⟨fun pins s σ H v u Q I rv ⟨ph, S, r, M, d, Q0, hs, q, hg, h1⟩ => (pg_name hN hi hx hf).run pins s σ H v u Q I rv (h1 _ _ ⟨_, Aft.here (hs.setN q) hg⟩)⟩⟩
abbrev DTGs := List D → Env → Mem → (Env → Mem → Prop) → Prop
structure DGs (X : Cx) (ts : List Expr) (g : DTGs) : Prop where
  pgs : PGs X ts (fun vs σ H Q => ∃ ph S r M ds Q0, Sat X.K ph S r M σ H ∧ RepAll X.K ph S vs ds ∧ g ds r M Q0 ∧ ∀ σ' H', postN X.K ph S Q0 σ' H' → Q σ' H')
def dGNil : DTGs := fun ds r M Q => match ds with
  | [] => Q r M
  | _ => False
def dGCons (g : DTG) (u : DTGs) : DTGs := fun ds r M Q => match ds with
  | d :: rest => g d r M fun r1 M1 => u rest r1 M1 Q
  | _ => False
theorem dgs_nil : DGs X [] dGNil := ⟨⟨fun pins s σ H vs us Q I rv ⟨ph, S, r, M, ds, Q0, hs, q, hg, h1⟩ => pgs_nil.run pins s σ H vs us Q I rv (by
  cases ds with
  | cons d ds => exact hg.elim
  | nil =>
    cases q
    exact ⟨rfl, h1 _ _ ⟨r, Aft.here hs hg⟩⟩)⟩⟩
theorem dgs_cons {e : Expr} {es : List Expr} {g : DTG} {u : DTGs} (h : DG X e g) (h' : DGs X es u) (hst : (assignEach (e :: es) X.env).map (·.2) = assign e X.env :: (assignEach es X.env).map (·.2) := by rfl) : DGs X (e :: es) (dGCons g u) :=
  ⟨⟨fun pins s σ H vs us Q I rv ⟨ph, S, r, M, ds, Q0, hs, q, hg, h1⟩ => (pgs_cons h.pg h'.pgs hst).run pins s σ H vs us Q I rv (by
    cases ds with
    | nil => exact hg.elim
    | cons d ds =>
      cases q with
      | cons q1 q2 => exact ⟨_, _, rfl, ph, S, r, M, d, _, hs, q1, hg, fun σ1 H1 ⟨r1, ph1, S1, M1, x1, hs1, z⟩ => ⟨ph1, S1, r1, M1, ds, Q0, hs1, q2.up x1, z, fun σ2 H2 z2 => h1 _ _ (z2.up x1)⟩⟩)⟩⟩
/-- (a, b, ..) = a tuple, or a list -/
def dGTup (n : Nat) (u : DTGs) : DTG := fun d r M Q => match res M d with
  | .tup ds => ds.length = n ∧ u ds r M Q
  | .lst ds => ds.length = n ∧ u ds r M Q
  | _ => False
theorem dg_tup {es : List Expr} {k : Nat} {u : DTGs} {n : Nat} {pos : Pos} (hc : X.calm = true) (h : DGs X es u) (hn : (assignEach es X.env).length = n := by rfl) (hst : (assignEach es X.env).findIdx? (·.1) = none := by rfl) : DG X (.Tuple es k pos) (dGTup n u) :=
  ⟨⟨fun pins s σ H v u' Q I rv ⟨ph, S, r, M, d, Q0, hs, q, hg, h1⟩ => by
    unfold dGTup at hg
    split at hg
    · rename_i ds e
      have e' := res_tup e
      subst e'
      refine (pg_tup hc h.pgs hn hst).run pins s σ H v u' Q I rv ?_
      cases q with
      | tup q1 q2 => exact ⟨_, _, rfl, q1.sq hs.sub, by rw [q2.len]; exact hg.1, ph, S, r, M, _, Q0, hs, q2, hg.2, h1⟩
    · rename_i ds e
      obtain ⟨a, xs, e1, e2, q2⟩ := res_lst hs q e
      refine (pg_unl hc h.pgs hn hst).run pins s σ H v u' Q I rv ?_
      exact ⟨a, xs, e1, SqL.of e2, by rw [q2.len]; exact hg.1, ph, S, r, M, _, Q0, hs, q2, hg.2, h1⟩
    · exact hg.elim⟩⟩
/-- o[i] = .., o an owned list -/
def gSetL (o i d : D) (M : Mem) (Q : Mem → Prop) : Prop := match o, i with
  | .own k, .int j => match M[k]? with
    | some (.lst l) => match ixN l.length j with
      | some n => Q (M.set k (.lst (l.set n d)))
      | none => False
    | _ => False
  | _, _ => False
def dSub (to ti : DTE) : DTG := fun d r M Q => to r M fun o M1 => ti r M1 fun i M2 => gSetL o i d M2 fun M3 => Q r M3
theorem dg_sub {o i : Expr} {to ti : DTE} {pos : Pos} (ho : DE X o to) (hi : DE X i ti)
    (ha : ∀ v, assign (.Subscript o i pos) X.env v = (do
      let ov ← holding [v] (eval o X.env)
      let iv ← holding [v, ov] (eval i X.env)
      standAt pos
      holding [v, ov, iv] (setItem ov iv v)
      release [v, ov, iv] []) := by intro _; rfl) : DG X (.Subscript o i pos) (dSub to ti) :=
  ⟨⟨fun pins s σ H v u Q I rv ⟨ph, S, r, M, d, Q0, hs, q, hg, h1⟩ => (pg_sub ho.pe hi.pe set_list ha).run pins s σ H v u Q I rv
    ⟨ph, S, r, M, _, hs, hg, fun ov H1 ⟨ph1, S1, M1, x1, hs1, od, q1, g1⟩ => ⟨ph1, S1, r, M1, _, hs1, g1, fun iv H2 ⟨ph2, S2, M2, x2, hs2, id', q2, g2⟩ => by
      replace g2 : gSetL od id' d M2 fun M3 => Q0 r M3 := g2
      cases od with
      | own k =>
        cases id' with
        | int j =>
          unfold gSetL at g2
          dsimp only at g2
          split at g2
          · rename_i l hk
            split at g2
            · rename_i n hn
              cases q2
              cases q1 with
              | own hp =>
                have hp2 := x2.pre _ _ hp
                obtain ⟨a, xs, c1, c2, c3, c4⟩ := hs2.cell k l hk
                rw [hp2] at c1; cases c1
                exact ⟨_, xs, j, n, rfl, rfl, c3, by rw [c4.len]; exact hn, h1 _ _ ⟨r, ph2, S2, _, x1.trans x2, hs2.put hk hp2 (RepAll.set (q.up (x1.trans x2)) n c4), g2⟩⟩
            · exact g2.elim
          · exact g2.elim
        | _ => exact g2.elim
      | _ => exact g2.elim⟩⟩⟩⟩
/-- target = value -/
def dAsg (t : DTE) (g : DTG) : DTS := fun E r M => t r M fun d M1 => g d r M1 E.nx
section
variable {pos : Pos}
theorem ds_asg {tg e : Expr} {t : DTE} {g : DTG} (he : DE X e t) (hg : DG X tg g) (hs : swapsWithSole [tg] e pos.line X.env = pure false := by rfl) (hw : swappedStores [tg] e X.env = pure none := by rfl)
    (h1 : (assignEach [tg] X.env).map (·.2) = [assign tg X.env] := by rfl) : DS X (.Assign [tg] e pos) (dAsg t g) :=
  DS.of (ps_asg he.pe hg.pg hs hw h1) fun ph S r M σ H E hs ht E' h1 _ _ _ => ⟨ph, S, r, M, _, hs, ht, fun v H' ⟨ph1, S1, M1, x, hs1, d, q, z⟩ => ⟨ph1, S1, r, M1, d, E.nx, hs1, q, z, fun σ2 H2 z2 => h1 _ _ (z2.up x)⟩⟩
/-- name = value -/
theorem ds_set {i : Nat} {x : Str} {e : Expr} {t : DTE} {pos' : Pos} (hN : X.N.Nodup) (he : DE X e t) (hi : X.N[i]? = some x := by rfl) (hx : Loc X.env.scope x := by first | exact Or.inl rfl | exact Or.inr rfl) (hs : swapsWith e (some (.Name x pos')) pos.line X.env = pure false := by rfl) (hf : X.fn x = true ∨ X.env.scope.names.lookup x = some .local := by first | exact .inl rfl | exact .inr rfl | assumption) :
    DS X (.Assign [.Name x pos'] e pos) (dAsg t (dName i)) :=
  DS.of (ps_set hN hi hx he.pe hs hf) fun ph S r M σ H E hs ht E' h1 _ _ _ => ⟨ph, S, r, M, _, hs, ht, fun v H' ⟨ph1, S1, M1, x, hs1, d, q, z⟩ => h1 _ _ ⟨_, ph1, S1, M1, x, hs1.setN q, z⟩⟩
/-- a, b = x, y -/
def dPar (i j : Nat) (t : DTA) : DTS := fun E r M => t r M fun ds M1 => match ds with
  | [d, e] => E.nx ((r.set i (some d)).set j (some e)) M1
  | _ => False
theorem ds_par {i j : Nat} {x y : Str} {a b : Expr} {t : DTA} {px py pt : Pos} {kt k2 pt2} (hc : X.calm = true) (hN : X.N.Nodup) (ha : DA X [a, b] t) (hi : X.N[i]? = some x := by rfl) (hj : X.N[j]? = some y := by rfl) (hij : i ≠ j := by decide)
    (hx : X.env.scope.names.lookup x = some .local := by rfl) (hy : X.env.scope.names.lookup y = some .local := by rfl)
    (hw : swappedStores [.Tuple [.Name x px, .Name y py] kt pt] (.Tuple [a, b] k2 pt2) X.env = pure (some [x, y]) := by rfl)
    (hs : swapsWithSole [.Tuple [.Name x px, .Name y py] kt pt] (.Tuple [a, b] k2 pt2) pos.line X.env = pure false := by rfl) :
    DS X (.Assign [.Tuple [.Name x px, .Name y py] kt pt] (.Tuple [a, b] k2 pt2) pos) (dPar i j t) :=
  DS.of (ps_par hc hN hi hj hij hx hy ha.pa hw hs) fun ph S r M σ H E hs ht E' h1 _ _ _ => ⟨ph, S, r, M, _, hs, ht, fun vs H' ⟨ph1, S1, M1, x, hs1, ds, q, z⟩ => by
    match ds, q, z with
    | [d, e], .cons q1 (.cons q2 .nil), z => exact ⟨_, _, rfl, h1 _ _ ⟨_, ph1, S1, M1, x, (hs1.setN q1).setN q2, z⟩⟩⟩
def dPar3 (i j l : Nat) (t : DTA) : DTS := fun E r M => t r M fun ds M1 => match ds with
  | [d, e, f] => E.nx (((r.set i (some d)).set j (some e)).set l (some f)) M1
  | _ => False
/-- name op= e (ints) -/
def gIpI (f : Int → Int → Int) (x y : D) (M : Mem) (Q : DQ) : Prop := match x, y with
  | .int i, .int j => Q (.int (f i j)) M
  | _, _ => False
def dAug (i : Nat) (t : DTE) (f : Int → Int → Int) : DTS := fun E r M => match r[i]? with
  | some (some (.int a)) => t r M fun d M1 => gIpI f (.int a) d M1 fun z M2 => E.nx (r.set i (some z)) M2
  | _ => False
/-! ### while -/
def dWhile (c : DTT) (t : DTS) : DTS := fun E r M => ∃ W : Nat → Env → Mem → Prop, (∃ m, W m r M) ∧ ∀ m r M, W m r M →
  c r M fun b M1 => if b = true then t { E with nx := fun r' M' => ∃ m', m' < m ∧ W m' r' M', ct := fun r' M' => ∃ m', m' < m ∧ W m' r' M', bk := E.nx } r M1 else E.nx r M1
theorem ds_while {c : Expr} {body : List Stmt} {tc : DTT} {t : DTS} (hc : DT X c tc) (hb : DSs X body t) (hp : PassesOwn (model X.prog X.w) X.A X.env X.xe := by exact PassesOwn.never) : DS X (.While c body [] pos) (dWhile tc t) :=
  DS.of (ps_while hp hc.pt hb.pss) fun ph S r M σ H E hs ht E' h1 h2 h3 h4 => by
    obtain ⟨W, ⟨m0, w0⟩, turn⟩ := ht
    refine ⟨fun m σ H => postN X.K ph S (W m) σ H, ⟨m0, r, Aft.here hs w0⟩, fun m σ1 H1 ⟨r1, ph1, S1, M1, x1, hs1, w1⟩ => ?_⟩
    refine ⟨ph1, S1, r1, M1, _, hs1, turn m r1 M1 w1, fun b H2 ⟨ph2, S2, M2, x2, hs2, z⟩ => ?_⟩
    cases b with
    | false =>
      rw [if_neg Bool.false_ne_true] at z ⊢
      exact h1 _ _ ⟨r1, ph2, S2, M2, x1.trans x2, hs2, z⟩
    | true =>
      rw [if_pos rfl] at z ⊢
      refine ⟨fun σ' H' => ∃ m', m' < m ∧ postN X.K ph S (W m') σ' H', fun _ _ q => q, ?_⟩
      exact lf_on (x1.trans x2) hs2 z (fun σ' H' ⟨r', ph', S', M', x', hs', m', hm, w'⟩ => ⟨m', hm, r', ph', S', M', x', hs', w'⟩) h2 h1 (fun σ' H' ⟨r', ph', S', M', x', hs', m', hm, w'⟩ => ⟨m', hm, r', ph', S', M', x', hs', w'⟩)
end
/-! ### what is walked -/
/-- J walks the items ds, while C holds of the cells -/
def Wlk (K : PySem.W.Frag) (ph : Ph) (S : Hp) (J : It) (ds : List D) (C : Mem → Prop) : Prop :=
  ∀ (ph' : Ph) S' r M σ H, (∀ (k : Nat) (a : Addr), ph.cells[k]? = some a → ph'.cells[k]? = some a) → Same S S' → Sat K ph' S' r M σ H → C M →
    (∀ i, ds.length ≤ i → J.stop i H) ∧ ∀ i d, ds[i]? = some d → J.go i H ∧ ∀ x H', J.yld i H x H' → Aft K ph' S' r σ H' fun ph2 S2 M2 => M2 = M ∧ Rep K ph2 S2 x d
abbrev DTI := Env → Mem → (List D → (Mem → Prop) → Mem → Prop) → Prop
structure DI (X : Cx) (tg iter : Expr) (t : DTI) : Prop where
  pi : PI X tg iter (fun σ H R => ∃ ph S r M Q0, Sat X.K ph S r M σ H ∧ t r M Q0 ∧ ∀ J H', (Aft X.K ph S r σ H' fun ph' S' M' => ∃ ds C, Wlk X.K ph' S' J ds C ∧ Q0 ds C M') → R J H')
/-- for: W holds ahead of turn i -/
def forW (ds : List D) (C : Mem → Prop) (g : DTG) (t : DTS) (E : DEnds) (r : Env) (M0 : Mem) : Prop := ∃ W : Nat → Env → Mem → Prop, W 0 r M0 ∧ ∀ i r M, W i r M → C M ∧ (ds.length ≤ i → E.nx r M) ∧
  ∀ d, ds[i]? = some d → g d r M fun r2 M2 => t { E with nx := W (i + 1), ct := W (i + 1), bk := E.nx } r2 M2
def dFor (wi : DTI) (g : DTG) (t : DTS) : DTS := fun E r M => wi r M fun ds C M0 => forW ds C g t E r M0
theorem ds_for {tg iter : Expr} {body : List Stmt} {wi : DTI} {g : DTG} {t : DTS} {pos : Pos} (hc : X.calm = true) (hi : DI X tg iter wi) (hg : DG X tg g) (hb : DSs X body t)
    (hs : ∀ x, foldedSetIterable iter X.env x = pure x := by intro _; rfl) (hp : PassesOwn (model X.prog X.w) X.A X.env X.xe := by exact PassesOwn.never) : DS X (.For tg iter body [] pos) (dFor wi g t) :=
  DS.of (ps_for hp hc hi.pi hg.pg hb.pss hs) fun ph S r M σ H E hs ht E' h1 h2 h3 h4 => by
    refine ⟨ph, S, r, M, _, hs, ht, fun J H1 ⟨ph1, S1, M1, x1, hs1, ds, C, wk, W, w0, turn⟩ => ?_⟩
    refine ⟨fun i m σ H => m = ds.length - i ∧ ∃ r', Aft X.K ph1 S1 r' σ H fun _ _ M => W i r' M, ⟨ds.length, by omega, r, Aft.here hs1 w0⟩, ?_⟩
    rintro i m σ3 H3 ⟨rfl, r3, ph3, S3, M3, x3, hs3, w3⟩
    obtain ⟨c3, f3, g3⟩ := turn i r3 M3 w3
    obtain ⟨k1, k2⟩ := wk ph3 S3 r3 M3 σ3 H3 x3.pre x3.same hs3 c3
    by_cases hl : ds.length ≤ i
    · exact .inl ⟨k1 i hl, h1 _ _ ⟨r3, ph3, S3, M3, x1.trans x3, hs3, f3 hl⟩⟩
    · obtain ⟨d, ed⟩ : ∃ d, ds[i]? = some d := ⟨ds[i]'(by omega), List.getElem?_eq_getElem (by omega)⟩
      obtain ⟨k3, k4⟩ := k2 i d ed
      refine .inr ⟨k3, fun σ' H' => ∃ r', Aft X.K ph1 S1 r' σ' H' fun _ _ M => W (i + 1) r' M, fun σ' H' z => ⟨ds.length - (i + 1), by omega, rfl, z⟩, fun x H4 hy => ?_⟩
      obtain ⟨ph4, S4, M4, x4, hs4, rfl, q4⟩ := k4 x H4 hy
      refine ⟨ph4, S4, r3, M4, d, _, hs4, q4, g3 d ed, fun σ5 H5 ⟨r5, ph5, S5, M5, x5, hs5, z5⟩ => ?_⟩
      have xx : Ext ph1 S1 ph5 S5 := x3.trans (x4.trans x5)
      refine ⟨ph5, S5, r5, M5, _, hs5, z5, ?_, ?_, ?_, ?_⟩
      · exact fun σ6 H6 ⟨r6, z6⟩ => ⟨r6, Aft.up xx z6⟩
      · exact fun v H6 z6 => h2 _ _ (z6.up (x1.trans xx))
      · exact fun σ6 H6 z6 => h1 _ _ (z6.up (x1.trans xx))
      · exact fun σ6 H6 ⟨r6, z6⟩ => ⟨r6, Aft.up xx z6⟩
/-! ### comprehensions -/
/-- the tests behind if -/
def dYes : DTT := fun _ M Q => Q true M
structure DTs (X : Cx) (ifs : List Expr) (t : DTT) : Prop where
  pts : PTs X ifs (fun σ H Q => ∃ ph S r M Q0, Sat X.K ph S r M σ H ∧ t r M Q0 ∧ ∀ b H', postT X.K ph S r σ Q0 b H' → Q b H')
theorem dts_nil : DTs X [] dYes := ⟨⟨fun pins s σ H Q I ⟨ph, S, r, M, Q0, hs, ht, hq⟩ => pts_nil.run pins s σ H Q I (hq _ _ (Aft.here hs ht))⟩⟩
theorem dts_one {c : Expr} {t : DTT} (h : DT X c t) : DTs X [c] t := ⟨pts_one h.pt⟩
def wipeD (r : Env) : List Nat → Env
  | [] => r
  | v :: vs => (wipeD r vs).set v none
theorem Sat.clr {K : PySem.W.Frag} {ph : Ph} {S : Hp} {r : Env} {M : Mem} {σ : St} {H : Hp} (h : Sat K ph S r M σ H) (i : Nat) : Sat K ph S (r.set i none) M (σ.set i none) H := by
  refine ⟨h.sub, h.len, h.nd, h.trk, h.cell, h.hid, h.hnd, by rw [List.length_set, List.length_set]; exact h.el, fun j e hj => ?_⟩
  by_cases hi : j = i
  · subst hi
    have jl : j < r.length := by
      have := (List.getElem?_eq_some_iff.mp hj).1
      rwa [List.length_set] at this
    rw [List.getElem?_set_self jl] at hj
    cases hj
  · rw [List.getElem?_set_ne (Ne.symm hi)] at hj
    rw [List.getElem?_set_ne (Ne.symm hi)]
    exact h.env j e hj
theorem Sat.wipe {K : PySem.W.Frag} {ph : Ph} {S : Hp} {r : Env} {M : Mem} {σ : St} {H : Hp} (h : Sat K ph S r M σ H) : ∀ vs : List Nat, Sat K ph S (wipeD r vs) M (L2.wipe σ vs) H
  | [] => h
  | v :: vs => (Sat.wipe h vs).clr v
/-- a target whose names are the comprehension's own (places vs) -/
structure DCG (X : Cx) (target : Expr) (vs : List Nat) (g : DTG) : Prop where
  pg : PG X target (fun v σ H Q => ∃ ph S r M d Q0, Sat X.K ph S r M σ H ∧ Rep X.K ph S v d ∧ g d r M Q0 ∧ ∀ σ' H', postN X.K ph S Q0 σ' H' → L2.wipe σ' vs = L2.wipe σ vs → Q σ' H')
theorem wipe_set {σ : St} {i : Nat} {x : Option V} : ∀ {vs : List Nat}, i ∈ vs → L2.wipe (σ.set i x) vs = L2.wipe σ vs
  | [], h => by cases h
  | v :: vs, h => by
    unfold L2.wipe
    by_cases hv : i ∈ vs
    · rw [wipe_set hv]
    · have e : i = v := (List.mem_cons.mp h).resolve_right hv
      subst e
      have key : ∀ (us : List Nat), i ∉ us → L2.wipe (σ.set i x) us = (L2.wipe σ us).set i x := by
        intro us
        induction us with
        | nil => intro _; rfl
        | cons u us ih =>
          intro hu
          unfold L2.wipe
          rw [ih (fun z => hu (List.mem_cons_of_mem _ z)), List.set_comm _ _ (fun e => hu (by rw [e]; exact List.mem_cons_self))]
      rw [key vs hv, List.set_set]
theorem dcg_name {i : Nat} {x : Str} {pos : Pos} {vs : List Nat} (hN : X.N.Nodup) (hi : X.N[i]? = some x := by rfl) (hv : i ∈ vs := by decide) (hx : Loc X.env.scope x := by first | exact Or.inl rfl | exact Or.inr rfl) (hf : X.fn x = true ∨ X.env.scope.names.lookup x = some .local := by first | exact .inl rfl | exact .inr rfl | assumption) : DCG X (.Name x pos) vs (dName i) :=
  ⟨⟨fun pins s σ H v u Q I rv ⟨ph, S, r, M, d, Q0, hs, q, hg, h1⟩ => (pg_name hN hi hx hf).run pins s σ H v u Q I rv (h1 _ _ ⟨_, Aft.here (hs.setN q) hg⟩ (wipe_set hv))⟩⟩
/-- [e for target in iter if ..]: W holds ahead of turn i with the items made so far; own: the list will be changed -/
def lcW (own : Bool) (ds : List D) (C : Mem → Prop) (g : DTG) (tt : DTT) (te : DTE) (r : Env) (M0 : Mem) (Q : DQ) : Prop := ∃ W : Nat → List D → Mem → Prop, W 0 [] M0 ∧ ∀ i acc M, W i acc M → C M ∧
  (ds.length ≤ i → if own = true then Q (.own M.length) (M ++ [.lst acc]) else Q (.lst acc) M) ∧
  ∀ d, ds[i]? = some d → g d r M fun r2 M2 => tt r2 M2 fun b M3 => if b = true then te r2 M3 fun e M4 => acc.length < sizeLine ∧ W (i + 1) (acc ++ [e]) M4 else W (i + 1) acc M3
def dLc (own : Bool) (wi : DTI) (g : DTG) (tt : DTT) (te : DTE) (vs : List Nat) : DTE := fun r M Q => wi r M fun ds C M0 => lcW own ds C g tt te (wipeD r vs) M0 Q
theorem wipe_at {σ : St} {i : Nat} : ∀ {vs : List Nat}, i ∈ vs → i < σ.length → (L2.wipe σ vs)[i]? = some none
  | [], h, _ => by cases h
  | v :: vs, h, hl => by
    unfold L2.wipe
    by_cases e : v = i
    · subst e
      rw [List.getElem?_set_self (by rw [wipe_length]; exact hl)]
    · rw [List.getElem?_set_ne e]
      exact wipe_at ((List.mem_cons.mp h).resolve_left (fun z => e z.symm)) hl
theorem wipe_wipe (σ : St) (vs : List Nat) : L2.wipe (L2.wipe σ vs) vs = L2.wipe σ vs := by
  refine List.ext_getElem? fun i => ?_
  by_cases hi : i ∈ vs
  · by_cases hl : i < σ.length
    · rw [wipe_at hi (by rw [wipe_length]; exact hl), wipe_at hi hl]
    · rw [List.getElem?_eq_none (by rw [wipe_length, wipe_length]; omega), List.getElem?_eq_none (by rw [wipe_length]; omega)]
  · rw [wipe_out hi]
theorem lc_read (o : Bool) {wi : DTI} {g : DTG} {tt : DTT} {te : DTE} {vs : List Nat} {ph : Ph} {S : Hp} {r : Env} {M : Mem} {σ : St} {H : Hp} {Q : DQ} (hs : Sat X.K ph S r M σ H) (ht : dLc o wi g tt te vs r M Q) (Q' : VK) (hq : ∀ v H', post X.K ph S r σ Q v H' → Q' v H') :
    tLc (fun σ H R => ∃ ph S r M Q0, Sat X.K ph S r M σ H ∧ wi r M Q0 ∧ ∀ J H', (Aft X.K ph S r σ H' fun ph' S' M' => ∃ ds C, Wlk X.K ph' S' J ds C ∧ Q0 ds C M') → R J H')
      (fun v σ H Q => ∃ ph S r M d Q0, Sat X.K ph S r M σ H ∧ Rep X.K ph S v d ∧ g d r M Q0 ∧ ∀ σ' H', postN X.K ph S Q0 σ' H' → L2.wipe σ' vs = L2.wipe σ vs → Q σ' H')
      (fun σ H Q => ∃ ph S r M Q0, Sat X.K ph S r M σ H ∧ tt r M Q0 ∧ ∀ b H', postT X.K ph S r σ Q0 b H' → Q b H')
      (fun σ H Q => ∃ ph S r M Q0, Sat X.K ph S r M σ H ∧ te r M Q0 ∧ ∀ v H', post X.K ph S r σ Q0 v H' → Q v H') vs σ H Q' := by
  refine ⟨ph, S, r, M, _, hs, ht, fun J H1 ⟨ph1, S1, M1, x1, hs1, ds, C, wk, W, w0, turn⟩ => ?_⟩
  intro p hp
  refine ⟨fun i m H => m = ds.length - i ∧ ∃ (ph2 : Ph) (S2 : Hp) (M2 : Mem) (xs : List V) (acc : List D), Ext ph1 S1 ⟨ph2.cells, ph1.hid⟩ S2 ∧ ph2.hid = (p, .lst xs) :: ph1.hid ∧ Sat X.K ph2 S2 r M2 σ H ∧ RepAll X.K ph2 S2 xs acc ∧ W i acc M2,
    ⟨ds.length, by omega, { ph1 with hid := (p, .lst []) :: ph1.hid }, S1, M1, [], [], .refl, rfl, hs1.hide hp _, .nil, w0⟩, ?_⟩
  rintro i m H3 ⟨rfl, ph3, S3, M3, xs, acc, x3, eh, hs3, qa, w3⟩
  obtain ⟨c3, f3, g3⟩ := turn i acc M3 w3
  obtain ⟨k1, k2⟩ := wk ph3 S3 r M3 σ H3 x3.pre x3.same hs3 c3
  by_cases hl : ds.length ≤ i
  · refine .inl ⟨k1 i hl, ?_⟩
    have f := f3 hl
    obtain ⟨c, hd⟩ := ph3
    cases eh
    cases o with
    | false =>
      rw [if_neg Bool.false_ne_true] at f
      obtain ⟨x4, hs4⟩ := hs3.hfrz
      exact hq _ _ ⟨⟨c, ph1.hid⟩, _, M3, x1.trans (x3.trans x4), hs4, _, .lst upd_same ((RepAll.hid qa).up x4), f⟩
    | true =>
      rw [if_pos rfl] at f
      obtain ⟨x4, hs4, e4⟩ := hs3.hown (RepAll.hid qa)
      exact hq _ _ ⟨⟨c ++ [p], ph1.hid⟩, _, _, x1.trans (x3.trans x4), hs4, _, .own e4, f⟩
  · obtain ⟨d, ed⟩ : ∃ d, ds[i]? = some d := ⟨ds[i]'(by omega), List.getElem?_eq_getElem (by omega)⟩
    obtain ⟨k3, k4⟩ := k2 i d ed
    refine .inr ⟨k3, fun H' => ∃ (ph2 : Ph) (S2 : Hp) (M2 : Mem) (xs : List V) (acc : List D), Ext ph1 S1 ⟨ph2.cells, ph1.hid⟩ S2 ∧ ph2.hid = (p, .lst xs) :: ph1.hid ∧ Sat X.K ph2 S2 r M2 σ H' ∧ RepAll X.K ph2 S2 xs acc ∧ W (i + 1) acc M2, fun H' z => ⟨ds.length - (i + 1), by omega, rfl, z⟩, fun x H4 hy => ?_⟩
    obtain ⟨ph4, S4, M4, x4, hs4, rfl, q4⟩ := k4 x H4 hy
    refine ⟨ph4, S4, wipeD r vs, M4, d, _, hs4.wipe vs, q4, g3 d ed, fun σ5 H5 ⟨r5, ph5, S5, M5, x5, hs5, z5⟩ e5 => ⟨e5.trans (wipe_wipe σ vs), ?_⟩⟩
    refine ⟨ph5, S5, r5, M5, _, hs5, z5, fun b H6 ⟨ph6, S6, M6, x6, hs6, z6⟩ => ?_⟩
    cases b with
    | false =>
      have xx := x4.trans (x5.trans x6)
      rw [if_neg Bool.false_ne_true] at z6 ⊢
      exact ⟨ph6, S6, M6, xs, acc, ⟨fun k a e => xx.pre k a (x3.pre k a e), x3.same.trans xx.same, rfl⟩, xx.hid.trans eh, hs3.back xx hs6.drop, qa.up xx, z6⟩
    | true =>
      rw [if_pos rfl] at z6 ⊢
      refine ⟨ph6, S6, r5, M6, _, hs6, z6, fun v H7 ⟨ph7, S7, M7, x7, hs7, e, q7, hlt, w7⟩ => ?_⟩
      have xx := x4.trans (x5.trans (x6.trans x7))
      have eh7 : ph7.hid = (p, .lst xs) :: ph1.hid := xx.hid.trans eh
      obtain ⟨c, hd⟩ := ph7
      cases eh7
      have hb : Sat X.K ⟨c, (p, .lst xs) :: ph1.hid⟩ S7 r M7 σ H7 := hs3.back xx hs7.drop
      obtain ⟨g1, _, _⟩ := hb.hid _ List.mem_cons_self
      refine ⟨xs, g1, by rw [qa.len]; exact hlt, ⟨c, (p, .lst (xs ++ [v])) :: ph1.hid⟩, S7, M7, xs ++ [v], acc ++ [e], ⟨fun k a e => xx.pre k a (x3.pre k a e), x3.same.trans xx.same, rfl⟩, rfl, hb.hset, ?_, w7⟩
      exact (RepAll.hid (qa.up xx)).app (.cons (Rep.hid q7) .nil)
theorem de_lc (o : Bool) {elt tg iter : Expr} {ifs : List Expr} {scope : Scope} {own : List (Str × Nat)} {pos : Pos} {wi : DTI} {g : DTG} {tt : DTT} {te : DTE} (hc : X.calm = true) (hN : X.N.Nodup) (ok : BlkOk X.N X.env.scope scope own) (hi : DI X tg iter wi)
    (hg : ∀ (s : Shared) (H : Hp) (C : Addr) (cl : List (Str × Addr)) (fp : List Addr), DCG (X.blk s H scope (compEnvC scope cl C X.env) fp) tg (own.map (·.2)) g)
    (ht : ∀ (s : Shared) (H : Hp) (C : Addr) (cl : List (Str × Addr)) (fp : List Addr), DTs (X.blk s H scope (compEnvC scope cl C X.env) fp) ifs tt)
    (he : ∀ (s : Shared) (H : Hp) (C : Addr) (cl : List (Str × Addr)) (fp : List Addr), DE (X.blk s H scope (compEnvC scope cl C X.env) fp) elt te)
    (hs : ∀ x, foldedSetIterable iter X.env x = pure x := by intro _; rfl) : DE X (.ListComp elt [⟨tg, iter, ifs, 0⟩] scope pos) (dLc o wi g tt te (own.map (·.2))) :=
  DE.of (pe_lc hc hN hi.pi ok (fun s H C cl fp => (hg s H C cl fp).pg) (fun s H C cl fp => (ht s H C cl fp).pts) (fun s H C cl fp => (he s H C cl fp).pe) hs) fun ph S r M σ H Q hs ht Q' hq => lc_read (X := X) o hs ht Q' hq
/-- y = [..] -/
theorem ds_setLc (o : Bool) {i : Nat} {y : Str} {py : Pos} {elt tg iter : Expr} {ifs : List Expr} {scope : Scope} {own : List (Str × Nat)} {pos spos : Pos} {wi : DTI} {g : DTG} {tt : DTT} {te : DTE} (hc : X.calm = true) (hN : X.N.Nodup) (hsw : swapsWith (.ListComp elt [⟨tg, iter, ifs, 0⟩] scope pos) (some (.Name y py)) spos.line X.env = pure true) (ok : BlkOk X.N X.env.scope scope own) (hi : DI X tg iter wi)
    (hg : ∀ (s : Shared) (H : Hp) (C : Addr) (cl : List (Str × Addr)) (fp : List Addr), DCG (X.blk s H scope (compEnvC scope cl C X.env) fp) tg (own.map (·.2)) g)
    (ht : ∀ (s : Shared) (H : Hp) (C : Addr) (cl : List (Str × Addr)) (fp : List Addr), DTs (X.blk s H scope (compEnvC scope cl C X.env) fp) ifs tt)
    (he : ∀ (s : Shared) (H : Hp) (C : Addr) (cl : List (Str × Addr)) (fp : List Addr), DE (X.blk s H scope (compEnvC scope cl C X.env) fp) elt te)
    (hy : X.N[i]? = some y := by rfl) (hyl : X.env.scope.names.lookup y = some .local := by rfl) (hs : ∀ x, foldedSetIterable iter X.env x = pure x := by intro _; rfl) : DS X (.Assign [.Name y py] (.ListComp elt [⟨tg, iter, ifs, 0⟩] scope pos) spos) (dAsg (dLc o wi g tt te (own.map (·.2))) (dName i)) :=
  DS.of (ps_setLc hc hN hy hyl hsw hi.pi ok (fun s H C cl fp => (hg s H C cl fp).pg) (fun s H C cl fp => (ht s H C cl fp).pts) (fun s H C cl fp => (he s H C cl fp).pe) hs) fun ph S r M σ H E hs ht E' h1 _ _ _ =>
    lc_read (X := X) o hs ht _ fun v H' ⟨ph1, S1, M1, x, hs1, d, q, z⟩ => h1 _ _ ⟨_, ph1, S1, M1, x, hs1.setN q, z⟩
end DL
/-! DL7: what is walked; built-ins; methods; slices; repr -/
namespace DL
open PySem PySem.Spec PyProof.Rows L2
variable {X : Cx}
/-! ### what is walked -/
theorem Wlk.list {K : PySem.W.Frag} {ph : Ph} {S : Hp} {a : Addr} {ds : List D} {C : Mem → Prop} (h : ∀ (ph' : Ph) (S' : Hp) (r : Env) (M : Mem) (σ : St) (H : Hp), (∀ (k : Nat) (a : Addr), ph.cells[k]? = some a → ph'.cells[k]? = some a) → Same S S' → Sat K ph' S' r M σ H → C M → ∃ xs, SqL K H a xs ∧ RepAll K ph' S' xs ds) : Wlk K ph S (Itl K a) ds C :=
  fun ph' S' r M σ H h1 h2 hs hc => by
    obtain ⟨xs, q, qa⟩ := h ph' S' r M σ H h1 h2 hs hc
    refine ⟨fun i hi => ⟨xs, q, by rw [qa.len]; exact hi⟩, fun i d e => ?_⟩
    obtain ⟨x, ex, qx⟩ := qa.get e
    refine ⟨⟨xs, x, q, ex⟩, fun y H' ⟨e1, e2⟩ => ?_⟩
    subst e1
    have ey := e2 xs q
    rw [ex] at ey
    cases ey
    exact Aft.here hs ⟨rfl, qx⟩
theorem Wlk.tup {K : PySem.W.Frag} {ph : Ph} {S : Hp} {a : Addr} {ds : List D} {C : Mem → Prop} (h : ∀ (ph' : Ph) (S' : Hp) (r : Env) (M : Mem) (σ : St) (H : Hp), (∀ (k : Nat) (a : Addr), ph.cells[k]? = some a → ph'.cells[k]? = some a) → Same S S' → Sat K ph' S' r M σ H → C M → ∃ xs, SqT K H a xs ∧ RepAll K ph' S' xs ds) : Wlk K ph S (Itt K a) ds C :=
  fun ph' S' r M σ H h1 h2 hs hc => by
    obtain ⟨xs, q, qa⟩ := h ph' S' r M σ H h1 h2 hs hc
    refine ⟨fun i hi => ⟨xs, q, by rw [qa.len]; exact hi⟩, fun i d e => ?_⟩
    obtain ⟨x, ex, qx⟩ := qa.get e
    refine ⟨⟨xs, x, q, ex⟩, fun y H' ⟨e1, e2⟩ => ?_⟩
    subst e1
    have ey := e2 xs q
    rw [ex] at ey
    cases ey
    exact Aft.here hs ⟨rfl, qx⟩
theorem RepAll.ext0 {K : PySem.W.Frag} {ph ph' : Ph} {S S' : Hp} {d : List D} {v : List V} (h1 : ∀ (k : Nat) (a : Addr), ph.cells[k]? = some a → ph'.cells[k]? = some a) (h2 : Same S S') (q : RepAll K ph S v d) : RepAll K ph' S' v d :=
  RepAll.hid (c := ph'.cells) (l := ph.hid) (l' := ph'.hid) (q.up (ph' := ⟨ph'.cells, ph.hid⟩) ⟨h1, h2, rfl⟩)
/-- a list, a tuple, the script -/
def gSeqI (d : D) (M : Mem) (R : List D → (Mem → Prop) → Mem → Prop) : Prop := match d with
  | .lst ds => R ds (fun _ => True) M
  | .tup ds => R ds (fun _ => True) M
  | .scr ns => R (ns.map D.int) (fun _ => True) M
  | .own k => match M[k]? with
    | some (.lst ds) => R ds (fun M' => M'[k]? = some (.lst ds)) M
    | _ => False
  | _ => False
def dSeqI (t : DTE) : DTI := fun r M R => t r M fun d M1 => gSeqI d M1 R
/-- it is a list at a, or a tuple -/
theorem pi_seq {tg l : Expr} {tl : TE} (hl : PE X l tl) : PI X tg l (fun σ H R => tl σ H fun x H1 => ∃ a, x = .ref a ∧ (((∃ xs, SqL X.K H1 a xs) ∧ R (Itl X.K a) H1) ∨ ((∃ xs, SqT X.K H1 a xs) ∧ R (Itt X.K a) H1))) := by
  refine ⟨fun pins s σ H R I h => thn (hl.run pins s σ H _ I h) fun v s1 ⟨x, H1, I1, r1, a, ex, q1⟩ => ?_⟩
  subst ex
  cases r1
  have fp : ∀ b ∈ [s1.heap.objs.size], FpOk X pins H1 b := fun b hb => by
    have e : b = s1.heap.objs.size := by simpa using hb
    rw [e]
    exact I1.fpOk (Nat.le_refl _) (I1.hok.fresh (Nat.le_refl _))
  rcases q1 with ⟨⟨xs, hq⟩, q⟩ | ⟨⟨xs, hq⟩, q⟩
  · obtain ⟨its, rv, p, hz⟩ := I1.list hq
    exact wpAny_pyIter_list p.isList ⟨s1.heap.objs.size, [s1.heap.objs.size], _, _, H1, rfl, I1.kept (t' := s1.toks) fun b o e => Heap.get?_push_of_some _ e, turn_list a _, ⟨_, Heap.get?_push_size _ rfl, rfl, rfl⟩, fp, q⟩
  · obtain ⟨its, rv, p, hz⟩ := I1.tuple hq
    exact wpAny_pyIter_tuple (show s1.heap.IsTuple a its.toArray from p) ⟨s1.heap.objs.size, [s1.heap.objs.size], _, _, H1, rfl, I1.kept (t' := s1.toks) fun b o e => Heap.get?_push_of_some _ e, turn_tuple a _, ⟨_, Heap.get?_push_size _ rfl, rfl, rfl⟩, fp, q⟩
theorem PI.weak {tg l : Expr} {t t' : TI} (h : PI X tg l t) (w : ∀ σ H R, t' σ H R → t σ H R) : PI X tg l t' := ⟨fun pins s σ H R I q => h.run pins s σ H R I (w _ _ _ q)⟩
theorem di_seq {tg l : Expr} {t : DTE} (h : DE X l t) : DI X tg l (dSeqI t) :=
  ⟨PI.weak (pi_seq h.pe) fun σ H R ⟨ph, S, r, M, Q0, hs, ht, hq⟩ => ⟨ph, S, r, M, _, hs, ht, fun v H1 ⟨ph1, S1, M1, x1, hs1, d, q1, g1⟩ => by
    cases d <;> first | exact g1.elim | skip
    · cases q1 with
      | tup h1 h2 => exact ⟨_, rfl, .inr ⟨⟨_, h1.sq hs1.sub⟩, hq _ _ ⟨ph1, S1, M1, x1, hs1, _, _, Wlk.tup (fun ph' S' r' M' σ' H' e1 e2 hs' _ => ⟨_, (h1.ext e2).sq hs'.sub, h2.ext0 e1 e2⟩), g1⟩⟩⟩
    · cases q1 with
      | lst h1 h2 => exact ⟨_, rfl, .inl ⟨⟨_, SqL.of (hs1.sub _ _ h1)⟩, hq _ _ ⟨ph1, S1, M1, x1, hs1, _, _, Wlk.list (fun ph' S' r' M' σ' H' e1 e2 hs' _ => ⟨_, SqL.of (hs'.sub _ _ (e2 _ _ h1)), h2.ext0 e1 e2⟩), g1⟩⟩⟩
    · cases q1 with
      | scr h1 => exact ⟨_, rfl, .inl ⟨⟨_, hs1.sub.seq h1⟩, hq _ _ ⟨ph1, S1, M1, x1, hs1, _, _, Wlk.list (fun ph' S' r' M' σ' H' e1 e2 hs' _ => ⟨_, hs'.sub.seq (e2.seq h1), RepAll.ints _⟩), g1⟩⟩⟩
    · rename_i k
      cases q1 with
      | own h1 =>
        replace g1 : gSeqI (.own k) M1 Q0 := g1
        unfold gSeqI at g1
        dsimp only at g1
        split at g1
        · rename_i ds hk
          obtain ⟨a, xs, c1, c2, c3, c4⟩ := hs1.cell k ds hk
          rw [h1] at c1; cases c1
          refine ⟨_, rfl, .inl ⟨⟨_, SqL.of c3⟩, hq _ _ ⟨ph1, S1, M1, x1, hs1, _, _, Wlk.list (fun ph' S' r' M' σ' H' e1 e2 hs' hc => ?_), g1⟩⟩⟩
          obtain ⟨a', xs', b1, b2, b3, b4⟩ := hs'.cell k ds hc
          rw [e1 _ _ h1] at b1; cases b1
          exact ⟨xs', SqL.of b3, b4⟩
        · exact g1.elim⟩⟩
/-- lo, lo + 1, .. -/
def rng (lo : Int) (n : Nat) : List D := (List.range n).map fun i => D.int (lo + (i : Nat))
theorem rng_len (lo : Int) (n : Nat) : (rng lo n).length = n := by unfold rng; rw [List.length_map, List.length_range]
theorem rng_get {lo : Int} {n i : Nat} {d : D} : (rng lo n)[i]? = some d ↔ i < n ∧ d = .int (lo + (i : Nat)) := by
  unfold rng
  rw [List.getElem?_map]
  constructor
  · intro e
    cases h : (List.range n)[i]? with
    | none => rw [h] at e; cases e
    | some j =>
      rw [h] at e
      obtain ⟨h1, h2⟩ := List.getElem?_eq_some_iff.mp h
      rw [List.length_range] at h1
      rw [List.getElem_range] at h2
      exact ⟨h1, by rw [h2]; exact (Option.some.inj e).symm⟩
  · rintro ⟨h1, rfl⟩
    rw [List.getElem?_eq_getElem (by rw [List.length_range]; exact h1), List.getElem_range]
    rfl
theorem Wlk.range {K : PySem.W.Frag} {ph : Ph} {S : Hp} {lo : Int} {n : Nat} {C : Mem → Prop} : Wlk K ph S (Itr lo n) (rng lo n) C := fun ph' S' r M σ H h1 h2 hs hc => by
  refine ⟨fun i hi => by rw [rng_len] at hi; exact hi, fun i d e => ?_⟩
  obtain ⟨hi, rfl⟩ := rng_get.mp e
  refine ⟨hi, fun x H' ⟨e1, e2⟩ => ?_⟩
  subst e1 e2
  exact Aft.here hs ⟨rfl, .int _⟩
def Rg (i : Int) : Prop := -(2 ^ 62) ≤ i ∧ i < 2 ^ 62
def gRng1 (ds : List D) (M : Mem) (R : List D → (Mem → Prop) → Mem → Prop) : Prop := match ds with
  | [.int n] => Rg n ∧ R (rng 0 n.toNat) (fun _ => True) M
  | _ => False
def gRng2 (ds : List D) (M : Mem) (R : List D → (Mem → Prop) → Mem → Prop) : Prop := match ds with
  | [.int a, .int b] => (Rg a ∧ Rg b) ∧ R (rng a (b - a).toNat) (fun _ => True) M
  | _ => False
def dRngI (g : List D → Mem → (List D → (Mem → Prop) → Mem → Prop) → Prop) (t : DTA) : DTI := fun r M R => t r M fun ds M1 => g ds M1 R
theorem di_range1 {tg a : Expr} {t : DTA} {p pos : Pos} (hm : X.mg "range" = none) (ha : DA X [a] t) (hg : Gl X "range" := by rfl) (hst : starEach [a] X.env = [(false, eval a X.env)] := by rfl) : DI X tg (.Call (.Name "range" p) [a] [] pos) (dRngI gRng1 t) :=
  ⟨PI.weak (pi_range1 hg hm ha.pa hst) fun σ H R ⟨ph, S, r, M, Q0, hs, ht, hq⟩ => ⟨ph, S, r, M, _, hs, ht, fun vs H1 ⟨ph1, S1, M1, x1, hs1, ds, q1, g1⟩ => by
    match ds, q1, g1 with
    | [.int n], .cons q .nil, ⟨⟨h1, h2⟩, g⟩ =>
      cases q
      exact ⟨n, rfl, h1, h2, hq _ _ ⟨ph1, S1, M1, x1, hs1, _, _, Wlk.range, g⟩⟩⟩⟩
/-! ### calls of what is built in -/
abbrev GA := List D → Mem → DQ → Prop
def CallD (X : Cx) (f : Value) (g : GA) : Prop :=
  ∀ (pins : List (Addr × Obj)) (s : Shared) (σ : St) (H : Hp) (ph : Ph) (S : Hp) (r : Env) (M : Mem) (vs : List V) (us : List Value) (ds : List D) (Q : DQ), Inv X pins σ H s → Sat X.K ph S r M σ H → Vals vs us → RepAll X.K ph S vs ds → g ds M Q →
    wpAny (model X.prog X.w) X.A (call f us) (EP X pins σ (post X.K ph S r σ Q)) X.xe s
theorem CallD.of {f : Value} {r' : List V → Hp → VK → Prop} {g : GA} (h : CallR X f r')
    (w : ∀ (σ : St) (H : Hp) (ph : Ph) (S : Hp) (r : Env) (M : Mem) (vs : List V) (ds : List D) (Q : DQ), Sat X.K ph S r M σ H → RepAll X.K ph S vs ds → g ds M Q → r' vs H (post X.K ph S r σ Q)) : CallD X f g :=
  fun pins s σ H ph S r M vs us ds Q I hs rv q hg => h pins s σ H vs us _ I rv (w σ H ph S r M vs ds Q hs q hg)
def dCB (g : GA) (t : DTA) : DTE := fun r M Q => t r M fun ds M1 => g ds M1 Q
section
variable {x : Str} {p pos : Pos} {e : Expr} {es : List Expr} {t : DTA} {id T : String} {g : GA}
theorem de_blt (hc : CallD X (.builtin id) g) (hm : X.mg x = none) (ha : DA X (e :: es) t) (hv : bootBuiltins x = some (.builtin id) := by decide +kernel) (hg : Gl X x := by rfl) (hn : x ≠ "__name__" := by decide) (hdb : (x == ("__debug__" : Str)) = false := by decide)
    (he : starEach (e :: es) X.env = (false, eval e X.env) :: starEach es X.env := by rfl) (hpl : (backTo pos (starEach es X.env)).any (·.1) = false := by rfl) : DE X (.Call (.Name x p) (e :: es) [] pos) (dCB g t) :=
  ⟨⟨fun pins s σ H Q I ⟨ph, S, r, M, Q0, hs, ht, hq⟩ => wpAny_Call_Name_kw (ld_blt I hg hm hv (PyProof.Rows.callWith_builtin1 (thn (ha.pa.run pos pins s σ H _ I ⟨ph, S, r, M, _, hs, ht, fun _ _ z => z⟩)
    fun us s1 ⟨vs, H1, I1, r1, ph1, S1, M1, x1, hs1, ds, q1, g1⟩ => thn (hc pins s1 σ H1 ph1 S1 r M1 vs us ds Q0 I1 hs1 r1 q1 g1) fun _ _ z => EP.up x1 z hq) he hpl) hn hdb)⟩⟩
theorem de_ty (hc : CallD X (.type T) g) (hm : X.mg x = none) (ha : DA X (e :: es) t) (hv : bootBuiltins x = some (.type T) := by decide +kernel) (hg : Gl X x := by rfl) (hn : x ≠ "__name__" := by decide) (hdb : (x == ("__debug__" : Str)) = false := by decide)
    (he : starEach (e :: es) X.env = (false, eval e X.env) :: starEach es X.env := by rfl) (hpl : (backTo pos (starEach es X.env)).any (·.1) = false := by rfl) : DE X (.Call (.Name x p) (e :: es) [] pos) (dCB g t) :=
  ⟨⟨fun pins s σ H Q I ⟨ph, S, r, M, Q0, hs, ht, hq⟩ => wpAny_Call_Name_kw (ld_blt I hg hm hv (PyProof.Rows.callWith_type1 (thn (ha.pa.run pos pins s σ H _ I ⟨ph, S, r, M, _, hs, ht, fun _ _ z => z⟩)
    fun us s1 ⟨vs, H1, I1, r1, ph1, S1, M1, x1, hs1, ds, q1, g1⟩ => thn (hc pins s1 σ H1 ph1 S1 r M1 vs us ds Q0 I1 hs1 r1 q1 g1) fun _ _ z => EP.up x1 z hq) he hpl) hn hdb)⟩⟩
/-- a built-in name as a value -/
theorem de_bltn {v : V} {u : Value} (hm : X.mg x = none) (r : RelV v u) (hv : bootBuiltins x = some u := by decide +kernel) (hg : Gl X x := by rfl) (hn : x ≠ "__name__" := by decide) (hd : (x == ("__debug__" : Str)) = false := by decide) : DE X (.Name x pos) (dC (.val v)) :=
  de_c (pe_bltn hg hm hv r hn hd) fun _ _ => .val _
end
def gAbs : GA := fun ds M Q => match ds with
  | [.int i] => Q (.int (if i < 0 then -i else i)) M
  | _ => False
theorem cd_abs : CallD X (.builtin "abs") gAbs := CallD.of call_abs fun σ H ph S r M vs ds Q hs q hg => by
  match ds, q, hg with
  | [.int i], .cons q .nil, hg => cases q; exact ⟨_, rfl, Aft.here hs ⟨_, .int _, hg⟩⟩
def gInt : GA := fun ds M Q => match ds with
  | [.int i] => Q (.int i) M
  | [.bl b] => Q (.int (if b then 1 else 0)) M
  | _ => False
theorem cd_int : CallD X (.type "int") gInt := CallD.of call_int1 fun σ H ph S r M vs ds Q hs q hg => by
  match ds, q, hg with
  | [.int i], .cons q .nil, hg => cases q; exact .inl ⟨_, rfl, Aft.here hs ⟨_, .int _, hg⟩⟩
  | [.bl i], .cons q .nil, hg => cases q; exact .inr ⟨_, rfl, Aft.here hs ⟨_, .int _, hg⟩⟩
def gMax : GA := fun ds M Q => match ds with
  | [.int i, .int j] => Q (.int (if j > i then j else i)) M
  | _ => False
theorem cd_max (hc : X.calm = true) : CallD X (.builtin "max") gMax := CallD.of (call_max2 hc) fun σ H ph S r M vs ds Q hs q hg => by
  match ds, q, hg with
  | [.int i, .int j], .cons q (.cons q' .nil), hg => cases q; cases q'; exact ⟨_, _, rfl, Aft.here hs ⟨_, .int _, hg⟩⟩
def gMin : GA := fun ds M Q => match ds with
  | [.int i, .int j] => Q (.int (if j < i then j else i)) M
  | _ => False
def gGcd : GA := fun ds M Q => match ds with
  | [.int i, .int j] => Q (.int (Int.gcd i j)) M
  | _ => False
/-- the length of a list, a tuple, a text -/
def lenD (M : Mem) : D → Option Nat
  | .lst l => some l.length
  | .tup l => some l.length
  | .scr l => some l.length
  | .own k => match M[k]? with
    | some (.lst l) => some l.length
    | _ => none
  | .str x => if x.length ≤ sizeLine then some x.length else none
  | _ => none
def gLen : GA := fun ds M Q => match ds with
  | [d] => match lenD M d with
    | some n => Q (.int n) M
    | none => False
  | _ => False
theorem len_V {K : PySem.W.Frag} {ph : Ph} {S : Hp} {r : Env} {M : Mem} {σ : St} {H : Hp} {v : V} {d : D} {n : Nat} (hs : Sat K ph S r M σ H) (q : Rep K ph S v d) (e : lenD M d = some n) : LenV K v H n := by
  cases d <;> first | (cases e; done) | skip
  · rename_i x
    cases q
    have e' : (if x.length ≤ sizeLine then some x.length else none) = some n := e
    by_cases h : x.length ≤ sizeLine
    · rw [if_pos h] at e'
      exact ⟨h, (Option.some.inj e').symm⟩
    · rw [if_neg h] at e'; cases e'
  · cases q with
    | tup h1 h2 => exact .inr ⟨_, h1.sq hs.sub, by rw [h2.len]; exact (Option.some.inj e).symm⟩
  · cases q with
    | lst h1 h2 => exact .inl ⟨_, SqL.of (hs.sub _ _ h1), by rw [h2.len]; exact (Option.some.inj e).symm⟩
  · cases q with
    | scr h1 => exact .inl ⟨_, hs.sub.seq h1, by rw [List.length_map]; exact (Option.some.inj e).symm⟩
  · rename_i k
    cases q with
    | own h1 =>
      unfold lenD at e
      dsimp only at e
      split at e
      · rename_i l hk
        obtain ⟨a, xs, c1, c2, c3, c4⟩ := hs.cell k l hk
        rw [h1] at c1; cases c1
        exact .inl ⟨_, SqL.of c3, by rw [c4.len]; exact (Option.some.inj e).symm⟩
      · cases e
theorem cd_len : CallD X (.builtin "len") gLen := CallD.of call_len fun σ H ph S r M vs ds Q hs q hg => by
  match ds, q, hg with
  | [d], .cons q .nil, hg =>
    unfold gLen at hg
    dsimp only at hg
    split at hg
    · rename_i n e
      exact ⟨_, n, rfl, len_V hs q e, Aft.here hs ⟨_, .int _, hg⟩⟩
    · exact hg.elim
/-- the ints of a list of ints -/
def intsD : List D → Option (List Int)
  | [] => some []
  | .int i :: ds => match intsD ds with
    | some is => some (i :: is)
    | none => none
  | _ :: _ => none
theorem intsD_rep {K : PySem.W.Frag} {ph : Ph} {S : Hp} : ∀ {vs : List V} {ds : List D} {is : List Int}, RepAll K ph S vs ds → intsD ds = some is → vs = is.map V.int
  | _, [], _, .nil, e => by cases e; rfl
  | _, d :: ds, is, .cons q t, e => by
    cases d <;> first | (cases e; done) | skip
    unfold intsD at e
    split at e
    · rename_i is' e'
      cases e
      cases q
      rw [intsD_rep t e']; rfl
    · cases e
def gSum : GA := fun ds M Q => match ds with
  | [d] => match res M d with
    | .lst l => match intsD l with
      | some is => Q (.int is.sum) M
      | none => False
    | .scr ns => Q (.int ns.sum) M
    | _ => False
  | _ => False
theorem cd_sum (hc : X.calm = true) : CallD X (.builtin "sum") gSum := CallD.of (cr_sum hc) fun σ H ph S r M vs ds Q hs q hg => by
  match ds, q, hg with
  | [d], .cons q .nil, hg =>
    unfold gSum at hg
    dsimp only at hg
    split at hg
    · rename_i l e
      split at hg
      · rename_i is e2
        obtain ⟨a, xs, rfl, h1, h2⟩ := res_lst hs q e
        exact ⟨a, is, rfl, by rw [← intsD_rep h2 e2]; exact SqL.of h1, Aft.here hs ⟨_, .int _, hg⟩⟩
      · exact hg.elim
    · rename_i ns e
      cases res_scr e
      cases q with
      | scr h1 => exact ⟨_, ns, rfl, hs.sub.seq h1, Aft.here hs ⟨_, .int _, hg⟩⟩
    · exact hg.elim
/-- isinstance(x, T), T a built-in class -/
def tyD : D → Option String
  | .non => some "NoneType"
  | .bl _ => some "bool"
  | .int _ => some "int"
  | .str _ => some "str"
  | .tup _ => some "tuple"
  | .lst _ => some "list"
  | .dct0 => some "dict"
  | _ => none
def tyM (M : Mem) : D → Option String
  | .own k => match M[k]? with
    | some (.lst _) => some "list"
    | _ => none
  | d => tyD d
def gIsi : GA := fun ds M Q => match ds with
  | [d, .val (.ty n)] => match tyM M d with
    | some T => match kitB T n with
      | some b => Q (.bl b) M
      | none => False
    | none => False
  | _ => False
theorem ty_V {K : PySem.W.Frag} {ph : Ph} {S : Hp} {r : Env} {M : Mem} {σ : St} {H : Hp} {v : V} {d : D} {T : String} (hs : Sat K ph S r M σ H) (q : Rep K ph S v d) (e : tyM M d = some T) : TyX K H v (.type T) := by
  cases d <;> first | (cases e; done) | skip
  · cases q; cases e; exact .base .non
  · cases q; cases e; exact .base (.bl _)
  · cases q; cases e; exact .base (.int _)
  · cases q; cases e; exact .base (.str _)
  · cases q with
    | tup h1 h2 => cases e; exact h1.elim (fun z => .base (.tup (hs.sub _ _ z))) fun ⟨_, _, _, l, c, _⟩ => .kTuple l c
  · cases q with
    | lst h1 h2 => cases e; exact .base (.lst (hs.sub _ _ h1))
  · cases q with
    | dct0 h1 => cases e; exact .base (.dK (hs.sub _ _ h1))
  · rename_i k
    cases q with
    | own h1 =>
      unfold tyM at e
      dsimp only at e
      split at e
      · rename_i l hk
        cases e
        obtain ⟨a, xs, c1, c2, c3, c4⟩ := hs.cell k l hk
        rw [h1] at c1; cases c1
        exact .base (.lst c3)
      · cases e
theorem cd_isi : CallD X (.builtin "isinstance") gIsi := CallD.of call_isi fun σ H ph S r M vs ds Q hs q hg => by
  match ds, q, hg with
  | [d, .val (.ty n)], .cons q (.cons q' .nil), hg =>
    unfold gIsi at hg
    dsimp only at hg
    split at hg
    · rename_i T e
      split at hg
      · rename_i b eb
        cases q'
        exact ⟨_, _, _, _, b, rfl, .ty n, ty_V hs q e, kit_ty eb, Aft.here hs ⟨_, .bl _, hg⟩⟩
      · exact hg.elim
    · exact hg.elim
/-- n.bit_length() -/
def gBits (d : D) (M : Mem) (Q : DQ) : Prop := match d with
  | .int i => Q (.int (Builtin.Int.intBits i : Nat)) M
  | _ => False
def dBits (t : DTE) : DTE := fun r M Q => t r M fun d M1 => gBits d M1 Q
theorem de_bits {o : Expr} {t : DTE} {apos pos : Pos} (ho : DE X o t) (hbase : attributeBase o "bit_length" X.env (eval o X.env) = eval o X.env := by rfl) (hline : (apos.endLine == pos.line) = true := by rfl) : DE X (.Call (.Attribute o "bit_length" apos) [] [] pos) (dBits t) :=
  DE.of (pe_bits ho.pe hbase hline) fun ph S r M σ H Q hs ht Q' hq => ⟨ph, S, r, M, _, hs, ht, fun v H1 ⟨ph1, S1, M1, x1, hs1, d, q1, g1⟩ => by
    cases d <;> first | exact g1.elim | skip
    cases q1
    exact ⟨_, rfl, hq _ _ ⟨ph1, S1, M1, x1, hs1, _, .int _, g1⟩⟩⟩
/-! ### methods of lists -/
def gAppend (o : D) (ds : List D) (M : Mem) (Q : DQ) : Prop := match o, ds with
  | .own k, [d] => match M[k]? with
    | some (.lst l) => l.length < sizeLine ∧ Q .non (M.set k (.lst (l ++ [d])))
    | _ => False
  | _, _ => False
def dMet (g : D → List D → Mem → DQ → Prop) (to : DTE) (t : DTA) : DTE := fun r M Q => to r M fun o M1 => (∃ k l, o = .own k ∧ M1[k]? = some (.lst l)) ∧ t r M1 fun ds M2 => g o ds M2 Q
theorem de_append {o e : Expr} {to : DTE} {t : DTA} {apos cpos : Pos} (ho : DE X o to) (ha : DA X [e] t) (h1 : attributeBase o "append" X.env (eval o X.env) = eval o X.env := by rfl)
    (h2 : (((backTo cpos (starEach [e] X.env)).all fun x => !x.1) && (backToKw cpos (keywordEach [] X.env)).all (fun x => x.1.isSome) && decide (([e] : List Expr).length + ([] : List Keyword).length + (if ([] : List Keyword).isEmpty then 0 else 1) < 30)) = true := by rfl) (h3 : (apos.endLine == cpos.line) = true := by rfl)
    (h4 : starEach [e] X.env = (false, eval e X.env) :: starEach [] X.env := by rfl) (h5 : (backTo cpos (starEach [] X.env)).any (·.1) = false := by rfl) : DE X (.Call (.Attribute o "append" apos) [e] [] cpos) (dMet gAppend to t) :=
  DE.of (pe_bm PySem.F.plainAttrs_list PySem.F.slot_list_append PySem.F.type_list_append mt_append ho.pe ha.pa h1 h2 h3 h4 h5) fun ph S r M σ H Q hs ht Q' hq => ⟨ph, S, r, M, _, hs, ht, fun v H1 ⟨ph1, S1, M1, x1, hs1, d, q1, ⟨k, l, e1, ek⟩, g1⟩ => by
    subst e1
    cases q1 with
    | own hp =>
      obtain ⟨a, xs, c1, c2, c3, c4⟩ := hs1.cell k l ek
      rw [hp] at c1; cases c1
      refine ⟨.inl ⟨rfl, _, SqL.of c3⟩, ph1, S1, r, M1, _, hs1, g1, fun vs H2 ⟨ph2, S2, M2, x2, hs2, ds, q2, g2⟩ => ?_⟩
      match ds, q2, g2 with
      | [d], .cons q3 .nil, g2 =>
        replace g2 : gAppend (.own k) [d] M2 Q := g2
        unfold gAppend at g2
        dsimp only at g2
        split at g2
        · rename_i l2 hk2
          have hp2 := x2.pre _ _ hp
          obtain ⟨a2, xs2, d1, d2, d3, d4⟩ := hs2.cell k l2 hk2
          rw [hp2] at d1; cases d1
          exact ⟨_, xs2, _, rfl, rfl, d3, by rw [d4.len]; exact g2.1, hq _ _ ⟨ph2, S2, _, x1.trans x2, hs2.put hk2 hp2 (d4.app (.cons q3 .nil)), _, .non, g2.2⟩⟩
        · exact g2.elim⟩
/-! ### slices -/
def cutD (l : List D) (lo hi : Option Int) : List D := List.take (HT.sIx l.length l.length hi - HT.sIx l.length 0 lo) (List.drop (HT.sIx l.length 0 lo) l)
abbrev DTO := Env → Mem → (Option Int → Mem → Prop) → Prop
structure DO (X : Cx) (e : Option Expr) (t : DTO) : Prop where
  po : PO X e (fun σ H Q => ∃ ph S r M Q0, Sat X.K ph S r M σ H ∧ t r M Q0 ∧ ∀ o H', (Aft X.K ph S r σ H' fun _ _ M' => Q0 o M') → Q o H')
def dPart (t : DTE) : DTO := fun r M Q => t r M fun d M1 => match d with
  | .int i => Q (some i) M1
  | _ => False
def dNoPart : DTO := fun _ M Q => Q none M
theorem do_some {e : Expr} {t : DTE} (h : DE X e t) : DO X (some e) (dPart t) :=
  ⟨⟨fun pins s σ H Q I ⟨ph, S, r, M, Q0, hs, ht, hq⟩ => (po_some h.pe).run pins s σ H Q I ⟨ph, S, r, M, _, hs, ht, fun v H1 ⟨ph1, S1, M1, x1, hs1, d, q1, g1⟩ => by
    cases d <;> first | exact g1.elim | skip
    cases q1
    exact ⟨_, rfl, hq _ _ ⟨ph1, S1, M1, x1, hs1, g1⟩⟩⟩⟩⟩
theorem do_none : DO X none dNoPart := ⟨⟨fun pins s σ H Q I ⟨ph, S, r, M, Q0, hs, ht, hq⟩ => po_none.run pins s σ H Q I (hq _ _ (Aft.here hs ht))⟩⟩
/-- l[a:b], a list -/
def gSlL (own : Bool) (d : D) (lo hi : Option Int) (M : Mem) (Q : DQ) : Prop := match res M d with
  | .lst l => if own = true then Q (.own M.length) (M ++ [.lst (cutD l lo hi)]) else Q (.lst (cutD l lo hi)) M
  | .scr ns => if own = true then Q (.own M.length) (M ++ [.lst (cutD (ns.map D.int) lo hi)]) else Q (.lst (cutD (ns.map D.int) lo hi)) M
  | _ => False
def dSl (g : D → Option Int → Option Int → Mem → DQ → Prop) (t : DTE) (tl th : DTO) : DTE := fun r M Q => t r M fun d M1 => tl r M1 fun lo M2 => th r M2 fun hi M3 => g d lo hi M3 Q
theorem cut_rep {K : PySem.W.Frag} {ph : Ph} {S : Hp} {xs : List V} {l : List D} {lo hi : Option Int} (q : RepAll K ph S xs l) : RepAll K ph S (cutV xs lo hi) (cutD l lo hi) := by
  unfold cutV cutD
  rw [q.len]
  exact (q.drop _).take _
theorem de_slL (own : Bool) {e : Expr} {lo hi : Option Expr} {t : DTE} {tl th : DTO} {pos p2 : Pos} (h : DE X e t) (h1 : DO X lo tl) (h2 : DO X hi th) : DE X (.Subscript e (.Slice lo hi none p2) pos) (dSl (gSlL own) t tl th) :=
  DE.of (pe_slice sl_list h.pe h1.po h2.po) fun ph S r M σ H Q hs ht Q' hq => ⟨ph, S, r, M, _, hs, ht, fun v H1 ⟨ph1, S1, M1, x1, hs1, d, q1, g1⟩ =>
    ⟨ph1, S1, r, M1, _, hs1, g1, fun lo H2 ⟨ph2, S2, M2, x2, hs2, g2⟩ => ⟨ph2, S2, r, M2, _, hs2, g2, fun hi H3 ⟨ph3, S3, M3, x3, hs3, g3⟩ => by
      replace g3 : gSlL own d lo hi M3 Q := g3
      have xx := x1.trans (x2.trans x3)
      have q3 := q1.up (x2.trans x3)
      unfold gSlL at g3
      split at g3
      · rename_i l er
        obtain ⟨p, xs, rfl, hp, hx⟩ := res_lst hs3 q3 er
        refine ⟨p, xs, rfl, SqL.of hp, fun b hb => ?_⟩
        cases own with
        | false => exact hq _ _ (Aft.up xx (Aft.frz hs3 hb fun x => ⟨_, .lst upd_same ((cut_rep hx).up x), g3⟩))
        | true => exact hq _ _ (Aft.up xx (Aft.own hs3 hb (cut_rep hx) g3))
      · rename_i ns er
        cases res_scr er
        cases q3 with
        | scr h1 =>
          refine ⟨_, _, rfl, hs3.sub.seq h1, fun b hb => ?_⟩
          cases own with
          | false => exact hq _ _ (Aft.up xx (Aft.frz hs3 hb fun x => ⟨_, .lst upd_same (cut_rep (RepAll.ints _)), g3⟩))
          | true => exact hq _ _ (Aft.up xx (Aft.own hs3 hb (cut_rep (RepAll.ints _)) g3))
      · exact g3.elim⟩⟩⟩
theorem cut_whole {α : Type} {l : List α} {lo hi : Option Int} (h : HT.sIx l.length 0 lo = 0 ∧ HT.sIx l.length l.length hi = l.length) : List.take (HT.sIx l.length l.length hi - HT.sIx l.length 0 lo) (List.drop (HT.sIx l.length 0 lo) l) = l := by
  rw [h.1, h.2]; simp
/-! ### repr -/
/-- data whose repr may be told -/
def shwn (d : D) : Option Str := match toPy d with
  | some p => if p.showable = true ∧ p.depth ≤ 64 ∧ p.shown.length ≤ sizeLine ∧ p.hasDict = false then some p.shown else none
  | none => none
def gRepr : GA := fun ds M Q => match ds with
  | [d] => match shwn (res M d) with
    | some z => Q (.str z) M
    | none => False
  | _ => False
theorem shown_flat {p : PyData} {u : Value} {h : Heap} {as : List Addr} (r : Reads h u p as) (hn : ∀ a, u ≠ .ref a) {A : Around} {P : Program} {w : World} {E : Value → Shared → Prop} {s : Shared} {Q : Value → Shared → Prop} (hs : p.showable = true) (hz : p.shown.length ≤ sizeLine)
    (q : ∀ tk tk', Q (.str p.shown tk) { s with toks := tk' }) : wpAny (model P w) A (call (.builtin "repr") [u]) Q E s := by
  cases r with
  | none => exact PySem.P.repr_of_none (q _ _)
  | bool b => exact PySem.P.repr_of_bool (q _ _)
  | int i t => exact PySem.P.repr_of_int (of_decide_eq_true hs) (q _ _)
  | str x t => exact PySem.P.repr_of_str (q _ _) hz
  | list _ _ _ _ => exact absurd rfl (hn _)
  | tuple _ _ _ _ => exact absurd rfl (hn _)
  | dict _ _ _ _ _ => exact absurd rfl (hn _)
end DL
/-! DL8: calls with keywords alone; a def for its callers; the end of a law -/
namespace DL
open PySem PySem.Spec PyProof.Rows L2
section
variable {X : Cx}
structure DK (X : Cx) (kws : List Keyword) (t : DTA) : Prop where
  pk : PK X kws (fun σ H Q => ∃ ph S r M Q0, Sat X.K ph S r M σ H ∧ t r M Q0 ∧ ∀ vs H', postA X.K ph S r σ Q0 vs H' → Q vs H')
theorem PK.weak {kws : List Keyword} {t t' : TA} (h : PK X kws t) (w : ∀ σ H Q, t' σ H Q → t σ H Q) : PK X kws t' := ⟨fun pos pins s σ H Q I q => h.run pos pins s σ H Q I (w _ _ _ q)⟩
theorem dk_nil : DK X [] dNil := ⟨PK.weak pk_nil fun σ H Q ⟨ph, S, r, M, Q0, hs, ht, hq⟩ => hq _ _ (Aft.here hs ⟨_, .nil, ht⟩)⟩
theorem dk_cons {e : Expr} {kws : List Keyword} {nm : Option Str} {kpos : Pos} {t : DTE} {u : DTA} (h : DE X e t) (h2 : DK X kws u) : DK X (⟨nm, e, kpos⟩ :: kws) (dCons t u) :=
  ⟨PK.weak (pk_cons h.pe h2.pk) fun σ H Q ⟨ph, S, r, M, Q0, hs, ht, hq⟩ => ⟨ph, S, r, M, _, hs, ht, fun v H1 ⟨ph1, S1, M1, x1, hs1, d, q1, g1⟩ =>
    ⟨ph1, S1, r, M1, _, hs1, g1, fun vs H2 ⟨ph2, S2, M2, x2, hs2, ds, q2, g2⟩ => hq _ _ ⟨ph2, S2, M2, x1.trans x2, hs2, _, .cons (q1.up x2) q2, g2⟩⟩⟩⟩
/-- the values by place -/
def pick {α : Type} (l : List Nat) (xs : List α) : List α := l.filterMap fun i => xs[i]?
theorem pick_vals {vs : List V} {us : List Value} (r : Vals vs us) : ∀ l : List Nat, Vals (pick l vs) (pick l us)
  | [] => .nil
  | i :: l => by
    unfold pick
    rw [List.filterMap_cons, List.filterMap_cons]
    cases e : vs[i]? with
    | none => rw [r.none_of e]; exact pick_vals r l
    | some v =>
      obtain ⟨u, eu, ru⟩ := r.get e
      rw [eu]
      exact .cons ru (pick_vals r l)
theorem pick_rep {K : PySem.W.Frag} {ph : Ph} {S : Hp} {vs : List V} {ds : List D} (r : RepAll K ph S vs ds) : ∀ l : List Nat, RepAll K ph S (pick l vs) (pick l ds)
  | [] => .nil
  | i :: l => by
    unfold pick
    rw [List.filterMap_cons, List.filterMap_cons]
    cases e : ds[i]? with
    | none =>
      have e' : vs[i]? = none := by
        have := List.getElem?_eq_none_iff.mp e
        exact List.getElem?_eq_none_iff.mpr (by rw [r.len]; exact this)
      rw [e']; exact pick_rep r l
    | some d =>
      obtain ⟨u, eu, ru⟩ := r.get e
      rw [eu]
      exact .cons ru (pick_rep r l)
def dCallK (m n : Nat) (sp : DSp) (l : List Nat) (E : DX) (t : DTA) : DTE := fun r M Q => t r M fun ds M1 => ds.length = m ∧ (pick l ds).length = n ∧ sp (pick l ds) M1 Q E
variable {k : Nat} {ps ks : List Str} {sp : DSp} {x : Str} {p pos : Pos} {kws : List Keyword} {t : DTA}
end
/-! ### a def, made known to its callers -/
theorem Def.mk' {P : Program} {w : World} {K : PySem.W.Frag} {mg : Str → Option Value} {base : Heap} {k : Nat} {x : Str} {st : Stmt} {ps : List Str} {sp : DSp} {f : Addr} {fd : FuncData} (F : Fun K x x st f fd) (h : FnD P w K mg base CX0 k f fd ps sp) (hm : mg x = some (.ref f)) (hb : Binds K fd ps []) : Def P w K mg base CX0 k x st ps sp :=
  ⟨f, fd, h, hm, F.kp, hb, F⟩
/-- a def that stands in the module -/
structure Here (K : PySem.W.Frag) (mg : Str → Option Value) (x : Str) (st : Stmt) (ps : List Str) : Prop where
  ex : ∃ (f : Addr) (fd : FuncData), Fun K x x st f fd ∧ mg x = some (.ref f) ∧ Binds K fd ps []
theorem here_of {K : PySem.W.Frag} {h : Heap} {mg : Str → Option Value} {x : Str} {st : Stmt} {ps : List Str} {f : Addr} {oc : Value} {od an : Option Addr} {osl : Array (Option Value)} {kV doc pm cdv ct : Value} (X : K.In h) (G : h.Ns mainGlobals mg)
    (a : PySem.W.nsIn K mainGlobals x = some (some (.ref f))) (l : K.lookup f = some ⟨oc, od, .func (PySem.W.fnOf x x (defArgs st) (defBody st) (defScope st) .none kV doc pm an cdv ct), osl⟩) (c : PySem.W.codeIn K cdv x = true) (k : PySem.W.keepIn K (.ref f) = true)
    (hb : ∀ (kV doc pm : Value) (an : Option Addr) (cdv ct : Value) (us : List Value), us.length = ps.length → bindArgs (PySem.W.fnOf x x (defArgs st) (defBody st) (defScope st) .none kV doc pm an cdv ct) ⟨us, []⟩ = pure (ps.zip us)) : Here K mg x st ps :=
  ⟨f, _, fun_mk (st := st) l c k, PySem.W.mg_of X G a, (fun_mk (st := st) l c k).binds hb⟩
section
variable {P : Program} {w : World} {K : PySem.W.Frag} {mg : Str → Option Value} {base : Heap}
/-- THE RULE for a def of the module -/
theorem Here.ok {x : Str} {st : Stmt} {N ps : List Str} {k : Nat} {sp : DSp} {t : DTS} (F : Here K mg x st ps) (S : FnScope N ps (defScope st))
    (hder : ∀ (f : Addr) (cdv : Value) (A : Around) (outer : List PySem.Env) (s : Shared) (H : Hp) (E : XK), Room k (A.deeper (envOfC x (defScope st) s.heap.objs.size f cdv)) → (A.deeper (envOfC x (defScope st) s.heap.objs.size f cdv)).guards = some [] →
      DSs (cxOf CX0 P w K mg base N x (defScope st) f cdv A outer s H E).nox (defBody st) t)
    (hread : ∀ ds M Q, ds.length = ps.length → sp ds M Q DX0 → t (dEnds M Q) (startD N.length ds) M)
    (hX : ∀ ds M Q E, sp ds M Q E → sp ds M Q DX0 := by exact fun _ _ _ _ h => h) : Def P w K mg base CX0 (k + 1) x st ps sp :=
  let ⟨f, fd, h1, h2, h3⟩ := F.ex
  Def.mk' h1 (Fun.okD h1 S (hder f) hread hX) h2 h3
end
/-! ### the end of a law -/
def spLaw : DSp := fun ds M Q _ => M = [] ∧ (∃ ns, ds = [.scr ns]) ∧ Q (.bl true) []
theorem law_callG {P : Program} {w : World} {K : PySem.W.Frag} {mg mb : Str → Option Value} {k : Nat} {fa a : Addr} {fd : FuncData} {x : Str} {s1 : Shared} {vs : List Value} {ns : List Int}
    (KX : K.In s1.heap) (hns : s1.heap.Ns mainGlobals mg) (hb : s1.heap.Ns builtinsNs mb) (hbb : ∀ x : Str, x ≠ "__name__" → mb x = bootBuiltins x) (hlim : s1.heap.NoLimit) (hg : s1.gens = #[])
    (ha : s1.heap.get? a = some { cls := .type "list", data := .seq vs.toArray }) (hi : IntsAre vs ns) (hl : ns.length ≤ sizeLine) (hr : Room k callerA)
    (F : ∀ base : Heap, K.In base → base.Ns mainGlobals mg → FnD P w K mg base CX0 k fa fd [x] spLaw) (hbind : ∀ (s : Shared) (u : Value), BindsTo s fd ⟨[u], []⟩ [(x, u)]) :
    codeAny (model P w) callerA (.call (.ref fa) ⟨[.ref a], []⟩) (fun r s' => r = .ok (.ret (.bool true)) ∧ OldK s1.heap s'.heap ∧ s'.os = s1.os ∧ AllBare s'.gens) s1 := by
  have rv := vals_ints hi
  have lenV := hi.length
  have core : ∀ H : Hp, Only H → SqL K H a (ns.map V.int) → HOk P w H s1.heap → (∀ b, H b ≠ none → b = a) → (H a ≠ none → K.lookup a = none) →
      codeAny (model P w) callerA (.call (.ref fa) ⟨[.ref a], []⟩) (fun r s' => r = .ok (.ret (.bool true)) ∧ OldK s1.heap s'.heap ∧ s'.os = s1.os ∧ AllBare s'.gens) s1 := by
    intro H hO hS hok hA hK
    have at_ : ∀ {b : Addr}, H b ≠ none → b = a := fun {b} z => hA b z
    have noA : ∀ {b : Addr} {o : Obj} {es : Array DictEntry} {ep : Nat}, s1.heap.get? b = some o → o.data = .dict es ep → H b = none := fun {b o es ep} e d => by
      by_cases z : H b = none
      · exact z
      · have e' := at_ z
        rw [e', ha] at e
        rw [← Option.some.inj e] at d
        exact nomatch d
    have nsK : ∀ {b : Addr} {m : Str → Option Value}, s1.heap.Ns b m → (hidT s1.heap H).Ns b m := fun {b m} ⟨o, es, ep, e, d, r⟩ => ⟨o, es, ep, hidT_get e (noA e d), d, r⟩
    have hKb : K.In (hidT s1.heap H) := fun b o e => hidT_get (KX b o e) (by
      by_cases z : H b = none
      · exact z
      · have e' := at_ z
        rw [e'] at e z
        rw [hK z] at e
        cases e)
    have hM : Mod K mg (hidT s1.heap H) := ⟨hKb, nsK hns, ⟨mb, nsK hb, hbb⟩, let ⟨mc, g1, g2⟩ := hlim; ⟨mc, nsK g1, g2⟩⟩
    have e0 : Env0 P w K mg (hidT s1.heap H) callerA [] s1 H := ⟨rfl, hM, fun b o e => of_hidT e, Nat.le_of_eq (hidT_size _ _), trivial, fun b hb => absurd (show b ∈ ([] : List Addr) from hb) (by simp), hok, .of_eq hg⟩
    have st0 : Sat K ⟨[], []⟩ H [] [] [] H := ⟨fun _ _ e => e, rfl, List.nodup_nil, fun k a e => by simp at e, fun k ds e => by simp at e, fun _ hp => (nomatch hp), List.nodup_nil, rfl, fun i d e => by simp at e⟩
    have sp0 : lfSp K 1 spLaw [.ref a] H (fun v _ => v = .bl true) E0 := ⟨⟨[], []⟩, H, [], [.scr ns], fun d M => d = .bl true, DX0, rfl, st0, .cons (.scr hS) .nil, ⟨rfl, ⟨ns, rfl⟩, rfl⟩, fun v H' ⟨_, _, _, _, _, d, q, e⟩ => by
      rw [e] at q
      cases q
      rfl, fun cls d H' ⟨_, _, _, _, _, _, _, _, _, _, _, _, _, _, _, _, z⟩ => z⟩
    refine codeAny_mono ((F _ hKb (nsK hns)).run callerA [] s1 H ⟨[.ref a], []⟩ [.ref a] [.ref a] _ _ hr rfl e0 (hbind s1 (.ref a)) (.cons rfl .nil) sp0) fun r s' h => ?_
    match r, h with
    | .error e, h => exact False.elim h
    | .ok .next, h => exact False.elim h
    | .ok .brk, h => exact False.elim h
    | .ok .cont, h => exact False.elim h
    | .ok (.ret u), ⟨v, H', os, bare, un, hok', r', q⟩ =>
      have q' : v = .bl true := q
      subst q'
      obtain rfl : u = Value.bool true := r'
      refine ⟨rfl, OldK.of_keep fun b o e => ?_, os, bare⟩
      rcases hO b with q | ⟨ob, xs, q⟩
      · exact un.keep b o e q (fun z => nomatch z) (fun z => nomatch z)
      · obtain ⟨e1, _⟩ := hok b _ q
        obtain ⟨e2, _⟩ := hok' b _ (un.frzs b ob _ q)
        rw [e] at e1
        cases e1
        exact e2
  cases hk : K.lookup a with
  | some o =>
    have e := KX a o hk
    rw [ha] at e
    cases e
    exact core (fun _ => none) (fun _ => .inl rfl) (.inr ⟨_, vs.toArray, _, hk, rfl, rfl, rfl, by rw [List.size_toArray, lenV]; exact hl, by simpa using rv⟩) (fun b u z => (nomatch z)) (fun b z => absurd rfl z) fun z => absurd rfl z
  | none =>
    refine core (fun b => if b = a then some (.frz { cls := .type "list", data := .seq vs.toArray } (.lst (ns.map V.int))) else none) (fun b => ?_) (.inl (.inr ⟨{ cls := .type "list", data := .seq vs.toArray }, if_pos rfl⟩)) (fun b u z => ?_) (fun b z => ?_) fun _ => hk
    · by_cases hb : b = a
      · exact .inr ⟨_, _, if_pos hb⟩
      · exact .inl (if_neg hb)
    · by_cases hb : b = a
      · have z := (if_pos hb).symm.trans z
        cases z
        rw [hb]
        exact ⟨ha, by rw [List.length_map]; exact hl, vs, _, rv, ha⟩
      · have z := (if_neg hb).symm.trans z
        cases z
    · by_cases hb : b = a
      · exact hb
      · exact absurd (if_neg hb) z
/-- the goal that k_head leaves -/
theorem walkD {l : PySem.W.OpenLaw} {n k : Nat} {q : Program} {loose : List Str} {XP : (Str → Option Value) → Heap → Prop} {YP : World → Heap → Prop} {d : DefRec} {K : Params → PySem.W.Frag} {x : Str} {st : Stmt}
    (hn : l.most = some n) (hn2 : n ≤ sizeLine) (hdf : d.params.defaults = []) (hr : Room k callerA) (hY : ∀ (w : World) (h : Heap), YP w h → (K w.params).In h)
    (F : ∀ (w : World) (mg : Str → Option Value) (h : Heap), (K w.params).In h → h.Ns mainGlobals mg → ∀ base : Heap, (K w.params).In base → base.Ns mainGlobals mg → Def l.prog w (K w.params) mg base CX0 k d.name st [x] spLaw)
    (hb : ∀ (kV doc pm : Value) (an : Option Addr) (cdv ct : Value) (u : Value), bindArgs (PySem.W.fnOf d.name d.name (defArgs st) (defBody st) (defScope st) .none kV doc pm an cdv ct) ⟨[u], []⟩ = pure [(x, u)]) :
    PySem.W.WalkO q loose XP YP l.row.toRowW d [] (fun f vs => PySem.call f vs) := by
  refine Att.attach_call hn hdf fun w s0 s1 mg mb fa o pm cd doc a vs ns G Y ho hd hcd hmg hobj hints hlen hg => ?_
  have KX := hY w _ Y
  obtain ⟨f0, fd, g1, g2, g3, g4, g5⟩ := (F w mg _ KX G.T.g _ KX G.T.g).ex
  have ef : f0 = fa := by
    rw [g2] at hmg
    exact Value.ref.inj (Option.some.inj hmg)
  subst ef
  obtain ⟨oc, od, kV, doc', pm', an, cdv, ct, osl, efd, lk, hcd'⟩ := g5.ex
  refine law_callG (fd := fd) (k := k) (x := x) KX G.T.g G.T.b G.T.builtins G.T.nolimit hg hobj hints (Nat.le_trans hlen hn2) hr (fun base h1 h2 => ?_) fun s u => ?_
  · obtain ⟨f1, fd1, k1, k2, k3, k4, k5⟩ := (F w mg _ KX G.T.g base h1 h2).ex
    have e1 : f1 = f0 := by
      rw [g2] at k2
      exact (Value.ref.inj (Option.some.inj k2)).symm
    subst e1
    obtain ⟨_, _, _, _, _, _, _, _, _, _, lk1, _⟩ := k5.ex
    rw [lk] at lk1
    have e2 : fd = fd1 := by
      have := Option.some.inj lk1
      injection this with _ _ z _
      exact Data.func.inj z
    rw [e2]
    exact k1
  · rw [efd]
    exact .of_eq (hb kV doc' pm' an cdv ct u)
end DL
/-! DL9: further rules; lemmas for readings -/
namespace DL
open PySem PySem.Spec PyProof.Rows L2
theorem u64 {A : Around} {k : Nat} (hr : Room k A) : A.units + 64 < cLine := hr.units
theorem u65 {A : Around} {k : Nat} (hr : Room k A) : A.units + 65 < cLine := by have := hr.un; omega
theorem ux {A : Around} {k : Nat} (hr : Room k A) : A.units + 200 < cLine := by have := hr.un; omega
section
variable {X : Cx}
/-- an owned list is handed on: it is changed no more -/
def gFrz (d : D) (M : Mem) (Q : DQ) : Prop := match d with
  | .own k => match M[k]? with
    | some (.lst l) => Q (.lst l) (M.set k .dead)
    | _ => False
  | d => Q d M
def dFrz (t : DTE) : DTE := fun r M Q => t r M fun d M1 => gFrz d M1 Q
theorem de_frz {e : Expr} {t : DTE} (h : DE X e t) : DE X e (dFrz t) :=
  DE.of h.pe fun ph S r M σ H Q hs ht Q' hq => ⟨ph, S, r, M, _, hs, ht, fun v H1 ⟨ph1, S1, M1, x1, hs1, d, q1, g1⟩ => by
    cases d with
    | own k =>
      replace g1 : gFrz (.own k) M1 Q := g1
      unfold gFrz at g1
      dsimp only at g1
      split at g1
      · rename_i l hk
        cases q1 with
        | own hp =>
          obtain ⟨a, xs, e1, x2, hs2, q2⟩ := hs1.freeze hk
          rw [hp] at e1
          cases e1
          exact hq _ _ ⟨ph1, _, _, x1.trans x2, hs2, _, q2, g1⟩
      · exact g1.elim
    | _ => exact hq _ _ ⟨ph1, S1, M1, x1, hs1, _, q1, g1⟩⟩
end
variable {X : Cx}
/-! ### zip, enumerate -/
def pairD (x y : D) : D := .tup [x, y]
theorem RepAll.two {K : PySem.W.Frag} {ph : Ph} {S : Hp} {x y : V} {d e : D} (h : Rep K ph S x d) (g : Rep K ph S y e) : RepAll K ph S [x, y] [d, e] := .cons h (.cons g .nil)
theorem zip_get {l1 l2 : List D} {i : Nat} {d : D} (h : (List.zipWith pairD l1 l2)[i]? = some d) : ∃ x y, l1[i]? = some x ∧ l2[i]? = some y ∧ d = pairD x y := by
  rw [List.getElem?_zipWith] at h
  cases e1 : l1[i]? with
  | none => rw [e1] at h; cases h
  | some x =>
    cases e2 : l2[i]? with
    | none => rw [e1, e2] at h; cases h
    | some y =>
      rw [e1, e2] at h
      exact ⟨x, y, rfl, rfl, (Option.some.inj h).symm⟩
theorem Wlk.zip {K : PySem.W.Frag} {ph : Ph} {S : Hp} {a b : Addr} {d1 d2 : List D} {C1 C2 : Mem → Prop}
    (h1 : ∀ (ph' : Ph) (S' : Hp) (r' : Env) (M' : Mem) (σ' : St) (H' : Hp), (∀ (k : Nat) (a : Addr), ph.cells[k]? = some a → ph'.cells[k]? = some a) → Same S S' → Sat K ph' S' r' M' σ' H' → C1 M' → ∃ xs, SqL K H' a xs ∧ RepAll K ph' S' xs d1)
    (h2 : ∀ (ph' : Ph) (S' : Hp) (r' : Env) (M' : Mem) (σ' : St) (H' : Hp), (∀ (k : Nat) (a : Addr), ph.cells[k]? = some a → ph'.cells[k]? = some a) → Same S S' → Sat K ph' S' r' M' σ' H' → C2 M' → ∃ xs, SqL K H' b xs ∧ RepAll K ph' S' xs d2) :
    Wlk K ph S (Itz K a b) (List.zipWith pairD d1 d2) (fun M => C1 M ∧ C2 M) := fun ph' S' r M σ H e1 e2 hs hc => by
  obtain ⟨xs, q1, qa1⟩ := h1 ph' S' r M σ H e1 e2 hs hc.1
  obtain ⟨ys, q2, qa2⟩ := h2 ph' S' r M σ H e1 e2 hs hc.2
  refine ⟨fun i hi => ⟨xs, ys, q1, q2, by rw [qa1.len, qa2.len]; rw [List.length_zipWith] at hi; omega⟩, fun i d e => ?_⟩
  obtain ⟨x, y, ex, ey, rfl⟩ := zip_get e
  obtain ⟨u, eu, qu⟩ := qa1.get ex
  obtain ⟨w, ew, qw⟩ := qa2.get ey
  refine ⟨⟨xs, ys, u, w, q1, q2, eu, ew⟩, fun z H' ⟨T, u', w', ez, hT, eH, f1, f2⟩ => ?_⟩
  have e3 := f1 xs q1
  have e4 := f2 ys q2
  rw [eu] at e3; cases e3
  rw [ew] at e4; cases e4
  subst ez eH
  obtain ⟨x1, hs1⟩ := hs.frz hT (.tup [u, w])
  exact ⟨_, _, _, x1, hs1, rfl, .tup (.inl upd_same) ((RepAll.two qu qw).up x1)⟩
end DL
namespace DL
open PySem PySem.Spec PyProof.Rows L2
def t_is_whole : DTS :=
 (dRet (dAndV (dCB gIsi (dCons (dVar 0) (dCons (dC (.val (.ty "int"))) dNil))) (dNotV (dCB gIsi (dCons (dVar 0) (dCons (dC (.val (.ty "bool"))) dNil))))))
def t_is_between (c_is_whole : DSp) : DTS :=
 (dRet (dAndV (dCall 1 c_is_whole [] DX0 (dCons (dVar 0) dNil)) (dAndV (dOp (gCmpI fun i j => decide (j ≤ i)) (dVar 0) (dVar 1)) (dOrV (dOp (gIs false) (dVar 2) (dC .non)) (dOp (gCmpI fun i j => decide (i ≤ j)) (dVar 0) (dVar 2))))))
def t_is_measure_by (c_is_between : DSp) : DTS :=
 (dRet (dAndV (dCall 3 c_is_between [] DX0 (dCons (dVar 0) (dCons (dC (.int 5)) (dCons (dC .non) dNil)))) (dOp (gIn false) (dOp (rBin CMod fun i j => i.fmod j) (dVar 0) (dC (.int 4))) (dLst (dCons (dC (.int 0)) (dCons (dC (.int 1)) dNil))))))
def t_root_floor_by : DTS :=
 (dSeq (dIfS (dTru (dOp (gCmpI fun i j => decide (i < j)) (dVar 0) (dC (.int 2)))) (dRet (dVar 0)) dNext)
 (dSeq (dAsg (dC (.int 1)) (dName 1))
 (dSeq (dWhile (dTru (dOp (gCmpI fun i j => decide (i ≤ j)) (dOp (rBin CMul fun i j => i * j) (dVar 1) (dVar 1)) (dVar 0))) (dAsg (dOp (rBin CMul fun i j => i * j) (dC (.int 2)) (dVar 1)) (dName 1)))
 (dSeq (dAsg (dOp (rBin CDiv fun i j => i.fdiv j) (dOp gAdd (dVar 1) (dOp (rBin CDiv fun i j => i.fdiv j) (dVar 0) (dVar 1))) (dC (.int 2))) (dName 2))
 (dSeq (dWhile (dTru (dOp (gCmpI fun i j => decide (i < j)) (dVar 2) (dVar 1))) (dPar 1 2 (dCons (dVar 2) (dCons (dOp (rBin CDiv fun i j => i.fdiv j) (dOp gAdd (dVar 2) (dOp (rBin CDiv fun i j => i.fdiv j) (dVar 0) (dVar 2))) (dC (.int 2))) dNil))))
 (dRet (dVar 1)))))))
def t_common_by : DTS :=
 (dSeq (dPar 2 3 (dCons (dCB gAbs (dCons (dVar 0) dNil)) (dCons (dCB gAbs (dCons (dVar 1) dNil)) dNil)))
 (dSeq (dWhile (dTru (dOp gNe (dVar 3) (dC (.int 0)))) (dPar 2 3 (dCons (dVar 3) (dCons (dOp (rBin CMod fun i j => i.fmod j) (dVar 2) (dVar 3)) dNil))))
 (dRet (dVar 2))))
def t_l_hash_9cde : DTS :=
 (dSeq (dAsg (dOp (rBin CMod fun i j => i.fmod j) (dCB gInt (dCons (dOp gAdd (dOp gAdd (dOp gAdd (dOp (rBin CMul fun i j => i * j) (dVar 0) (dC (.int 1048583))) (dOp (rBin CMul fun i j => i * j) (dOp (rBin CMul fun i j => i * j) (dC (.int 16777259)) (dVar 1)) (dVar 1))) (dOp (rBin CMul fun i j => i * j) (dC (.int 71)) (dVar 1))) (dC (.int 13))) dNil)) (dC (.int 2147483629))) (dName 2))
 (dSeq (dAsg (dOp (rBin CMod fun i j => i.fmod j) (dCB gInt (dCons (dOp gAdd (dOp gAdd (dOp (rBin CMul fun i j => i * j) (dVar 2) (dVar 2)) (dOp (rBin CMul fun i j => i * j) (dC (.int 40503)) (dVar 1))) (dC (.int 27644437))) dNil)) (dC (.int 2147483587))) (dName 2))
 (dRet (dOp (rBin CMod fun i j => i.fmod j) (dCB gInt (dCons (dOp (rBin CMul fun i j => i * j) (dVar 2) (dC (.int 69069))) dNil)) (dC (.int 2147483647))))))
def t_l_random_7821 (c_l_hash_9cde : DSp) : DTS :=
 (dSeq (dIfS (dTru (dOp (gCmpI fun i j => decide (j < i)) (dOp gIx (dVar 0) (dC (.int 0))) (dC (.int 0)))) (dSeq (dAsg (dOp (rBin CMod fun i j => i.fmod j) (dCB gInt (dCons (dOp gIx (dVar 0) (dC (.int 0))) dNil)) (dVar 1)) (dName 2))
 (dSeq (dAsg (dOp (rBin CDiv fun i j => i.fdiv j) (dOp gIx (dVar 0) (dC (.int 0))) (dVar 1)) (dSub (dVar 0) (dC (.int 0))))
 (dRet (dVar 2)))) dNext)
 (dSeq (dAsg (dC (.int 0)) (dName 2))
 (dSeq (dFor (dRngI gRng1 (dCons (dOp gAdd (dC (.int 1)) (dOp (rBin CDiv fun i j => i.fdiv j) (dBits (dVar 1)) (dC (.int 30)))) dNil)) (dName 3) (dSeq (dAsg (dOp gAdd (dOp gIx (dVar 0) (dC (.int 2))) (dC (.int 1))) (dSub (dVar 0) (dC (.int 2))))
 (dAsg (dOp gAdd (dOp (rBin CMul fun i j => i * j) (dVar 2) (dC (.int 2147483587))) (dCall 2 c_l_hash_9cde [] DX0 (dCons (dOp gIx (dVar 0) (dC (.int 1))) (dCons (dOp gIx (dVar 0) (dC (.int 2))) dNil)))) (dName 2))))
 (dRet (dOp (rBin CMod fun i j => i.fmod j) (dCB gInt (dCons (dVar 2) dNil)) (dVar 1))))))
def t_l_cell_cf3b : DTS :=
 (dSeq (dIfS (dTru (dOp (gCmpI fun i j => decide (i < j)) (dVar 1) (dCB gLen (dCons (dVar 0) dNil)))) (dRet (dOp gIx (dVar 0) (dVar 1))) dNext)
 (dRet (dOp (rBin CMod fun i j => i.fmod j) (dCB gSum (dCons (dSl (gSlL false) (dVar 0) dNoPart (dPart (dC (.int 1)))) dNil)) (dC (.int 1000003)))))
def t_l_generator_b324 (c_l_cell_cf3b : DSp) : DTS :=
 (dSeq (dAsg (dCall 2 c_l_cell_cf3b [] DX0 (dCons (dVar 0) (dCons (dVar 1) dNil))) (dName 2))
 (dRet (dOwn (dCons (dOp (rBin CMod fun i j => i.fmod j) (dCB gInt (dCons (dCB gMax (dCons (dOp (rBin (fun _ _ => True) fun i j => i - j) (dVar 2) (dOp (rBin CPow fun i j => i ^ j.toNat) (dC (.int 10)) (dC (.int 18)))) (dCons (dC (.int 0)) dNil))) dNil)) (dOp (rBin CPow fun i j => i ^ j.toNat) (dOp (rBin CPow fun i j => i ^ j.toNat) (dC (.int 10)) (dC (.int 60))) (dC (.int 10)))) (dCons (dOp (rBin CMod fun i j => i.fmod j) (dCB gInt (dCons (dVar 2) dNil)) (dC (.int 2147483647))) (dCons (dOp (rBin CMul fun i j => i * j) (dC (.int 1000)) (dVar 1)) dNil))))))
def t_l_common_6be5 : DTS :=
 (dSeq (dPar 2 3 (dCons (dCB gAbs (dCons (dVar 0) dNil)) (dCons (dCB gAbs (dCons (dVar 1) dNil)) dNil)))
 (dSeq (dWhile (dTru (dOp gNe (dVar 3) (dC (.int 0)))) (dPar 2 3 (dCons (dVar 3) (dCons (dOp (rBin CMod fun i j => i.fmod j) (dCB gInt (dCons (dVar 2) dNil)) (dVar 3)) dNil))))
 (dRet (dVar 2))))
def t_l_root_d754 : DTS :=
 (dSeq (dAsg (dTup (dCons (dC (.int 0)) (dCons (dC (.int 1)) dNil))) (dGTup 2 (dGCons (dName 1) (dGCons (dName 2) dGNil))))
 (dSeq (dWhile (dTru (dOp (gCmpI fun i j => decide (i ≤ j)) (dOp (rBin CMul fun i j => i * j) (dVar 2) (dVar 2)) (dVar 0))) (dAsg (dOp (rBin CMul fun i j => i * j) (dC (.int 2)) (dVar 2)) (dName 2)))
 (dSeq (dWhile (dTru (dOp (gCmpI fun i j => decide (j < i)) (dOp (rBin (fun _ _ => True) fun i j => i - j) (dVar 2) (dVar 1)) (dC (.int 1)))) (dSeq (dAsg (dOp (rBin CDiv fun i j => i.fdiv j) (dOp gAdd (dVar 1) (dVar 2)) (dC (.int 2))) (dName 3))
 (dAsg (dIf (dTru (dOp (gCmpI fun i j => decide (i ≤ j)) (dOp (rBin CMul fun i j => i * j) (dVar 3) (dVar 3)) (dVar 0))) (dTup (dCons (dVar 3) (dCons (dVar 2) dNil))) (dTup (dCons (dVar 1) (dCons (dVar 3) dNil)))) (dGTup 2 (dGCons (dName 1) (dGCons (dName 2) dGNil))))))
 (dRet (dVar 1)))))
def t_l_measure_0db7 (c_l_random_7821 : DSp) (c_l_root_d754 : DSp) : DTS :=
 (dSeq (dAsg (dC (.int 5)) (dName 2))
 (dSeq (dFor (dRngI gRng1 (dCons (dOp gAdd (dC (.int 1)) (dCall 2 c_l_random_7821 [] DX0 (dCons (dVar 0) (dCons (dVar 1) dNil)))) dNil)) (dName 3) (dAsg (dOp (rBin CMul fun i j => i * j) (dC (.int 10)) (dVar 2)) (dName 2)))
 (dSeq (dAsg (dOp gAdd (dC (.int 5)) (dCall 2 c_l_random_7821 [] DX0 (dCons (dVar 0) (dCons (dVar 2) dNil)))) (dName 4))
 (dSeq (dIfS (dTru (dOp gEq (dCall 2 c_l_random_7821 [] DX0 (dCons (dVar 0) (dCons (dC (.int 6)) dNil))) (dC (.int 0)))) (dAsg (dOp (rBin CMul fun i j => i * j) (dCall 1 c_l_root_d754 [] DX0 (dCons (dVar 4) dNil)) (dCall 1 c_l_root_d754 [] DX0 (dCons (dVar 4) dNil))) (dName 4)) dNext)
 (dSeq (dAsg (dOp gAdd (dOp (rBin (fun _ _ => True) fun i j => i - j) (dVar 4) (dOp (rBin CMod fun i j => i.fmod j) (dCB gInt (dCons (dVar 4) dNil)) (dC (.int 4)))) (dCall 2 c_l_random_7821 [] DX0 (dCons (dVar 0) (dCons (dC (.int 2)) dNil)))) (dName 5))
 (dRet (dIf (dTru (dOp (gCmpI fun i j => decide (j < i)) (dVar 5) (dC (.int 4)))) (dVar 5) (dC (.int 5)))))))))
end DL
namespace DL
open PySem PySem.Spec PyProof.Rows L2
end DL
namespace DL
open PySem PySem.Spec PyProof.Rows L2
end DL
namespace DL
open PySem PySem.Spec PyProof.Rows L2
end DL
namespace DL
open PySem PySem.Spec PyProof.Rows L2
end DL
/-! DLS: sorted of ints, of tuples of ints -/
namespace DL
open PySem PySem.Spec PyProof.Rows L2
/-- by the first unlike number -/
def lexL : List Int → List Int → Bool
  | [], [] => false
  | [], _ :: _ => true
  | _ :: _, [] => false
  | x :: xs, y :: ys => if x = y then lexL xs ys else decide (x < y)
theorem lexL_asym : ∀ x y, lexL x y = true → lexL y x = false
  | [], [], h => by cases h
  | [], _ :: _, _ => rfl
  | _ :: _, [], h => by cases h
  | x :: xs, y :: ys, h => by
    unfold lexL at h ⊢
    by_cases e : x = y
    · rw [if_pos e] at h
      rw [if_pos e.symm]
      exact lexL_asym xs ys h
    · rw [if_neg e] at h
      rw [if_neg (Ne.symm e)]
      have := of_decide_eq_true h
      exact decide_eq_false (by omega)
theorem lexL_tr : ∀ x y z, lexL y x = false → lexL z y = false → lexL z x = false
  | [], [], z, _, h => h
  | [], _ :: _, [], _, h => by cases h
  | [], _ :: _, _ :: _, _, _ => rfl
  | _ :: _, [], _, h, _ => by cases h
  | _ :: _, _ :: _, [], _, h => by cases h
  | x :: xs, y :: ys, z :: zs, h1, h2 => by
    unfold lexL at h1 h2 ⊢
    by_cases e1 : y = x
    · rw [if_pos e1] at h1
      by_cases e2 : z = y
      · rw [if_pos e2] at h2
        rw [if_pos (e2.trans e1)]
        exact lexL_tr xs ys zs h1 h2
      · rw [if_neg e2] at h2
        rw [if_neg (fun z => e2 (z.trans e1.symm)), ← e1]
        exact h2
    · rw [if_neg e1] at h1
      have a1 := of_decide_eq_false h1
      by_cases e2 : z = y
      · rw [if_neg (fun z => e1 (e2.symm.trans z)), e2]
        exact h1
      · rw [if_neg e2] at h2
        have a2 := of_decide_eq_false h2
        rw [if_neg (by omega)]
        exact decide_eq_false (by omega)
theorem lexL_conn : ∀ x y, lexL x y = false → lexL y x = false → x = y
  | [], [], _, _ => rfl
  | [], _ :: _, h, _ => by cases h
  | _ :: _, [], _, h => by cases h
  | x :: xs, y :: ys, h1, h2 => by
    unfold lexL at h1 h2
    by_cases e : x = y
    · rw [if_pos e] at h1
      rw [if_pos e.symm] at h2
      rw [e, lexL_conn xs ys h1 h2]
    · rw [if_neg e] at h1
      rw [if_neg (Ne.symm e)] at h2
      have a1 := of_decide_eq_false h1
      have a2 := of_decide_eq_false h2
      omega
theorem lexL_swo {α : Type} (k : α → List Int) : SrtO.Swo fun v u => lexL (k v) (k u) := ⟨fun _ _ => lexL_asym _ _, fun _ _ _ => lexL_tr _ _ _⟩
/-- at v: a tuple of these ints -/
def IsTupI (h : Heap) (v : Value) (ns : List Int) : Prop := ∃ a o us n, v = .ref a ∧ h.get? a = some o ∧ o.cls = .type "tuple" ∧ o.data = .seq (List.toArray us) n ∧ Vals (ns.map V.int) us
theorem IsTupI.keeps {h h' : Heap} {v : Value} {ns : List Int} (p : IsTupI h v ns) (k : ∀ b o, h.get? b = some o → o.cls = .type "tuple" → h'.get? b = some o) : IsTupI h' v ns := by
  obtain ⟨a, o, us, n, e, ho, hc, hd, r⟩ := p
  exact ⟨a, o, us, n, e, k _ _ ho hc, hc, hd, r⟩
theorem lex_run {prog : Program} {w : World} {A : Around} {Q : Bool → Shared → Prop} {s : Shared} : ∀ (ns ms : List Int) (us vs : List Value) (i : Nat), Vals (ns.map V.int) us → Vals (ms.map V.int) vs → ns.length = ms.length → Q (lexL ns ms) s → PySem.W.KatLex prog w A true false Q (us.zip vs) i s
  | [], [], us, vs, i, r1, r2, _, q => by
    cases r1; cases r2
    exact PySem.W.kat_nil q
  | [], _ :: _, _, _, _, _, _, h, _ => by cases h
  | _ :: _, [], _, _, _, _, _, h, _ => by cases h
  | n :: ns, m :: ms, _, _, i, .cons rn r1, .cons rm r2, h, q => by
    obtain ⟨t1, rfl⟩ := rn
    obtain ⟨t2, rfl⟩ := rm
    unfold lexL at q
    refine PySem.W.kat_cons (SeqAt.EqAt.int_int n t1 m t2 prog w _ _ (PySem.W.kat_go (fun e => ?_) fun e => ?_))
    · have e' : n = m := by simpa using e
      rw [if_pos e'] at q
      exact PySem.W.kat_yes (lex_run ns ms _ _ _ r1 r2 (by simpa using h) q)
    · have e' : ¬ n = m := by simpa using e
      rw [if_neg e'] at q
      exact PySem.W.kat_no (oneLt_any_int q)
theorem tup_cmpI {prog : Program} {w : World} {A : Around} {s : Shared} {vs : List Value} {k : Value → List Int} {d : Nat} (hp : ∀ v ∈ vs, IsTupI s.heap v (k v) ∧ (k v).length = d) : SrtO.Cmp prog w A s (tuples' true) (fun p => p.1 ∈ vs) (SrtO.lt2 fun v u => lexL (k v) (k u)) := by
  intro p q hm hm'
  obtain ⟨⟨a, o, us, n, e, ho, hc, hd, r⟩, l1⟩ := hp _ hm
  obtain ⟨⟨a', o', us', n', e', ho', hc', hd', r'⟩, l2⟩ := hp _ hm'
  show wpAny (model prog w) A (keyLt' (tuples' true) p.1 q.1) (fun r s' => s' = s ∧ r = lexL (k p.1) (k q.1)) (fun _ _ => False) s
  generalize k p.1 = ns at r l1 ⊢
  generalize k q.1 = ms at r' l2 ⊢
  rw [e, e']
  refine PySem.W.kat_lt ho hd ho' hd' ?_
  have z1 : us.length = ns.length := by rw [← r.length, List.length_map]
  have z2 : us'.length = ms.length := by rw [← r'.length, List.length_map]
  have z : decide ((List.toArray us).size < (List.toArray us').size) = false := by
    rw [List.size_toArray, List.size_toArray, z1, z2, l1, l2]
    exact decide_eq_false (Nat.lt_irrefl _)
  rw [z]
  exact lex_run ns ms us us' 0 r r' (l1.trans l2.symm) ⟨rfl, rfl⟩
theorem firsts_ofI {h : Heap} {k : Value → List Int} {d : Nat} (hd : 1 ≤ d) : ∀ {vs : List Value}, (∀ v ∈ vs, IsTupI h v (k v) ∧ (k v).length = d) → ∃ fs : List Value, PySem.W.KatTups h vs fs ∧ fs.length = vs.length ∧ ∀ f ∈ fs, ∃ x t, f = Value.int x t
  | [], _ => ⟨[], .nil, rfl, fun f hf => by cases hf⟩
  | v :: vs, hp => by
    obtain ⟨fs, h1, h2, h3⟩ := firsts_ofI hd fun v' hm => hp v' (List.mem_cons_of_mem _ hm)
    obtain ⟨⟨a, o, us, n, e, ho, hc, hdt, r⟩, l⟩ := hp v List.mem_cons_self
    generalize k v = ns at r l
    match ns, us, r, l with
    | [], _, _, l => exact absurd (show (0 : Nat) = d from l) (by omega)
    | x :: xs, _, .cons rx r, l =>
      obtain ⟨t, rfl⟩ := rx
      subst e
      refine ⟨.int x t :: fs, .cons ho hc hdt (by simp) h1, by rw [List.length_cons, List.length_cons, h2], fun f hf => ?_⟩
      rcases List.mem_cons.mp hf with rfl | hf
      · exact ⟨x, t, rfl⟩
      · exact h3 f hf
theorem tups_sortableI {prog : Program} {w : World} {A : Around} {s : Shared} {a : Addr} {vs : List Value} {k : Value → List Int} {d : Nat} (hd : 1 ≤ d) (h0 : 0 < vs.length) (hp : ∀ v ∈ vs, IsTupI s.heap v (k v) ∧ (k v).length = d) (ha : ∀ o, s.heap.get? a = some o → o.cls ≠ .type "tuple") :
    SrtO.SortableO prog w A s a vs fun v u => lexL (k v) (k u) := by
  intro h' keep
  have hp' : ∀ v ∈ vs, IsTupI h' v (k v) ∧ (k v).length = d := fun v hm => ⟨(hp v hm).1.keeps fun b o e c => keep b o (fun z => ha o (by rw [← z]; exact e) c) e, (hp v hm).2⟩
  obtain ⟨fs, h1, h2, h3⟩ := firsts_ofI hd hp'
  refine ⟨tuples' true, fun Q E hq => PySem.W.kat_kind (T := .type "int") h1 (by omega) (fun f hm => ?_) (by rfl) ?_, tup_cmpI hp'⟩
  · obtain ⟨x, t, rfl⟩ := h3 f hm
    exact PySem.W.Looks.now
  · have e : (Value.type "int" != Value.type "tuple") = true := by decide +kernel
    rw [e]
    exact hq
theorem sorted_tupsI {prog : Program} {w : World} {A : Around} {E : Value → Shared → Prop} {s : Shared} {l : Addr} {vs : List Value} {k : Value → List Int} {d : Nat} {Q : Value → Shared → Prop} (hd : 1 ≤ d) (hl : s.heap.IsList l vs.toArray) (hz : vs.length ≤ sizeLine) (hp : ∀ v ∈ vs, IsTupI s.heap v (k v) ∧ (k v).length = d)
    (h : ∀ (h' : Heap) (b : Addr) (out : List Value), SrtO.Srtd (fun v u => lexL (k v) (k u)) out → out.Perm vs → (∀ c o, s.heap.get? c = some o → h'.get? c = some o) → s.heap.objs.size ≤ b → (∃ n, h'.get? b = some (seqObj "list" out.toArray n)) → Q (.ref b) { s with heap := h' }) :
    wpAny (model prog w) A (call (.builtin "sorted") [.ref l]) Q E s := by
  refine SrtO.sorted_ord (lexL_swo k) hl hz (fun h2 h₁ a ha kk => ?_) fun out hs hb => ?_
  · refine tups_sortableI (s := { s with heap := h₁ }) hd (by omega) (fun v hm => ⟨(hp v hm).1.keeps fun b o e _ => (kk b o e).2, (hp v hm).2⟩) fun o e c => ?_
    have e' : some o = some (seqObj "list" vs.toArray 0) := e.symm.trans ha
    cases e'
    exact absurd (Value.type.inj c) (by decide)
  · exact h _ _ out hs hb.perm (fun b o e => sortedAll_old e) (Nat.le_succ _) (sortedAll_at s.heap vs out.toArray)
/-- the ints of a tuple, as H tells -/
def kV (K : PySem.W.Frag) (H : Hp) (v : V) : List Int := match v with
  | .ref t => match H t with
    | some (.tup xs) => xs.map fun x => match x with
      | .int i => i
      | _ => 0
    | _ => match K.lookup t with
      | some ⟨_, _, .seq its _, _⟩ => its.toList.map fun u => match u with
        | .int i _ => i
        | _ => 0
      | _ => []
  | _ => []
theorem kV_at {K : PySem.W.Frag} {H : Hp} {t : Addr} {ns : List Int} (h : H t = some (.tup (ns.map V.int))) : kV K H (.ref t) = ns := by
  unfold kV
  dsimp only
  rw [h]
  dsimp only
  rw [List.map_map]
  exact (List.map_congr_left fun x _ => rfl).trans (List.map_id ns)
theorem ints_vals : ∀ {ns : List Int} {us : List Value}, Vals (ns.map V.int) us → (us.map fun u => match u with | .int i _ => i | _ => 0) = ns
  | [], _, .nil => rfl
  | n :: ns, _, .cons r t => by
    obtain ⟨tk, rfl⟩ := r
    rw [List.map_cons, ints_vals t]
theorem kV_atT {K : PySem.W.Frag} {S H : Hp} {t : Addr} {ns : List Int} (hk : ∀ t o, K.lookup t = some o → H t = none) (s : Same S H) (h : TupK K S t (ns.map V.int)) : kV K H (.ref t) = ns := by
  rcases h with h | ⟨o, its, n, hl, hc, hd, _, hv⟩
  · exact kV_at (s _ _ h)
  · unfold kV
    dsimp only
    rw [hk t o hl]
    dsimp only
    obtain ⟨c, d, da, sl⟩ := o
    dsimp only at hd
    subst hd
    rw [hl]
    exact ints_vals hv
theorem _root_.L2.Inv.kNone {X : Cx} {pins : List (Addr × Obj)} {σ : St} {H : Hp} {s : Shared} (I : Inv X pins σ H s) : ∀ t o, X.K.lookup t = some o → H t = none := fun t o e => (I.bs t o (I.ok.mod.kin t o e)).2
def rSortedIT (K : PySem.W.Frag) : List V → Hp → VK → Prop := fun vs H Q => ∃ (a : Addr) (xs : List V) (d : Nat), vs = [V.ref a] ∧ SqL K H a xs ∧ 1 ≤ d ∧ (∀ x ∈ xs, (∃ t, x = V.ref t ∧ SqT K H t ((kV K H x).map V.int)) ∧ (kV K H x).length = d) ∧
  ∀ ys p, ys.Pairwise (fun x y => lexL (kV K H y) (kV K H x) = false) → ys.Perm xs → H p = none → Q (.ref p) (upd H p (.lst ys))
theorem cr_sortedIT {X : Cx} : CallR X (.builtin "sorted") (rSortedIT X.K) := by
  intro pins s σ H vs us Q I r h
  obtain ⟨a, xs, d, rfl, hs, hd, hx, q⟩ := h
  obtain ⟨its, rv, hl, hz⟩ := I.list hs
  match us, r with
  | [u], .cons ru .nil =>
    obtain rfl : u = Value.ref a := ru
    obtain ⟨e1, e2⟩ := refs_back rv fun x m => by
      obtain ⟨⟨t, e, _⟩, _⟩ := hx x m
      exact ⟨t, e⟩
    refine sorted_tupsI (k := fun u => kV X.K H (backV u)) hd hl.isList (by rw [← rv.length]; exact hz) (fun v hv => ?_) fun h' b out h1 h2 kp hb hn => ?_
    · obtain ⟨t, rfl⟩ := e2 v hv
      have hm : V.ref t ∈ xs := by rw [e1]; exact List.mem_map.mpr ⟨_, hv, rfl⟩
      obtain ⟨⟨t', e, ht⟩, hl'⟩ := hx _ hm
      cases e
      obtain ⟨its2, r2, ⟨o, ho, hc, n, hd'⟩, _⟩ := I.tuple ht
      exact ⟨⟨t, o, its2, n, rfl, ho, hc, hd', r2⟩, hl'⟩
    · have h3 : ∀ u ∈ out, ∃ a, u = Value.ref a := fun u hu => e2 u (h2.mem_iff.mp hu)
      obtain ⟨n, hn⟩ := hn
      have hp : (out.map backV).Perm xs := by
        rw [e1]
        exact h2.map _
      have hlen : (out.map backV).length ≤ sizeLine := by rw [hp.length_eq]; exact hz
      exact ⟨.ref b, upd H b (.lst (out.map backV)), I.laid (t' := s.toks) kp hb ⟨hlen, out, n, vals_back h3, hn⟩, rfl, q _ b (List.pairwise_map.mpr h1) hp (I.hok.fresh hb)⟩
/-! ### as a rule for data -/
def tI (ns : List Int) : D := .tup (ns.map D.int)
theorem RepAll.ofMem {K : PySem.W.Frag} {ph : Ph} {S : Hp} {f : V → D} : ∀ {ys : List V}, (∀ y ∈ ys, Rep K ph S y (f y)) → RepAll K ph S ys (ys.map f)
  | [], _ => .nil
  | y :: ys, h => .cons (h y List.mem_cons_self) (RepAll.ofMem fun z hz => h z (List.mem_cons_of_mem _ hz))
theorem RepAll.intsV {K : PySem.W.Frag} {ph : Ph} {S : Hp} : ∀ {xs : List V} {ns : List Int}, RepAll K ph S xs (ns.map D.int) → xs = ns.map V.int
  | _, [], .nil => rfl
  | _, _ :: _, .cons h t => by
    cases h
    rw [RepAll.intsV t]
    rfl
def ownOr (own : Bool) (l : List D) (M : Mem) (Q : DQ) : Prop := if own = true then Q (.own M.length) (M ++ [.lst l]) else Q (.lst l) M
/-- sorted(l), l a list of ints or of tuples of ints of one length -/
def gSorted (own : Bool) : GA := fun ds M Q => match ds with
  | [d] => (∃ l : List Int, res M d = .lst (l.map D.int) ∧ ∀ l' : List Int, l'.Perm l → l'.Pairwise (· ≤ ·) → ownOr own (l'.map D.int) M Q) ∨
    ∃ (k : Nat) (l : List (List Int)), res M d = .lst (l.map tI) ∧ 1 ≤ k ∧ (∀ ns ∈ l, ns.length = k) ∧ ∀ l' : List (List Int), l'.Perm l → l'.Pairwise (fun x y => lexL y x = false) → ownOr own (l'.map tI) M Q
  | _ => False
theorem RepAll.tups {K : PySem.W.Frag} {ph : Ph} {S H : Hp} (hk : ∀ t o, K.lookup t = some o → H t = none) (hsub : Same S H) : ∀ {xs : List V} {l : List (List Int)}, RepAll K ph S xs (l.map tI) → (∀ x ∈ xs, (∃ t, x = V.ref t ∧ SqT K H t ((kV K H x).map V.int)) ∧ kV K H x ∈ l ∧ Rep K ph S x (tI (kV K H x))) ∧ xs.map (kV K H) = l
  | _, [], .nil => ⟨fun x h => (by cases h), rfl⟩
  | _, n :: l, .cons h t => by
    obtain ⟨i1, i2⟩ := RepAll.tups hk hsub t
    have h0 := h
    cases h with
    | tup h1 h2 =>
      have e := RepAll.intsV h2
      subst e
      have e2 := kV_atT hk hsub h1
      refine ⟨fun x hx => ?_, by rw [List.map_cons, e2, i2]⟩
      rcases List.mem_cons.mp hx with rfl | hx
      · rw [e2]
        exact ⟨⟨_, rfl, h1.sq hsub⟩, List.mem_cons_self, h0⟩
      · obtain ⟨j1, j2, j3⟩ := i1 x hx
        exact ⟨j1, List.mem_cons_of_mem _ j2, j3⟩
theorem cd_sorted {X : Cx} (own : Bool) : CallD X (.builtin "sorted") (gSorted own) := by
  intro pins s σ H ph S r M vs us ds Q I hs rv q hg
  match ds, vs, us, rv, q, hg with
  | [d], [v], [u], .cons ru .nil, .cons q .nil, hg =>
    rcases hg with ⟨l, er, g⟩ | ⟨k, l, er, hk, hl, g⟩
    · obtain ⟨p, xs, rfl, hp, hx⟩ := res_lst hs q er
      have e := RepAll.intsV hx
      subst e
      refine cr_sortedI pins s σ H _ _ _ I (.cons ru .nil) ⟨p, l, rfl, SqL.of hp, fun l' b pm sd hb => ?_⟩
      have g' := g l' pm sd
      cases own with
      | false => exact Aft.frz hs hb fun x => ⟨_, .lst upd_same (RepAll.ints _), g'⟩
      | true => exact Aft.own hs hb (RepAll.ints _) g'
    · obtain ⟨p, xs, rfl, hp, hx⟩ := res_lst hs q er
      obtain ⟨i1, i2⟩ := RepAll.tups I.kNone hs.sub hx
      refine cr_sortedIT pins s σ H _ _ _ I (.cons ru .nil) ⟨p, xs, k, rfl, SqL.of hp, hk, fun x hx => ⟨(i1 x hx).1, hl _ (i1 x hx).2.1⟩, fun ys b sd pm hb => ?_⟩
      have ry : RepAll X.K ph S ys ((ys.map (kV X.K H)).map tI) := by
        rw [List.map_map]
        exact RepAll.ofMem fun y hy => (i1 y (pm.mem_iff.mp hy)).2.2
      have g' := g (ys.map (kV X.K H)) (by rw [← i2]; exact pm.map _) (List.pairwise_map.mpr sd)
      cases own with
      | false => exact Aft.frz hs hb fun x => ⟨_, .lst upd_same (ry.up x), g'⟩
      | true => exact Aft.own hs hb ry g'
/-! ### slices of lists and tuples alike -/
section
variable {X : Cx}
def gSl (own : Bool) (d : D) (lo hi : Option Int) (M : Mem) (Q : DQ) : Prop := match d with
  | .tup l => Q (.tup (cutD l lo hi)) M
  | d => gSlL own d lo hi M Q
theorem de_sl (own : Bool) {e : Expr} {lo hi : Option Expr} {t : DTE} {tl th : DTO} {pos p2 : Pos} (h : DE X e t) (h1 : DO X lo tl) (h2 : DO X hi th) : DE X (.Subscript e (.Slice lo hi none p2) pos) (dSl (gSl own) t tl th) :=
  DE.of (pe_slice (SlR.or sl_list sl_tupA) h.pe h1.po h2.po) fun ph S r M σ H Q hs ht Q' hq => ⟨ph, S, r, M, _, hs, ht, fun v H1 ⟨ph1, S1, M1, x1, hs1, d, q1, g1⟩ =>
    ⟨ph1, S1, r, M1, _, hs1, g1, fun lo H2 ⟨ph2, S2, M2, x2, hs2, g2⟩ => ⟨ph2, S2, r, M2, _, hs2, g2, fun hi H3 ⟨ph3, S3, M3, x3, hs3, g3⟩ => by
      replace g3 : gSl own d lo hi M3 Q := g3
      have xx := x1.trans (x2.trans x3)
      have q3 := q1.up (x2.trans x3)
      by_cases htup : ∃ l, d = .tup l
      · obtain ⟨l, rfl⟩ := htup
        cases q3 with
        | tup h1 h2 =>
          refine .inr ⟨_, _, rfl, h1.sq hs3.sub, fun hw => ?_, fun _ b hb => hq _ _ (Aft.up xx (Aft.frz hs3 hb fun x => ⟨_, .tup (.inl upd_same) ((cut_rep h2).up x), g3⟩))⟩
          have hw' : HT.sIx l.length 0 lo = 0 ∧ HT.sIx l.length l.length hi = l.length := by rw [← h2.len]; exact hw
          refine hq _ _ (Aft.up xx (Aft.here hs3 ⟨_, .tup h1 ?_, g3⟩))
          unfold cutD
          rw [cut_whole hw']
          exact h2
      · left
        have g4 : gSlL own d lo hi M3 Q := by cases d <;> first | exact g3 | exact absurd ⟨_, rfl⟩ htup
        unfold gSlL at g4
        split at g4
        · rename_i l er
          obtain ⟨p, xs, rfl, hp, hx⟩ := res_lst hs3 q3 er
          refine ⟨p, xs, rfl, SqL.of hp, fun b hb => ?_⟩
          cases own with
          | false => exact hq _ _ (Aft.up xx (Aft.frz hs3 hb fun x => ⟨_, .lst upd_same ((cut_rep hx).up x), g4⟩))
          | true => exact hq _ _ (Aft.up xx (Aft.own hs3 hb (cut_rep hx) g4))
        · rename_i ns er
          have er' := res_scr er
          subst er'
          cases q3 with
          | scr h1 =>
            refine ⟨_, _, rfl, hs3.sub.seq h1, fun b hb => ?_⟩
            cases own with
            | false => exact hq _ _ (Aft.up xx (Aft.frz hs3 hb fun x => ⟨_, .lst upd_same (cut_rep (RepAll.ints _)), g4⟩))
            | true => exact hq _ _ (Aft.up xx (Aft.own hs3 hb (cut_rep (RepAll.ints _)) g4))
        · exact g4.elim⟩⟩⟩
theorem gSl_tup {own : Bool} {l : List D} {lo hi : Option Int} {M : Mem} {Q : DQ} : gSl own (.tup l) lo hi M Q = Q (.tup (cutD l lo hi)) M := rfl
theorem gSl_lst {l : List D} {lo hi : Option Int} {M : Mem} {Q : DQ} : gSl false (.lst l) lo hi M Q = Q (.lst (cutD l lo hi)) M := rfl
theorem cut_1 {a : D} {l : List D} : cutD (a :: l) (some 1) none = l := by
  unfold cutD
  have e1 : HT.sIx (a :: l).length 0 (some 1) = 1 := by
    have := HT.sIx_nat (a :: l).length 0 1
    rw [show ((1 : Nat) : Int) = 1 from rfl] at this
    rw [this, List.length_cons]
    omega
  have e2 : HT.sIx (a :: l).length (a :: l).length none = (a :: l).length := rfl
  rw [e1, e2]
  simp
end
/-! ### x + y, lists, the sum to be changed -/
end DL
namespace DL
open PySem PySem.Spec PyProof.Rows L2
def t_bounds_by (c_root_floor_by : DSp) : DTS :=
 (dSeq (dAsg (dCall 1 c_root_floor_by [] DX0 (dCons (dVar 0) dNil)) (dName 1))
 (dSeq (dAsg (dIf (dTru (dOp (gCmpI fun i j => decide (i < j)) (dOp (rBin CMul fun i j => i * j) (dVar 1) (dVar 1)) (dVar 0))) (dOp (rBin (fun _ _ => True) fun i j => i - j) (dC (.int 0)) (dVar 1)) (dOp (rBin (fun _ _ => True) fun i j => i - j) (dC (.int 1)) (dVar 1))) (dName 2))
 (dSeq (dAsg (dOp (rBin (fun _ _ => True) fun i j => i - j) (dOp (rBin (fun _ _ => True) fun i j => i - j) (dC (.int 0)) (dVar 2)) (dC (.int 2))) (dName 3))
 (dSeq (dIfS (dTru (dOp gNe (dOp (rBin CMod fun i j => i.fmod j) (dOp (rBin (fun _ _ => True) fun i j => i - j) (dVar 2) (dVar 0)) (dC (.int 2))) (dC (.int 0)))) (dAsg (dOp gAdd (dVar 2) (dC (.int 1))) (dName 2)) dNext)
 (dSeq (dIfS (dTru (dOp gNe (dOp (rBin CMod fun i j => i.fmod j) (dOp (rBin (fun _ _ => True) fun i j => i - j) (dVar 3) (dVar 0)) (dC (.int 2))) (dC (.int 0)))) (dAsg (dOp (rBin (fun _ _ => True) fun i j => i - j) (dVar 3) (dC (.int 1))) (dName 3)) dNext)
 (dRet (dTup (dCons (dVar 2) (dCons (dVar 3) dNil)))))))))
def t_l_made_4c69 : DTS :=
 (dRet (dTup (dCons (dC (.int 0)) (dCons (dOp (rBin CDiv fun i j => i.fdiv j) (dOp (rBin (fun _ _ => True) fun i j => i - j) (dVar 0) (dOp (rBin CMul fun i j => i * j) (dVar 1) (dVar 1))) (dC (.int 4))) (dCons (dC (.int 1)) (dCons (dVar 1) dNil))))))
end DL
namespace DL
open PySem PySem.Spec PyProof.Rows L2
end DL
namespace DL
open PySem PySem.Spec PyProof.Rows L2
end DL
namespace DL
open PySem PySem.Spec PyProof.Rows L2
end DL
/-! DLU: max and min of a list of ints -/
namespace DL
open PySem PySem.Spec PyProof.Rows L2
end DL
namespace DL
open PySem PySem.Spec PyProof.Rows L2
end DL
namespace DL
open PySem PySem.Spec PyProof.Rows L2
end DL
/-! DLV: sorted({(a, b), (c, d)}) -/
namespace DL
open PySem PySem.Spec PyProof.Rows L2
section
variable {X : Cx}
theorem TupK.ne {K : PySem.W.Frag} {S H : Hp} {a p : Addr} {xs : List V} {o : HO} (h : TupK K S a xs) (hk : ∀ t o, K.lookup t = some o → H t = none) (hp : H p = some o) (hs : S p = none) : a ≠ p := fun z => by
  rcases h with h | ⟨o', _, _, h, _⟩
  · rw [z, hs] at h; cases h
  · have := hk _ _ h
    rw [z, hp] at this; cases this
end
/-! ### a def whose own code must be known -/
end DL
namespace DL
open PySem PySem.Spec PyProof.Rows L2
end DL
namespace DL
open PySem PySem.Spec PyProof.Rows L2
end DL
/-! DLX: errors over data: raised, passed on, caught, asked -/
namespace DL
open PySem PySem.Spec PyProof.Rows L2
section
variable {X : Cx} {pos : Pos}
/-! ### names of the module as values; an error's value and kind -/
def dFld (t : DTE) : DTE := fun r M Q => t r M fun d M1 => match d with
  | .exc _ v => Q v M1
  | _ => False
theorem er_inst {pins : List (Addr × Obj)} {s : Shared} {σ : St} {H : Hp} {a C T dd : Addr} {x : Str} (I : Inv X pins σ H s) (h0 : XA.ErC X.K x C T) (ha : H a = some (erO a C dd)) : ∃ oe : Obj, s.heap.get? a = some oe ∧ oe.cls = .ref C ∧ PySem.W.notCls oe = true ∧ oe.dict = some dd := by
  have q : ObjOk X.prog X.w H s.heap a (.ext (ErAt a C dd)) := I.hok a _ ha
  obtain ⟨vs, sl, hv⟩ := q.1
  exact ⟨_, hv, rfl, rfl, rfl⟩
theorem de_fld {e : Expr} {t : DTE} (he : DE X e t) (hb : attributeBase e "value" X.env (eval e X.env) = eval e X.env := by rfl) : DE X (.Attribute e "value" pos) (dFld t) :=
  ⟨⟨fun pins s σ H Q I ⟨ph, S, r, M, Q0, hs, ht, hq⟩ => attr_of hb (thn (he.pe.run pins s σ H _ I ⟨ph, S, r, M, _, hs, ht, fun _ _ z => z⟩) fun u s1 ⟨y, H1, I1, ry, ph1, S1, M1, x1, hs1, d, q1, g1⟩ => by
    cases d <;> first | exact g1.elim | skip
    cases q1 with
    | @exc a C T dd x v d h0 ha hd hv =>
      cases (show u = Value.ref a from ry)
      obtain ⟨oe, e1, e2, e3, e4⟩ := er_inst I1 h0 (hs1.sub _ _ ha)
      have hx : ObjOk X.prog X.w H1 s1.heap dd (.xd [(fVal, v)]) := I1.hok dd _ (hs1.sub _ _ hd)
      obtain ⟨mA, hns, hr⟩ := hx
      obtain ⟨od, ho, hl⟩ := lookIn_ns hns
      have l : List.lookup fVal [(fVal, v)] = some v := by simp [List.lookup]
      obtain ⟨u, hu, ru⟩ := RelO.some_of (v := v) (o := mA fVal) (by rw [← l]; exact hr fVal)
      have J : PySem.W.InstAt s1.heap a oe C (some od) := ⟨e1, e2, e3, by rw [e4]; exact ho⟩
      have xf := h0.xfC
      exact HandSPX.exc_get I1.kIn J xf.ga xf.gg xf.exC (PySem.W.findObj_own xf.hdC h0.nv rfl (by rw [hl, hu])) (handed_of ru) ⟨v, H1, I1.tok _, ru, hq _ _ ⟨ph1, S1, M1, x1, hs1, _, hv, g1⟩⟩)⟩⟩
end
/-! ### what may leave -/
abbrev DXE := Env → Str → D → Mem → Prop
def postE (K : PySem.W.Frag) (ph : Ph) (S : Hp) (E : DXE) : WX := fun cls d σ H => ∃ (x : Str) (C T dd : Addr) (v : V) (dv : D) (r : Env), XA.ErC K x C T ∧ cls = .ref C ∧ d = some dd ∧
  Aft K ph S r σ H fun ph' S' M => S' dd = some (.xd [(fVal, v)]) ∧ Rep K ph' S' v dv ∧ E r x dv M
theorem postE.up {K : PySem.W.Frag} {ph ph1 : Ph} {S S1 : Hp} {E : DXE} {cls : Value} {d : Option Addr} {σ : St} {H : Hp} (x : Ext ph S ph1 S1) (h : postE K ph1 S1 E cls d σ H) : postE K ph S E cls d σ H :=
  let ⟨y, C, T, dd, v, dv, r, h1, h2, h3, h4⟩ := h
  ⟨y, C, T, dd, v, dv, r, h1, h2, h3, Aft.up x h4⟩
structure DEX (X : Cx) (e : Expr) (t : DXE → DTE) : Prop where
  pe : ∀ W : WX, Takes X W → PE X e (fun σ H Q => ∃ ph S r M Q0 X0, Sat X.K ph S r M σ H ∧ t X0 r M Q0 ∧ (∀ v H', post X.K ph S r σ Q0 v H' → Q v H') ∧ ∀ cls d H', postE X.K ph S X0 cls d σ H' → W cls d σ H')
structure DAX (X : Cx) (es : List Expr) (t : DXE → DTA) : Prop where
  pa : ∀ W : WX, Takes X W → PA X es (fun σ H Q => ∃ ph S r M Q0 X0, Sat X.K ph S r M σ H ∧ t X0 r M Q0 ∧ (∀ v H', postA X.K ph S r σ Q0 v H' → Q v H') ∧ ∀ cls d H', postE X.K ph S X0 cls d σ H' → W cls d σ H')
def lfX (K : PySem.W.Frag) (W : WX) (t : DXE → DTS) : TS := fun E σ H => ∃ ph S r M E0 X0, Sat K ph S r M σ H ∧ t X0 E0 r M ∧ (∀ σ' H', postN K ph S E0.nx σ' H' → E.nx σ' H') ∧ (∀ v H', postR K ph S E0.rt v H' → E.rt v H') ∧ (∀ σ' H', postN K ph S E0.bk σ' H' → E.bk σ' H') ∧ (∀ σ' H', postN K ph S E0.ct σ' H' → E.ct σ' H') ∧
  ∀ cls d σ' H', postE K ph S X0 cls d σ' H' → W cls d σ' H'
structure DSX (X : Cx) (st : Stmt) (t : DXE → DTS) : Prop where
  ps : ∀ W : WX, Takes X W → PS X st (lfX X.K W t)
structure DSXs (X : Cx) (sts : List Stmt) (t : DXE → DTS) : Prop where
  pss : ∀ W : WX, Takes X W → PSs X sts (lfX X.K W t)
section
variable {X : Cx} {pos : Pos}
theorem dex_of {e : Expr} {t : DTE} (h : DE X.nox e t) : DEX X e (fun _ => t) := ⟨fun W tk => PE.weak h.pe.nox fun σ H Q ⟨ph, S, r, M, Q0, X0, hs, ht, hq, _⟩ => ⟨ph, S, r, M, Q0, hs, ht, hq⟩⟩
theorem dax_nil : DAX X [] (fun _ => dNil) := ⟨fun W tk => PA.weak pa_nil fun σ H Q ⟨ph, S, r, M, Q0, X0, hs, ht, hq, _⟩ => hq _ _ (Aft.here hs ⟨_, .nil, ht⟩)⟩
theorem postE.back {K : PySem.W.Frag} {ph ph1 : Ph} {S S1 : Hp} {E : DXE} {cls : Value} {d : Option Addr} {σ : St} {H : Hp} (x : Ext ph S ph1 S1) (h : postE K ph1 S1 E cls d σ H) : postE K ph S E cls d σ H := h.up x
theorem dax_cons {e : Expr} {es : List Expr} {t : DXE → DTE} {u : DXE → DTA} (h : DEX X e t) (h2 : DAX X es u) (hs : starEach (e :: es) X.env = (false, eval e X.env) :: starEach es X.env := by rfl) : DAX X (e :: es) (fun E => dCons (t E) (u E)) :=
  ⟨fun W tk => PA.weak (pa_cons (h.pe W tk) (h2.pa W tk) hs) fun σ H Q ⟨ph, S, r, M, Q0, X0, hs, ht, hq, hx⟩ => ⟨ph, S, r, M, _, X0, hs, ht, fun v H1 ⟨ph1, S1, M1, x1, hs1, d, q1, g1⟩ =>
    ⟨ph1, S1, r, M1, _, X0, hs1, g1, fun vs H2 ⟨ph2, S2, M2, x2, hs2, ds, q2, g2⟩ => hq _ _ ⟨ph2, S2, M2, x1.trans x2, hs2, _, .cons (q1.up x2) q2, g2⟩, fun cls d H' z => hx _ _ _ (z.up x1)⟩, hx⟩⟩
/-- a def's error, in our frame -/
theorem postX.at {K : PySem.W.Frag} {ph : Ph} {S : Hp} {r : Env} {M : Mem} {σ : St} {H H' : Hp} {E : DX} {cls : Value} {d : Option Addr} (hs : Sat K ph S r M σ H) (h : postX K ph S E cls d H') : postE K ph S (fun r' x dv M' => r' = r ∧ E x dv M') cls d σ H' :=
  let ⟨x, C, T, dd, v, dv, h1, h2, h3, ph', S', M', y, hs', e1, e2, e3⟩ := h
  ⟨x, C, T, dd, v, dv, r, h1, h2, h3, ph', S', M', y, hs.back y hs', e1, e2, rfl, e3⟩
variable {k : Nat} {f : Addr} {fd : FuncData} {ps : List Str} {sp : DSp} {x : Str} {p : Pos} {e : Expr} {es : List Expr} {t : DXE → DTA}
/-- f(..), f may raise -/
def dCallX (n : Nat) (sp : DSp) (t : DXE → DTA) : DXE → DTE := fun E r M Q => t E r M fun ds M1 => ds.length = n ∧ sp ds M1 Q (fun y dv M2 => E r y dv M2)
theorem run_fnX {W : WX} {pins : List (Addr × Obj)} {σ : St} {H : Hp} {s : Shared} {Q : VK} {us : List Value} {vs : List V} {sp : Sp} (F : FnG X.prog X.w X.K X.mg X.base (L2.CX X.prog X.w) k f fd ps sp) (hr : Room k X.A) (gd : X.A.guards = some []) (hb : Binds X.K fd ps []) (tk : Takes X W)
    (I : Inv X pins σ H s) (r : Vals vs us) (h : sp vs H Q (fun cls d H' => W cls d σ H')) : wpAny (model X.prog X.w) X.A (call (.ref f) us) (EP X pins σ Q) X.xe s := by
  have hl : us.length = ps.length := by rw [← r.length]; exact F.len _ _ _ _ h
  refine wpAny_call (codeAny_mono (F.run X.A X.stack s H ⟨us, []⟩ us vs Q _ hr gd I.env0 (by have := hb s us I.kIn (by rw [List.append_nil]; exact hl); rw [List.append_nil] at this; exact this) r h) fun fl s' hq => ?_)
  match fl, hq with
  | .error e, hq => exact tk _ _ (XE.of_call I (fun _ _ _ z => z) hq)
  | .ok (.ret u), hq => exact I.after hq
  | .ok .next, hq => exact False.elim hq
  | .ok .brk, hq => exact False.elim hq
  | .ok .cont, hq => exact False.elim hq
theorem lf_callX {W : WX} {n : Nat} {ph : Ph} {S : Hp} {r : Env} {M : Mem} {σ : St} {H : Hp} {Q : DQ} {Q' : VK} {X0 : DXE} {vs : List V} {ds : List D} (hs : Sat X.K ph S r M σ H) (qa : RepAll X.K ph S vs ds) (hl : ds.length = n) (h : sp ds M Q (fun y dv M2 => X0 r y dv M2))
    (hq : ∀ v H', post X.K ph S r σ Q v H' → Q' v H') (hx : ∀ cls d H', postE X.K ph S X0 cls d σ H' → W cls d σ H') : lfSp X.K n sp vs H Q' (fun cls d H' => W cls d σ H') :=
  ⟨ph, S, M, ds, Q, _, hl, hs.drop, qa, h, fun v H2 ⟨ph2, S2, M2, x2, hs2, d, q2, h2⟩ => hq _ _ ⟨ph2, S2, M2, x2, hs.back x2 hs2, d, q2, h2⟩, fun cls d H2 h2 => hx _ _ _ (by
    obtain ⟨y, C, T, dd, v, dv, r', b1, b2, b3, ph', S', M', z, hs', e1, e2, e3, e4⟩ := postX.at hs h2
    subst e3
    exact ⟨y, C, T, dd, v, dv, _, b1, b2, b3, ph', S', M', z, hs', e1, e2, e4⟩)⟩
theorem dcallX {n : Nat} {st : Stmt} {P : Program} {w : World} {K : PySem.W.Frag} {mg : Str → Option Value} {base : Heap} (F : Def P w K mg base (L2.CX P w) k x st ps sp) {j : Nat} (hr : Room j X.A) (gd : X.A.guards = some []) (ha : DAX X (e :: es) t) (hj : k ≤ j := by decide) (hn : ps.length = n := by rfl)
    (h1 : P = X.prog := by rfl) (h2 : w = X.w := by rfl) (h3 : K = X.K := by rfl) (h4 : mg = X.mg := by rfl) (h5 : base = X.base := by rfl) (hg : Gl X x := by rfl) (hdb : (x == ("__debug__" : Str)) = false := by decide) (he : starEach (e :: es) X.env = (false, eval e X.env) :: starEach es X.env := by rfl)
    (hpl : (backTo pos (starEach es X.env)).any (·.1) = false := by rfl) : DEX X (.Call (.Name x p) (e :: es) [] pos) (dCallX n sp t) := by
  subst h1 h2 h3 h4 h5 hn
  obtain ⟨f, fd, h1, h2, h3, h4, _⟩ := F.ex
  exact ⟨fun W tk => ⟨fun pins s σ H Q I ⟨ph, S, r, M, Q0, X0, hs, ht, hq, hx⟩ => wpAny_Call_Name_kw (ld_glob I hg h2 (PySem.W.callWith_K (h₀ := X.base) I.ok.mod.kin h3 (thn ((ha.pa W tk).run pos pins s σ H _ I ⟨ph, S, r, M, _, X0, hs, ht, fun _ _ z => z, hx⟩) fun us s1 ⟨vs, H1, I1, r1, ph1, S1, M1, x1, hs1, ds, q1, hl, g1⟩ =>
    ⟨I1.kIn, thn (run_fnX h1 (hr.mono hj) gd h4 tk I1 r1 (lf_callX hs1 q1 hl g1 (fun _ _ z => z) (fun cls d H' z => hx _ _ _ (z.up x1)))) fun _ _ z => EP.up x1 z hq⟩) he hpl) hdb)⟩⟩
end
end DL
/-! DLY: statements that may raise; try; a def that raises -/
namespace DL
open PySem PySem.Spec PyProof.Rows L2
theorem PS.noxS {X : Cx} {st : Stmt} {t : TS} (h : PS X.nox st t) : PS X st t := ⟨fun pins s σ H D I hw =>
  wpAny_mono (h.run pins s σ H D (I.wish _) hw) (fun _ _ q => q.unwish) fun _ _ z => False.elim z⟩
section
variable {X : Cx} {pos : Pos}
theorem lfX_on {W : WX} {ph ph1 : Ph} {S S1 : Hp} {r : Env} {M : Mem} {σ : St} {H : Hp} {t : DXE → DTS} {X0 : DXE} {E : DEnds} {E' : Ends} (x : Ext ph S ph1 S1) (hs : Sat X.K ph1 S1 r M σ H) (ht : t X0 E r M)
    (h1 : ∀ σ' H', postN X.K ph S E.nx σ' H' → E'.nx σ' H') (h2 : ∀ v H', postR X.K ph S E.rt v H' → E'.rt v H') (h3 : ∀ σ' H', postN X.K ph S E.bk σ' H' → E'.bk σ' H') (h4 : ∀ σ' H', postN X.K ph S E.ct σ' H' → E'.ct σ' H')
    (h5 : ∀ cls d σ' H', postE X.K ph S X0 cls d σ' H' → W cls d σ' H') : lfX X.K W t E' σ H :=
  ⟨ph1, S1, r, M, E, X0, hs, ht, fun _ _ z => h1 _ _ (z.up x), fun _ _ z => h2 _ _ (z.up x), fun _ _ z => h3 _ _ (z.up x), fun _ _ z => h4 _ _ (z.up x), fun _ _ _ _ z => h5 _ _ _ _ (z.up x)⟩
theorem dsx_of {st : Stmt} {t : DTS} (h : DS X.nox st t) : DSX X st (fun _ => t) :=
  ⟨fun W tk => PS.weak (PS.noxS h.ps) fun E σ H ⟨ph, S, r, M, E0, X0, hs, ht, h1, h2, h3, h4, _⟩ => ⟨ph, S, r, M, E0, hs, ht, h1, h2, h3, h4⟩⟩
theorem dssx_of {sts : List Stmt} {t : DTS} (h : DSs X.nox sts t) : DSXs X sts (fun _ => t) :=
  ⟨fun W tk => PSs.weak h.pss.nox fun E σ H ⟨ph, S, r, M, E0, X0, hs, ht, h1, h2, h3, h4, _⟩ => ⟨ph, S, r, M, E0, hs, ht, h1, h2, h3, h4⟩⟩
theorem dssx_cons {st : Stmt} {rest : List Stmt} {t u : DXE → DTS} (h : DSX X st t) (h' : DSXs X rest u) : DSXs X (st :: rest) (fun E => dSeq (t E) (u E)) :=
  ⟨fun W tk => PSs.weak (pss_cons (h.ps W tk) (h'.pss W tk)) fun E σ H ⟨ph, S, r, M, E0, X0, hs, ht, h1, h2, h3, h4, h5⟩ =>
    ⟨ph, S, r, M, { E0 with nx := u X0 E0 }, X0, hs, ht, fun σ' H' ⟨r1, ph1, S1, M1, x, hs1, z⟩ => lfX_on x hs1 z h1 h2 h3 h4 h5, h2, h3, h4, h5⟩⟩
theorem dssx_one {st : Stmt} {t : DXE → DTS} (h : DSX X st t) : DSXs X [st] t := ⟨fun W tk => pss_one (h.ps W tk)⟩
theorem dsx_if {c : Expr} {a b : List Stmt} {tc : DTT} {t u : DXE → DTS} (hc : DT X.nox c tc) (ha : DSXs X a t) (hb : DSXs X b u) : DSX X (.If c a b pos) (fun E => dIfS tc (t E) (u E)) :=
  ⟨fun W tk => PS.weak (ps_if hc.pt.nox (ha.pss W tk) (hb.pss W tk)) fun E σ H ⟨ph, S, r, M, E0, X0, hs, ht, h1, h2, h3, h4, h5⟩ => ⟨ph, S, r, M, _, hs, ht, fun k H1 ⟨ph1, S1, M1, x, hs1, z⟩ => by
    cases k with
    | true => exact lfX_on x hs1 z h1 h2 h3 h4 h5
    | false => exact lfX_on x hs1 z h1 h2 h3 h4 h5⟩⟩
theorem dsx_expr {e : Expr} {t : DXE → DTE} (he : DEX X e t) (hs : swapsWith e none pos.line X.env = pure false := by rfl) : DSX X (.Expr e pos) (fun E => dDrop (t E)) :=
  ⟨fun W tk => PS.weak (ps_expr (he.pe W tk) hs) fun E σ H ⟨ph, S, r, M, E0, X0, hs, ht, h1, _, _, _, h5⟩ => ⟨ph, S, r, M, _, X0, hs, ht, fun v H' ⟨ph1, S1, M1, x, hs1, d, _, z⟩ => h1 _ _ ⟨r, ph1, S1, M1, x, hs1, z⟩, fun cls d H' z => h5 _ _ _ _ z⟩⟩
theorem dsx_set {i : Nat} {x : Str} {e : Expr} {t : DXE → DTE} {pos' : Pos} (hN : X.N.Nodup) (he : DEX X e t) (hi : X.N[i]? = some x := by rfl) (hx : Loc X.env.scope x := by first | exact Or.inl rfl | exact Or.inr rfl) (hs : swapsWith e (some (.Name x pos')) pos.line X.env = pure false := by rfl) (hf : X.fn x = true ∨ X.env.scope.names.lookup x = some .local := by first | exact .inl rfl | exact .inr rfl | assumption) :
    DSX X (.Assign [.Name x pos'] e pos) (fun E => dAsg (t E) (dName i)) :=
  ⟨fun W tk => PS.weak (ps_set hN hi hx (he.pe W tk) hs hf) fun E σ H ⟨ph, S, r, M, E0, X0, hs, ht, h1, _, _, _, h5⟩ => ⟨ph, S, r, M, _, X0, hs, ht, fun v H' ⟨ph1, S1, M1, x, hs1, d, q, z⟩ => h1 _ _ ⟨_, ph1, S1, M1, x, hs1.setN q, z⟩, fun cls d H' z => h5 _ _ _ _ z⟩⟩
/-- raise x(e) -/
def dRaise (x : Str) (t : DTA) : DXE → DTS := fun E _ r M => t r M fun ds M1 => ∃ d, ds = [d] ∧ E r x d M1
theorem dsx_raise {x : Str} {C S0 fI : Addr} {e : Expr} {p cpos : Pos} {t : DTA} {k : Nat} (T : XA.ErM X.prog X.K X.mg x C S0 fI) (hc : X.calm = true) (hr : Room k X.A) (ha : DA X.nox [e] t) (hg : Gl X x := by rfl)
    (he : starEach (e :: []) X.env = (false, eval e X.env) :: starEach [] X.env := by rfl) (hpl : (backTo cpos (starEach [] X.env)).any (·.1) = false := by rfl) (hdb : (x == ("__debug__" : Str)) = false := by decide) :
    DSX X (.Raise (some (.Call (.Name x p) [e] [] cpos)) none pos) (dRaise x t) := by
  refine ⟨fun W tk => ?_⟩
  have pa : PA X [e] (fun σ H Q => ∃ ph S r M Q0, Sat X.K ph S r M σ H ∧ t r M Q0 ∧ ∀ vs H', postA X.K ph S r σ Q0 vs H' → Q vs H') := ⟨fun pos pins s σ H Q I hw =>
    wpAny_mono (ha.pa.run pos pins s σ H Q (I.wish _) hw) (fun _ _ ⟨v, H', I', r, q⟩ => ⟨v, H', I'.unwish, r, q⟩) fun _ _ z => False.elim z⟩
  refine PS.weak (ps_raise hc tk (pmk_err T hr pa hg he hpl hdb)) fun E σ H ⟨ph, S, r, M, E0, X0, hs, ht, _, _, _, _, h5⟩ => ⟨ph, S, r, M, _, hs, ht, fun vs H1 ⟨ph1, S1, M1, x1, hs1, ds, q1, d, ed, g1⟩ => ?_⟩
  subst ed
  cases q1 with
  | @cons v vs' _ _ q1 q2 =>
    cases q2
    refine ⟨v, rfl, fun dd hd => h5 _ _ _ _ ⟨x, C, S0, dd, v, d, r, T.er, rfl, rfl, Aft.up x1 (Aft.frz hs1 hd fun y => ⟨upd_same, q1.up y, g1⟩)⟩⟩
/-! ### try -/
/-- try: t / except c as (slot i): ts, all that t raises being of the class c -/
def dTry (c : Str) (i : Nat) (t : DXE → DTS) (ts : DTS) : DTS := fun E r M => t (fun r' x dv M' => XA.under x c = true ∧
  ts { nx := fun r2 M2 => E.nx (r2.set i none) M2, rt := E.rt, bk := fun r2 M2 => E.bk (r2.set i none) M2, ct := fun r2 M2 => E.ct (r2.set i none) M2 } (r'.set i (some (.exc x dv))) M') E r M
theorem ds_try {x n : Str} {C : Addr} {i : Nat} {body suite : List Stmt} {b₀ : Stmt} {np pos' : Pos} {t : DXE → DTS} {ts : DTS} (hs : X.stack = X.env :: X.outer) (hf : X.env.frame = some X.env.locals) (hN : X.N.Nodup) (hA : XA.AnyC X.K x C) (hm : X.mg x = some (.ref C)) (tk : Takes X (fun _ _ _ _ => False))
    (hb : ∀ (pn : List (Addr × Obj)) (xe : Value → Shared → Prop), PassesOwn (model X.prog X.w) X.A X.env xe → DSXs (X.tr pn xe) body t) (hsu : ∀ (a : Addr) (pn : List (Addr × Obj)), DSs (sui X a pn) (b₀ :: suite) ts)
    (hi : X.N[i]? = some n := by rfl) (hln : X.env.kindOf n = some .local := by rfl) (hg : Gl X x := by rfl) (hdb : (x == ("__debug__" : Str)) = false := by decide) :
    DS X (.Try body [.ExceptHandler (some (.Name x np)) (some n) (b₀ :: suite) pos'] [] [] pos) (dTry x i t ts) := by
  have main := ps_try_sui (X := X) (x := x) (n := n) (c := .ref C) (i := i) (np := np) (pos := pos) (pos' := pos') (Wout := fun _ _ _ _ => False) hs hf hN hi hln ⟨hg, hdb, .inl hm⟩ tk (tb := fun W => lfX X.K W t) (fun W pn xe tkW hp => (hb pn xe hp).pss W tkW) (ts := lfS X.K ts) (fun a pn => (hsu a pn).pss)
  refine ⟨PS.weak main fun E' σ H ⟨ph, S, r, M, E, hs, ht, h1, h2, h3, h4⟩ => ⟨ph, S, r, M, E, _, hs, ht, h1, h2, h3, h4, ?_⟩⟩
  rintro cls d σ1 H1 ⟨y, C1, T1, dd, v, dv, r1, e1, rfl, rfl, ph1, S1, M1, x1, hs1, g1, g2, hu, g3⟩
  refine ⟨C1, dd, rfl, rfl, true, by rw [e1.exm hA, hu], fun _ a ha => ?_, fun z => Bool.noConfusion z⟩
  obtain ⟨x2, hs2⟩ := hs1.frz ha (erO a C1 dd)
  have q : Rep X.K ph1 (upd S1 a (erO a C1 dd)) (.ref a) (.exc y dv) := .exc e1 upd_same (x2.same _ _ g1) (g2.up x2)
  have xx := x1.trans x2
  refine ⟨ph1, _, _, M1, _, hs2.setN q, g3, ?_, ?_, ?_, ?_⟩
  · exact fun σ' H' ⟨r', ph', S', M', z, hs', w⟩ => h1 _ _ ⟨_, ph', S', M', xx.trans z, hs'.clr i, w⟩
  · exact fun v H' z => h2 _ _ (z.up xx)
  · exact fun σ' H' ⟨r', ph', S', M', z, hs', w⟩ => h3 _ _ ⟨_, ph', S', M', xx.trans z, hs'.clr i, w⟩
  · exact fun σ' H' ⟨r', ph', S', M', z, hs', w⟩ => h4 _ _ ⟨_, ph', S', M', xx.trans z, hs'.clr i, w⟩
end
/-! ### a def that may raise -/
def Rtx (M : Mem) (E : DX) : DX := fun x d M' => ∃ M1 G, M' = M1 ++ G ∧ M.length ≤ M1.length ∧ below M1.length d = true ∧ (∀ (i : Nat) (c : Own), M1[i]? = some c → M[i]? = some c ∨ belowO M1.length c = true) ∧ E x d M1
def dOut (M : Mem) (E : DX) : DXE := fun _ x d M' => Rtx M E x d M'
theorem Rtx.out {K : PySem.W.Frag} {ph : Ph} {S : Hp} {M : Mem} {H : Hp} {E : DX} (h0 : Sat K ph S [] M [] H) {cls : Value} {d : Option Addr} {σ : St} {H1 : Hp} (h : postE K ph S (dOut M E) cls d σ H1) : postX K ph S E cls d H1 := by
  obtain ⟨x, C, T, dd, v, dv, r, e1, e2, e3, ph1, S1, M', y, hs, q1, q2, M1, G, rfl, hl, hb, hc, hq⟩ := h
  obtain ⟨x2, hs2⟩ := Sat.leave h0 y hs hl hc
  exact ⟨x, C, T, dd, v, dv, e1, e2, e3, _, _, _, x2, hs2, q1, Rep.take dv v hb q2, hq⟩
section
variable {P : Program} {w : World} {K : PySem.W.Frag} {mg : Str → Option Value} {base : Heap}
theorem Fun.okE {x qual : Str} {st : Stmt} {f : Addr} {fd : FuncData} {N ps : List Str} {k : Nat} {sp : DSp} {t : DXE → DTS} (F : Fun K x qual st f fd) (S : FnScope N ps (defScope st))
    (hder : ∀ (cdv : Value) (A : Around) (outer : List PySem.Env) (s : Shared) (H : Hp) (E : XK), Room k (A.deeper (envOfC qual (defScope st) s.heap.objs.size f cdv)) → (A.deeper (envOfC qual (defScope st) s.heap.objs.size f cdv)).guards = some [] →
      DSXs (cxOf (L2.CX P w) P w K mg base N qual (defScope st) f cdv A outer s H E) (defBody st) t)
    (hread : ∀ ds M Q E, ds.length = ps.length → belowAll M.length ds = true → sp ds M Q E → t (dOut M E) (dEnds M Q) (startD N.length ds) M) : FnD P w K mg base (L2.CX P w) (k + 1) f fd ps sp := by
  obtain ⟨oc, od, kV, doc, pm, an, cdv, ct, osl, rfl, lk, hcd⟩ := F.ex
  refine fnG_of lk hcd S (fun vs H Q E h => ?_) fun A outer s H vs Q E hr gd hsp => ?_
  · obtain ⟨_, _, _, _, _, _, hl, _, q, _⟩ := h
    rw [q.len]; exact hl
  · obtain ⟨ph, S0, M, ds, Q0, E0, hl, hs, hq, h, h1, h2⟩ := hsp
    refine ⟨_, (hder cdv A outer s H E hr gd).pss _ (takes_of rfl rfl rfl rfl), ph, S0, startD N.length ds, M, dEnds M Q0, dOut M E0, hs.start hq N, hread ds M Q0 E0 hl (by rw [← hs.len]; exact RepAll.belowP _ _ hq) h, ?_, ?_, ?_, ?_, ?_⟩
    · rintro σ' H' ⟨r, ph1, S1, M1, x, hs1, z⟩
      exact h1 _ _ (Rtq.out hs ⟨r, σ', ph1, S1, M1, x, hs1, .non, .non, z⟩)
    · exact fun v H' z => h1 _ _ (Rtq.out hs z)
    · rintro σ' H' ⟨r, ph1, S1, M1, x, hs1, z⟩
      exact z.elim
    · rintro σ' H' ⟨r, ph1, S1, M1, x, hs1, z⟩
      exact z.elim
    · exact fun cls d σ' H' z => h2 _ _ _ (Rtx.out hs z)
theorem Here.okE {x : Str} {st : Stmt} {N ps : List Str} {k : Nat} {sp : DSp} {t : DXE → DTS} (F : Here K mg x st ps) (S : FnScope N ps (defScope st))
    (hder : ∀ (f : Addr) (cdv : Value) (A : Around) (outer : List PySem.Env) (s : Shared) (H : Hp) (E : XK), Room k (A.deeper (envOfC x (defScope st) s.heap.objs.size f cdv)) → (A.deeper (envOfC x (defScope st) s.heap.objs.size f cdv)).guards = some [] →
      DSXs (cxOf (L2.CX P w) P w K mg base N x (defScope st) f cdv A outer s H E) (defBody st) t)
    (hread : ∀ ds M Q E, ds.length = ps.length → belowAll M.length ds = true → sp ds M Q E → t (dOut M E) (dEnds M Q) (startD N.length ds) M) : Def P w K mg base (L2.CX P w) (k + 1) x st ps sp :=
  let ⟨f, fd, h1, h2, h3⟩ := F.ex
  ⟨f, fd, Fun.okE h1 S (hder f) hread, h2, h1.kp, h3, h1⟩
end
/-! ### a def that may raise, called where it doesn't -/
section
variable {X : Cx} {k : Nat} {ps ks : List Str} {sp : DSp} {x : Str} {p pos : Pos} {e : Expr} {es : List Expr} {kws : List Keyword} {t : DTA}
theorem passN : Passes (L2.CX X.prog X.w) X E0 := fun _ _ _ _ _ _ _ h => by
  obtain ⟨_, _, _, _, _, _, _, _, _, _, _, _, z⟩ := h
  exact z.elim
theorem dcallN {n : Nat} {st : Stmt} {P : Program} {w : World} {K : PySem.W.Frag} {mg : Str → Option Value} {base : Heap} (F : Def P w K mg base (L2.CX P w) k x st ps sp) {j : Nat} (hr : Room j X.A) (gd : X.A.guards = some []) (ha : DA X (e :: es) t) (hj : k ≤ j := by decide) (hn : ps.length = n := by rfl)
    (h1 : P = X.prog := by rfl) (h2 : w = X.w := by rfl) (h3 : K = X.K := by rfl) (h4 : mg = X.mg := by rfl) (h5 : base = X.base := by rfl) (hg : Gl X x := by rfl) (hdb : (x == ("__debug__" : Str)) = false := by decide) (he : starEach (e :: es) X.env = (false, eval e X.env) :: starEach es X.env := by rfl)
    (hpl : (backTo pos (starEach es X.env)).any (·.1) = false := by rfl) : DE X (.Call (.Name x p) (e :: es) [] pos) (dCall n sp [] DX0 t) := by
  subst h1 h2 h3 h4 h5 hn
  obtain ⟨f, fd, h1, h2, h3, h4, _⟩ := F.ex
  exact de_callX h1 (hr.mono hj) gd h2 h3 h4 .nil .nil passN pX0 ha hg hdb he hpl
theorem dcallKN {m n : Nat} {st : Stmt} (l : List Nat) {P : Program} {w : World} {K : PySem.W.Frag} {mg : Str → Option Value} {base : Heap} (F : Def P w K mg base (L2.CX P w) k x st ps sp) {j : Nat} (hr : Room j X.A) (gd : X.A.guards = some []) (hkw : DK X kws t)
    (hks : (backToKw pos (keywordEach kws X.env)).filterMap (·.1) = ks)
    (hb : ∀ (kV doc pm : Value) (an : Option Addr) (cdv ct : Value) (us : List Value), us.length = ks.length → bindArgs (PySem.W.fnOf x x (defArgs st) (defBody st) (defScope st) .none kV doc pm an cdv ct) ⟨[], ks.zip us⟩ = pure (ps.zip (pick l us)))
    (hj : k ≤ j := by decide) (hm : ks.length = m := by rfl) (hn : ps.length = n := by rfl)
    (h1 : P = X.prog := by rfl) (h2 : w = X.w := by rfl) (h3 : K = X.K := by rfl) (h4 : mg = X.mg := by rfl) (h5 : base = X.base := by rfl) (hg : Gl X x := by rfl) (hdb : (x == ("__debug__" : Str)) = false := by decide) (hall : (backToKw pos (keywordEach kws X.env)).all (·.1.isSome) = true := by rfl)
    (hpl : ((backTo pos (starEach [] X.env)).any (·.1) || (backToKw pos (keywordEach kws X.env)).any (·.1.isNone)) = false := by rfl) : DE X (.Call (.Name x p) [] kws pos) (dCallK m n sp l DX0 t) := by
  subst h1 h2 h3 h4 h5 hn hm
  obtain ⟨f, fd, h1, h2, h3, h4, h5⟩ := F.ex
  refine ⟨⟨fun pins s σ H Q I ⟨ph, S, r, M, Q0, hs, ht, hq⟩ => wpAny_Call_Name_kw (ld_glob I hg h2 ?_ hdb)⟩⟩
  refine PySem.W.callWith_KW0 (h₀ := X.base) I.ok.mod.kin h3 hall (thn (hkw.pk.run pos pins s σ H _ I ⟨ph, S, r, M, _, hs, ht, fun _ _ z => z⟩) fun us s1 ⟨vs, H1, I1, r1, ph1, S1, M1, x1, hs1, ds, q1, hl, hp, g1⟩ => ⟨I1.kIn, ?_⟩) hpl
  rw [hks]
  obtain ⟨oc, od, kV, doc, pm, an, cdv, ct, osl, efd, lk, hcd⟩ := h5.ex
  have hul : us.length = ks.length := by rw [← Paired.length r1, q1.len]; exact hl
  have hb' : BindsTo s1 fd ⟨[], ks.zip us⟩ (ps.zip (pick l us)) := by
    rw [efd]
    exact .of_eq (hb kV doc pm an cdv ct us hul)
  refine wpAny_call (codeAny_mono (h1.run X.A X.stack s1 H1 ⟨[], ks.zip us⟩ (pick l us) (pick l vs) (post X.K ph1 S1 r σ Q0) E0 (hr.mono hj) gd I1.env0 hb' (pick_vals r1 l) ?_) fun r s' hz => ?_)
  · exact ⟨ph1, S1, M1, pick l ds, Q0, DX0, hp, hs1.drop, pick_rep q1 l, g1, fun v H2 ⟨ph2, S2, M2, x2, hs2, d, q2, h2⟩ => ⟨ph2, S2, M2, x2, hs1.back x2 hs2, d, q2, h2⟩, pX0 _ _⟩
  · match r, hz with
    | .error e, hz => exact passN pins σ H1 s1 e s' I1 hz
    | .ok (.ret u), hz => exact EP.up x1 (I1.after hz) hq
    | .ok .next, hz => exact False.elim hz
    | .ok .brk, hz => exact False.elim hz
    | .ok .cont, hz => exact False.elim hz
/-! ### a call of what an expression tells (a def out of a list of defs) -/
/-- the defs that may be meant: name, number of parameters, contract -/
abbrev Tab := List (Str × Nat × DSp)
def dCallV (L : Tab) (tf : DTE) (t : DXE → DTA) : DXE → DTE := fun E r M Q => tf r M fun d M0 => match d with
  | .glb x => ∃ n sp, (x, n, sp) ∈ L ∧ t E r M0 fun ds M1 => ds.length = n ∧ sp ds M1 Q (fun y dv M2 => E r y dv M2)
  | _ => False
end
end DL
namespace DL
open PySem PySem.Spec PyProof.Rows L2
theorem takes0 {X : Cx} : Takes X (fun _ _ _ _ => False) := fun _ _ ⟨_, _, _, _, _, _, _, _, _, _, _, _, _, _, _, _, z⟩ => z.elim
/-- a contract without errors -/
theorem Def.weak {P : Program} {w : World} {K : PySem.W.Frag} {mg : Str → Option Value} {base : Heap} {CX : CXT} {k : Nat} {x : Str} {st : Stmt} {ps : List Str} {sp sp' : DSp} (F : Def P w K mg base CX k x st ps sp) (h : ∀ ds M Q E, sp' ds M Q E → sp ds M Q DX0) : Def P w K mg base CX k x st ps sp' := by
  obtain ⟨f, fd, h1, h2, h3, h4, h5⟩ := F.ex
  refine ⟨f, fd, ⟨fun vs H Q E z => ?_, fun A outer s H args us vs Q E hr gd e0 hb r z => ?_⟩, h2, h3, h4, h5⟩
  · obtain ⟨ph, S, M, ds, Q0, E0, hl, hs, q, z, z1, z2⟩ := z
    rw [q.len]; exact hl
  · obtain ⟨ph, S, M, ds, Q0, E0, hl, hs, q, z, z1, z2⟩ := z
    exact h1.run A outer s H args us vs Q E hr gd e0 hb r ⟨ph, S, M, ds, Q0, DX0, hl, hs, q, h _ _ _ _ z, z1, fun cls d H2 ⟨_, _, _, _, _, _, _, _, _, _, _, _, _, _, _, _, y⟩ => y.elim⟩
end DL
namespace DL
open PySem PySem.Spec PyProof.Rows L2
/-- an error leaves, the cells being as they were -/
theorem rtx {M : Mem} {E : DX} {x : Str} {d : D} {r : Env} (hb : below M.length d = true) (h : E x d M) : dOut M E r x d M :=
  ⟨M, [], by rw [List.append_nil], Nat.le_refl _, hb, fun i c e => .inl e, h⟩
end DL
/-! DLZ: list(range), range with a step, enumerate, xs[::-1], xs.index -/
namespace DL
open PySem PySem.Spec PyProof.Rows L2
section
variable {X : Cx} {pos : Pos}
/-! ### list(range(..)) -/
theorem rgV_rep {K : PySem.W.Frag} {ph : Ph} {S : Hp} (a b : Int) : RepAll K ph S (rgV a b) (rng a (b - a).toNat) := by
  unfold rgV rng
  generalize (List.range (b - a).toNat) = l
  induction l with
  | nil => exact .nil
  | cons x l ih => exact .cons (.int _) ih
def gLRng (own : Bool) : GA := fun ds M Q => match ds with
  | [.int b] => RgOk 0 b ∧ (if own = true then Q (.own M.length) (M ++ [.lst (rng 0 b.toNat)]) else Q (.lst (rng 0 b.toNat)) M)
  | [.int a, .int b] => RgOk a b ∧ (if own = true then Q (.own M.length) (M ++ [.lst (rng a (b - a).toNat)]) else Q (.lst (rng a (b - a).toNat)) M)
  | _ => False
theorem de_lrng2 (own : Bool) {a b : Expr} {t u : DTE} {p p2 p3 : Pos} (hc : X.calm = true) (hm : X.mg "list" = none) (hm2 : X.mg "range" = none) (ha : DE X a t) (hb : DE X b u) (hg : Gl X "list" := by rfl) (hg2 : Gl X "range" := by rfl)
    (na : starEach [a, b] X.env = (false, eval a X.env) :: starEach [b] X.env := by rfl) (nb : starEach [b] X.env = (false, eval b X.env) :: starEach [] X.env := by rfl) (hpp : (backTo p3 (starEach [b] X.env)).any (·.1) = false := by rfl)
    (na2 : starEach [.Call (.Name "range" p2) [a, b] [] p3] X.env = (false, eval (.Call (.Name "range" p2) [a, b] [] p3) X.env) :: starEach [] X.env := by rfl) :
    DE X (.Call (.Name "list" p) [.Call (.Name "range" p2) [a, b] [] p3] [] pos) (dCB (gLRng own) (dCons t (dCons u dNil))) :=
  DE.of (pe_listRg hc hg hm (prg_2 hg2 hm2 ha.pe hb.pe na nb hpp) na2) fun ph S r M σ H Q hs ht Q' hq => ⟨ph, S, r, M, _, hs, ht, fun v H1 ⟨ph1, S1, M1, x1, hs1, d, q1, g1⟩ => ⟨ph1, S1, r, M1, _, hs1, g1, fun v2 H2 ⟨ph2, S2, M2, x2, hs2, e, q2, g2⟩ => by
    replace g2 : gLRng own [d, e] M2 Q := g2
    cases d <;> first | exact g2.elim | skip
    cases e <;> first | exact g2.elim | skip
    cases q1
    cases q2
    refine ⟨_, _, rfl, rfl, g2.1, fun p hp => ?_⟩
    have g3 := g2.2
    cases own with
    | false => exact hq _ _ (Aft.up (x1.trans x2) (Aft.frz hs2 hp fun x => ⟨_, .lst upd_same (rgV_rep _ _), g3⟩))
    | true => exact hq _ _ (Aft.up (x1.trans x2) (Aft.own hs2 hp (rgV_rep _ _) g3))⟩⟩
/-! ### range(a, b, c) -/
def rngC (lo c : Int) (n : Nat) : List D := (List.range n).map fun i => D.int (lo + (i : Nat) * c)
/-! ### enumerate -/
/-! ### xs[::-1] -/
def ownQ (own : Bool) (l : List D) (M : Mem) (Q : DQ) : Prop := if own = true then Q (.own M.length) (M ++ [.lst l]) else Q (.lst l) M
/-! ### xs.index(y) -/
mutual
def dpD : D → Bool
  | .non => true
  | .bl _ => true
  | .int _ => true
  | .str _ => true
  | .tup l => dpDAll l
  | .lst l => dpDAll l
  | _ => false
def dpDAll : List D → Bool
  | [] => true
  | d :: ds => dpD d && dpDAll ds
end
mutual
theorem Rep.dp {K : PySem.W.Frag} {ph : Ph} {H : Hp} : ∀ (d : D) (v : V) (p : PyData), Rep K ph H v d → dpD d = true → toPy d = some p → Dp K H v p
  | .non, _, _, h, _, e => by cases h; cases e; exact .non
  | .bl _, _, _, h, _, e => by cases h; cases e; exact .bl _
  | .int _, _, _, h, _, e => by cases h; cases e; exact .int _
  | .str _, _, _, h, _, e => by cases h; cases e; exact .str _
  | .tup ds, _, _, h, g, e => by
    cases h with
    | tup h1 h2 =>
      simp only [toPy] at e
      split at e
      · rename_i ps ep
        cases e
        exact .tup (h1.sq fun _ _ z => z) (RepAll.dp ds _ ps h2 (by simpa only [dpD] using g) ep)
      · cases e
  | .lst ds, _, _, h, g, e => by
    cases h with
    | lst h1 h2 =>
      simp only [toPy] at e
      split at e
      · rename_i ps ep
        cases e
        exact .lst (SqL.of h1) (RepAll.dp ds _ ps h2 (by simpa only [dpD] using g) ep)
      · cases e
  | .dct0, _, _, _, g, _ => by simp [dpD] at g
  | .scr _, _, _, _, g, _ => by simp [dpD] at g
  | .own _, _, _, _, g, _ => by simp [dpD] at g
  | .exc _ _, _, _, _, g, _ => by simp [dpD] at g
  | .glb _, _, _, _, g, _ => by simp [dpD] at g
  | .val _, _, _, _, g, _ => by simp [dpD] at g
theorem RepAll.dp {K : PySem.W.Frag} {ph : Ph} {H : Hp} : ∀ (ds : List D) (vs : List V) (ps : List PyData), RepAll K ph H vs ds → dpDAll ds = true → toPyAll ds = some ps → DpAll K H vs ps
  | [], _, _, h, _, e => by cases h; cases e; exact .nil
  | d :: ds, _, _, h, g, e => by
    cases h with
    | cons h1 h2 =>
      have g' : dpD d = true ∧ dpDAll ds = true := by simpa only [dpDAll, Bool.and_eq_true] using g
      simp only [toPyAll] at e
      split at e
      · rename_i p ps ep eps
        cases e
        exact .cons (Rep.dp d _ p h1 g'.1 ep) (RepAll.dp ds _ ps h2 g'.2 eps)
      · cases e
end
def dMeth (g : D → List D → Mem → DQ → Prop) (to : DTE) (t : DTA) : DTE := fun r M Q => to r M fun o M1 => (∃ l, res M1 o = .lst l) ∧ t r M1 fun ds M2 => g o ds M2 Q
end
end DL
namespace DL
open PySem PySem.Spec PyProof.Rows L2
def t_l_heart_e005 (c_l_root_d754 : DSp) : DTS :=
 (dSeq (dAsg (dCall 1 c_l_root_d754 [] DX0 (dCons (dVar 0) dNil)) (dName 1))
 (dSeq (dAsg (dCB (gLRng false) (dCons (dOp (rBin (fun _ _ => True) fun i j => i - j) (dC (.int 0)) (dVar 1)) (dCons (dOp gAdd (dVar 1) (dC (.int 1))) dNil))) (dName 2))
 (dRet (dLc false (dSeqI (dVar 2)) (dName 3) (dAnd (dTru (dOp gEq (dOp (rBin CMod fun i j => i.fmod j) (dCB gInt (dCons (dOp (rBin (fun _ _ => True) fun i j => i - j) (dVar 3) (dVar 0)) dNil)) (dC (.int 2))) (dC (.int 0)))) (dAnd (dTru (dOp (gCmpI fun i j => decide (i < j)) (dOp (rBin CMul fun i j => i * j) (dVar 3) (dVar 3)) (dVar 0))) (dTru (dOp (gCmpI fun i j => decide (i < j)) (dOp (rBin CMul fun i j => i * j) (dOp gAdd (dVar 3) (dC (.int 2))) (dOp gAdd (dVar 3) (dC (.int 2)))) (dVar 0))))) (dVar 3) [3]))))
def t_check_measure_x (c_is_measure_by : DSp) : DXE → DTS :=
 fun E => (dIfS (dNot (dTru (dCall 1 c_is_measure_by [] DX0 (dCons (dVar 0) dNil)))) (dRaise "InvalidMeasure" (dCons (dVar 0) dNil) E) dNext)
def t_heart_by : DTS :=
 (dRet (dTup (dCons (dC (.int 0)) (dCons (dOp (rBin CDiv fun i j => i.fdiv j) (dOp (rBin (fun _ _ => True) fun i j => i - j) (dVar 0) (dOp (rBin CMul fun i j => i * j) (dVar 1) (dVar 1))) (dC (.int 4))) (dCons (dC (.int 1)) (dCons (dVar 1) dNil))))))
end DL
namespace DL
open PySem PySem.Spec PyProof.Rows L2
end DL
/-! XC: list(range(a, b, c)); xs.count(y) -/
namespace L2
open PySem PySem.Spec PyProof.Rows PyProof
def rgCV (lo c : Int) (n : Nat) : List V := (List.range n).map fun i => V.int (lo + (i : Nat) * c)
theorem rgCV_length (lo c : Int) (n : Nat) : (rgCV lo c n).length = n := by unfold rgCV; rw [List.length_map, List.length_range]
theorem vals_rgC {a c : Int} {n : Nat} {acc : Array Value} (h : ItemsOf (fun i v => ∃ t, v = .int (a + i * c) t) acc n) : Vals (rgCV a c n) acc.toList := by
  have e : acc.toList.length = n := by rw [Array.length_toList]; exact h.1
  unfold rgCV
  rw [← e]
  refine vals_of_get acc.toList _ fun j u hj => ?_
  obtain ⟨t, rfl⟩ := h.2 j u (by rw [← hj, Array.getElem?_toList])
  exact ⟨t, rfl⟩
variable {X : Cx} {pos : Pos}
def tLstRg3 (ta : TA) : TE := fun σ H Q => ta σ H fun vs H1 => ∃ (i j c : Int) (n : Nat), vs = [.int i, .int j, .int c] ∧ RgC i j c n ∧ n ≤ 2 ^ 24 ∧ ∀ q, H1 q = none → Q (.ref q) (upd H1 q (.lst (rgCV i c n)))
theorem pe_listRg3 {a b c : Expr} {ta : TA} {p p2 p3 : Pos} (hc : X.calm = true) (hg : Gl X "list") (hm : X.mg "list" = none) (hg2 : Gl X "range") (hm2 : X.mg "range" = none) (ha : PA X [a, b, c] ta)
    (hs : starEach [a, b, c] X.env = (false, eval a X.env) :: starEach [b, c] X.env := by rfl) (hpl : (backTo p3 (starEach [b, c] X.env)).any (·.1) = false := by rfl)
    (na : starEach [.Call (.Name "range" p2) [a, b, c] [] p3] X.env = (false, eval (.Call (.Name "range" p2) [a, b, c] [] p3) X.env) :: starEach [] X.env := by rfl) :
    PE X (.Call (.Name "list" p) [.Call (.Name "range" p2) [a, b, c] [] p3] [] pos) (tLstRg3 ta) := by
  refine ⟨fun pins s σ H Q I h => ?_⟩
  have inner : wpAny (model X.prog X.w) X.A (eval (.Call (.Name "range" p2) [a, b, c] [] p3) X.env) (fun x s' => ∃ r i j k n t u v H', x = .ref r ∧ IsRange s'.heap r i j k t u v ∧ RgC i j k n ∧ n ≤ 2 ^ 24 ∧ Inv X pins σ H' s' ∧ ∀ q, H' q = none → Q (.ref q) (upd H' q (.lst (rgCV i k n)))) X.xe s := by
    refine Call_ (ld_blt I hg2 hm2 boot_range (PyProof.Rows.callWith_type1 (thn (ha.run p3 pins s σ H _ I h) fun us s1 ⟨vs, H1, I1, r1, q1⟩ => ?_) hs hpl))
    obtain ⟨i, j, k, n, e, ⟨c0, c1, c2, c3⟩, hn, q⟩ := q1
    subst e
    cases r1 with
    | cons r rr =>
      cases rr with
      | cons r' rr =>
        cases rr with
        | cons r'' rr =>
          cases rr
          obtain ⟨t, rfl⟩ := r
          obtain ⟨t', rfl⟩ := r'
          obtain ⟨t'', rfl⟩ := r''
          refine call_range_3 c0 ?_ (.inl (PyProof.noPylong_small c1))
          exact ⟨_, i, j, k, n, _, _, _, H1, rfl, IsRange.new _ _ _ _ _ _ _, ⟨c0, c1, c2, c3⟩, hn, I1.kept (t' := s1.toks) fun b o e => Heap.get?_push_of_some _ e, q⟩
  refine Call_ (ld_blt I hg hm boot_list (PyProof.Rows.callWith_type1 (args_cons (thn inner fun x s1 ⟨r, i, j, k, n, t, u, v, H1, ex, hr, ⟨c0, c1, c2, c3⟩, hn, I1, q⟩ => args_nil ?_) na) na))
  subst ex
  refine call_list_range (n := n) (I1.ok.hd hc) hr c2 c3 hn fun h' tk acc c' hk e' hi => ?_
  refine ⟨.ref s1.heap.objs.size, upd H1 s1.heap.objs.size (.lst (rgCV i k n)), I1.laid hk (Nat.le_refl _) (show ObjOk X.prog X.w _ _ _ (.lst (rgCV i k n)) from ⟨?_, acc.toList, c', vals_rgC hi, ?_⟩), rfl, q _ (I1.hok.fresh (Nat.le_refl _))⟩
  · rw [rgCV_length, sizeLine_eq]; omega
  · rw [Array.toArray_toList]; exact e'
end L2
/-! DLC: list(range(a, b, c)), xs.count(y), comparisons and reprs of data with owned lists within -/
namespace DL
open PySem PySem.Spec PyProof.Rows L2
section
variable {X : Cx} {pos : Pos}
theorem rgCV_rep {K : PySem.W.Frag} {ph : Ph} {S : Hp} (a c : Int) (n : Nat) : RepAll K ph S (rgCV a c n) (rngC a c n) := by
  unfold rgCV rngC
  generalize (List.range n) = l
  induction l with
  | nil => exact .nil
  | cons x l ih => exact .cons (.int _) ih
def gLRng3 (own : Bool) : GA := fun ds M Q => match ds with
  | [.int a, .int b, .int c] => ∃ n, RgC a b c n ∧ n ≤ 2 ^ 24 ∧ ownQ own (rngC a c n) M Q
  | _ => False
theorem de_lrng3 (own : Bool) {a b c : Expr} {t : DTA} {p p2 p3 : Pos} (hc : X.calm = true) (hm : X.mg "list" = none) (hm2 : X.mg "range" = none) (ha : DA X [a, b, c] t) (hg : Gl X "list" := by rfl) (hg2 : Gl X "range" := by rfl)
    (hs : starEach [a, b, c] X.env = (false, eval a X.env) :: starEach [b, c] X.env := by rfl) (hpl : (backTo p3 (starEach [b, c] X.env)).any (·.1) = false := by rfl)
    (na2 : starEach [.Call (.Name "range" p2) [a, b, c] [] p3] X.env = (false, eval (.Call (.Name "range" p2) [a, b, c] [] p3) X.env) :: starEach [] X.env := by rfl) :
    DE X (.Call (.Name "list" p) [.Call (.Name "range" p2) [a, b, c] [] p3] [] pos) (dCB (gLRng3 own) t) :=
  DE.of (pe_listRg3 hc hg hm hg2 hm2 ha.pa hs hpl na2) fun ph S r M σ H Q hs ht Q' hq => ⟨ph, S, r, M, _, hs, ht, fun vs H1 ⟨ph1, S1, M1, x1, hs1, ds, q1, g1⟩ => by
    match ds, q1, g1 with
    | [.int a, .int b, .int c], .cons q (.cons q' (.cons q'' .nil)), ⟨n, h, hn, g⟩ =>
      cases q
      cases q'
      cases q''
      refine ⟨a, b, c, n, rfl, h, hn, fun p hp => ?_⟩
      cases own with
      | false => exact hq _ _ (Aft.up x1 (Aft.frz hs1 hp fun x => ⟨_, .lst upd_same (rgCV_rep _ _ _), g⟩))
      | true => exact hq _ _ (Aft.up x1 (Aft.own hs1 hp (rgCV_rep _ _ _) g))⟩
/-! ### xs.count(y) -/
/-! ### owned lists within -/
def cellL (M : Mem) (k : Nat) : Option (List D) := match M[k]? with
  | some (.lst ds) => some ds
  | _ => none
mutual
/-- every owned list within as it stands -/
def resD (M : Mem) : D → D
  | .own k => match cellL M k with
    | some ds => .lst ds
    | none => .own k
  | .tup l => .tup (resDA M l)
  | .lst l => .lst (resDA M l)
  | d => d
def resDA (M : Mem) : List D → List D
  | [] => []
  | d :: ds => resD M d :: resDA M ds
end
end
end DL
namespace DL
open PySem PySem.Spec PyProof.Rows L2
def t_l_steps_3e4d (c_l_common_6be5 : DSp) : DTS :=
 (dSeq (dAsg (dOp (rBin (fun _ _ => True) fun i j => i - j) (dOp (rBin (fun _ _ => True) fun i j => i - j) (dC (.int 0)) (dVar 1)) (dVar 2)) (dName 3))
 (dRet (dAndV (dOp (gCmpI fun i j => decide (j ≤ i)) (dVar 3) (dC (.int 2))) (dOp gEq (dCall 2 c_l_common_6be5 [] DX0 (dCons (dOp (rBin CDiv fun i j => i.fdiv j) (dVar 3) (dC (.int 2))) (dCons (dOp (rBin CDiv fun i j => i.fdiv j) (dOp (rBin (fun _ _ => True) fun i j => i - j) (dVar 0) (dOp (rBin CMul fun i j => i * j) (dVar 1) (dVar 1))) (dC (.int 4))) dNil))) (dC (.int 1))))))
def t_is_step_by (c_common_by : DSp) : DTS :=
 (dSeq (dAsg (dOp (rBin (fun _ _ => True) fun i j => i - j) (dOp (rBin (fun _ _ => True) fun i j => i - j) (dC (.int 0)) (dVar 1)) (dVar 2)) (dName 3))
 (dRet (dAndV (dOp (gCmpI fun i j => decide (j ≤ i)) (dVar 3) (dC (.int 2))) (dOp gEq (dCall 2 c_common_by [] DX0 (dCons (dOp (rBin CDiv fun i j => i.fdiv j) (dVar 3) (dC (.int 2))) (dCons (dOp (rBin CDiv fun i j => i.fdiv j) (dOp (rBin (fun _ _ => True) fun i j => i - j) (dVar 0) (dOp (rBin CMul fun i j => i * j) (dVar 1) (dVar 1))) (dC (.int 4))) dNil))) (dC (.int 1))))))
end DL
/-! XD: repr of a list whose items may be dicts, where no list within is asked about -/
namespace L2
open PySem PySem.Spec PyProof.Rows PyProof
section
variable {prog : Program} {w : World} {A : Around} {E : Value → Shared → Prop} {s : Shared} {Q : Value → Shared → Prop}
theorem repr_listZ {a : Addr} {o : Obj} {vs : Array Value} {n : Nat} {xs : List PyData} {as : List Addr} (ho : s.heap.get? a = some o) (oc : o.cls = .type "list") (od : o.data = .seq vs n) (rs : ReadsAll s.heap vs.toList xs as)
    (sh : PyData.showableAll xs = true) (no : sysModules ∉ as) (gd : A.guards = some []) (un : A.units + (PyData.depthAll xs + 3) < cLine) (len : (PyData.list xs).shown.length ≤ sizeLine)
    (q : ∀ h' u tk, (∀ b o, s.heap.get? b = some o → h'.get? b = some o) → Q (.str (PyData.list xs).shown u) { s with heap := h', toks := tk }) :
    wpAny (model prog w) A (call (.builtin "repr") [.ref a]) Q E s := by
  have len2 : (listText (PyData.shownAll xs)).length ≤ sizeLine := by simpa only [PyData.shown] using len
  obtain ⟨cs, deep, each⟩ := ReprAllK.of_readsAll (prog := prog) (w := w) rs sh (fun _ => no) (fun t ht => Nat.le_trans (listText_mem_le ht) len2)
  have away : a ∉ cs := not_mem_of_deeper (.list ho oc od rs) (by simp only [PyData.depth]; omega) deep
  refine call_repr_slot (by omega) ⟨o, ho, oc⟩ F.slot_list_repr.toG ?_
  simp only [PyData.shown] at q
  cases vs with
  | mk l =>
    cases l with
    | nil =>
      cases (show ReadsAll s.heap [] xs as from rs)
      simp only [PyData.shownAll, listText_nil] at q
      exact call_list_repr_empty ⟨o, ho, oc⟩ ho od ⟨_, _, rfl, q s.heap _ _ fun _ _ z => z⟩
    | cons x l =>
      refine call_list_reprK ho oc od away (by simpa using each.length_eq) (fun i y z => each.item i y (by simpa using z)) gd (fun b _ => Clear.nil b) ?_ (fun _ _ z => z) (fun h' u tk kp => ⟨_, _, rfl, q h' u tk kp⟩) len2
      show A.units + 1 + (PyData.depthAll xs + 1) < cLine
      omega
end
end L2
/-! DLR: how readings are shown -/
namespace DL
open PySem PySem.Spec PyProof.Rows L2
/-! ### while -/
/-- the same, the measure told apart -/
theorem dwhile_of {c : DTT} {t : DTS} {E : DEnds} {r : Env} {M : Mem} (W : Nat → Env → Mem → Prop) (n : Nat) (h0 : W n r M)
    (step : ∀ n r M, W n r M → c r M fun b M1 => if b = true then t { E with nx := fun r' M' => ∃ m', m' < n ∧ W m' r' M', ct := fun r' M' => ∃ m', m' < n ∧ W m' r' M', bk := E.nx } r M1 else E.nx r M1) : dWhile c t E r M := ⟨W, ⟨n, h0⟩, step⟩
/-! ### comparing plain data -/
theorem gEq_int {i j : Int} {M : Mem} {Q : DQ} : gEq (.int i) (.int j) M Q = Q (.bl (i == j)) M := rfl
theorem gNe_int {i j : Int} {M : Mem} {Q : DQ} : gNe (.int i) (.int j) M Q = Q (.bl (!(i == j))) M := rfl
theorem gEq_bl {i j : Bool} {M : Mem} {Q : DQ} : gEq (.bl i) (.bl j) M Q = Q (.bl (i == j)) M := rfl
theorem gNe_bl {i j : Bool} {M : Mem} {Q : DQ} : gNe (.bl i) (.bl j) M Q = Q (.bl (!(i == j))) M := rfl
/-! ### the end of a def -/
theorem rtq {M : Mem} {Q : DQ} {d : D} (q : Q d M) (hb : below M.length d = true := by rfl) : Rtq M Q d M := ⟨M, [], (List.append_nil M).symm, Nat.le_refl _, hb, fun _ _ h => .inl h, q⟩
theorem rtqG {M G : Mem} {Q : DQ} {d : D} (q : Q d M) (hb : below M.length d = true := by rfl) : Rtq M Q d (M ++ G) := ⟨M, G, rfl, Nat.le_refl _, hb, fun _ _ h => .inl h, q⟩
/-- new cells stay, others were changed: all of them plain -/
theorem rtqC {M M1 : Mem} {Q : DQ} {d : D} (q : Q d M1) (hl : M.length ≤ M1.length) (hb : below M1.length d = true) (hc : ∀ (i : Nat) (c : Own), M1[i]? = some c → M[i]? = some c ∨ belowO M1.length c = true) : Rtq M Q d M1 := ⟨M1, [], (List.append_nil _).symm, hl, hb, hc, q⟩
end DL
namespace DL
open PySem PySem.Spec PyProof.Rows L2
/-! ### comprehensions -/
theorem lcW_pure {ds : List D} {C : Mem → Prop} {g : DTG} {tt : DTT} {te : DTE} {r : Env} {M : Mem} {Q : DQ} (f : D → Option D) (hC : C M) (hl : ds.length ≤ sizeLine)
    (step : ∀ d ∈ ds, ∀ (Y : D → Mem → Prop) (N : Mem → Prop), (match f d with | some e => Y e M | none => N M) → g d r M fun r2 M2 => tt r2 M2 fun b M3 => if b = true then te r2 M3 Y else N M3)
    (q : Q (.lst (ds.filterMap f)) M) : lcW false ds C g tt te r M Q := by
  refine ⟨fun i acc M' => M' = M ∧ acc = (ds.take i).filterMap f ∧ i ≤ ds.length, ⟨rfl, rfl, Nat.zero_le _⟩, ?_⟩
  rintro i acc M' ⟨rfl, rfl, hi⟩
  refine ⟨hC, fun hd => ?_, fun d ed => ?_⟩
  · rw [if_neg Bool.false_ne_true]
    rw [List.take_of_length_le hd]; exact q
  · have hlt : i < ds.length := (List.getElem?_eq_some_iff.mp ed).1
    have ht : ds.take (i + 1) = ds.take i ++ [d] := by rw [List.take_add_one, ed]; rfl
    refine step d (List.mem_of_getElem? ed) _ _ ?_
    split
    · rename_i e he
      refine ⟨?_, rfl, ?_, hlt⟩
      · have h1 : ((ds.take i).filterMap f).length ≤ (ds.take i).length := List.length_filterMap_le _ _
        have h2 : (ds.take i).length ≤ i := by rw [List.length_take]; omega
        omega
      · rw [ht, List.filterMap_append]
        simp [he]
    · rename_i he
      refine ⟨rfl, ?_, hlt⟩
      rw [ht, List.filterMap_append]
      simp [he]
/-! ### data that may be compared -/
mutual
def fine (n : Nat) : D → Bool
  | .non => true
  | .bl _ => true
  | .int _ => true
  | .str x => PyData.strOk x
  | .tup l => match n with
    | 0 => false
    | n + 1 => fineAll n l
  | .lst l => match n with
    | 0 => false
    | n + 1 => fineAll n l
  | _ => false
def fineAll (n : Nat) : List D → Bool
  | [] => true
  | d :: ds => fine n d && fineAll n ds
end
mutual
theorem fine_py : ∀ (n : Nat) (d : D), fine n d = true → ∃ p, toPy d = some p ∧ p.canLay0 = true ∧ p.depth ≤ n
  | n, .non, _ => ⟨.none, rfl, by simp only [PyData.canLay0], by simp only [PyData.depth]; omega⟩
  | n, .bl b, _ => ⟨.bool b, rfl, by simp only [PyData.canLay0], by simp only [PyData.depth]; omega⟩
  | n, .int i, _ => ⟨.int i, rfl, by simp only [PyData.canLay0], by simp only [PyData.depth]; omega⟩
  | n, .str x, h => ⟨.str x, rfl, by simpa only [PyData.canLay0, fine] using h, by simp only [PyData.depth]; omega⟩
  | 0, .tup l, h => by simp [fine] at h
  | n + 1, .tup l, h => by
    obtain ⟨ps, h1, h2, h3, _⟩ := fine_pyAll n l (by simpa only [fine] using h)
    exact ⟨.tuple ps, by simp only [toPy, h1], by simpa only [PyData.canLay0] using h2, by simp only [PyData.depth]; omega⟩
  | 0, .lst l, h => by simp [fine] at h
  | n + 1, .lst l, h => by
    obtain ⟨ps, h1, h2, h3, _⟩ := fine_pyAll n l (by simpa only [fine] using h)
    exact ⟨.list ps, by simp only [toPy, h1], by simpa only [PyData.canLay0] using h2, by simp only [PyData.depth]; omega⟩
  | n, .dct0, h => by simp [fine] at h
  | n, .scr _, h => by simp [fine] at h
  | n, .own _, h => by simp [fine] at h
  | n, .exc _ _, h => by simp [fine] at h
  | n, .glb _, h => by simp [fine] at h
  | n, .val _, h => by simp [fine] at h
theorem fine_pyAll : ∀ (n : Nat) (ds : List D), fineAll n ds = true → ∃ ps, toPyAll ds = some ps ∧ PyData.canLayAll0 ps = true ∧ PyData.depthAll ps ≤ n ∧ ps.length = ds.length
  | n, [], _ => ⟨[], rfl, by simp only [PyData.canLayAll0], by simp only [PyData.depthAll]; omega, rfl⟩
  | n, d :: ds, h => by
    have h' : fine n d = true ∧ fineAll n ds = true := by simpa only [fineAll, Bool.and_eq_true] using h
    obtain ⟨p, a1, a2, a3⟩ := fine_py n d h'.1
    obtain ⟨ps, b1, b2, b3, b4⟩ := fine_pyAll n ds h'.2
    exact ⟨p :: ps, by simp only [toPyAll, a1, b1], by simp only [PyData.canLayAll0, a2, b2, Bool.and_self], by simp only [PyData.depthAll]; omega, by rw [List.length_cons, List.length_cons, b4]⟩
end
theorem cmpd_fine {n : Nat} {d : D} (h : fine n d = true) (hn : n ≤ 64 := by decide) : ∃ p, toPy d = some p ∧ cmpd d = some p := by
  obtain ⟨p, h1, h2, h3⟩ := fine_py n d h
  refine ⟨p, h1, ?_⟩
  unfold cmpd
  rw [h1]
  have : SeqAt.shaped p = true := by unfold SeqAt.shaped; rw [h2]; simp; omega
  simp only [this, if_true]
theorem fineAll_iff {n : Nat} : ∀ {l : List D}, fineAll n l = true ↔ ∀ d ∈ l, fine n d = true
  | [] => by simp [fineAll]
  | d :: l => by simp only [fineAll, Bool.and_eq_true, List.mem_cons, forall_eq_or_imp, fineAll_iff (l := l)]
theorem res_fine {n : Nat} {d : D} {M : Mem} (h : fine n d = true) : res M d = d := by
  cases d <;> first | rfl | (simp [fine] at h)
theorem eqv_self {n : Nat} {d : D} {p : PyData} (h : fine n d = true) (hp : toPy d = some p) : PyData.eqv p p = true := by
  obtain ⟨p', h1, h2, _⟩ := fine_py n d h
  rw [hp] at h1; cases h1
  exact SeqAt.eqv_refl p h2
theorem eqB_self {n : Nat} {d : D} (h : fine n d = true) (hn : n ≤ 64 := by decide) : eqB d d = some true := by
  obtain ⟨p, h1, h2⟩ := cmpd_fine h hn
  unfold eqB
  split
  · simp_all
  · rw [h2]
    show some (PyData.eqv p p) = _
    rw [eqv_self h h1]
theorem eqB_nil {n : Nat} {l : List D} (h : fineAll n l = true) (hn : n ≤ 60 := by decide) : eqB (.lst l) (.lst []) = some l.isEmpty := by
  have hf : fine (n + 1) (.lst l) = true := by simpa only [fine] using h
  obtain ⟨p, h1, h2⟩ := cmpd_fine hf (by omega)
  obtain ⟨ps, b1, _, _, b4⟩ := fine_pyAll n l h
  have e : p = .list ps := by simp only [toPy, b1] at h1; exact (Option.some.inj h1).symm
  subst e
  show (match cmpd (.lst l), cmpd (.lst []) with
    | some p, some q => some (PyData.eqv p q)
    | _, _ => none) = _
  rw [h2]
  show some (PyData.eqv (.list ps) (.list [])) = _
  cases l with
  | nil => cases ps with
    | nil => rfl
    | cons _ _ => simp at b4
  | cons _ _ => cases ps with
    | nil => simp at b4
    | cons _ _ => rfl
/-- a list beside the empty one -/
theorem gNe_nil' {n : Nat} {l : List D} {M : Mem} {Q : DQ} (h : fineAll n l = true) (q : Q (.bl (!l.isEmpty)) M) (hn : n ≤ 60 := by decide) : gNe (.lst l) (.lst []) M Q := by
  unfold gNe
  show match eqB (.lst l) (.lst []) with | some b => Q (.bl (!b)) M | none => False
  rw [eqB_nil h hn]
  exact q
theorem gNe_strs {a b : Str} {M : Mem} {Q : DQ} : gNe (.str a) (.str b) M Q = Q (.bl (!(a == b))) M := rfl
theorem gEq_strs {a b : Str} {M : Mem} {Q : DQ} : gEq (.str a) (.str b) M Q = Q (.bl (a == b)) M := rfl
/-! ### data that may be shown -/
mutual
def lit (B : Nat) : D → Bool
  | .int i => decide (i.natAbs.log2 < B)
  | .tup l => litAll B l
  | .lst l => litAll B l
  | _ => true
def litAll (B : Nat) : List D → Bool
  | [] => true
  | d :: ds => lit B d && litAll B ds
end
mutual
def wt (B : Nat) : D → Nat
  | .int _ => B + 1
  | .str x => x.cps.size
  | .tup l => wtAll B l
  | .lst l => wtAll B l
  | _ => 0
def wtAll (B : Nat) : List D → Nat
  | [] => 0
  | d :: ds => wt B d + 1 + wtAll B ds
end
theorem strOk_short {x : Str} (h : PyData.strOk x = true) : ∀ c ∈ x.cps.toList, c < 16 ^ 8 := by
  have h0 : x.cps.all (· < 0x110000) = true := h
  intro c hc
  have h1 := (Array.all_eq_true_iff_forall_mem.mp h0) c (Array.mem_toList_iff.mp hc)
  have h2 : c < 0x110000 := by simpa using h1
  have e : (16 : Nat) ^ 8 = 4294967296 := by decide
  omega
mutual
theorem lit_py (B : Nat) (hB : B ≤ 1919) : ∀ (n : Nat) (d : D) (p : PyData), fine n d = true → lit B d = true → toPy d = some p → p.showable = true ∧ p.leavesShort (B + 8) = true ∧ p.weight ≤ wt B d
  | n, .non, p, _, _, e => by cases e; exact ⟨by simp only [PyData.showable], by simp only [PyData.leavesShort], by simp only [PyData.weight]; omega⟩
  | n, .bl b, p, _, _, e => by cases e; exact ⟨by simp only [PyData.showable], by simp only [PyData.leavesShort], by simp only [PyData.weight]; omega⟩
  | n, .int i, p, _, h, e => by
    cases e
    have h' : i.natAbs.log2 < B := by simpa only [lit, decide_eq_true_eq] using h
    refine ⟨?_, ?_, ?_⟩
    · simp only [PyData.showable, decide_eq_true_eq]; omega
    · simp only [PyData.leavesShort, decide_eq_true_eq]
      show (Str.ofString (toString i)).length ≤ _
      rw [PySem.ofString_length]
      have := int_text_length_le (a := i) (k := B) (by omega) h'
      omega
    · simp only [PyData.weight, wt]
      split <;> omega
  | n, .str x, p, hf, _, e => by
    cases e
    refine ⟨by simp only [PyData.showable], ?_, by simp only [PyData.weight, wt]; omega⟩
    simp only [PyData.leavesShort, List.all_eq_true, decide_eq_true_eq]
    exact strOk_short (by simpa only [fine] using hf)
  | 0, .tup l, p, h, _, _ => by simp [fine] at h
  | 0, .lst l, p, h, _, _ => by simp [fine] at h
  | n + 1, .tup l, p, h, h2, e => by
    obtain ⟨ps, e1, _⟩ := fine_pyAll n l (by simpa only [fine] using h)
    have e' : p = .tuple ps := by simp only [toPy, e1] at e; exact (Option.some.inj e).symm
    subst e'
    obtain ⟨a, b, c⟩ := lit_pyAll B hB n l ps (by simpa only [fine] using h) (by simpa only [lit] using h2) e1
    exact ⟨by simpa only [PyData.showable] using a, by simpa only [PyData.leavesShort] using b, by simpa only [PyData.weight, wt] using c⟩
  | n + 1, .lst l, p, h, h2, e => by
    obtain ⟨ps, e1, _⟩ := fine_pyAll n l (by simpa only [fine] using h)
    have e' : p = .list ps := by simp only [toPy, e1] at e; exact (Option.some.inj e).symm
    subst e'
    obtain ⟨a, b, c⟩ := lit_pyAll B hB n l ps (by simpa only [fine] using h) (by simpa only [lit] using h2) e1
    exact ⟨by simpa only [PyData.showable] using a, by simpa only [PyData.leavesShort] using b, by simpa only [PyData.weight, wt] using c⟩
  | n, .dct0, _, h, _, _ => by simp [fine] at h
  | n, .scr _, _, h, _, _ => by simp [fine] at h
  | n, .own _, _, h, _, _ => by simp [fine] at h
  | n, .exc _ _, _, h, _, _ => by simp [fine] at h
  | n, .glb _, _, h, _, _ => by simp [fine] at h
  | n, .val _, _, h, _, _ => by simp [fine] at h
theorem lit_pyAll (B : Nat) (hB : B ≤ 1919) : ∀ (n : Nat) (ds : List D) (ps : List PyData), fineAll n ds = true → litAll B ds = true → toPyAll ds = some ps → PyData.showableAll ps = true ∧ PyData.leavesShortAll (B + 8) ps = true ∧ PyData.weightAll ps ≤ wtAll B ds
  | n, [], ps, _, _, e => by cases e; exact ⟨by simp only [PyData.showableAll], by simp only [PyData.leavesShortAll], by simp only [PyData.weightAll]; omega⟩
  | n, d :: ds, ps, h, h2, e => by
    have h' : fine n d = true ∧ fineAll n ds = true := by simpa only [fineAll, Bool.and_eq_true] using h
    have h2' : lit B d = true ∧ litAll B ds = true := by simpa only [litAll, Bool.and_eq_true] using h2
    obtain ⟨p, a1, _, _⟩ := fine_py n d h'.1
    obtain ⟨qs, b1, _, _, _⟩ := fine_pyAll n ds h'.2
    have e' : ps = p :: qs := by simp only [toPyAll, a1, b1] at e; exact (Option.some.inj e).symm
    subst e'
    obtain ⟨c1, c2, c3⟩ := lit_py B hB n d p h'.1 h2'.1 a1
    obtain ⟨d1, d2, d3⟩ := lit_pyAll B hB n ds qs h'.2 h2'.2 b1
    refine ⟨by simp only [PyData.showableAll, c1, d1, Bool.and_self], by simp only [PyData.leavesShortAll, c2, d2, Bool.and_self], ?_⟩
    simp only [PyData.weightAll, wtAll]; omega
end
/-- d's repr is covered: ints of B bits, at most -/
theorem shw_of (B n : Nat) {d : D} (h : fine n d = true) (hl : lit B d = true) (hw : (B + 10) * wt B d + B + 8 ≤ 16777216) (hB : B ≤ 1919 := by decide) (hn : n ≤ 64 := by decide) : ∃ z, shwn d = some z := by
  obtain ⟨p, e1, e2, e3⟩ := fine_py n d h
  obtain ⟨a, b, c⟩ := lit_py B hB n d p h hl e1
  have h1 := PyData.shown_le (B + 8) (by omega) p b
  have h2 : (B + 8 + 2) * p.weight ≤ (B + 10) * wt B d := Nat.mul_le_mul (by omega) c
  refine ⟨p.shown, ?_⟩
  unfold shwn
  rw [e1]
  dsimp only
  rw [if_pos ⟨a, by omega, by rw [sizeLine_eq]; omega, PyData.hasDict_of_canLay p e2⟩]
/-! ### items by a written index -/
section
variable {α : Type}
theorem atI_of (n : Nat) {l : List α} (h : n < l.length) : atI l (n : Int) = l[n]? := by
  unfold atI ixN
  rw [if_pos (by omega), if_pos (by omega)]
  rfl
theorem atI_0 {a : α} {l : List α} : atI (a :: l) 0 = some a := atI_of 0 (by simp)
theorem atI_1 {a b : α} {l : List α} : atI (a :: b :: l) 1 = some b := atI_of 1 (by simp)
theorem atI_2 {a b c : α} {l : List α} : atI (a :: b :: c :: l) 2 = some c := atI_of 2 (by simp)
theorem atI_3 {a b c d : α} {l : List α} : atI (a :: b :: c :: d :: l) 3 = some d := atI_of 3 (by simp)
theorem atI_4 {a b c d e : α} {l : List α} : atI (a :: b :: c :: d :: e :: l) 4 = some e := atI_of 4 (by simp)
theorem atI_5 {a b c d e f : α} {l : List α} : atI (a :: b :: c :: d :: e :: f :: l) 5 = some f := atI_of 5 (by simp)
theorem ixN_30 : ixN 3 0 = some 0 := by decide
theorem ixN_31 : ixN 3 1 = some 1 := by decide
theorem ixN_32 : ixN 3 2 = some 2 := by decide
end
theorem rs_lst {M : Mem} {l : List D} : res M (.lst l) = .lst l := rfl
theorem rs_tup {M : Mem} {l : List D} : res M (.tup l) = .tup l := rfl
theorem rs_scr {M : Mem} {l : List Int} : res M (.scr l) = .scr l := rfl
theorem rs_int {M : Mem} {i : Int} : res M (.int i) = .int i := rfl
theorem intsD_map : ∀ ns : List Int, intsD (ns.map D.int) = some ns
  | [] => rfl
  | n :: ns => by rw [List.map_cons]; unfold intsD; rw [intsD_map ns]
theorem cut_map (ns : List Int) (lo hi : Option Int) : ∃ xs : List Int, cutD (ns.map D.int) lo hi = xs.map D.int := by
  unfold cutD
  rw [← List.map_drop, ← List.map_take]
  exact ⟨_, rfl⟩
end DL
/-! DLD: repr of data with empty dicts -/
namespace DL
open PySem PySem.Spec PyProof.Rows L2
mutual
/-- no list within -/
def nolst : D → Bool
  | .lst _ => false
  | .own _ => false
  | .tup l => nolstA l
  | _ => true
def nolstA : List D → Bool
  | [] => true
  | d :: ds => nolst d && nolstA ds
end
section
variable {X : Cx} {pins : List (Addr × Obj)} {s : Shared} {ph : Ph} {σ : St} {H : Hp}
mutual
theorem Rep.readsZ (I : Inv X pins σ H s) : ∀ (d : D) (v : V) (u : Value) (p : PyData), Rep X.K ph H v d → RelV v u → toPy d = some p → nolst d = true → ∃ as, Reads s.heap u p as ∧ sysModules ∉ as
  | .non, _, _, _, h, rv, e, _ => by cases h; cases rv; cases e; exact ⟨_, .none, by simp⟩
  | .bl _, _, _, _, h, rv, e, _ => by cases h; cases rv; cases e; exact ⟨_, .bool _, by simp⟩
  | .int _, _, _, _, h, rv, e, _ => by cases h; obtain ⟨t, rfl⟩ := rv; cases e; exact ⟨_, .int _ _, by simp⟩
  | .str _, _, _, _, h, rv, e, _ => by cases h; obtain ⟨t, rfl⟩ := rv; cases e; exact ⟨_, .str _ _, by simp⟩
  | .tup ds, _, _, _, h, rv, e, n => by
    cases h with
    | tup h1 h2 =>
      cases rv
      simp only [toPy] at e
      split at e
      · rename_i ps ep
        cases e
        obtain ⟨its, rx, ⟨o, ho, hc, n', hd⟩, _⟩ := I.tuple (h1.sq fun _ _ z => z)
        obtain ⟨as, q, qa⟩ := RepAll.readsZ I ds _ its ps h2 rx ep (by simpa only [nolst] using n)
        exact ⟨_, .tuple ho hc hd q, qa⟩
      · cases e
  | .lst ds, _, _, _, _, _, _, n => by simp [nolst] at n
  | .dct0, _, _, _, h, rv, e, _ => by
    cases h with
    | dct0 h1 =>
      cases rv
      cases e
      obtain ⟨_, hs, vs, hk, o, es, ep, ho, hx, hd, _, he, _⟩ := I.hok _ _ h1
      cases hk
      have e0 : es = #[] := by
        cases es with
        | mk l =>
          cases l with
          | nil => rfl
          | cons x l => exact nomatch he
      subst e0
      refine ⟨_, .dict ho hx.1 hd .nil .nil, fun ha => ?_⟩
      simp at ha
      rw [← ha] at hs
      exact absurd hs (by decide)
  | .scr ns, _, _, _, _, _, e, _ => by cases e
  | .own _, _, _, _, _, _, e, _ => by cases e
  | .exc _ _, _, _, _, _, _, e, _ => by cases e
  | .glb _, _, _, _, _, _, e, _ => by cases e
  | .val _, _, _, _, _, _, e, _ => by cases e
theorem RepAll.readsZ (I : Inv X pins σ H s) : ∀ (ds : List D) (vs : List V) (us : List Value) (ps : List PyData), RepAll X.K ph H vs ds → Vals vs us → toPyAll ds = some ps → nolstA ds = true → ∃ as, ReadsAll s.heap us ps as ∧ sysModules ∉ as
  | [], _, _, _, h, rv, e, _ => by cases h; cases rv; cases e; exact ⟨_, .nil, by simp⟩
  | d :: ds, _, _, _, h, rv, e, n => by
    have n' : nolst d = true ∧ nolstA ds = true := by simpa only [nolstA, Bool.and_eq_true] using n
    cases h with
    | cons h1 h2 =>
      cases rv with
      | cons r1 r2 =>
        simp only [toPyAll] at e
        split at e
        · rename_i p ps ep eps
          cases e
          obtain ⟨as, q1, a1⟩ := Rep.readsZ I d _ _ p h1 r1 ep n'.1
          obtain ⟨bs, q2, a2⟩ := RepAll.readsZ I ds _ _ ps h2 r2 eps n'.2
          refine ⟨_, .cons q1 q2, fun ha => ?_⟩
          rcases List.mem_append.mp ha with ha | ha
          · exact a1 ha
          · exact a2 ha
        · cases e
end
end
/-- dicts may stand within -/
def okZ : D → Bool
  | .lst l => nolstA l
  | d => nolst d
def shwnZ (d : D) : Option Str := match toPy d with
  | some p => if p.showable = true ∧ p.depth ≤ 64 ∧ p.shown.length ≤ sizeLine ∧ (p.hasDict = false ∨ okZ d = true) then some p.shown else none
  | none => none
theorem shwnZ_of {d : D} {z : Str} (h : shwn d = some z) : shwnZ d = some z := by
  unfold shwn at h
  unfold shwnZ
  split at h
  · rename_i p ep
    by_cases hp : p.showable = true ∧ p.depth ≤ 64 ∧ p.shown.length ≤ sizeLine ∧ p.hasDict = false
    · rw [if_pos hp] at h
      try rw [ep]
      try dsimp only
      rw [if_pos ⟨hp.1, hp.2.1, hp.2.2.1, .inl hp.2.2.2⟩]
      exact h
    · rw [if_neg hp] at h; cases h
  · cases h
end DL
namespace DL
open PySem PySem.Spec PyProof.Rows L2
end DL
/-! XE: a dict beside an int -/
namespace L2
open PySem PySem.Spec PyProof.Rows PyProof
open PySem.SeqAt PySem.AutoSeq1 PySem.Sem
end L2
/-! DLG: an empty dict beside an int -/
namespace DL
open PySem PySem.Spec PyProof.Rows L2
end DL
namespace DL
open PySem PySem.Spec PyProof.Rows L2
end DL
/-! DLK: the module's own tuples, starred items, len(set(..)) of ints -/
namespace DL
open PySem PySem.Spec PyProof.Rows L2
/-- the module's value at a is the data d -/
def KRep (K : PySem.W.Frag) (u : Value) (d : D) : Prop := ∃ v : V, RelV v u ∧ ∀ ph S, Rep K ph S v d
theorem KRep.int {K : PySem.W.Frag} {i : Int} {t : Tok} : KRep K (.int i t) (.int i) := ⟨.int i, ⟨t, rfl⟩, fun _ _ => .int _⟩
inductive KReps (K : PySem.W.Frag) : List Value → List D → Prop
  | nil : KReps K [] []
  | cons {u : Value} {us : List Value} {d : D} {ds : List D} : KRep K u d → KReps K us ds → KReps K (u :: us) (d :: ds)
theorem KRep.all {K : PySem.W.Frag} : ∀ {us : List Value} {ds : List D}, KReps K us ds → ∃ vs, Vals vs us ∧ ∀ ph S, RepAll K ph S vs ds
  | _, _, .nil => ⟨[], .nil, fun _ _ => .nil⟩
  | _, _, .cons ⟨v, r, q⟩ t => by
    obtain ⟨vs, rs, qs⟩ := KRep.all t
    exact ⟨v :: vs, .cons r rs, fun ph S => .cons (q ph S) (qs ph S)⟩
theorem KRep.tup {K : PySem.W.Frag} {a : Addr} {dd : Option Addr} {its : Array Value} {n : Nat} {sl : Array (Option Value)} {ds : List D} (l : K.lookup a = some ⟨.type "tuple", dd, .seq its n, sl⟩)
    (h : KReps K its.toList ds) (hz : its.size ≤ 100 := by decide) : KRep K (.ref a) (.tup ds) := by
  obtain ⟨vs, rs, qs⟩ := KRep.all h
  exact ⟨.ref a, rfl, fun ph S => .tup (.inr ⟨_, its, n, l, rfl, rfl, by rw [sizeLine_eq]; omega, rs⟩) (qs ph S)⟩
end DL
namespace DL
open PySem PySem.Spec PyProof.Rows L2
end DL
namespace DL
open PySem PySem.Spec PyProof.Rows L2
def t_lots_by (c_bounds_by : DSp) (c_is_step_by : DSp) : DTS :=
 (dSeq (dAsg (dCall 1 c_bounds_by [] DX0 (dCons (dVar 0) dNil)) (dGTup 2 (dGCons (dName 1) (dGCons (dName 2) dGNil))))
 (dSeq (dPar 3 4 (dCons (dCB (gLRng3 false) (dCons (dVar 1) (dCons (dOp gAdd (dVar 2) (dC (.int 1))) (dCons (dC (.int 2)) dNil)))) (dCons (dOwn dNil) dNil)))
 (dSeq (dWhile (dTru (dOp gNe (dVar 3) (dLst dNil))) (dSeq (dAsg (dTup (dCons (dLst (dCons (dOp gIx (dVar 3) (dC (.int 0))) dNil)) (dCons (dC (.int 0)) dNil))) (dGTup 2 (dGCons (dName 5) (dGCons (dName 6) dGNil))))
 (dSeq (dWhile (dTru (dOp (gCmpI fun i j => decide (i < j)) (dVar 6) (dCB gLen (dCons (dVar 5) dNil)))) (dSeq (dAsg (dOp gAdd (dVar 5) (dLc false (dSeqI (dVar 3)) (dName 7) (dAnd (dTru (dOp (gIn true) (dVar 7) (dVar 5))) (dTru (dCall 3 c_is_step_by [] DX0 (dCons (dVar 0) (dCons (dOp gIx (dVar 5) (dVar 6)) (dCons (dVar 7) dNil)))))) (dVar 7) [7])) (dName 5))
 (dAsg (dOp gAdd (dVar 6) (dC (.int 1))) (dName 6))))
 (dSeq (dAsg (dLc false (dSeqI (dVar 3)) (dName 7) (dTru (dOp (gIn true) (dVar 7) (dVar 5))) (dVar 7) [7]) (dName 3))
 (dDrop (dMet gAppend (dVar 4) (dCons (dCB (gSorted false) (dCons (dVar 5) dNil)) dNil)))))))
 (dRet (dFrz (dVar 4))))))
end DL
namespace DL
open PySem PySem.Spec PyProof.Rows L2
end DL
/-! ZS: zip(xs, ys, strict=True) of two lists of one length -/
namespace PySem
open Sem (wp)
abbrev IsZipS (h : Heap) (z TI TO : Addr) (f0 : Value) : Prop :=
  h.get? z = some { cls := .type "zip", dict := none, data := .fields #[f0, .bool false, .bool true, .ref TI, .ref TO], slots := #[] }
end PySem
namespace DL
open PySem PySem.Spec PyProof.Rows L2
/-! DLM: zip(xs, ys, strict=True) of two lists of one length -/
end DL
namespace DL
open PySem PySem.Spec PyProof.Rows L2
end DL
namespace DL
open PySem PySem.Spec PyProof.Rows L2
end DL
namespace DL
open PySem PySem.Spec PyProof.Rows L2
/-! DLE: owned lists within owned lists: comparisons and reprs -/
def resE (M : Mem) : Nat → D → D
  | 0, d => d
  | n + 1, .own k => match cellL M k with
    | some ds => .lst (ds.map (resE M n))
    | none => .own k
  | n + 1, .tup l => .tup (l.map (resE M n))
  | n + 1, .lst l => .lst (l.map (resE M n))
  | _ + 1, d => d
section
variable {K : PySem.W.Frag} {ph : Ph} {S : Hp} {r : Env} {M : Mem} {σ : St} {H : Hp}
theorem RepAll.mapE {f : D → D} (h : ∀ (d : D) (v : V), Rep K ph S v d → Rep K ph H v (f d)) : ∀ (ds : List D) (vs : List V), RepAll K ph S vs ds → RepAll K ph H vs (ds.map f)
  | [], _, .nil => .nil
  | d :: ds, _, .cons q t => .cons (h d _ q) (RepAll.mapE h ds _ t)
theorem Rep.resE (hs : Sat K ph S r M σ H) : ∀ (n : Nat) (d : D) (v : V), Rep K ph S v d → Rep K ph H v (resE M n d)
  | 0, d, v, q => hs.read q
  | n + 1, .own k, v, q => by
    unfold DL.resE
    split
    · rename_i ds hk
      have hk' : M[k]? = some (.lst ds) := by
        unfold cellL at hk
        split at hk
        · rename_i e; cases hk; exact e
        · cases hk
      cases q with
      | own h =>
        obtain ⟨a, xs, c1, c2, c3, c4⟩ := hs.cell k ds hk'
        rw [h] at c1; cases c1
        exact .lst c3 (RepAll.mapE (fun d v q => Rep.resE hs n d v q) _ _ c4)
    · exact hs.read q
  | n + 1, .tup l, _, .tup h1 h2 => by
    unfold DL.resE
    exact .tup (h1.ext hs.sub) (RepAll.mapE (fun d v q => Rep.resE hs n d v q) _ _ h2)
  | n + 1, .lst l, _, .lst h1 h2 => by
    unfold DL.resE
    exact .lst (hs.sub _ _ h1) (RepAll.mapE (fun d v q => Rep.resE hs n d v q) _ _ h2)
  | _ + 1, .non, _, q => hs.read q
  | _ + 1, .bl _, _, q => hs.read q
  | _ + 1, .int _, _, q => hs.read q
  | _ + 1, .str _, _, q => hs.read q
  | _ + 1, .dct0, _, q => hs.read q
  | _ + 1, .scr _, _, q => hs.read q
  | _ + 1, .exc _ _, _, q => hs.read q
  | _ + 1, .glb _, _, q => hs.read q
  | _ + 1, .val _, _, q => hs.read q
end
section
variable {X : Cx} {K : PySem.W.Frag} {ph : Ph} {S : Hp} {r : Env} {M : Mem} {σ : St} {H : Hp}
theorem resE_str {d : D} {z : Str} (h : DL.resE M 4 d = .str z) : d = .str z := by
  cases d <;> unfold DL.resE at h <;> first | exact h | (split at h <;> cases h) | cases h
end
def gEqE : G2 := fun x y M Q => match eqB (resE M 4 x) (resE M 4 y) with
  | some b => Q (.bl b) M
  | none => False
def gNeE : G2 := fun x y M Q => match eqB (resE M 4 x) (resE M 4 y) with
  | some b => Q (.bl (!b)) M
  | none => False
theorem opd_eqE (hu : X.A.units + 64 < cLine) : OpD X (compareOp .Eq) gEqE := by
  intro pins s σ H ph S r M x y dx dy v u Q I hs rx ry qx qy hg
  unfold gEqE at hg
  split at hg
  · rename_i b e
    rcases eqB_of e with ⟨p, q, e1, e2, rfl⟩ | ⟨p, q, e1, e2, rfl⟩
    · cases resE_str e1; cases resE_str e2
      cases qx; cases qy
      obtain ⟨_, rfl⟩ := rx
      obtain ⟨_, rfl⟩ := ry
      exact PyProof.Rows.eq_str ⟨.bl _, H, I, rfl, Aft.here hs ⟨_, .bl _, hg⟩⟩
    · obtain ⟨as, h1, _⟩ := Rep.reads I _ _ _ _ (Rep.resE hs 4 _ _ qx) rx (cmpd_some e1).1
      obtain ⟨bs, h2, _⟩ := Rep.reads I _ _ _ _ (Rep.resE hs 4 _ _ qy) ry (cmpd_some e2).1
      exact SeqAt.compareEq_shaped h1 h2 (cmpd_some e1).2 (cmpd_some e2).2 hu ⟨.bl _, H, I, rfl, Aft.here hs ⟨_, .bl _, hg⟩⟩
  · exact hg.elim
theorem opd_neE (hu : X.A.units + 64 < cLine) : OpD X (compareOp .NotEq) gNeE := by
  intro pins s σ H ph S r M x y dx dy v u Q I hs rx ry qx qy hg
  unfold gNeE at hg
  split at hg
  · rename_i b e
    rcases eqB_of e with ⟨p, q, e1, e2, rfl⟩ | ⟨p, q, e1, e2, rfl⟩
    · cases resE_str e1; cases resE_str e2
      cases qx; cases qy
      obtain ⟨_, rfl⟩ := rx
      obtain ⟨_, rfl⟩ := ry
      exact PyProof.Rows.ne_str ⟨.bl _, H, I, rfl, Aft.here hs ⟨_, .bl _, hg⟩⟩
    · obtain ⟨as, h1, _⟩ := Rep.reads I _ _ _ _ (Rep.resE hs 4 _ _ qx) rx (cmpd_some e1).1
      obtain ⟨bs, h2, _⟩ := Rep.reads I _ _ _ _ (Rep.resE hs 4 _ _ qy) ry (cmpd_some e2).1
      exact SeqAt.compareNe_shaped h1 h2 (cmpd_some e1).2 (cmpd_some e2).2 hu ⟨.bl _, H, I, rfl, Aft.here hs ⟨_, .bl _, hg⟩⟩
  · exact hg.elim
def gReprE : GA := fun ds M Q => match ds with
  | [d] => match shwnZ (resE M 4 d) with
    | some z => Q (.str z) M
    | none => False
  | _ => False
section
variable {X : Cx}
theorem cd_reprE (gd : X.A.guards = some []) (hu : X.A.units + 200 < cLine) : CallD X (.builtin "repr") gReprE := by
  intro pins s σ H ph S r M vs us ds Q I hs rv q hg
  match ds, vs, us, rv, q, hg with
  | [d], [v], [u], .cons ru .nil, .cons q .nil, hg =>
    unfold gReprE at hg
    dsimp only at hg
    split at hg
    · rename_i z ez
      unfold shwnZ at ez
      split at ez
      · rename_i p ep
        by_cases hp : p.showable = true ∧ p.depth ≤ 64 ∧ p.shown.length ≤ sizeLine ∧ (p.hasDict = false ∨ okZ (resE M 4 d) = true)
        · rw [if_pos hp] at ez
          cases ez
          have qd := Rep.resE hs 4 _ _ q
          have plain : ∀ as, Reads s.heap u p as → (p.hasDict = true → sysModules ∉ as) → wpAny (model X.prog X.w) X.A (call (.builtin "repr") [u]) (fun x s' => ∃ v H', Inv X pins σ H' s' ∧ RelV v x ∧ Aft X.K ph S r σ H' fun ph' S' M' => ∃ d', Rep X.K ph' S' v d' ∧ Q d' M') X.xe s := fun as h1 hn => by
            by_cases hr : ∃ a, u = .ref a
            · obtain ⟨a, rfl⟩ := hr
              refine PySem.repr_of_reads' h1 hp.1 hn gd ?_ (fun _ _ e => e) (fun h' u tk k => ⟨.str p.shown, H, I.kept k, ⟨_, rfl⟩, Aft.here hs ⟨_, .str _, hg⟩⟩) hp.2.2.1
              have := hp.2.1; omega
            · exact shown_flat h1 (fun a e => hr ⟨a, e⟩) hp.1 hp.2.2.1 fun tk tk' => ⟨.str p.shown, H, I.tok _, ⟨_, rfl⟩, Aft.here hs ⟨_, .str _, hg⟩⟩
          rcases hp.2.2.2 with h0 | h0
          · obtain ⟨as, h1, _⟩ := Rep.reads I _ _ _ _ qd ru ep
            exact plain as h1 fun z => by rw [h0] at z; cases z
          · by_cases hl : nolst (resE M 4 d) = true
            · obtain ⟨as, h1, h2⟩ := Rep.readsZ I _ _ _ _ qd ru ep hl
              exact plain as h1 fun _ => h2
            · generalize resE M 4 d = dd at *
              cases dd with
              | lst l =>
                cases qd with
                | lst g1 g2 =>
                  cases ru
                  simp only [toPy] at ep
                  split at ep
                  · rename_i ps eps
                    cases ep
                    obtain ⟨its, rx, ⟨o, n, ho, hc, _, hd⟩, _⟩ := I.list (SqL.of g1)
                    obtain ⟨as, q2, qa⟩ := RepAll.readsZ I l _ its ps g2 rx eps h0
                    refine repr_listZ ho hc hd q2 (by simpa only [PyData.showable] using hp.1) qa gd ?_ hp.2.2.1 fun h' u tk k => ⟨.str _, H, I.kept k, ⟨_, rfl⟩, Aft.here hs ⟨_, .str _, hg⟩⟩
                    have := hp.2.1
                    simp only [PyData.depth] at this
                    omega
                  · cases ep
              | _ => exact absurd h0 hl
        · rw [if_neg hp] at ez; cases ez
      · cases ez
    · exact hg.elim
end
end DL
namespace DL
open PySem PySem.Spec PyProof.Rows L2
end DL
namespace DL
open PySem PySem.Spec PyProof.Rows L2
end DL
namespace DL
open PySem PySem.Spec PyProof.Rows L2
end DL
namespace DL
open PySem PySem.Spec PyProof.Rows L2
end DL
/-! ZT: zip(xs, ys, zs, strict=True) of three lists of one length -/
namespace PySem
open Sem (wp)
abbrev IsTri (h : Heap) (T : Addr) (a b c : Value) : Prop := h.get? T = some { cls := .type "tuple", data := .seq #[a, b, c] }
end PySem
namespace DL
open PySem PySem.Spec PyProof.Rows L2
/-! DLN: zip(xs, ys, zs, strict=True) of three lists of one length -/
end DL
/-! ZV: the zip of three kept under a name, walked later -/
namespace RZ
open PySem PySem.Spec PyProof.Rows L2
section
variable {X : Cx} {pins : List (Addr × Obj)} {σ : L2.St} {H : Hp} {s : Shared}
/-- what is known of an object that belongs to a walk -/
def Phi (X : Cx) (a : Addr) (φ : Heap → Prop) : HO := .ext fun h => φ h ∧ a ∉ X.fs ∧ (a ∈ X.ex ∨ X.s_0.heap.objs.size ≤ a)
end
/-- the six objects of a walk by three, tracked -/
structure Six where
  z : Addr
  TI : Addr
  TO : Addr
  i1 : Addr
  i2 : Addr
  i3 : Addr
def Six.trk (X : Cx) (q : Six) (a b c : Addr) (H : Hp) : Hp :=
  upd (upd (upd (upd (upd (upd H q.i3 (Phi X q.i3 fun h => h.IsListIter q.i3 c 0)) q.i2 (Phi X q.i2 fun h => h.IsListIter q.i2 b 0)) q.i1 (Phi X q.i1 fun h => h.IsListIter q.i1 a 0))
    q.TO (Phi X q.TO fun h => IsTri h q.TO .none .none .none)) q.TI (Phi X q.TI fun h => IsTri h q.TI (.ref q.i1) (.ref q.i2) (.ref q.i3))) q.z (Phi X q.z fun h => IsZipS h q.z q.TI q.TO .none)
end RZ
namespace DL
open PySem PySem.Spec PyProof.Rows L2
/-! DLO: lines = zip(a, b, c, strict=True); found.append([.. for .. in lines]) -/
end DL
/-! XF: Booleans as numbers -/
namespace PySem
end PySem
namespace DL
open PySem PySem.Spec PyProof.Rows L2
/-! DLP: sums and differences of Booleans -/
end DL
namespace DL
open PySem PySem.Spec PyProof.Rows L2
end DL
namespace DL
open PySem PySem.Spec PyProof.Rows L2
/-! DLQ: the place of an owned list within owned lists -/
def gIndexE (o : D) (ds : List D) (M : Mem) (Q : DQ) : Prop := match ds with
  | [y] => ∃ l ps p j z, resE M 4 o = .lst l ∧ dpDAll l = true ∧ dpD (resE M 4 y) = true ∧ cmpd (.lst l) = some (.list ps) ∧ cmpd (resE M 4 y) = some p ∧ ps[j]? = some z ∧ PyData.eqv z p = true ∧ (∀ (m : Nat) z', m < j → ps[m]? = some z' → PyData.eqv z' p = false) ∧ Q (.int (j : Nat)) M
  | _ => False
section
variable {X : Cx} {pos : Pos}
theorem de_indexE {o e : Expr} {to : DTE} {t : DTA} {apos cpos : Pos} (hu : X.A.units + 65 < cLine) (ho : DE X o to) (ha : DA X [e] t) (h1 : attributeBase o "index" X.env (eval o X.env) = eval o X.env := by rfl)
    (h2 : (((backTo cpos (starEach [e] X.env)).all fun x => !x.1) && (backToKw cpos (keywordEach [] X.env)).all (fun x => x.1.isSome) && decide (([e] : List Expr).length + ([] : List Keyword).length + (if ([] : List Keyword).isEmpty then 0 else 1) < 30)) = true := by rfl) (h3 : (apos.endLine == cpos.line) = true := by rfl)
    (h4 : starEach [e] X.env = (false, eval e X.env) :: starEach [] X.env := by rfl) (h5 : (backTo cpos (starEach [] X.env)).any (·.1) = false := by rfl) : DE X (.Call (.Attribute o "index" apos) [e] [] cpos) (dMeth gIndexE to t) :=
  DE.of (pe_bm PySem.F.plainAttrs_list PySem.F.slot_list_index PySem.F.type_list_index (mt_indexD hu) ho.pe ha.pa h1 h2 h3 h4 h5) fun ph S r M σ H Q hs ht Q' hq => ⟨ph, S, r, M, _, hs, ht, fun v H1 ⟨ph1, S1, M1, x1, hs1, d, q1, ⟨l0, e0⟩, g1⟩ => by
    obtain ⟨a0, xs0, rfl, hp0, hx0⟩ := res_lst hs1 q1 e0
    refine ⟨.inl ⟨rfl, _, SqL.of hp0⟩, ph1, S1, r, M1, _, hs1, g1, fun vs H2 ⟨ph2, S2, M2, x2, hs2, ds, q2, g2⟩ => ?_⟩
    match ds, q2, g2 with
    | [y], .cons q3 .nil, ⟨l, ps, p, j, z, el, hl, hy, cl, cy, hz, hzj, hno, g⟩ =>
      have ql := Rep.resE hs2 4 _ _ (q1.up x2)
      rw [el] at ql
      exact ⟨_, _, p, ps, j, z, rfl, rfl, Rep.dp _ _ _ ql (by simpa only [dpD] using hl) (cmpd_some cl).1, Rep.dp _ _ _ (Rep.resE hs2 4 _ _ q3) hy (cmpd_some cy).1, (cmpd_some cl).2, (cmpd_some cy).2, hz, hzj, hno, hq _ _ ⟨ph2, S2, M2, x1.trans x2, hs2, _, .int _, g⟩⟩⟩
end
end DL
namespace DL
open PySem PySem.Spec PyProof.Rows L2
def t_l_lots_1d9e (c_l_heart_e005 : DSp) (c_l_steps_3e4d : DSp) (c_l_made_4c69 : DSp) : DTS :=
 (dSeq (dPar 1 2 (dCons (dCall 1 c_l_heart_e005 [] DX0 (dCons (dVar 0) dNil)) (dCons (dOwn dNil) dNil)))
 (dSeq (dFor (dRngI gRng1 (dCons (dCB gLen (dCons (dVar 1) dNil)) dNil)) (dName 3) (dSeq (dIfS (dTru (dOp gEq (dVar 1) (dLst dNil))) (dRet (dFrz (dVar 2))) dNext)
 (dSeq (dAsg (dTup (dCons (dLst (dCons (dOp gIx (dVar 1) (dC (.int 0))) dNil)) (dCons (dC (.int 0)) dNil))) (dGTup 2 (dGCons (dName 4) (dGCons (dName 5) dGNil))))
 (dSeq (dWhile (dTru (dOp (gCmpI fun i j => decide (i < j)) (dVar 5) (dCB gLen (dCons (dVar 4) dNil)))) (dSeq (dAsg (dOp gAdd (dVar 4) (dLc false (dSeqI (dVar 1)) (dName 6) (dAnd (dTru (dOp (gIn true) (dVar 6) (dVar 4))) (dTru (dCall 3 c_l_steps_3e4d [] DX0 (dCons (dVar 0) (dCons (dOp gIx (dVar 4) (dVar 5)) (dCons (dVar 6) dNil)))))) (dVar 6) [6])) (dName 4))
 (dAsg (dOp gAdd (dVar 5) (dC (.int 1))) (dName 5))))
 (dSeq (dAsg (dLc false (dSeqI (dVar 1)) (dName 6) (dTru (dOp (gIn true) (dVar 6) (dVar 4))) (dVar 6) [6]) (dName 1))
 (dDrop (dMet gAppend (dVar 2) (dCons (dLc false (dSeqI (dCB (gSorted false) (dCons (dVar 4) dNil))) (dName 6) dYes (dCall 2 c_l_made_4c69 [] DX0 (dCons (dVar 0) (dCons (dVar 6) dNil))) [6]) dNil))))))))
 (dRet (dFrz (dVar 2)))))
def t_heart_lots_o_x (c_check_measure_x : DSp) (c_bounds_by : DSp) (c_lots_by : DSp) (c_heart_by : DSp) : DXE → DTS :=
 fun E => (dSeq (dDrop (dCallX 1 c_check_measure_x (fun E => (dCons (dVar 0) dNil)) E))
 (dSeq (dAsg (dCall 1 c_bounds_by [] DX0 (dCons (dVar 0) dNil)) (dGTup 2 (dGCons (dName 1) (dGCons (dName 2) dGNil))))
 (dSeq (dIfS (dTru (dOp (gCmpI fun i j => decide (j < i)) (dOp gAdd (dOp (rBin CDiv fun i j => i.fdiv j) (dOp (rBin (fun _ _ => True) fun i j => i - j) (dVar 2) (dVar 1)) (dC (.int 2))) (dC (.int 1))) (dC (.int 100)))) (dRaise "TooMany" (dCons (dOp gAdd (dOp (rBin CDiv fun i j => i.fdiv j) (dOp (rBin (fun _ _ => True) fun i j => i - j) (dVar 2) (dVar 1)) (dC (.int 2))) (dC (.int 1))) dNil) E) dNext)
 (dRet (dLc true (dSeqI (dCall 1 c_lots_by [] DX0 (dCons (dVar 0) dNil))) (dName 3) dYes (dLc true (dSeqI (dVar 3)) (dName 4) dYes (dCall 2 c_heart_by [] DX0 (dCons (dVar 0) (dCons (dVar 4) dNil))) [4]) [3])))))
def t_l_one_right_1c8f (c_l_lots_1d9e : DSp) (c_heart_lots_o : DSp) : DTS :=
 (dSeq (dPar 1 2 (dCons (dCall 1 c_l_lots_1d9e [] DX0 (dCons (dVar 0) dNil)) (dCons (dCall 1 c_heart_lots_o [] DX0 (dCons (dVar 0) dNil)) dNil)))
 (dSeq (dIfS (dOr (dTru (dOp gNeE (dCB gReprE (dCons (dVar 2) dNil)) (dCB gReprE (dCons (dVar 1) dNil)))) (dTru (dOp gNeE (dCallK 1 1 c_heart_lots_o [0] DX0 (dCons (dVar 0) dNil)) (dVar 1)))) (dRet (dC (.bl false))) dNext)
 (dSeq (dIfS (dTru (dOp (gIn true) (dVar 0) (dLst (dCons (dC (.int 9)) (dCons (dC (.int 49)) (dCons (dC (.int 73)) (dCons (dC (.int 121)) (dCons (dC (.int 169)) dNil)))))))) (dIfS (dOr (dTru (dOp gNeE (dCB gLen (dCons (dVar 1) dNil)) (dOp gAdd (dC (.int 1)) (dCB gInt (dCons (dOp gEqE (dOp (rBin CMod fun i j => i.fmod j) (dCB gInt (dCons (dVar 0) dNil)) (dC (.int 8))) (dC (.int 1))) dNil))))) (dTru (dOp gNeE (dLc false (dSeqI (dVar 1)) (dName 3) (dAnd (dTru (dOp gEqE (dOp (rBin CMod fun i j => i.fmod j) (dCB gInt (dCons (dVar 0) dNil)) (dC (.int 8))) (dC (.int 1)))) (dTru (dOp gNeE (dLc false (dSeqI (dVar 3)) (dName 4) (dTru (dOp gNeE (dOp (rBin CMod fun i j => i.fmod j) (dCB gInt (dCons (dOp (rBin (fun _ _ => True) fun i j => i - j) (dOp gIx (dVar 4) (dC (.int 3))) (dOp gIx (dOp gIx (dVar 3) (dC (.int 0))) (dC (.int 3)))) dNil)) (dC (.int 4))) (dC (.int 0)))) (dVar 4) [4]) (dLst dNil)))) (dVar 3) [3]) (dLst dNil)))) (dRet (dC (.bl false))) dNext) dNext)
 (dSeq (dFor (dSeqI (dVar 2)) (dName 3) (dSeq (dAsg (dCB gReprE (dCons (dSl (gSl false) (dVar 2) (dPart (dOp gAdd (dMeth gIndexE (dVar 2) (dCons (dVar 3) dNil)) (dC (.int 1)))) dNoPart) dNil)) (dName 5))
 (dSeq (dDrop (dMet gAppend (dVar 3) (dCons (dC .non) dNil)))
 (dIfS (dTru (dOp gNeE (dCB gReprE (dCons (dSl (gSl false) (dVar 2) (dPart (dOp gAdd (dMeth gIndexE (dVar 2) (dCons (dVar 3) dNil)) (dC (.int 1)))) dNoPart) dNil)) (dVar 5))) (dRet (dC (.bl false))) dNext))))
 (dSeq (dDrop (dMet gAppend (dVar 2) (dCons (dC .non) dNil)))
 (dRet (dOp gEqE (dCB gReprE (dCons (dCall 1 c_heart_lots_o [] DX0 (dCons (dVar 0) dNil)) dNil)) (dCB gReprE (dCons (dVar 1) dNil)))))))))
def t_l_many_e760 (c_heart_lots_o_x : DSp) : DTS :=
 (dSeq (dAsg (dC .non) (dName 1))
 (dSeq (dTry "TooMany" 2 (fun E => (dAsg (dCallX 1 c_heart_lots_o_x (fun E => (dCons (dVar 0) dNil)) E) (dName 1))) (dAsg (dFld (dVar 2)) (dName 1)))
 (dRet (dVar 1))))
def t_l_law_1f95 (c_l_generator_b324 : DSp) (c_l_random_7821 : DSp) (c_l_one_right_1c8f : DSp) (c_l_measure_0db7 : DSp) (c_l_root_d754 : DSp) (c_l_many_e760 : DSp) (c_heart_lots_o : DSp) (c_l_heart_e005 : DSp) : DTS :=
 (dSeq (dAsg (dCall 2 c_l_generator_b324 [] DX0 (dCons (dVar 0) (dCons (dC (.int 0)) dNil))) (dName 1))
 (dSeq (dFor (dRngI gRng1 (dCons (dC (.int 3)) dNil)) (dName 2) (dSeq (dAsg (dOp gAdd (dC (.int 5)) (dCall 2 c_l_random_7821 [] DX0 (dCons (dVar 1) (dCons (dOp gIx (dLst (dCons (dC (.int 300)) (dCons (dC (.int 10180)) dNil))) (dCall 2 c_l_random_7821 [] DX0 (dCons (dVar 1) (dCons (dC (.int 2)) dNil)))) dNil)))) (dName 3))
 (dSeq (dAsg (dCB gMax (dCons (dC (.int 5)) (dCons (dOp gAdd (dOp (rBin (fun _ _ => True) fun i j => i - j) (dVar 3) (dOp (rBin CMod fun i j => i.fmod j) (dCB gInt (dCons (dVar 3) dNil)) (dC (.int 4)))) (dCall 2 c_l_random_7821 [] DX0 (dCons (dVar 1) (dCons (dC (.int 2)) dNil)))) dNil))) (dName 3))
 (dSeq (dIfS (dTru (dOp gEq (dCall 2 c_l_random_7821 [] DX0 (dCons (dVar 1) (dCons (dC (.int 3)) dNil))) (dC (.int 0)))) (dAsg (dOp gAdd (dOp (rBin (fun _ _ => True) fun i j => i - j) (dVar 3) (dOp (rBin CMod fun i j => i.fmod j) (dCB gInt (dCons (dVar 3) dNil)) (dC (.int 8)))) (dC (.int 9))) (dName 3)) dNext)
 (dIfS (dNot (dTru (dCall 1 c_l_one_right_1c8f [] DX0 (dCons (dVar 3) dNil)))) (dRet (dC (.bl false))) dNext)))))
 (dSeq (dAsg (dCall 2 c_l_measure_0db7 [] DX0 (dCons (dVar 1) (dCons (dC (.int 28)) dNil))) (dName 3))
 (dSeq (dAsg (dCall 1 c_l_root_d754 [] DX0 (dCons (dOp (rBin (fun _ _ => True) fun i j => i - j) (dVar 3) (dC (.int 1))) dNil)) (dName 4))
 (dSeq (dAsg (dOp (rBin (fun _ _ => True) fun i j => i - j) (dVar 4) (dOp (rBin CMod fun i j => i.fmod j) (dCB gInt (dCons (dOp gAdd (dVar 4) (dVar 3)) dNil)) (dC (.int 2)))) (dName 5))
 (dSeq (dIfS (dAnd (dTru (dOp (gCmpI fun i j => decide (j < i)) (dVar 5) (dC (.int 100)))) (dTru (dOp gNe (dCall 1 c_l_many_e760 [] DX0 (dCons (dVar 3) dNil)) (dVar 5)))) (dRet (dC (.bl false))) dNext)
 (dSeq (dIfS (dOr (dTru (dOp gNe (dLc false (dSeqI (dCall 1 c_heart_lots_o [] DX0 (dCons (dC (.int 10404)) dNil))) (dName 6) dYes (dCB gLen (dCons (dVar 6) dNil)) [6]) (dLst (dCons (dC (.int 100)) dNil)))) (dOr (dTru (dOp gNe (dCall 1 c_l_many_e760 [] DX0 (dCons (dC (.int 10205)) dNil)) (dC (.int 101)))) (dTru (dOp gNe (dCall 1 c_l_many_e760 [] DX0 (dCons (dC (.int 10408)) dNil)) (dC (.int 102)))))) (dRet (dC (.bl false))) dNext)
 (dSeq (dAsg (dOp gAdd (dOp gAdd (dC (.int 10600)) (dOp (rBin CMul fun i j => i * j) (dC (.int 4)) (dCall 2 c_l_random_7821 [] DX0 (dCons (dVar 1) (dCons (dC (.int 100)) dNil))))) (dC (.int 1))) (dName 7))
 (dSeq (dIfS (dOr (dTru (dOp gNe (dCall 1 c_l_many_e760 [] DX0 (dCons (dVar 7) dNil)) (dCB gLen (dCons (dCall 1 c_l_heart_e005 [] DX0 (dCons (dVar 7) dNil)) dNil)))) (dTru (dOp (gCmpI fun i j => decide (i < j)) (dCall 1 c_l_many_e760 [] DX0 (dCons (dVar 7) dNil)) (dC (.int 101))))) (dRet (dC (.bl false))) dNext)
 (dRet (dOp gEq (dLc false (dSeqI (dLst (dCons (dC (.int 5)) (dCons (dC (.int 8)) (dCons (dC (.int 9)) (dCons (dC (.int 17)) (dCons (dC (.int 49)) (dCons (dC (.int 73)) (dCons (dC (.int 121)) (dCons (dC (.int 169)) dNil)))))))))) (dName 3) dYes (dCB gLen (dCons (dCall 1 c_heart_lots_o [] DX0 (dCons (dVar 3) dNil)) dNil)) [3]) (dLst (dCons (dC (.int 1)) (dCons (dC (.int 1)) (dCons (dC (.int 1)) (dCons (dC (.int 2)) (dCons (dC (.int 3)) (dCons (dC (.int 3)) (dCons (dC (.int 3)) (dCons (dC (.int 3)) dNil))))))))))))))))))))
end DL
namespace C_k30
open PySem PySem.Spec PyProof.Rows L2 DL
def topS (i : Nat) : Stmt := PySem.Challenge.pw_slitsheets_k30_whole_lots_of_the_heart.main.body.getD i (.Pass ⟨0, 0, 0, 0⟩)
abbrev s_l_cell_cf3b : Stmt := topS 21
theorem sc_l_cell_cf3b : FnScope ["_law_script", "_law_index"] ["_law_script", "_law_index"] (defScope s_l_cell_cf3b) := ⟨rfl, rfl, rfl, by decide +kernel, rfl, by decide +kernel, by decide +kernel⟩
abbrev s_l_generator_b324 : Stmt := topS 22
theorem sc_l_generator_b324 : FnScope ["_law_script", "_law_index", "_law_seed"] ["_law_script", "_law_index"] (defScope s_l_generator_b324) := ⟨rfl, rfl, rfl, by decide +kernel, rfl, by decide +kernel, by decide +kernel⟩
abbrev s_l_hash_9cde : Stmt := topS 19
theorem sc_l_hash_9cde : FnScope ["_law_seed", "_law_index", "_law_mixed"] ["_law_seed", "_law_index"] (defScope s_l_hash_9cde) := ⟨rfl, rfl, rfl, by decide +kernel, rfl, by decide +kernel, by decide +kernel⟩
abbrev s_l_random_7821 : Stmt := topS 20
theorem sc_l_random_7821 : FnScope ["_law_generator_here", "_law_bound", "_law_drawn", "_law_turn"] ["_law_generator_here", "_law_bound"] (defScope s_l_random_7821) := ⟨rfl, rfl, rfl, by decide +kernel, rfl, by decide +kernel, by decide +kernel⟩
abbrev s_l_root_d754 : Stmt := topS 24
theorem sc_l_root_d754 : FnScope ["_law_number", "_law_low", "_law_high", "_law_middle"] ["_law_number"] (defScope s_l_root_d754) := ⟨rfl, rfl, rfl, by decide +kernel, rfl, by decide +kernel, by decide +kernel⟩
abbrev s_l_heart_e005 : Stmt := topS 26
theorem sc_l_heart_e005 : FnScope ["_law_measure_here", "_law_root_here", "_law_numbers", "_law_number"] ["_law_measure_here"] (defScope s_l_heart_e005) := ⟨rfl, rfl, rfl, by decide +kernel, rfl, by decide +kernel, by decide +kernel⟩
abbrev s_l_common_6be5 : Stmt := topS 23
theorem sc_l_common_6be5 : FnScope ["_law_one", "_law_other", "_law_low", "_law_high"] ["_law_one", "_law_other"] (defScope s_l_common_6be5) := ⟨rfl, rfl, rfl, by decide +kernel, rfl, by decide +kernel, by decide +kernel⟩
abbrev s_l_steps_3e4d : Stmt := topS 28
theorem sc_l_steps_3e4d : FnScope ["_law_measure_here", "_law_one", "_law_other", "_law_by"] ["_law_measure_here", "_law_one", "_law_other"] (defScope s_l_steps_3e4d) := ⟨rfl, rfl, rfl, by decide +kernel, rfl, by decide +kernel, by decide +kernel⟩
abbrev s_l_made_4c69 : Stmt := topS 27
theorem sc_l_made_4c69 : FnScope ["_law_measure_here", "_law_number"] ["_law_measure_here", "_law_number"] (defScope s_l_made_4c69) := ⟨rfl, rfl, rfl, by decide +kernel, rfl, by decide +kernel, by decide +kernel⟩
abbrev s_l_lots_1d9e : Stmt := topS 29
theorem sc_l_lots_1d9e : FnScope ["_law_measure_here", "_law_left", "_law_found", "_law_turn", "_law_lot", "_law_at", "_law_number"] ["_law_measure_here"] (defScope s_l_lots_1d9e) := ⟨rfl, rfl, rfl, by decide +kernel, rfl, by decide +kernel, by decide +kernel⟩
abbrev s_is_whole : Stmt := topS 6
theorem sc_is_whole : FnScope ["value"] ["value"] (defScope s_is_whole) := ⟨rfl, rfl, rfl, by decide +kernel, rfl, by decide +kernel, by decide +kernel⟩
abbrev s_is_between : Stmt := topS 7
theorem sc_is_between : FnScope ["value", "low", "high"] ["value", "low", "high"] (defScope s_is_between) := ⟨rfl, rfl, rfl, by decide +kernel, rfl, by decide +kernel, by decide +kernel⟩
abbrev s_is_measure_by : Stmt := topS 8
theorem sc_is_measure_by : FnScope ["value"] ["value"] (defScope s_is_measure_by) := ⟨rfl, rfl, rfl, by decide +kernel, rfl, by decide +kernel, by decide +kernel⟩
abbrev s_check_measure_x : Stmt := topS 9
theorem sc_check_measure_x : FnScope ["measure"] ["measure"] (defScope s_check_measure_x) := ⟨rfl, rfl, rfl, by decide +kernel, rfl, by decide +kernel, by decide +kernel⟩
abbrev s_root_floor_by : Stmt := topS 10
theorem sc_root_floor_by : FnScope ["number", "found", "again"] ["number"] (defScope s_root_floor_by) := ⟨rfl, rfl, rfl, by decide +kernel, rfl, by decide +kernel, by decide +kernel⟩
abbrev s_bounds_by : Stmt := topS 13
theorem sc_bounds_by : FnScope ["measure", "root", "low", "high"] ["measure"] (defScope s_bounds_by) := ⟨rfl, rfl, rfl, by decide +kernel, rfl, by decide +kernel, by decide +kernel⟩
abbrev s_common_by : Stmt := topS 11
theorem sc_common_by : FnScope ["one", "other", "low", "high"] ["one", "other"] (defScope s_common_by) := ⟨rfl, rfl, rfl, by decide +kernel, rfl, by decide +kernel, by decide +kernel⟩
abbrev s_is_step_by : Stmt := topS 15
theorem sc_is_step_by : FnScope ["measure", "one", "other", "by"] ["measure", "one", "other"] (defScope s_is_step_by) := ⟨rfl, rfl, rfl, by decide +kernel, rfl, by decide +kernel, by decide +kernel⟩
abbrev s_lots_by : Stmt := topS 16
theorem sc_lots_by : FnScope ["measure", "low", "high", "left", "found", "lot", "at", "number"] ["measure"] (defScope s_lots_by) := ⟨rfl, rfl, rfl, by decide +kernel, rfl, by decide +kernel, by decide +kernel⟩
abbrev s_heart_by : Stmt := topS 14
theorem sc_heart_by : FnScope ["measure", "number"] ["measure", "number"] (defScope s_heart_by) := ⟨rfl, rfl, rfl, by decide +kernel, rfl, by decide +kernel, by decide +kernel⟩
abbrev s_heart_lots_o_x : Stmt := topS 17
theorem sc_heart_lots_o_x : FnScope ["measure", "low", "high", "lot", "number"] ["measure"] (defScope s_heart_lots_o_x) := ⟨rfl, rfl, rfl, by decide +kernel, rfl, by decide +kernel, by decide +kernel⟩
abbrev s_l_one_right_1c8f : Stmt := topS 31
theorem sc_l_one_right_1c8f : FnScope ["_law_measure_here", "_law_due", "_law_told", "_law_lot", "_law_item", "_law_behind"] ["_law_measure_here"] (defScope s_l_one_right_1c8f) := ⟨rfl, rfl, rfl, by decide +kernel, rfl, by decide +kernel, by decide +kernel⟩
abbrev s_l_measure_0db7 : Stmt := topS 25
theorem sc_l_measure_0db7 : FnScope ["_law_generator_here", "_law_figures", "_law_bound", "_law_turn", "_law_number", "_law_found"] ["_law_generator_here", "_law_figures"] (defScope s_l_measure_0db7) := ⟨rfl, rfl, rfl, by decide +kernel, rfl, by decide +kernel, by decide +kernel⟩
abbrev s_l_many_e760 : Stmt := topS 30
theorem sc_l_many_e760 : FnScope ["_law_measure_here", "_law_told", "error"] ["_law_measure_here"] (defScope s_l_many_e760) := ⟨rfl, rfl, rfl, by decide +kernel, rfl, by decide +kernel, by decide +kernel⟩
abbrev s_l_law_1f95 : Stmt := topS 32
theorem sc_l_law_1f95 : FnScope ["_law_script", "_law_generator_here", "_law_turn", "_law_measure_here", "_law_root_here", "_law_many_here", "_law_lot", "_law_great"] ["_law_script"] (defScope s_l_law_1f95) := ⟨rfl, rfl, rfl, by decide +kernel, rfl, by decide +kernel, by decide +kernel⟩
abbrev k_InvalidMeasure : Stmt := XA.initOf (topS 2)
theorem it_InvalidMeasure : XA.InitTxt (defArgs k_InvalidMeasure) (defBody k_InvalidMeasure) (defScope k_InvalidMeasure) := ⟨⟨_, _, _, rfl⟩, ⟨_, _, _, _, _, _, _, _, _, rfl, ⟨_, fun _ => rfl⟩, fun _ => rfl⟩, rfl⟩
abbrev k_TooMany : Stmt := XA.initOf (topS 3)
theorem it_TooMany : XA.InitTxt (defArgs k_TooMany) (defBody k_TooMany) (defScope k_TooMany) := ⟨⟨_, _, _, rfl⟩, ⟨_, _, _, _, _, _, _, _, _, rfl, ⟨_, fun _ => rfl⟩, fun _ => rfl⟩, rfl⟩
/-- what the top has left -/
structure Txt (P : Program) (K : PySem.W.Frag) (mg : Str → Option Value) (base : Heap) : Prop where
  s_SheetError : ∃ S, XA.ShC K S ∧ mg "SheetError" = some (.ref S)
  e_InvalidMeasure : ∃ C S fI, XA.ErM P K mg "InvalidMeasure" C S fI
  e_TooMany : ∃ C S fI, XA.ErM P K mg "TooMany" C S fI
  n_abs : mg "abs" = none
  n_bool : mg "bool" = none
  n_int : mg "int" = none
  n_isinstance : mg "isinstance" = none
  n_len : mg "len" = none
  n_list : mg "list" = none
  n_max : mg "max" = none
  n_range : mg "range" = none
  n_repr : mg "repr" = none
  n_sorted : mg "sorted" = none
  n_sum : mg "sum" = none
  c_LEAST : ∃ t, mg "LEAST" = some (.int 5 t)
  h_l_cell_cf3b : Here K mg "_law_cell" s_l_cell_cf3b ["_law_script", "_law_index"]
  h_l_generator_b324 : Here K mg "_law_generator" s_l_generator_b324 ["_law_script", "_law_index"]
  h_l_hash_9cde : Here K mg "_law_hash" s_l_hash_9cde ["_law_seed", "_law_index"]
  h_l_random_7821 : Here K mg "_law_random" s_l_random_7821 ["_law_generator_here", "_law_bound"]
  h_l_root_d754 : Here K mg "_law_root" s_l_root_d754 ["_law_number"]
  h_l_heart_e005 : Here K mg "_law_heart" s_l_heart_e005 ["_law_measure_here"]
  h_l_common_6be5 : Here K mg "_law_common" s_l_common_6be5 ["_law_one", "_law_other"]
  h_l_steps_3e4d : Here K mg "_law_steps" s_l_steps_3e4d ["_law_measure_here", "_law_one", "_law_other"]
  h_l_made_4c69 : Here K mg "_law_made" s_l_made_4c69 ["_law_measure_here", "_law_number"]
  h_l_lots_1d9e : Here K mg "_law_lots" s_l_lots_1d9e ["_law_measure_here"]
  h_is_whole : Here K mg "is_whole" s_is_whole ["value"]
  h_is_between : Here K mg "is_between" s_is_between ["value", "low", "high"]
  h_is_measure_by : Here K mg "is_measure_by" s_is_measure_by ["value"]
  h_check_measure_x : Here K mg "check_measure" s_check_measure_x ["measure"]
  h_root_floor_by : Here K mg "root_floor_by" s_root_floor_by ["number"]
  h_bounds_by : Here K mg "bounds_by" s_bounds_by ["measure"]
  h_common_by : Here K mg "common_by" s_common_by ["one", "other"]
  h_is_step_by : Here K mg "is_step_by" s_is_step_by ["measure", "one", "other"]
  h_lots_by : Here K mg "lots_by" s_lots_by ["measure"]
  h_heart_by : Here K mg "heart_by" s_heart_by ["measure", "number"]
  h_heart_lots_o_x : Here K mg "heart_lots" s_heart_lots_o_x ["measure"]
  h_l_one_right_1c8f : Here K mg "_law_one_right" s_l_one_right_1c8f ["_law_measure_here"]
  h_l_measure_0db7 : Here K mg "_law_measure" s_l_measure_0db7 ["_law_generator_here", "_law_figures"]
  h_l_many_e760 : Here K mg "_law_many" s_l_many_e760 ["_law_measure_here"]
  h_l_law_1f95 : Here K mg "law" s_l_law_1f95 ["_law_script"]
section
variable {P : Program} {w : World} {K : PySem.W.Frag} {mg : Str → Option Value} {base : Heap}
theorem ok_l_cell_cf3b {sp : DSp} (T : Txt P K mg base) (hread : ∀ ds M Q, ds.length = 2 → sp ds M Q DX0 → t_l_cell_cf3b (dEnds M Q) (startD 2 ds) M) (hX : ∀ ds M Q E, sp ds M Q E → sp ds M Q DX0 := by exact fun _ _ _ _ h => h) : Def P w K mg base CX0 1 "_law_cell" s_l_cell_cf3b ["_law_script", "_law_index"] sp :=
 T.h_l_cell_cf3b.ok (t := t_l_cell_cf3b) sc_l_cell_cf3b (fun f cdv A outer s H E hr gd => (dss_cons (ds_if (dt_cmp opd_lt (dv 1) (de_blt cd_len T.n_len (da_cons (dv 0) da_nil)) (nomark _)) (dss_one (ds_ret (de_ix (dv 0) (dv 1)))) dss_nil)
 (dss_one (ds_ret (de_op opd_mod (de_blt (cd_sum rfl) T.n_sum (da_cons (de_slL false (dv 0) do_none (do_some de_int)) da_nil)) de_int))))) hread hX
theorem ok_l_generator_b324 {c_l_cell_cf3b : DSp} {sp : DSp} (T : Txt P K mg base) (D_l_cell_cf3b : Def P w K mg base CX0 1 "_law_cell" s_l_cell_cf3b ["_law_script", "_law_index"] c_l_cell_cf3b) (hread : ∀ ds M Q, ds.length = 2 → sp ds M Q DX0 → t_l_generator_b324 c_l_cell_cf3b (dEnds M Q) (startD 3 ds) M) (hX : ∀ ds M Q E, sp ds M Q E → sp ds M Q DX0 := by exact fun _ _ _ _ h => h) : Def P w K mg base CX0 2 "_law_generator" s_l_generator_b324 ["_law_script", "_law_index"] sp :=
 T.h_l_generator_b324.ok (t := t_l_generator_b324 c_l_cell_cf3b) sc_l_generator_b324 (fun f cdv A outer s H E hr gd => (dss_cons (ds_set (i := 2) sc_l_generator_b324.nd (dcall D_l_cell_cf3b hr gd (da_cons (dv 0) (da_cons (dv 1) da_nil))))
 (dss_one (ds_ret (de_own (da_cons (de_op opd_mod (de_ty cd_int T.n_int (da_cons (de_blt (cd_max rfl) T.n_max (da_cons (de_op opd_sub (dv 2) (de_op opd_pow de_int de_int)) (da_cons de_int da_nil))) da_nil)) (de_op opd_pow (de_op opd_pow de_int de_int) de_int)) (da_cons (de_op opd_mod (de_ty cd_int T.n_int (da_cons (dv 2) da_nil)) de_int) (da_cons (de_op opd_mulI de_int (dv 1)) da_nil)))))))) hread hX
theorem ok_l_hash_9cde {sp : DSp} (T : Txt P K mg base) (hread : ∀ ds M Q, ds.length = 2 → sp ds M Q DX0 → t_l_hash_9cde (dEnds M Q) (startD 3 ds) M) (hX : ∀ ds M Q E, sp ds M Q E → sp ds M Q DX0 := by exact fun _ _ _ _ h => h) : Def P w K mg base CX0 1 "_law_hash" s_l_hash_9cde ["_law_seed", "_law_index"] sp :=
 T.h_l_hash_9cde.ok (t := t_l_hash_9cde) sc_l_hash_9cde (fun f cdv A outer s H E hr gd => (dss_cons (ds_set (i := 2) sc_l_hash_9cde.nd (de_op opd_mod (de_ty cd_int T.n_int (da_cons (de_op opd_add (de_op opd_add (de_op opd_add (de_op opd_mulI (dv 0) de_int) (de_op opd_mulI (de_op opd_mulI de_int (dv 1)) (dv 1))) (de_op opd_mulI de_int (dv 1))) de_int) da_nil)) de_int))
 (dss_cons (ds_set (i := 2) sc_l_hash_9cde.nd (de_op opd_mod (de_ty cd_int T.n_int (da_cons (de_op opd_add (de_op opd_add (de_op opd_mulI (dv 2) (dv 2)) (de_op opd_mulI de_int (dv 1))) de_int) da_nil)) de_int))
 (dss_one (ds_ret (de_op opd_mod (de_ty cd_int T.n_int (da_cons (de_op opd_mulI (dv 2) de_int) da_nil)) de_int)))))) hread hX
theorem ok_l_random_7821 {c_l_hash_9cde : DSp} {sp : DSp} (T : Txt P K mg base) (D_l_hash_9cde : Def P w K mg base CX0 1 "_law_hash" s_l_hash_9cde ["_law_seed", "_law_index"] c_l_hash_9cde) (hread : ∀ ds M Q, ds.length = 2 → sp ds M Q DX0 → t_l_random_7821 c_l_hash_9cde (dEnds M Q) (startD 4 ds) M) (hX : ∀ ds M Q E, sp ds M Q E → sp ds M Q DX0 := by exact fun _ _ _ _ h => h) : Def P w K mg base CX0 2 "_law_random" s_l_random_7821 ["_law_generator_here", "_law_bound"] sp :=
 T.h_l_random_7821.ok (t := t_l_random_7821 c_l_hash_9cde) sc_l_random_7821 (fun f cdv A outer s H E hr gd => (dss_cons (ds_if (dt_cmp opd_gt (de_ix (dv 0) de_int) de_int (nomark _)) (dss_cons (ds_set (i := 2) sc_l_random_7821.nd (de_op opd_mod (de_ty cd_int T.n_int (da_cons (de_ix (dv 0) de_int) da_nil)) (dv 1)))
 (dss_cons (ds_asg (de_op opd_fdiv (de_ix (dv 0) de_int) (dv 1)) (dg_sub (dv 0) de_int))
 (dss_one (ds_ret (dv 2))))) dss_nil)
 (dss_cons (ds_set (i := 2) sc_l_random_7821.nd de_int)
 (dss_cons (ds_for rfl (di_range1 T.n_range (da_cons (de_op opd_add de_int (de_op opd_fdiv (de_bits (dv 1)) de_int)) da_nil)) (dg_name (i := 3) sc_l_random_7821.nd) (dss_cons (ds_asg (de_op opd_add (de_ix (dv 0) de_int) de_int) (dg_sub (dv 0) de_int))
 (dss_one (ds_set (i := 2) sc_l_random_7821.nd (de_op opd_add (de_op opd_mulI (dv 2) de_int) (dcall D_l_hash_9cde hr gd (da_cons (de_ix (dv 0) de_int) (da_cons (de_ix (dv 0) de_int) da_nil))))))))
 (dss_one (ds_ret (de_op opd_mod (de_ty cd_int T.n_int (da_cons (dv 2) da_nil)) (dv 1)))))))) hread hX
theorem ok_l_root_d754 {sp : DSp} (T : Txt P K mg base) (hread : ∀ ds M Q, ds.length = 1 → sp ds M Q DX0 → t_l_root_d754 (dEnds M Q) (startD 4 ds) M) (hX : ∀ ds M Q E, sp ds M Q E → sp ds M Q DX0 := by exact fun _ _ _ _ h => h) : Def P w K mg base CX0 1 "_law_root" s_l_root_d754 ["_law_number"] sp :=
 T.h_l_root_d754.ok (t := t_l_root_d754) sc_l_root_d754 (fun f cdv A outer s H E hr gd => (dss_cons (ds_asg (de_tup (da_cons de_int (da_cons de_int da_nil))) (dg_tup rfl (dgs_cons (dg_name (i := 1) sc_l_root_d754.nd) (dgs_cons (dg_name (i := 2) sc_l_root_d754.nd) dgs_nil))))
 (dss_cons (ds_while (dt_cmp opd_le (de_op opd_mulI (dv 2) (dv 2)) (dv 0) (nomark _)) (dss_one (ds_set (i := 2) sc_l_root_d754.nd (de_op opd_mulI de_int (dv 2)))))
 (dss_cons (ds_while (dt_cmp opd_gt (de_op opd_sub (dv 2) (dv 1)) de_int (nomark _)) (dss_cons (ds_set (i := 3) sc_l_root_d754.nd (de_op opd_fdiv (de_op opd_add (dv 1) (dv 2)) de_int))
 (dss_one (ds_asg (de_if (dt_cmp opd_le (de_op opd_mulI (dv 3) (dv 3)) (dv 0) (nomark _)) (de_tup (da_cons (dv 3) (da_cons (dv 2) da_nil))) (de_tup (da_cons (dv 1) (da_cons (dv 3) da_nil)))) (dg_tup rfl (dgs_cons (dg_name (i := 1) sc_l_root_d754.nd) (dgs_cons (dg_name (i := 2) sc_l_root_d754.nd) dgs_nil)))))))
 (dss_one (ds_ret (dv 1))))))) hread hX
theorem ok_l_heart_e005 {c_l_root_d754 : DSp} {sp : DSp} (T : Txt P K mg base) (D_l_root_d754 : Def P w K mg base CX0 1 "_law_root" s_l_root_d754 ["_law_number"] c_l_root_d754) (hread : ∀ ds M Q, ds.length = 1 → sp ds M Q DX0 → t_l_heart_e005 c_l_root_d754 (dEnds M Q) (startD 4 ds) M) (hX : ∀ ds M Q E, sp ds M Q E → sp ds M Q DX0 := by exact fun _ _ _ _ h => h) : Def P w K mg base CX0 2 "_law_heart" s_l_heart_e005 ["_law_measure_here"] sp :=
 T.h_l_heart_e005.ok (t := t_l_heart_e005 c_l_root_d754) sc_l_heart_e005 (fun f cdv A outer s H E hr gd => (dss_cons (ds_set (i := 1) sc_l_heart_e005.nd (dcall D_l_root_d754 hr gd (da_cons (dv 0) da_nil)))
 (dss_cons (ds_set (i := 2) sc_l_heart_e005.nd (de_lrng2 false rfl T.n_list T.n_range (de_op opd_sub de_int (dv 1)) (de_op opd_add (dv 1) de_int)))
 (dss_one (ds_ret (de_lc false (own := [("_law_number", 3)]) rfl sc_l_heart_e005.nd (blkOk_by (N := ["_law_measure_here", "_law_root_here", "_law_numbers", "_law_number"]) (own := [("_law_number", 3)]) (sc := (defScope s_l_heart_e005)) (by decide +kernel)) (di_seq (dv 2)) (fun _ _ _ _ _ => (dcg_name (i := 3) sc_l_heart_e005.nd)) (fun _ _ _ _ _ => (dts_one (DW.dt (dw_and (dt_cmp (opd_eq (u64 hr)) (de_op opd_mod (de_ty cd_int T.n_int (da_cons (de_op opd_sub (dv 3) (dv 0)) da_nil)) de_int) de_int (nomark _)) (dw_and (dt_cmp opd_lt (de_op opd_mulI (dv 3) (dv 3)) (dv 0) (nomark _)) (dw_and1 (dt_cmp opd_lt (de_op opd_mulI (de_op opd_add (dv 3) de_int) (de_op opd_add (dv 3) de_int)) (dv 0) (nomark _)))))))) (fun _ _ _ _ _ => (dv 3)))))))) hread hX
theorem ok_l_common_6be5 {sp : DSp} (T : Txt P K mg base) (hread : ∀ ds M Q, ds.length = 2 → sp ds M Q DX0 → t_l_common_6be5 (dEnds M Q) (startD 4 ds) M) (hX : ∀ ds M Q E, sp ds M Q E → sp ds M Q DX0 := by exact fun _ _ _ _ h => h) : Def P w K mg base CX0 1 "_law_common" s_l_common_6be5 ["_law_one", "_law_other"] sp :=
 T.h_l_common_6be5.ok (t := t_l_common_6be5) sc_l_common_6be5 (fun f cdv A outer s H E hr gd => (dss_cons (ds_par (i := 2) (j := 3) rfl sc_l_common_6be5.nd (da_cons (de_blt cd_abs T.n_abs (da_cons (dv 0) da_nil)) (da_cons (de_blt cd_abs T.n_abs (da_cons (dv 1) da_nil)) da_nil)))
 (dss_cons (ds_while (dt_cmp (opd_ne (u64 hr)) (dv 3) de_int (nomark _)) (dss_one (ds_par (i := 2) (j := 3) rfl sc_l_common_6be5.nd (da_cons (dv 3) (da_cons (de_op opd_mod (de_ty cd_int T.n_int (da_cons (dv 2) da_nil)) (dv 3)) da_nil)))))
 (dss_one (ds_ret (dv 2)))))) hread hX
theorem ok_l_steps_3e4d {c_l_common_6be5 : DSp} {sp : DSp} (T : Txt P K mg base) (D_l_common_6be5 : Def P w K mg base CX0 1 "_law_common" s_l_common_6be5 ["_law_one", "_law_other"] c_l_common_6be5) (hread : ∀ ds M Q, ds.length = 3 → sp ds M Q DX0 → t_l_steps_3e4d c_l_common_6be5 (dEnds M Q) (startD 4 ds) M) (hX : ∀ ds M Q E, sp ds M Q E → sp ds M Q DX0 := by exact fun _ _ _ _ h => h) : Def P w K mg base CX0 2 "_law_steps" s_l_steps_3e4d ["_law_measure_here", "_law_one", "_law_other"] sp :=
 T.h_l_steps_3e4d.ok (t := t_l_steps_3e4d c_l_common_6be5) sc_l_steps_3e4d (fun f cdv A outer s H E hr gd => (dss_cons (ds_set (i := 3) sc_l_steps_3e4d.nd (de_op opd_sub (de_op opd_sub de_int (dv 1)) (dv 2)))
 (dss_one (ds_ret (de_and (de_cmp opd_ge (dv 3) de_int (nomark _)) (de_one (de_cmp (opd_eq (u64 hr)) (dcall D_l_common_6be5 hr gd (da_cons (de_op opd_fdiv (dv 3) de_int) (da_cons (de_op opd_fdiv (de_op opd_sub (dv 0) (de_op opd_mulI (dv 1) (dv 1))) de_int) da_nil))) de_int (nomark _)))))))) hread hX
theorem ok_l_made_4c69 {sp : DSp} (T : Txt P K mg base) (hread : ∀ ds M Q, ds.length = 2 → sp ds M Q DX0 → t_l_made_4c69 (dEnds M Q) (startD 2 ds) M) (hX : ∀ ds M Q E, sp ds M Q E → sp ds M Q DX0 := by exact fun _ _ _ _ h => h) : Def P w K mg base CX0 1 "_law_made" s_l_made_4c69 ["_law_measure_here", "_law_number"] sp :=
 T.h_l_made_4c69.ok (t := t_l_made_4c69) sc_l_made_4c69 (fun f cdv A outer s H E hr gd => (dss_one (ds_ret (de_tup (da_cons de_int (da_cons (de_op opd_fdiv (de_op opd_sub (dv 0) (de_op opd_mulI (dv 1) (dv 1))) de_int) (da_cons de_int (da_cons (dv 1) da_nil)))))))) hread hX
theorem ok_l_lots_1d9e {c_l_heart_e005 c_l_steps_3e4d c_l_made_4c69 : DSp} {sp : DSp} (T : Txt P K mg base) (D_l_heart_e005 : Def P w K mg base CX0 2 "_law_heart" s_l_heart_e005 ["_law_measure_here"] c_l_heart_e005) (D_l_steps_3e4d : Def P w K mg base CX0 2 "_law_steps" s_l_steps_3e4d ["_law_measure_here", "_law_one", "_law_other"] c_l_steps_3e4d) (D_l_made_4c69 : Def P w K mg base CX0 1 "_law_made" s_l_made_4c69 ["_law_measure_here", "_law_number"] c_l_made_4c69) (hread : ∀ ds M Q, ds.length = 1 → sp ds M Q DX0 → t_l_lots_1d9e c_l_heart_e005 c_l_steps_3e4d c_l_made_4c69 (dEnds M Q) (startD 7 ds) M) (hX : ∀ ds M Q E, sp ds M Q E → sp ds M Q DX0 := by exact fun _ _ _ _ h => h) : Def P w K mg base CX0 3 "_law_lots" s_l_lots_1d9e ["_law_measure_here"] sp :=
 T.h_l_lots_1d9e.ok (t := t_l_lots_1d9e c_l_heart_e005 c_l_steps_3e4d c_l_made_4c69) sc_l_lots_1d9e (fun f cdv A outer s H E hr gd => (dss_cons (ds_par (i := 1) (j := 2) rfl sc_l_lots_1d9e.nd (da_cons (dcall D_l_heart_e005 hr gd (da_cons (dv 0) da_nil)) (da_cons (de_own da_nil) da_nil)))
 (dss_cons (ds_for rfl (di_range1 T.n_range (da_cons (de_blt cd_len T.n_len (da_cons (dv 1) da_nil)) da_nil)) (dg_name (i := 3) sc_l_lots_1d9e.nd) (dss_cons (ds_if (dt_cmp (opd_eq (u64 hr)) (dv 1) (de_lst da_nil) (nomark _)) (dss_one (ds_ret (de_frz (dv 2)))) dss_nil)
 (dss_cons (ds_asg (de_tup (da_cons (de_lst (da_cons (de_ix (dv 1) de_int) da_nil)) (da_cons de_int da_nil))) (dg_tup rfl (dgs_cons (dg_name (i := 4) sc_l_lots_1d9e.nd) (dgs_cons (dg_name (i := 5) sc_l_lots_1d9e.nd) dgs_nil))))
 (dss_cons (ds_while (dt_cmp opd_lt (dv 5) (de_blt cd_len T.n_len (da_cons (dv 4) da_nil)) (nomark _)) (dss_cons (ds_set (i := 4) sc_l_lots_1d9e.nd (de_op opd_add (dv 4) (de_lc false (own := [("_law_number", 6)]) rfl sc_l_lots_1d9e.nd (blkOk_by (N := ["_law_measure_here", "_law_left", "_law_found", "_law_turn", "_law_lot", "_law_at", "_law_number"]) (own := [("_law_number", 6)]) (sc := (defScope s_l_lots_1d9e)) (by decide +kernel)) (di_seq (dv 1)) (fun _ _ _ _ _ => (dcg_name (i := 6) sc_l_lots_1d9e.nd)) (fun _ _ _ _ _ => (dts_one (DW.dt (dw_and (dt_cmp (opd_notin (u65 hr)) (dv 6) (dv 4) (by rfl)) (dw_and1 (dt_tru (dcall D_l_steps_3e4d hr gd (da_cons (dv 0) (da_cons (de_ix (dv 4) (dv 5)) (da_cons (dv 6) da_nil)))))))))) (fun _ _ _ _ _ => (dv 6)))))
 (dss_one (ds_set (i := 5) sc_l_lots_1d9e.nd (de_op opd_add (dv 5) de_int)))))
 (dss_cons (ds_setLc false (i := 1) (own := [("_law_number", 6)]) rfl sc_l_lots_1d9e.nd  (sw_true rfl rfl rfl (by decide +kernel)) (blkOk_by (N := ["_law_measure_here", "_law_left", "_law_found", "_law_turn", "_law_lot", "_law_at", "_law_number"]) (own := [("_law_number", 6)]) (sc := (defScope s_l_lots_1d9e)) (by decide +kernel)) (di_seq (dv 1)) (fun _ _ _ _ _ => (dcg_name (i := 6) sc_l_lots_1d9e.nd)) (fun _ _ _ _ _ => (dts_one (dt_cmp (opd_notin (u65 hr)) (dv 6) (dv 4) (by rfl)))) (fun _ _ _ _ _ => (dv 6)))
 (dss_one (ds_expr (de_append (dv 2) (da_cons (de_lc false (own := [("_law_number", 6)]) rfl sc_l_lots_1d9e.nd (blkOk_by (N := ["_law_measure_here", "_law_left", "_law_found", "_law_turn", "_law_lot", "_law_at", "_law_number"]) (own := [("_law_number", 6)]) (sc := (defScope s_l_lots_1d9e)) (by decide +kernel)) (di_seq (de_blt (cd_sorted false) T.n_sorted (da_cons (dv 4) da_nil))) (fun _ _ _ _ _ => (dcg_name (i := 6) sc_l_lots_1d9e.nd)) (fun _ _ _ _ _ => dts_nil) (fun _ _ _ _ _ => (dcall D_l_made_4c69 hr gd (da_cons (dv 0) (da_cons (dv 6) da_nil))))) da_nil)))))))))
 (dss_one (ds_ret (de_frz (dv 2))))))) hread hX
theorem ok_is_whole {sp : DSp} (T : Txt P K mg base) (hread : ∀ ds M Q, ds.length = 1 → sp ds M Q DX0 → t_is_whole (dEnds M Q) (startD 1 ds) M) (hX : ∀ ds M Q E, sp ds M Q E → sp ds M Q DX0 := by exact fun _ _ _ _ h => h) : Def P w K mg base CX0 1 "is_whole" s_is_whole ["value"] sp :=
 T.h_is_whole.ok (t := t_is_whole) sc_is_whole (fun f cdv A outer s H E hr gd => (dss_one (ds_ret (de_and (de_blt cd_isi T.n_isinstance (da_cons (dv 0) (da_cons (de_bltn (v := .ty "int") T.n_int rfl) da_nil))) (de_one (de_not (de_blt cd_isi T.n_isinstance (da_cons (dv 0) (da_cons (de_bltn (v := .ty "bool") T.n_bool rfl) da_nil))))))))) hread hX
theorem ok_is_between {c_is_whole : DSp} {sp : DSp} (T : Txt P K mg base) (D_is_whole : Def P w K mg base CX0 1 "is_whole" s_is_whole ["value"] c_is_whole) (hread : ∀ ds M Q, ds.length = 3 → sp ds M Q DX0 → t_is_between c_is_whole (dEnds M Q) (startD 3 ds) M) (hX : ∀ ds M Q E, sp ds M Q E → sp ds M Q DX0 := by exact fun _ _ _ _ h => h) : Def P w K mg base CX0 2 "is_between" s_is_between ["value", "low", "high"] sp :=
 T.h_is_between.ok (t := t_is_between c_is_whole) sc_is_between (fun f cdv A outer s H E hr gd => (dss_one (ds_ret (de_and (dcall D_is_whole hr gd (da_cons (dv 0) da_nil)) (de_and (de_cmp opd_ge (dv 0) (dv 1) (nomark _)) (de_one (de_or (de_cmp opd_is (dv 2) de_non (nomark _)) (de_one (de_cmp opd_le (dv 0) (dv 2) (nomark _)))))))))) hread hX
theorem ok_is_measure_by {c_is_between : DSp} {sp : DSp} (T : Txt P K mg base) (D_is_between : Def P w K mg base CX0 2 "is_between" s_is_between ["value", "low", "high"] c_is_between) (hread : ∀ ds M Q, ds.length = 1 → sp ds M Q DX0 → t_is_measure_by c_is_between (dEnds M Q) (startD 1 ds) M) (hX : ∀ ds M Q E, sp ds M Q E → sp ds M Q DX0 := by exact fun _ _ _ _ h => h) : Def P w K mg base CX0 3 "is_measure_by" s_is_measure_by ["value"] sp :=
 T.h_is_measure_by.ok (t := t_is_measure_by c_is_between) sc_is_measure_by (fun f cdv A outer s H E hr gd => (dss_one (ds_ret (de_and (dcall D_is_between hr gd (da_cons (dv 0) (da_cons (let ⟨_, h⟩ := T.c_LEAST; de_globI rfl h) (da_cons de_non da_nil)))) (de_one (de_cmp (opd_in (u65 hr)) (de_op opd_mod (dv 0) de_int) (de_lst (da_cons de_int (da_cons de_int da_nil))) (by rfl))))))) hread hX
theorem ok_check_measure_x {c_is_measure_by : DSp} {sp : DSp} (T : Txt P K mg base) (D_is_measure_by : Def P w K mg base CX0 3 "is_measure_by" s_is_measure_by ["value"] c_is_measure_by) (hread : ∀ ds M Q E, ds.length = 1 → belowAll M.length ds = true → sp ds M Q E → t_check_measure_x c_is_measure_by (dOut M E) (dEnds M Q) (startD 1 ds) M) : Def P w K mg base (L2.CX P w) 4 "check_measure" s_check_measure_x ["measure"] sp :=
 T.h_check_measure_x.okE (t := t_check_measure_x c_is_measure_by) sc_check_measure_x (fun f cdv A outer s H E hr gd => (dssx_one (dsx_if (dt_not (dt_tru (dcall D_is_measure_by hr gd (da_cons (dv 0) da_nil)))) (dssx_one (let ⟨_, _, _, h⟩ := T.e_InvalidMeasure; dsx_raise h rfl hr (da_cons (dv 0) da_nil))) (dssx_of dss_nil)))) hread
theorem ok_root_floor_by {sp : DSp} (T : Txt P K mg base) (hread : ∀ ds M Q, ds.length = 1 → sp ds M Q DX0 → t_root_floor_by (dEnds M Q) (startD 3 ds) M) (hX : ∀ ds M Q E, sp ds M Q E → sp ds M Q DX0 := by exact fun _ _ _ _ h => h) : Def P w K mg base CX0 1 "root_floor_by" s_root_floor_by ["number"] sp :=
 T.h_root_floor_by.ok (t := t_root_floor_by) sc_root_floor_by (fun f cdv A outer s H E hr gd => (dss_cons (ds_if (dt_cmp opd_lt (dv 0) de_int (nomark _)) (dss_one (ds_ret (dv 0))) dss_nil)
 (dss_cons (ds_set (i := 1) sc_root_floor_by.nd de_int)
 (dss_cons (ds_while (dt_cmp opd_le (de_op opd_mulI (dv 1) (dv 1)) (dv 0) (nomark _)) (dss_one (ds_set (i := 1) sc_root_floor_by.nd (de_op opd_mulI de_int (dv 1)))))
 (dss_cons (ds_set (i := 2) sc_root_floor_by.nd (de_op opd_fdiv (de_op opd_add (dv 1) (de_op opd_fdiv (dv 0) (dv 1))) de_int))
 (dss_cons (ds_while (dt_cmp opd_lt (dv 2) (dv 1) (nomark _)) (dss_one (ds_par (i := 1) (j := 2) rfl sc_root_floor_by.nd (da_cons (dv 2) (da_cons (de_op opd_fdiv (de_op opd_add (dv 2) (de_op opd_fdiv (dv 0) (dv 2))) de_int) da_nil)))))
 (dss_one (ds_ret (dv 1))))))))) hread hX
theorem ok_bounds_by {c_root_floor_by : DSp} {sp : DSp} (T : Txt P K mg base) (D_root_floor_by : Def P w K mg base CX0 1 "root_floor_by" s_root_floor_by ["number"] c_root_floor_by) (hread : ∀ ds M Q, ds.length = 1 → sp ds M Q DX0 → t_bounds_by c_root_floor_by (dEnds M Q) (startD 4 ds) M) (hX : ∀ ds M Q E, sp ds M Q E → sp ds M Q DX0 := by exact fun _ _ _ _ h => h) : Def P w K mg base CX0 2 "bounds_by" s_bounds_by ["measure"] sp :=
 T.h_bounds_by.ok (t := t_bounds_by c_root_floor_by) sc_bounds_by (fun f cdv A outer s H E hr gd => (dss_cons (ds_set (i := 1) sc_bounds_by.nd (dcall D_root_floor_by hr gd (da_cons (dv 0) da_nil)))
 (dss_cons (ds_set (i := 2) sc_bounds_by.nd (de_if (dt_cmp opd_lt (de_op opd_mulI (dv 1) (dv 1)) (dv 0) (nomark _)) (de_op opd_sub de_int (dv 1)) (de_op opd_sub de_int (dv 1))))
 (dss_cons (ds_set (i := 3) sc_bounds_by.nd (de_op opd_sub (de_op opd_sub de_int (dv 2)) de_int))
 (dss_cons (ds_if (dt_cmp (opd_ne (u64 hr)) (de_op opd_mod (de_op opd_sub (dv 2) (dv 0)) de_int) de_int (nomark _)) (dss_one (ds_set (i := 2) sc_bounds_by.nd (de_op opd_add (dv 2) de_int))) dss_nil)
 (dss_cons (ds_if (dt_cmp (opd_ne (u64 hr)) (de_op opd_mod (de_op opd_sub (dv 3) (dv 0)) de_int) de_int (nomark _)) (dss_one (ds_set (i := 3) sc_bounds_by.nd (de_op opd_sub (dv 3) de_int))) dss_nil)
 (dss_one (ds_ret (de_tup (da_cons (dv 2) (da_cons (dv 3) da_nil))))))))))) hread hX
theorem ok_common_by {sp : DSp} (T : Txt P K mg base) (hread : ∀ ds M Q, ds.length = 2 → sp ds M Q DX0 → t_common_by (dEnds M Q) (startD 4 ds) M) (hX : ∀ ds M Q E, sp ds M Q E → sp ds M Q DX0 := by exact fun _ _ _ _ h => h) : Def P w K mg base CX0 1 "common_by" s_common_by ["one", "other"] sp :=
 T.h_common_by.ok (t := t_common_by) sc_common_by (fun f cdv A outer s H E hr gd => (dss_cons (ds_par (i := 2) (j := 3) rfl sc_common_by.nd (da_cons (de_blt cd_abs T.n_abs (da_cons (dv 0) da_nil)) (da_cons (de_blt cd_abs T.n_abs (da_cons (dv 1) da_nil)) da_nil)))
 (dss_cons (ds_while (dt_cmp (opd_ne (u64 hr)) (dv 3) de_int (nomark _)) (dss_one (ds_par (i := 2) (j := 3) rfl sc_common_by.nd (da_cons (dv 3) (da_cons (de_op opd_mod (dv 2) (dv 3)) da_nil)))))
 (dss_one (ds_ret (dv 2)))))) hread hX
theorem ok_is_step_by {c_common_by : DSp} {sp : DSp} (T : Txt P K mg base) (D_common_by : Def P w K mg base CX0 1 "common_by" s_common_by ["one", "other"] c_common_by) (hread : ∀ ds M Q, ds.length = 3 → sp ds M Q DX0 → t_is_step_by c_common_by (dEnds M Q) (startD 4 ds) M) (hX : ∀ ds M Q E, sp ds M Q E → sp ds M Q DX0 := by exact fun _ _ _ _ h => h) : Def P w K mg base CX0 2 "is_step_by" s_is_step_by ["measure", "one", "other"] sp :=
 T.h_is_step_by.ok (t := t_is_step_by c_common_by) sc_is_step_by (fun f cdv A outer s H E hr gd => (dss_cons (ds_set (i := 3) sc_is_step_by.nd (de_op opd_sub (de_op opd_sub de_int (dv 1)) (dv 2)))
 (dss_one (ds_ret (de_and (de_cmp opd_ge (dv 3) de_int (nomark _)) (de_one (de_cmp (opd_eq (u64 hr)) (dcall D_common_by hr gd (da_cons (de_op opd_fdiv (dv 3) de_int) (da_cons (de_op opd_fdiv (de_op opd_sub (dv 0) (de_op opd_mulI (dv 1) (dv 1))) de_int) da_nil))) de_int (nomark _)))))))) hread hX
theorem ok_lots_by {c_bounds_by c_is_step_by : DSp} {sp : DSp} (T : Txt P K mg base) (D_bounds_by : Def P w K mg base CX0 2 "bounds_by" s_bounds_by ["measure"] c_bounds_by) (D_is_step_by : Def P w K mg base CX0 2 "is_step_by" s_is_step_by ["measure", "one", "other"] c_is_step_by) (hread : ∀ ds M Q, ds.length = 1 → sp ds M Q DX0 → t_lots_by c_bounds_by c_is_step_by (dEnds M Q) (startD 8 ds) M) (hX : ∀ ds M Q E, sp ds M Q E → sp ds M Q DX0 := by exact fun _ _ _ _ h => h) : Def P w K mg base CX0 3 "lots_by" s_lots_by ["measure"] sp :=
 T.h_lots_by.ok (t := t_lots_by c_bounds_by c_is_step_by) sc_lots_by (fun f cdv A outer s H E hr gd => (dss_cons (ds_asg (dcall D_bounds_by hr gd (da_cons (dv 0) da_nil)) (dg_tup rfl (dgs_cons (dg_name (i := 1) sc_lots_by.nd) (dgs_cons (dg_name (i := 2) sc_lots_by.nd) dgs_nil))))
 (dss_cons (ds_par (i := 3) (j := 4) rfl sc_lots_by.nd (da_cons (de_lrng3 false rfl T.n_list T.n_range (da_cons (dv 1) (da_cons (de_op opd_add (dv 2) de_int) (da_cons de_int da_nil)))) (da_cons (de_own da_nil) da_nil)))
 (dss_cons (ds_while (dt_cmp (opd_ne (u64 hr)) (dv 3) (de_lst da_nil) (nomark _)) (dss_cons (ds_asg (de_tup (da_cons (de_lst (da_cons (de_ix (dv 3) de_int) da_nil)) (da_cons de_int da_nil))) (dg_tup rfl (dgs_cons (dg_name (i := 5) sc_lots_by.nd) (dgs_cons (dg_name (i := 6) sc_lots_by.nd) dgs_nil))))
 (dss_cons (ds_while (dt_cmp opd_lt (dv 6) (de_blt cd_len T.n_len (da_cons (dv 5) da_nil)) (nomark _)) (dss_cons (ds_set (i := 5) sc_lots_by.nd (de_op opd_add (dv 5) (de_lc false (own := [("number", 7)]) rfl sc_lots_by.nd (blkOk_by (N := ["measure", "low", "high", "left", "found", "lot", "at", "number"]) (own := [("number", 7)]) (sc := (defScope s_lots_by)) (by decide +kernel)) (di_seq (dv 3)) (fun _ _ _ _ _ => (dcg_name (i := 7) sc_lots_by.nd)) (fun _ _ _ _ _ => (dts_one (DW.dt (dw_and (dt_cmp (opd_notin (u65 hr)) (dv 7) (dv 5) (by rfl)) (dw_and1 (dt_tru (dcall D_is_step_by hr gd (da_cons (dv 0) (da_cons (de_ix (dv 5) (dv 6)) (da_cons (dv 7) da_nil)))))))))) (fun _ _ _ _ _ => (dv 7)))))
 (dss_one (ds_set (i := 6) sc_lots_by.nd (de_op opd_add (dv 6) de_int)))))
 (dss_cons (ds_setLc false (i := 3) (own := [("number", 7)]) rfl sc_lots_by.nd  (sw_true rfl rfl rfl (by decide +kernel)) (blkOk_by (N := ["measure", "low", "high", "left", "found", "lot", "at", "number"]) (own := [("number", 7)]) (sc := (defScope s_lots_by)) (by decide +kernel)) (di_seq (dv 3)) (fun _ _ _ _ _ => (dcg_name (i := 7) sc_lots_by.nd)) (fun _ _ _ _ _ => (dts_one (dt_cmp (opd_notin (u65 hr)) (dv 7) (dv 5) (by rfl)))) (fun _ _ _ _ _ => (dv 7)))
 (dss_one (ds_expr (de_append (dv 4) (da_cons (de_blt (cd_sorted false) T.n_sorted (da_cons (dv 5) da_nil)) da_nil))))))))
 (dss_one (ds_ret (de_frz (dv 4)))))))) hread hX
theorem ok_heart_by {sp : DSp} (T : Txt P K mg base) (hread : ∀ ds M Q, ds.length = 2 → sp ds M Q DX0 → t_heart_by (dEnds M Q) (startD 2 ds) M) (hX : ∀ ds M Q E, sp ds M Q E → sp ds M Q DX0 := by exact fun _ _ _ _ h => h) : Def P w K mg base CX0 1 "heart_by" s_heart_by ["measure", "number"] sp :=
 T.h_heart_by.ok (t := t_heart_by) sc_heart_by (fun f cdv A outer s H E hr gd => (dss_one (ds_ret (de_tup (da_cons de_int (da_cons (de_op opd_fdiv (de_op opd_sub (dv 0) (de_op opd_mulI (dv 1) (dv 1))) de_int) (da_cons de_int (da_cons (dv 1) da_nil)))))))) hread hX
theorem ok_heart_lots_o_x {c_check_measure_x c_bounds_by c_lots_by c_heart_by : DSp} {sp : DSp} (T : Txt P K mg base) (D_check_measure_x : Def P w K mg base (L2.CX P w) 4 "check_measure" s_check_measure_x ["measure"] c_check_measure_x) (D_bounds_by : Def P w K mg base CX0 2 "bounds_by" s_bounds_by ["measure"] c_bounds_by) (D_lots_by : Def P w K mg base CX0 3 "lots_by" s_lots_by ["measure"] c_lots_by) (D_heart_by : Def P w K mg base CX0 1 "heart_by" s_heart_by ["measure", "number"] c_heart_by) (hread : ∀ ds M Q E, ds.length = 1 → belowAll M.length ds = true → sp ds M Q E → t_heart_lots_o_x c_check_measure_x c_bounds_by c_lots_by c_heart_by (dOut M E) (dEnds M Q) (startD 5 ds) M) : Def P w K mg base (L2.CX P w) 5 "heart_lots" s_heart_lots_o_x ["measure"] sp :=
 T.h_heart_lots_o_x.okE (t := t_heart_lots_o_x c_check_measure_x c_bounds_by c_lots_by c_heart_by) sc_heart_lots_o_x (fun f cdv A outer s H E hr gd => (dssx_cons (dsx_expr (dcallX D_check_measure_x hr gd (dax_cons (dex_of (dv 0)) dax_nil)))
 (dssx_cons (dsx_of (ds_asg (dcall D_bounds_by hr gd (da_cons (dv 0) da_nil)) (dg_tup rfl (dgs_cons (dg_name (i := 1) sc_heart_lots_o_x.nd) (dgs_cons (dg_name (i := 2) sc_heart_lots_o_x.nd) dgs_nil)))))
 (dssx_cons (dsx_if (dt_cmp opd_gt (de_op opd_add (de_op opd_fdiv (de_op opd_sub (dv 2) (dv 1)) de_int) de_int) de_int (nomark _)) (dssx_one (let ⟨_, _, _, h⟩ := T.e_TooMany; dsx_raise h rfl hr (da_cons (de_op opd_add (de_op opd_fdiv (de_op opd_sub (dv 2) (dv 1)) de_int) de_int) da_nil))) (dssx_of dss_nil))
 (dssx_of (dss_one (ds_ret (de_lc true (own := [("lot", 3)]) rfl sc_heart_lots_o_x.nd (blkOk_by (N := ["measure", "low", "high", "lot", "number"]) (own := [("lot", 3)]) (sc := (defScope s_heart_lots_o_x)) (by decide +kernel)) (di_seq (dcall D_lots_by hr gd (da_cons (dv 0) da_nil))) (fun _ _ _ _ _ => (dcg_name (i := 3) sc_heart_lots_o_x.nd)) (fun _ _ _ _ _ => dts_nil) (fun _ _ _ _ _ => (de_lc true (own := [("number", 4)]) rfl sc_heart_lots_o_x.nd (blkOk_by (N := ["measure", "low", "high", "lot", "number"]) (own := [("number", 4)]) (by rfl)) (di_seq (dv 3)) (fun _ _ _ _ _ => (dcg_name (i := 4) sc_heart_lots_o_x.nd)) (fun _ _ _ _ _ => dts_nil) (fun _ _ _ _ _ => (dcall D_heart_by hr gd (da_cons (dv 0) (da_cons (dv 4) da_nil)))))))))))))) hread
theorem ok_l_one_right_1c8f {c_l_lots_1d9e c_heart_lots_o : DSp} {sp : DSp} (T : Txt P K mg base) (D_l_lots_1d9e : Def P w K mg base CX0 3 "_law_lots" s_l_lots_1d9e ["_law_measure_here"] c_l_lots_1d9e) (D_heart_lots_o : Def P w K mg base (L2.CX P w) 5 "heart_lots" s_heart_lots_o_x ["measure"] c_heart_lots_o) (hread : ∀ ds M Q, ds.length = 1 → sp ds M Q DX0 → t_l_one_right_1c8f c_l_lots_1d9e c_heart_lots_o (dEnds M Q) (startD 6 ds) M) (hX : ∀ ds M Q E, sp ds M Q E → sp ds M Q DX0 := by exact fun _ _ _ _ h => h) : Def P w K mg base CX0 6 "_law_one_right" s_l_one_right_1c8f ["_law_measure_here"] sp :=
 T.h_l_one_right_1c8f.ok (t := t_l_one_right_1c8f c_l_lots_1d9e c_heart_lots_o) sc_l_one_right_1c8f (fun f cdv A outer s H E hr gd => (dss_cons (ds_par (i := 1) (j := 2) rfl sc_l_one_right_1c8f.nd (da_cons (dcall D_l_lots_1d9e hr gd (da_cons (dv 0) da_nil)) (da_cons (dcallN D_heart_lots_o hr gd (da_cons (dv 0) da_nil)) da_nil)))
 (dss_cons (ds_if (DW.dt (dw_or (dt_cmp (opd_neE (u64 hr)) (de_blt (cd_reprE gd (ux hr)) T.n_repr (da_cons (dv 2) da_nil)) (de_blt (cd_reprE gd (ux hr)) T.n_repr (da_cons (dv 1) da_nil)) (nomark _)) (dw_or1 (dt_cmp (opd_neE (u64 hr)) (dcallKN [0] D_heart_lots_o hr gd (dk_cons (dv 0) dk_nil) (ks := ["measure"]) rfl (fun _ _ _ _ _ _ us hl => match us, hl with | [_], _ => rfl)) (dv 1) (nomark _))))) (dss_one (ds_ret de_bl)) dss_nil)
 (dss_cons (ds_if (dt_cmp (opd_notin (u65 hr)) (dv 0) (de_lst (da_cons de_int (da_cons de_int (da_cons de_int (da_cons de_int (da_cons de_int da_nil)))))) (by rfl)) (dss_one (ds_if (DW.dt (dw_or (dt_cmp (opd_neE (u64 hr)) (de_blt cd_len T.n_len (da_cons (dv 1) da_nil)) (de_op opd_add de_int (de_ty cd_int T.n_int (da_cons (de_cmp (opd_eqE (u64 hr)) (de_op opd_mod (de_ty cd_int T.n_int (da_cons (dv 0) da_nil)) de_int) de_int (nomark _)) da_nil))) (nomark _)) (dw_or1 (dt_cmp (opd_neE (u64 hr)) (de_lc false (own := [("_law_lot", 3)]) rfl sc_l_one_right_1c8f.nd (blkOk_by (N := ["_law_measure_here", "_law_due", "_law_told", "_law_lot", "_law_item", "_law_behind"]) (own := [("_law_lot", 3)]) (sc := (defScope s_l_one_right_1c8f)) (by decide +kernel)) (di_seq (dv 1)) (fun _ _ _ _ _ => (dcg_name (i := 3) sc_l_one_right_1c8f.nd)) (fun _ _ _ _ _ => (dts_one (DW.dt (dw_and (dt_cmp (opd_eqE (u64 hr)) (de_op opd_mod (de_ty cd_int T.n_int (da_cons (dv 0) da_nil)) de_int) de_int (nomark _)) (dw_and1 (dt_cmp (opd_neE (u64 hr)) (de_lc false (own := [("_law_item", 4)]) rfl sc_l_one_right_1c8f.nd (blkOk_by (N := ["_law_measure_here", "_law_due", "_law_told", "_law_lot", "_law_item", "_law_behind"]) (own := [("_law_item", 4)]) (by rfl)) (di_seq (dv 3)) (fun _ _ _ _ _ => (dcg_name (i := 4) sc_l_one_right_1c8f.nd)) (fun _ _ _ _ _ => (dts_one (dt_cmp (opd_neE (u64 hr)) (de_op opd_mod (de_ty cd_int T.n_int (da_cons (de_op opd_sub (de_ix (dv 4) de_int) (de_ix (de_ix (dv 3) de_int) de_int)) da_nil)) de_int) de_int (nomark _)))) (fun _ _ _ _ _ => (dv 4))) (de_lst da_nil) (nomark _))))))) (fun _ _ _ _ _ => (dv 3))) (de_lst da_nil) (nomark _))))) (dss_one (ds_ret de_bl)) dss_nil)) dss_nil)
 (dss_cons (ds_for rfl (di_seq (dv 2)) (dg_name (i := 3) sc_l_one_right_1c8f.nd) (dss_cons (ds_set (i := 5) sc_l_one_right_1c8f.nd (de_blt (cd_reprE gd (ux hr)) T.n_repr (da_cons (de_sl false (dv 2) (do_some (de_op opd_add (de_indexE (u65 hr) (dv 2) (da_cons (dv 3) da_nil)) de_int)) do_none) da_nil)))
 (dss_cons (ds_expr (de_append (dv 3) (da_cons de_non da_nil)))
 (dss_one (ds_if (dt_cmp (opd_neE (u64 hr)) (de_blt (cd_reprE gd (ux hr)) T.n_repr (da_cons (de_sl false (dv 2) (do_some (de_op opd_add (de_indexE (u65 hr) (dv 2) (da_cons (dv 3) da_nil)) de_int)) do_none) da_nil)) (dv 5) (nomark _)) (dss_one (ds_ret de_bl)) dss_nil)))))
 (dss_cons (ds_expr (de_append (dv 2) (da_cons de_non da_nil)))
 (dss_one (ds_ret (de_cmp (opd_eqE (u64 hr)) (de_blt (cd_reprE gd (ux hr)) T.n_repr (da_cons (dcallN D_heart_lots_o hr gd (da_cons (dv 0) da_nil)) da_nil)) (de_blt (cd_reprE gd (ux hr)) T.n_repr (da_cons (dv 1) da_nil)) (nomark _)))))))))) hread hX
theorem ok_l_measure_0db7 {c_l_random_7821 c_l_root_d754 : DSp} {sp : DSp} (T : Txt P K mg base) (D_l_random_7821 : Def P w K mg base CX0 2 "_law_random" s_l_random_7821 ["_law_generator_here", "_law_bound"] c_l_random_7821) (D_l_root_d754 : Def P w K mg base CX0 1 "_law_root" s_l_root_d754 ["_law_number"] c_l_root_d754) (hread : ∀ ds M Q, ds.length = 2 → sp ds M Q DX0 → t_l_measure_0db7 c_l_random_7821 c_l_root_d754 (dEnds M Q) (startD 6 ds) M) (hX : ∀ ds M Q E, sp ds M Q E → sp ds M Q DX0 := by exact fun _ _ _ _ h => h) : Def P w K mg base CX0 3 "_law_measure" s_l_measure_0db7 ["_law_generator_here", "_law_figures"] sp :=
 T.h_l_measure_0db7.ok (t := t_l_measure_0db7 c_l_random_7821 c_l_root_d754) sc_l_measure_0db7 (fun f cdv A outer s H E hr gd => (dss_cons (ds_set (i := 2) sc_l_measure_0db7.nd de_int)
 (dss_cons (ds_for rfl (di_range1 T.n_range (da_cons (de_op opd_add de_int (dcall D_l_random_7821 hr gd (da_cons (dv 0) (da_cons (dv 1) da_nil)))) da_nil)) (dg_name (i := 3) sc_l_measure_0db7.nd) (dss_one (ds_set (i := 2) sc_l_measure_0db7.nd (de_op opd_mulI de_int (dv 2)))))
 (dss_cons (ds_set (i := 4) sc_l_measure_0db7.nd (de_op opd_add de_int (dcall D_l_random_7821 hr gd (da_cons (dv 0) (da_cons (dv 2) da_nil)))))
 (dss_cons (ds_if (dt_cmp (opd_eq (u64 hr)) (dcall D_l_random_7821 hr gd (da_cons (dv 0) (da_cons de_int da_nil))) de_int (nomark _)) (dss_one (ds_set (i := 4) sc_l_measure_0db7.nd (de_op opd_mulI (dcall D_l_root_d754 hr gd (da_cons (dv 4) da_nil)) (dcall D_l_root_d754 hr gd (da_cons (dv 4) da_nil))))) dss_nil)
 (dss_cons (ds_set (i := 5) sc_l_measure_0db7.nd (de_op opd_add (de_op opd_sub (dv 4) (de_op opd_mod (de_ty cd_int T.n_int (da_cons (dv 4) da_nil)) de_int)) (dcall D_l_random_7821 hr gd (da_cons (dv 0) (da_cons de_int da_nil)))))
 (dss_one (ds_ret (de_if (dt_cmp opd_gt (dv 5) de_int (nomark _)) (dv 5) de_int))))))))) hread hX
theorem ok_l_many_e760 {c_heart_lots_o_x : DSp} {sp : DSp} (T : Txt P K mg base) (D_heart_lots_o_x : Def P w K mg base (L2.CX P w) 5 "heart_lots" s_heart_lots_o_x ["measure"] c_heart_lots_o_x) (hread : ∀ ds M Q, ds.length = 1 → sp ds M Q DX0 → t_l_many_e760 c_heart_lots_o_x (dEnds M Q) (startD 3 ds) M) (hX : ∀ ds M Q E, sp ds M Q E → sp ds M Q DX0 := by exact fun _ _ _ _ h => h) : Def P w K mg base CX0 6 "_law_many" s_l_many_e760 ["_law_measure_here"] sp :=
 T.h_l_many_e760.ok (t := t_l_many_e760 c_heart_lots_o_x) sc_l_many_e760 (fun f cdv A outer s H E hr gd => (dss_cons (ds_set (i := 1) sc_l_many_e760.nd de_non)
 (dss_cons (let ⟨_, _, _, h⟩ := T.e_TooMany; ds_try (i := 2) rfl rfl sc_l_many_e760.nd (.inl ⟨_, h.er⟩) h.gC takes0 (fun pn xe hp => (dssx_one (dsx_set (i := 1) sc_l_many_e760.nd (dcallX D_heart_lots_o_x hr gd (dax_cons (dex_of (dv 0)) dax_nil))))) (fun a pn => (dss_one (ds_set (i := 1) sc_l_many_e760.nd (de_fld (dv 2))))))
 (dss_one (ds_ret (dv 1)))))) hread hX
theorem ok_l_law_1f95 {c_l_generator_b324 c_l_random_7821 c_l_one_right_1c8f c_l_measure_0db7 c_l_root_d754 c_l_many_e760 c_heart_lots_o c_l_heart_e005 : DSp} {sp : DSp} (T : Txt P K mg base) (D_l_generator_b324 : Def P w K mg base CX0 2 "_law_generator" s_l_generator_b324 ["_law_script", "_law_index"] c_l_generator_b324) (D_l_random_7821 : Def P w K mg base CX0 2 "_law_random" s_l_random_7821 ["_law_generator_here", "_law_bound"] c_l_random_7821) (D_l_one_right_1c8f : Def P w K mg base CX0 6 "_law_one_right" s_l_one_right_1c8f ["_law_measure_here"] c_l_one_right_1c8f) (D_l_measure_0db7 : Def P w K mg base CX0 3 "_law_measure" s_l_measure_0db7 ["_law_generator_here", "_law_figures"] c_l_measure_0db7) (D_l_root_d754 : Def P w K mg base CX0 1 "_law_root" s_l_root_d754 ["_law_number"] c_l_root_d754) (D_l_many_e760 : Def P w K mg base CX0 6 "_law_many" s_l_many_e760 ["_law_measure_here"] c_l_many_e760) (D_heart_lots_o : Def P w K mg base (L2.CX P w) 5 "heart_lots" s_heart_lots_o_x ["measure"] c_heart_lots_o) (D_l_heart_e005 : Def P w K mg base CX0 2 "_law_heart" s_l_heart_e005 ["_law_measure_here"] c_l_heart_e005) (hread : ∀ ds M Q, ds.length = 1 → sp ds M Q DX0 → t_l_law_1f95 c_l_generator_b324 c_l_random_7821 c_l_one_right_1c8f c_l_measure_0db7 c_l_root_d754 c_l_many_e760 c_heart_lots_o c_l_heart_e005 (dEnds M Q) (startD 8 ds) M) (hX : ∀ ds M Q E, sp ds M Q E → sp ds M Q DX0 := by exact fun _ _ _ _ h => h) : Def P w K mg base CX0 7 "law" s_l_law_1f95 ["_law_script"] sp :=
 T.h_l_law_1f95.ok (t := t_l_law_1f95 c_l_generator_b324 c_l_random_7821 c_l_one_right_1c8f c_l_measure_0db7 c_l_root_d754 c_l_many_e760 c_heart_lots_o c_l_heart_e005) sc_l_law_1f95 (fun f cdv A outer s H E hr gd => (dss_cons (ds_set (i := 1) sc_l_law_1f95.nd (dcall D_l_generator_b324 hr gd (da_cons (dv 0) (da_cons de_int da_nil))))
 (dss_cons (ds_for rfl (di_range1 T.n_range (da_cons de_int da_nil)) (dg_name (i := 2) sc_l_law_1f95.nd) (dss_cons (ds_set (i := 3) sc_l_law_1f95.nd (de_op opd_add de_int (dcall D_l_random_7821 hr gd (da_cons (dv 1) (da_cons (de_ix (de_lst (da_cons de_int (da_cons de_int da_nil))) (dcall D_l_random_7821 hr gd (da_cons (dv 1) (da_cons de_int da_nil)))) da_nil)))))
 (dss_cons (ds_set (i := 3) sc_l_law_1f95.nd (de_blt (cd_max rfl) T.n_max (da_cons de_int (da_cons (de_op opd_add (de_op opd_sub (dv 3) (de_op opd_mod (de_ty cd_int T.n_int (da_cons (dv 3) da_nil)) de_int)) (dcall D_l_random_7821 hr gd (da_cons (dv 1) (da_cons de_int da_nil)))) da_nil))))
 (dss_cons (ds_if (dt_cmp (opd_eq (u64 hr)) (dcall D_l_random_7821 hr gd (da_cons (dv 1) (da_cons de_int da_nil))) de_int (nomark _)) (dss_one (ds_set (i := 3) sc_l_law_1f95.nd (de_op opd_add (de_op opd_sub (dv 3) (de_op opd_mod (de_ty cd_int T.n_int (da_cons (dv 3) da_nil)) de_int)) de_int))) dss_nil)
 (dss_one (ds_if (dt_not (dt_tru (dcall D_l_one_right_1c8f hr gd (da_cons (dv 3) da_nil)))) (dss_one (ds_ret de_bl)) dss_nil))))))
 (dss_cons (ds_set (i := 3) sc_l_law_1f95.nd (dcall D_l_measure_0db7 hr gd (da_cons (dv 1) (da_cons de_int da_nil))))
 (dss_cons (ds_set (i := 4) sc_l_law_1f95.nd (dcall D_l_root_d754 hr gd (da_cons (de_op opd_sub (dv 3) de_int) da_nil)))
 (dss_cons (ds_set (i := 5) sc_l_law_1f95.nd (de_op opd_sub (dv 4) (de_op opd_mod (de_ty cd_int T.n_int (da_cons (de_op opd_add (dv 4) (dv 3)) da_nil)) de_int)))
 (dss_cons (ds_if (DW.dt (dw_and (dt_cmp opd_gt (dv 5) de_int (nomark _)) (dw_and1 (dt_cmp (opd_ne (u64 hr)) (dcall D_l_many_e760 hr gd (da_cons (dv 3) da_nil)) (dv 5) (nomark _))))) (dss_one (ds_ret de_bl)) dss_nil)
 (dss_cons (ds_if (DW.dt (dw_or (dt_cmp (opd_ne (u64 hr)) (de_lc false (own := [("_law_lot", 6)]) rfl sc_l_law_1f95.nd (blkOk_by (N := ["_law_script", "_law_generator_here", "_law_turn", "_law_measure_here", "_law_root_here", "_law_many_here", "_law_lot", "_law_great"]) (own := [("_law_lot", 6)]) (sc := (defScope s_l_law_1f95)) (by decide +kernel)) (di_seq (dcallN D_heart_lots_o hr gd (da_cons de_int da_nil))) (fun _ _ _ _ _ => (dcg_name (i := 6) sc_l_law_1f95.nd)) (fun _ _ _ _ _ => dts_nil) (fun _ _ _ _ _ => (de_blt cd_len T.n_len (da_cons (dv 6) da_nil)))) (de_lst (da_cons de_int da_nil)) (nomark _)) (dw_or (dt_cmp (opd_ne (u64 hr)) (dcall D_l_many_e760 hr gd (da_cons de_int da_nil)) de_int (nomark _)) (dw_or1 (dt_cmp (opd_ne (u64 hr)) (dcall D_l_many_e760 hr gd (da_cons de_int da_nil)) de_int (nomark _)))))) (dss_one (ds_ret de_bl)) dss_nil)
 (dss_cons (ds_set (i := 7) sc_l_law_1f95.nd (de_op opd_add (de_op opd_add de_int (de_op opd_mulI de_int (dcall D_l_random_7821 hr gd (da_cons (dv 1) (da_cons de_int da_nil))))) de_int))
 (dss_cons (ds_if (DW.dt (dw_or (dt_cmp (opd_ne (u64 hr)) (dcall D_l_many_e760 hr gd (da_cons (dv 7) da_nil)) (de_blt cd_len T.n_len (da_cons (dcall D_l_heart_e005 hr gd (da_cons (dv 7) da_nil)) da_nil)) (nomark _)) (dw_or1 (dt_cmp opd_lt (dcall D_l_many_e760 hr gd (da_cons (dv 7) da_nil)) de_int (nomark _))))) (dss_one (ds_ret de_bl)) dss_nil)
 (dss_one (ds_ret (de_cmp (opd_eq (u64 hr)) (de_lc false (own := [("_law_measure_here", 3)]) rfl sc_l_law_1f95.nd (blkOk_by (N := ["_law_script", "_law_generator_here", "_law_turn", "_law_measure_here", "_law_root_here", "_law_many_here", "_law_lot", "_law_great"]) (own := [("_law_measure_here", 3)]) (sc := (defScope s_l_law_1f95)) (by decide +kernel)) (di_seq (de_lst (da_cons de_int (da_cons de_int (da_cons de_int (da_cons de_int (da_cons de_int (da_cons de_int (da_cons de_int (da_cons de_int da_nil)))))))))) (fun _ _ _ _ _ => (dcg_name (i := 3) sc_l_law_1f95.nd)) (fun _ _ _ _ _ => dts_nil) (fun _ _ _ _ _ => (de_blt cd_len T.n_len (da_cons (dcallN D_heart_lots_o hr gd (da_cons (dv 3) da_nil)) da_nil)))) (de_lst (da_cons de_int (da_cons de_int (da_cons de_int (da_cons de_int (da_cons de_int (da_cons de_int (da_cons de_int (da_cons de_int da_nil))))))))) (nomark _)))))))))))))) hread hX
end
end C_k30
/-! MA: whole roots, common divisors, sizes; plain -/
namespace DL
/-! ### a great number, by its name -/
def BIGN : Nat := 2 ^ 4000
def BIG : Int := (BIGN : Nat)
theorem bign_pos : 0 < BIGN := Nat.pow_pos (by decide)
theorem big_pos : 0 < BIG := Int.natCast_pos.mpr bign_pos
theorem bign_ge {k : Nat} (h : k ≤ 4000) : 2 ^ k ≤ BIGN := Nat.pow_le_pow_right (by decide) h
/-- a written number is below BIG -/
theorem big_ge (k : Nat) (h : k < 2 ^ 240 := by decide) : (k : Int) ≤ BIG := by
  have := bign_ge (k := 240) (by decide)
  unfold BIG
  omega
theorem log2_of {i : Int} (n : Nat) (h : i.natAbs < 2 ^ n) (h0 : 0 < n) : i.natAbs.log2 < n := by
  by_cases z : i.natAbs = 0
  · rw [z]; simpa using h0
  · exact (Nat.log2_lt z).mpr h
theorem nat_of_big {i : Int} (h1 : -BIG ≤ i) (h2 : i ≤ BIG) : i.natAbs < 2 ^ 4001 := by
  have h3 : (2 : Nat) ^ 4001 = BIGN + BIGN := by unfold BIGN; rw [Nat.pow_succ, Nat.mul_two]
  have h4 := bign_pos
  rw [h3]
  unfold BIG at h1 h2
  omega
theorem log_of_big {i : Int} (h1 : -BIG ≤ i) (h2 : i ≤ BIG) : i.natAbs.log2 < 4001 := log2_of 4001 (nat_of_big h1 h2) (by decide)
/-! ### whole roots -/
def isqN (n : Nat) : Nat :=
  if h : n = 0 then 0
  else
    let r := 2 * isqN (n / 4)
    if (r + 1) * (r + 1) ≤ n then r + 1 else r
termination_by n
decreasing_by omega
theorem isqN_spec (n : Nat) : isqN n * isqN n ≤ n ∧ n < (isqN n + 1) * (isqN n + 1) := by
  induction n using Nat.strongRecOn with
  | ind n ih =>
    unfold isqN
    split
    · rename_i h; subst h; decide
    · rename_i h
      obtain ⟨h1, h2⟩ := ih (n / 4) (by omega)
      generalize isqN (n / 4) = s at *
      have e1 : 4 * (s * s) ≤ n := by omega
      have e2 : n < 4 * ((s + 1) * (s + 1)) := by omega
      have x1 : (2 * s) * (2 * s) = 4 * (s * s) := by rw [Nat.mul_mul_mul_comm]
      have x2 : (2 * s + 1) * (2 * s + 1) = 4 * (s * s) + 4 * s + 1 := by
        rw [Nat.add_mul, Nat.mul_add, x1]; omega
      have x3 : (s + 1) * (s + 1) = s * s + 2 * s + 1 := by
        rw [Nat.add_mul, Nat.mul_add]; omega
      have x4 : (2 * s + 1 + 1) * (2 * s + 1 + 1) = 4 * (s * s) + 8 * s + 4 := by
        rw [Nat.add_mul, Nat.mul_add, Nat.add_mul, Nat.mul_add, x1]; omega
      dsimp only
      split
      · rename_i hc
        exact ⟨hc, by rw [x4]; omega⟩
      · rename_i hc
        exact ⟨by rw [x1]; omega, by omega⟩
theorem isqN_uni {n r : Nat} (h1 : r * r ≤ n) (h2 : n < (r + 1) * (r + 1)) : isqN n = r := by
  obtain ⟨g1, g2⟩ := isqN_spec n
  rcases Nat.lt_trichotomy (isqN n) r with h | h | h
  · have : (isqN n + 1) * (isqN n + 1) ≤ r * r := Nat.mul_le_mul h h
    omega
  · exact h
  · have : (r + 1) * (r + 1) ≤ isqN n * isqN n := Nat.mul_le_mul h h
    omega
/-- the greatest count whose square is at most n -/
def isq (n : Int) : Int := (isqN n.toNat : Nat)
theorem isq_nn (n : Int) : 0 ≤ isq n := Int.natCast_nonneg _
theorem isq_le {n : Int} (h : 0 ≤ n) : isq n * isq n ≤ n := by
  have := (isqN_spec n.toNat).1
  unfold isq
  rw [← Int.natCast_mul]
  omega
theorem isq_lt {n : Int} (h : 0 ≤ n) : n < (isq n + 1) * (isq n + 1) := by
  have := (isqN_spec n.toNat).2
  unfold isq
  have e : ((isqN n.toNat : Int) + 1) * ((isqN n.toNat : Int) + 1) = (((isqN n.toNat + 1) * (isqN n.toNat + 1) : Nat) : Int) := by
    rw [Int.natCast_mul]; rfl
  rw [e]
  omega
theorem isq_uni {n r : Int} (h0 : 0 ≤ r) (h1 : r * r ≤ n) (h2 : n < (r + 1) * (r + 1)) : isq n = r := by
  obtain ⟨k, rfl⟩ := Int.eq_ofNat_of_zero_le h0
  have h1' : ((k * k : Nat) : Int) ≤ n := by rw [Int.natCast_mul]; exact h1
  have h2' : n < (((k + 1) * (k + 1) : Nat) : Int) := by rw [Int.natCast_mul]; exact h2
  unfold isq
  rw [isqN_uni (n := n.toNat) (r := k) (by omega) (by omega)]
theorem sq_lt {a b : Int} (ha : 0 ≤ a) (h : a < b) : a * a < b * b := by
  have := Int.mul_lt_mul' (Int.le_of_lt h) h ha (by omega : (0:Int) < b)
  exact this
theorem sq_le {a b : Int} (ha : 0 ≤ a) (h : a ≤ b) : a * a ≤ b * b := Int.mul_le_mul h h ha (by omega)
theorem lt_of_sq {a b : Int} (hb : 0 ≤ b) (h : a * a < b * b) : a < b := by
  by_cases z : a < b
  · exact z
  · have := sq_le hb (by omega : b ≤ a)
    omega
theorem isq_self {r : Int} (h : 0 ≤ r) : isq (r * r) = r := isq_uni h (Int.le_refl _) (sq_lt h (by omega))
/-- self is at most n -/
theorem isq_le_self {n : Int} (h : 0 ≤ n) : isq n ≤ n := by
  by_cases z : isq n ≤ n
  · exact z
  · have h1 := isq_le h
    have h2 := isq_nn n
    have h3 : 1 * isq n ≤ isq n * isq n := Int.mul_le_mul_of_nonneg_right (by omega) h2
    omega
theorem newton_ge {n x : Int} (hn : 0 ≤ n) (hx : 0 < x) : isq n ≤ (x + n / x) / 2 := by
  have h1 := isq_le hn
  generalize isq n = s at *
  have h2 : 0 ≤ (x - s) * (x - s) := by
    rcases Int.le_total 0 (x - s) with h | h
    · exact Int.mul_nonneg h h
    · have := Int.mul_nonneg (show (0:Int) ≤ -(x - s) by omega) (show (0:Int) ≤ -(x - s) by omega)
      rwa [Int.neg_mul_neg] at this
  have h3 : (x - s) * (x - s) = x * x - 2 * (s * x) + s * s := by
    rw [Int.sub_mul, Int.mul_sub, Int.mul_sub, Int.mul_comm x s]; omega
  have h4 : (2 * s - x) * x ≤ n := by
    have e : (2 * s - x) * x = 2 * (s * x) - x * x := by rw [Int.sub_mul, Int.mul_assoc]
    omega
  have h5 : 2 * s - x ≤ n / x := (Int.le_ediv_iff_mul_le hx).mpr h4
  omega
theorem newton_end {n x : Int} (hx : 0 < x) (h : x ≤ (x + n / x) / 2) : x * x ≤ n := by
  have h1 : x ≤ n / x := by omega
  exact (Int.le_ediv_iff_mul_le hx).mp h1
theorem sq_big {n x : Int} (hn : 0 ≤ n) (hx : 0 ≤ x) (h : n < x * x) : isq n ≤ x := by
  have h1 := isq_le hn
  have := lt_of_sq hx (by omega : isq n * isq n < x * x)
  omega
/-! ### common divisors -/
theorem gcd_step {l h : Int} (hl : 0 ≤ l) (hh : 0 < h) : Int.gcd h (l.fmod h) = Int.gcd l h := by
  obtain ⟨a, rfl⟩ := Int.eq_ofNat_of_zero_le hl
  obtain ⟨b, rfl⟩ := Int.eq_ofNat_of_zero_le (Int.le_of_lt hh)
  rw [Int.fmod_eq_emod_of_nonneg _ (by omega)]
  show Nat.gcd (b : Int).natAbs ((a : Int) % (b : Int)).natAbs = Nat.gcd (a : Int).natAbs (b : Int).natAbs
  rw [← Int.natCast_emod, Int.natAbs_natCast, Int.natAbs_natCast, Int.natAbs_natCast, Nat.gcd_comm b, Nat.gcd_comm a b]
  exact (Nat.gcd_rec b a).symm
theorem gcd_end {l : Int} (hl : 0 ≤ l) : ((Int.gcd l 0 : Nat) : Int) = l := by
  rw [Int.gcd_zero_right]; omega
end DL
namespace DL
open PySem PySem.Spec PyProof.Rows L2
theorem gIn_two {i a b : Int} {M : Mem} {Q : DQ} : gIn false (.int i) (.lst [.int a, .int b]) M Q = Q (.bl (i == a || i == b)) M := by
  show Q (.bl ((a == i || (b == i || false)) != false)) M = _
  have e : ((a == i || (b == i || false)) != false) = (i == a || i == b) := by
    rw [Bool.bne_false, Bool.or_false, Bool.beq_comm (a := a), Bool.beq_comm (a := b)]
  rw [e]
theorem gRepr_bl {b : Bool} {M : Mem} {Q : DQ} : gRepr [.bl b] M Q = Q (.str (PyData.shown (.bool b))) M := by
  cases b <;> rfl
local macro_rules | `(tactic| walk_at "rd") => `(tactic| simp only [startD, List.map, List.replicate, List.length_cons, List.length_nil, List.append_eq, List.append_nil, List.nil_append, List.cons_append, Nat.reduceSub, Nat.reduceAdd, List.getElem?_cons_zero, List.getElem?_cons_succ, List.set_cons_zero, List.set_cons_succ,
  dC, dVar, dOp, dTru, gTru, tru, dChain, dAnd, dOr, dNot, dAndV, dOrV, dNotV, dIf, dNeg, gNeg, dNil, dCons, dTup, dLst, dOwn, gIx, rBin, gAdd, gCmpI, dCall, dCallK, dSeq, dNext, dDrop, dRet, dRetN, dIfS, dName, dGNil, dGCons, dGTup, dSub, gSetL, dAsg, dPar, dPar3, dAug, gIpI, dSeqI, gSeqI, dRngI, gRng1, gRng2, dCB, gAbs, gInt, gMax, gMin, gGcd, gLen, lenD, gIsi, tyM, tyD, dBits, gBits, dMet, gAppend, dPart, dNoPart, dSl, dEnds, gIs, isB, dNever, dFor, dLc, wipeD, dYes,
  sizeLine_eq, Nat.reduceLeDiff, gEq_int, gNe_int, gEq_strs, gNe_strs, gIn_two, gRepr_bl, rs_lst, rs_tup, rs_scr, rs_int, atI_0, atI_1, atI_2, atI_3, atI_4, atI_5, ixN_30, ixN_31, ixN_32, gEq_bl, gNe_bl, decide_eq_true_eq, beq_iff_eq, Bool.not_eq_true', beq_eq_false_iff_ne, decide_eq_false_iff_not, Bool.not_true, Bool.not_false, if_true, if_false, Bool.false_eq_true, ite_true, ite_false, true_and, and_true, ne_eq, Bool.bne_false, Bool.bne_true, reduceCtorEq])
/-! ### sizes -/
theorem sm_big {i : Int} (h1 : -BIG ≤ i) (h2 : i ≤ BIG) : Sm i := by
  have := log_of_big h1 h2
  unfold Sm; omega
theorem sm_big8 {i : Int} (h1 : -(8 * BIG) ≤ i) (h2 : i ≤ 8 * BIG) : Sm i := by
  refine Sm.of 4004 ?_ (by decide)
  have h3 : (2 : Nat) ^ 4004 = 16 * BIGN := by unfold BIGN; rw [Nat.pow_add 2 4000 4, Nat.mul_comm]
  have h4 := bign_pos
  rw [h3]
  unfold BIG at h1 h2
  omega
theorem cdiv_big {a i : Int} (h0 : i ≠ 0) (h1 : -(8 * BIG) ≤ i) (h2 : i ≤ 8 * BIG) : CDiv a i := by
  refine ⟨h0, Nat.lt_of_lt_of_le (log2_of 4004 ?_ (by decide)) (by decide)⟩
  have h3 : (2 : Nat) ^ 4004 = 16 * BIGN := by unfold BIGN; rw [Nat.pow_add 2 4000 4, Nat.mul_comm]
  have h4 := bign_pos
  rw [h3]
  unfold BIG at h1 h2
  omega
theorem fdiv_pos {a b : Int} (h : 0 < b) : a.fdiv b = a / b := Int.fdiv_eq_ediv_of_nonneg a (Int.le_of_lt h)
theorem fmod_pos {a b : Int} (h : 0 < b) : a.fmod b = a % b := Int.fmod_eq_emod_of_nonneg a (Int.le_of_lt h)
/-! ### kinds -/
theorem kb_NoneType_int : kitB "NoneType" "int" = some false := by decide +kernel
theorem kb_bool_int : kitB "bool" "int" = some true := by decide +kernel
theorem kb_int_int : kitB "int" "int" = some true := by decide +kernel
theorem kb_str_int : kitB "str" "int" = some false := by decide +kernel
theorem kb_tuple_int : kitB "tuple" "int" = some false := by decide +kernel
theorem kb_list_int : kitB "list" "int" = some false := by decide +kernel
theorem kb_dict_int : kitB "dict" "int" = some false := by decide +kernel
theorem kb_NoneType_bool : kitB "NoneType" "bool" = some false := by decide +kernel
theorem kb_bool_bool : kitB "bool" "bool" = some true := by decide +kernel
theorem kb_int_bool : kitB "int" "bool" = some false := by decide +kernel
theorem kb_str_bool : kitB "str" "bool" = some false := by decide +kernel
theorem kb_tuple_bool : kitB "tuple" "bool" = some false := by decide +kernel
theorem kb_list_bool : kitB "list" "bool" = some false := by decide +kernel
theorem kb_dict_bool : kitB "dict" "bool" = some false := by decide +kernel
theorem kb_NoneType_tuple : kitB "NoneType" "tuple" = some false := by decide +kernel
theorem kb_bool_tuple : kitB "bool" "tuple" = some false := by decide +kernel
theorem kb_int_tuple : kitB "int" "tuple" = some false := by decide +kernel
theorem kb_str_tuple : kitB "str" "tuple" = some false := by decide +kernel
theorem kb_tuple_tuple : kitB "tuple" "tuple" = some true := by decide +kernel
theorem kb_list_tuple : kitB "list" "tuple" = some false := by decide +kernel
theorem kb_dict_tuple : kitB "dict" "tuple" = some false := by decide +kernel
theorem kb_NoneType_list : kitB "NoneType" "list" = some false := by decide +kernel
theorem kb_bool_list : kitB "bool" "list" = some false := by decide +kernel
theorem kb_int_list : kitB "int" "list" = some false := by decide +kernel
theorem kb_str_list : kitB "str" "list" = some false := by decide +kernel
theorem kb_tuple_list : kitB "tuple" "list" = some false := by decide +kernel
theorem kb_list_list : kitB "list" "list" = some true := by decide +kernel
theorem kb_dict_list : kitB "dict" "list" = some false := by decide +kernel
local macro_rules | `(tactic| walk_at "kb") => `(tactic| simp only [kb_NoneType_list, kb_bool_list, kb_int_list, kb_str_list, kb_tuple_list, kb_list_list, kb_dict_list, kb_NoneType_int, kb_bool_int, kb_int_int, kb_str_int, kb_tuple_int, kb_list_int, kb_dict_int, kb_NoneType_bool, kb_bool_bool, kb_int_bool, kb_str_bool, kb_tuple_bool, kb_list_bool, kb_dict_bool, kb_NoneType_tuple, kb_bool_tuple, kb_int_tuple, kb_str_tuple, kb_tuple_tuple, kb_list_tuple, kb_dict_tuple, if_true, if_false, Bool.false_eq_true, ite_true, ite_false, Bool.not_true, Bool.not_false])
/-! ### measures -/
def isW : D → Bool
  | .int _ => true
  | _ => false
/-- is_whole(d), d any data -/
def sp_is_whole : DSp := fun ds M Q _ => ∃ d T, ds = [d] ∧ tyM M d = some T ∧ Q (.bl (isW d)) M
theorem rd_is_whole : ∀ ds M Q, ds.length = 1 → sp_is_whole ds M Q DX0 → t_is_whole (dEnds M Q) (startD 1 ds) M := by
  rintro _ M Q _ ⟨d, T, rfl, ht, q⟩
  unfold t_is_whole
  cases d <;> first | (cases ht; done) | skip
  all_goals walk_at "rd"
  case own k =>
    unfold tyM at ht
    dsimp only at ht
    split at ht
    · rename_i ds hk
      simp only [hk]
      walk_at "kb"
      exact rtq q
    · cases ht
  all_goals walk_at "kb"
  all_goals exact rtq q
/-- the common divisor of two ints -/
def sp_gcd : DSp := fun ds M Q _ => ∃ a b : Int, ds = [.int a, .int b] ∧ Q (.int (Int.gcd a b)) M
theorem gcd_abs (a b : Int) : Int.gcd (if a < 0 then -a else a) (if b < 0 then -b else b) = Int.gcd a b := by
  split <;> split <;> simp
theorem rd_common_by : ∀ ds M Q, ds.length = 2 → sp_gcd ds M Q DX0 → t_common_by (dEnds M Q) (startD 4 ds) M := by
  rintro _ M Q _ ⟨a, b, rfl, q⟩
  unfold t_common_by
  walk_at "rd"
  refine dwhile_of (fun n r M' => ∃ l h : Int, r = [some (.int a), some (.int b), some (.int l), some (.int h)] ∧ M' = M ∧ 0 ≤ l ∧ 0 ≤ h ∧ Int.gcd l h = Int.gcd a b ∧ n = h.toNat) _ ⟨_, _, rfl, rfl, ?_, ?_, gcd_abs a b, rfl⟩ ?_
  · split <;> omega
  · split <;> omega
  · rintro n r M' ⟨l, h, rfl, rfl, hl, hh, hg, rfl⟩
    walk_at "rd"
    split
    · rename_i h0
      have hp : 0 < h := by omega
      refine ⟨h0, _, ?_, h, l.fmod h, rfl, hh, ?_, (gcd_step hl hp).trans hg, rfl⟩
      · rw [fmod_pos hp]
        have := Int.emod_lt_of_pos l hp
        have := Int.emod_nonneg l h0
        omega
      · rw [fmod_pos hp]; exact Int.emod_nonneg l h0
    · rename_i h0
      have h0 : h = 0 := by omega
      subst h0
      rw [← hg, gcd_end hl] at q
      exact rtq q
/-- the whole root of a count -/
def sp_isq : DSp := fun ds M Q _ => ∃ n : Int, ds = [.int n] ∧ 0 ≤ n ∧ n ≤ BIG ∧ Q (.int (isq n)) M
theorem rd_root_floor_by : ∀ ds M Q, ds.length = 1 → sp_isq ds M Q DX0 → t_root_floor_by (dEnds M Q) (startD 3 ds) M := by
  rintro _ M Q _ ⟨n, rfl, h0, hB, q⟩
  unfold t_root_floor_by
  walk_at "rd"
  split
  · rename_i h2
    have : isq n = n := by
      rcases (by omega : n = 0 ∨ n = 1) with e | e <;> subst e
      · exact isq_self (r := 0) (by decide)
      · exact isq_self (r := 1) (by decide)
    rw [this] at q
    exact rtq q
  · rename_i h2
    refine dwhile_of (fun m r M' => ∃ f : Int, r = [some (.int n), some (.int f), none] ∧ M' = M ∧ 1 ≤ f ∧ f ≤ 2 * n ∧ m = (2 * n + 2 - f).toNat) _ ⟨1, rfl, rfl, by omega, by omega, rfl⟩ ?_
    rintro m r M' ⟨f, rfl, rfl, hf, hf2, rfl⟩
    walk_at "rd"
    have sf : Sm f := sm_big8 (by omega) (by omega)
    refine ⟨⟨sf, sf⟩, ?_⟩
    split
    · rename_i hc
      refine ⟨⟨Sm.of 4 (by decide), sf⟩, _, ?_, 2 * f, rfl, by omega, ?_, rfl⟩
      · have : f * 1 ≤ f * f := Int.mul_le_mul_of_nonneg_left hf (by omega)
        omega
      · have : f * 1 ≤ f * f := Int.mul_le_mul_of_nonneg_left hf (by omega)
        omega
    · rename_i hc
      have dv : ∀ x : Int, 1 ≤ x → x ≤ 2 * n → CDiv n x := fun x h1 h3 => cdiv_big (by omega) (by omega) (by omega)
      have d2 : ∀ x : Int, CDiv x 2 := fun x => ⟨by decide, by decide⟩
      refine ⟨dv f hf hf2, d2 _, ?_⟩
      refine dwhile_of (fun m r M'' => ∃ x : Int, r = [some (.int n), some (.int x), some (.int ((x + n.fdiv x).fdiv 2))] ∧ M'' = M' ∧ 1 ≤ x ∧ x ≤ 2 * n ∧ isq n ≤ x ∧ m = x.toNat) _ ⟨f, rfl, rfl, hf, hf2, sq_big h0 (by omega) (by omega), rfl⟩ ?_
      rintro m r M'' ⟨x, rfl, rfl, hx, hx2, hs, rfl⟩
      walk_at "rd"
      have e1 : n.fdiv x = n / x := fdiv_pos (by omega)
      have e2 : ∀ y : Int, y.fdiv 2 = y / 2 := fun y => fdiv_pos (by decide)
      rw [e2, e1]
      have ng := newton_ge h0 (x := x) (by omega)
      have h1q : 1 ≤ isq n := by
        by_cases z : 1 ≤ isq n
        · exact z
        · have e : isq n = 0 := by have := isq_nn n; omega
          have := isq_lt h0
          rw [e] at this
          omega
      split
      · rename_i hlt
        refine ⟨dv _ (by omega) (by omega), d2 _, _, ?_, (x + n / x) / 2, ?_, by omega, by omega, ng, rfl⟩
        · omega
        · rw [e2]
      · rename_i hge
        have e : isq n = x := isq_uni (by omega) (newton_end (by omega) (by omega)) (by
          have h3 := isq_lt h0
          have : (isq n + 1) * (isq n + 1) ≤ (x + 1) * (x + 1) := sq_le (by omega) (by omega)
          omega)
        rw [e] at q
        exact rtq q
end DL
namespace DL
open PySem PySem.Spec PyProof.Rows L2
local macro_rules | `(tactic| walk_at "rd") => `(tactic| simp only [startD, List.map, List.replicate, List.length_cons, List.length_nil, List.append_eq, List.append_nil, List.nil_append, List.cons_append, Nat.reduceSub, Nat.reduceAdd, List.getElem?_cons_zero, List.getElem?_cons_succ, List.set_cons_zero, List.set_cons_succ,
  dC, dVar, dOp, dTru, gTru, tru, dChain, dAnd, dOr, dNot, dAndV, dOrV, dNotV, dIf, dNeg, gNeg, dNil, dCons, dTup, dLst, dOwn, gIx, rBin, gAdd, gCmpI, dCall, dCallK, dSeq, dNext, dDrop, dRet, dRetN, dIfS, dName, dGNil, dGCons, dGTup, dSub, gSetL, dAsg, dPar, dPar3, dAug, gIpI, dSeqI, gSeqI, dRngI, gRng1, gRng2, dCB, gAbs, gInt, gMax, gMin, gGcd, gLen, lenD, gIsi, tyM, tyD, dBits, gBits, dMet, gAppend, dPart, dNoPart, dSl, dEnds, gIs, isB, dNever, dFor, dLc, wipeD, dYes,
  sizeLine_eq, Nat.reduceLeDiff, gEq_int, gNe_int, gEq_strs, gNe_strs, gIn_two, gRepr_bl, rs_lst, rs_tup, rs_scr, rs_int, atI_0, atI_1, atI_2, atI_3, atI_4, atI_5, ixN_30, ixN_31, ixN_32, gEq_bl, gNe_bl, decide_eq_true_eq, beq_iff_eq, Bool.not_eq_true', beq_eq_false_iff_ne, decide_eq_false_iff_not, Bool.not_true, Bool.not_false, if_true, if_false, Bool.false_eq_true, ite_true, ite_false, true_and, and_true, ne_eq, Bool.bne_false, Bool.bne_true, reduceCtorEq])
local macro_rules | `(tactic| walk_at "rh") => `(tactic| simp only [*, startD, List.map, List.replicate, List.length_cons, List.length_nil, List.append_eq, List.append_nil, List.nil_append, List.cons_append, Nat.reduceSub, Nat.reduceAdd, List.getElem?_cons_zero, List.getElem?_cons_succ, List.set_cons_zero, List.set_cons_succ,
  dC, dVar, dOp, dTru, gTru, tru, dChain, dAnd, dOr, dNot, dAndV, dOrV, dNotV, dIf, dNeg, gNeg, dNil, dCons, dTup, dLst, dOwn, gIx, rBin, gAdd, gCmpI, dCall, dCallK, dSeq, dNext, dDrop, dRet, dRetN, dIfS, dName, dGNil, dGCons, dGTup, dSub, gSetL, dAsg, dPar, dPar3, dAug, gIpI, dSeqI, gSeqI, dRngI, gRng1, gRng2, dCB, gAbs, gInt, gMax, gMin, gGcd, gLen, lenD, gIsi, tyM, tyD, dBits, gBits, dMet, gAppend, dPart, dNoPart, dSl, dEnds, gIs, isB, dNever, dFor, dLc, wipeD, dYes,
  sizeLine_eq, Nat.reduceLeDiff, gEq_int, gNe_int, gEq_strs, gNe_strs, gIn_two, gRepr_bl, rs_lst, rs_tup, rs_scr, rs_int, atI_0, atI_1, atI_2, atI_3, atI_4, atI_5, ixN_30, ixN_31, ixN_32, gEq_bl, gNe_bl, decide_eq_true_eq, beq_iff_eq, Bool.not_eq_true', beq_eq_false_iff_ne, decide_eq_false_iff_not, Bool.not_true, Bool.not_false, if_true, if_false, Bool.false_eq_true, ite_true, ite_false, true_and, and_true, ne_eq, Bool.bne_false, Bool.bne_true, reduceCtorEq])
local macro_rules | `(tactic| walk_at "kb") => `(tactic| simp only [kb_NoneType_list, kb_bool_list, kb_int_list, kb_str_list, kb_tuple_list, kb_list_list, kb_dict_list, kb_NoneType_int, kb_bool_int, kb_int_int, kb_str_int, kb_tuple_int, kb_list_int, kb_dict_int, kb_NoneType_bool, kb_bool_bool, kb_int_bool, kb_str_bool, kb_tuple_bool, kb_list_bool, kb_dict_bool, kb_NoneType_tuple, kb_bool_tuple, kb_int_tuple, kb_str_tuple, kb_tuple_tuple, kb_list_tuple, kb_dict_tuple, if_true, if_false, Bool.false_eq_true, ite_true, ite_false, Bool.not_true, Bool.not_false])
/-! ### bounds and measures -/
def btw (d : D) (lo : Int) (hi : D) : Bool := match d with
  | .int i => decide (lo ≤ i) && (match hi with | .int h => decide (i ≤ h) | _ => true)
  | _ => false
def sp_is_between : DSp := fun ds M Q _ => ∃ d lo hi T, ds = [d, .int lo, hi] ∧ tyM M d = some T ∧ (hi = .non ∨ ∃ h, hi = .int h) ∧ Q (.bl (btw d lo hi)) M
theorem rd_is_between : ∀ ds M Q, ds.length = 3 → sp_is_between ds M Q DX0 → t_is_between sp_is_whole (dEnds M Q) (startD 3 ds) M := by
  rintro _ M Q - ⟨d, lo, hi, T, rfl, ht, hh, q⟩
  unfold t_is_between
  walk_at "rd"
  refine ⟨d, T, rfl, ht, ?_⟩
  cases d <;> first | (simp only [isW, Bool.false_eq_true, if_false]; exact rtq q) | skip
  simp only [isW, if_true]
  by_cases h1 : lo ≤ (‹Int› : Int)
  · simp only [h1, if_true]
    rcases hh with rfl | ⟨h, rfl⟩
    · walk_at "rd"
      simp only [btw, h1, decide_true, Bool.and_true] at q
      exact rtq q
    · walk_at "rd"
      simp only [btw, h1, decide_true, Bool.true_and] at q
      exact rtq q
  · simp only [h1, if_false]
    simp only [btw, h1, decide_false, Bool.false_and] at q
    exact rtq q
def isMeas (d : D) : Bool := match d with
  | .int i => decide (5 ≤ i) && (i % 4 == 0 || i % 4 == 1)
  | _ => false
def sp_is_measure : DSp := fun ds M Q _ => ∃ d T, ds = [d] ∧ tyM M d = some T ∧ Q (.bl (isMeas d)) M
theorem rd_is_measure_by : ∀ ds M Q, ds.length = 1 → sp_is_measure ds M Q DX0 → t_is_measure_by sp_is_between (dEnds M Q) (startD 1 ds) M := by
  rintro _ M Q - ⟨d, T, rfl, ht, q⟩
  unfold t_is_measure_by
  walk_at "rd"
  refine ⟨d, 5, .non, T, rfl, ht, .inl rfl, ?_⟩
  cases d <;> first | (simp only [btw, Bool.false_eq_true, if_false]; exact rtq q) | skip
  rename_i i
  simp only [btw, Bool.and_true, decide_eq_true_eq]
  by_cases h1 : 5 ≤ i
  · simp only [h1, if_true]
    refine ⟨(by decide : (4 : Int) ≠ 0), ?_⟩
    simp only [isMeas, h1, decide_true, Bool.true_and] at q
    rw [fmod_pos (by decide)]
    exact rtq q
  · simp only [h1, if_false]
    simp only [isMeas, h1, decide_false, Bool.false_and] at q
    exact rtq q
/-! ### root numbers -/
/-! ### the least form of a root number -/
def isSq (m : Int) : Prop := isq m * isq m = m
instance (m : Int) : Decidable (isSq m) := inferInstanceAs (Decidable (_ = _))
def rnX (m x y : Int) : Int := if isSq m then x + y * isq m else x
def rnY (m y : Int) : Int := if isSq m then 0 else y
def rnC (m x y b : Int) : Int := if b < 0 then 0 - (Int.gcd (Int.gcd (rnX m x y) (rnY m y) : Int) b : Int) else (Int.gcd (Int.gcd (rnX m x y) (rnY m y) : Int) b : Int)
def rootN (m x y b : Int) : D := .tup [.int ((rnX m x y).fdiv (rnC m x y b)), .int ((rnY m y).fdiv (rnC m x y b)), .int (b.fdiv (rnC m x y b))]
theorem gcd_bound {g b : Int} (hb : b ≠ 0) : (1 : Int) ≤ Int.gcd g b ∧ (Int.gcd g b : Int) ≤ b.natAbs := by
  have h1 : 0 < Int.gcd g b := Int.gcd_pos_of_ne_zero_right g hb
  have h2 : Int.gcd g b ≤ b.natAbs := Nat.le_of_dvd (by omega) (Int.gcd_dvd_natAbs_right g b)
  omega
theorem meas_ge {m : Int} (h : isMeas (.int m) = true) : 5 ≤ m := by
  simp only [isMeas, Bool.and_eq_true, decide_eq_true_eq] at h
  exact h.1
end DL
namespace DL
open PySem PySem.Spec PyProof.Rows L2
local macro_rules | `(tactic| walk_at "rd") => `(tactic| simp only [startD, List.map, List.replicate, List.length_cons, List.length_nil, List.append_eq, List.append_nil, List.nil_append, List.cons_append, Nat.reduceSub, Nat.reduceAdd, List.getElem?_cons_zero, List.getElem?_cons_succ, List.set_cons_zero, List.set_cons_succ,
  dC, dVar, dOp, dTru, gTru, tru, dChain, dAnd, dOr, dNot, dAndV, dOrV, dNotV, dIf, dNeg, gNeg, dNil, dCons, dTup, dLst, dOwn, gIx, rBin, gAdd, gCmpI, dCall, dCallK, dSeq, dNext, dDrop, dRet, dRetN, dIfS, dName, dGNil, dGCons, dGTup, dSub, gSetL, dAsg, dPar, dPar3, dAug, gIpI, dSeqI, gSeqI, dRngI, gRng1, gRng2, dCB, gAbs, gInt, gMax, gMin, gGcd, gLen, lenD, gIsi, tyM, tyD, dBits, gBits, dMet, gAppend, dPart, dNoPart, dSl, dEnds, gIs, isB, dNever, dFor, dLc, wipeD, dYes,
  sizeLine_eq, Nat.reduceLeDiff, gEq_int, gNe_int, gEq_strs, gNe_strs, gIn_two, gRepr_bl, rs_lst, rs_tup, rs_scr, rs_int, atI_0, atI_1, atI_2, atI_3, atI_4, atI_5, ixN_30, ixN_31, ixN_32, gEq_bl, gNe_bl, decide_eq_true_eq, beq_iff_eq, Bool.not_eq_true', beq_eq_false_iff_ne, decide_eq_false_iff_not, Bool.not_true, Bool.not_false, if_true, if_false, Bool.false_eq_true, ite_true, ite_false, true_and, and_true, ne_eq, Bool.bne_false, Bool.bne_true, reduceCtorEq])
local macro_rules | `(tactic| walk_at "rh") => `(tactic| simp only [*, startD, List.map, List.replicate, List.length_cons, List.length_nil, List.append_eq, List.append_nil, List.nil_append, List.cons_append, Nat.reduceSub, Nat.reduceAdd, List.getElem?_cons_zero, List.getElem?_cons_succ, List.set_cons_zero, List.set_cons_succ,
  dC, dVar, dOp, dTru, gTru, tru, dChain, dAnd, dOr, dNot, dAndV, dOrV, dNotV, dIf, dNeg, gNeg, dNil, dCons, dTup, dLst, dOwn, gIx, rBin, gAdd, gCmpI, dCall, dCallK, dSeq, dNext, dDrop, dRet, dRetN, dIfS, dName, dGNil, dGCons, dGTup, dSub, gSetL, dAsg, dPar, dPar3, dAug, gIpI, dSeqI, gSeqI, dRngI, gRng1, gRng2, dCB, gAbs, gInt, gMax, gMin, gGcd, gLen, lenD, gIsi, tyM, tyD, dBits, gBits, dMet, gAppend, dPart, dNoPart, dSl, dEnds, gIs, isB, dNever, dFor, dLc, wipeD, dYes,
  sizeLine_eq, Nat.reduceLeDiff, gEq_int, gNe_int, gEq_strs, gNe_strs, gIn_two, gRepr_bl, rs_lst, rs_tup, rs_scr, rs_int, atI_0, atI_1, atI_2, atI_3, atI_4, atI_5, ixN_30, ixN_31, ixN_32, gEq_bl, gNe_bl, decide_eq_true_eq, beq_iff_eq, Bool.not_eq_true', beq_eq_false_iff_ne, decide_eq_false_iff_not, Bool.not_true, Bool.not_false, if_true, if_false, Bool.false_eq_true, ite_true, ite_false, true_and, and_true, ne_eq, Bool.bne_false, Bool.bne_true, reduceCtorEq])
local macro_rules | `(tactic| walk_at "kb") => `(tactic| simp only [kb_NoneType_list, kb_bool_list, kb_int_list, kb_str_list, kb_tuple_list, kb_list_list, kb_dict_list, kb_NoneType_int, kb_bool_int, kb_int_int, kb_str_int, kb_tuple_int, kb_list_int, kb_dict_int, kb_NoneType_bool, kb_bool_bool, kb_int_bool, kb_str_bool, kb_tuple_bool, kb_list_bool, kb_dict_bool, kb_NoneType_tuple, kb_bool_tuple, kb_int_tuple, kb_str_tuple, kb_tuple_tuple, kb_list_tuple, kb_dict_tuple, if_true, if_false, Bool.false_eq_true, ite_true, ite_false, Bool.not_true, Bool.not_false])
/-! ### the law's own draws -/
theorem sm_of {i : Int} (n : Nat) (h1 : -(2 ^ n : Int) < i) (h2 : i < 2 ^ n) (hn : n ≤ 400000 := by decide) : Sm i := by
  refine Sm.of n ?_ hn
  have e : ((2 ^ n : Nat) : Int) = (2 : Int) ^ n := by rw [Int.natCast_pow]; rfl
  omega
theorem fm_range {a b : Int} (h : 0 < b) : 0 ≤ a.fmod b ∧ a.fmod b < b := by
  rw [fmod_pos h]
  exact ⟨Int.emod_nonneg _ (by omega), Int.emod_lt_of_pos _ h⟩
def P31 : Int := 2147483648
def P40 : Int := 1099511627776
def sp_hash : DSp := fun ds M Q _ => ∃ s c : Int, ds = [.int s, .int c] ∧ 0 ≤ s ∧ s < P31 ∧ 0 ≤ c ∧ c ≤ P40 ∧ ∀ v, 0 ≤ v → v < P31 → Q (.int v) M
theorem rd_l_hash_9cde : ∀ ds M Q, ds.length = 2 → sp_hash ds M Q DX0 → t_l_hash_9cde (dEnds M Q) (startD 3 ds) M := by
  rintro _ M Q - ⟨s, c, rfl, s0, s1, c0, c1, q⟩
  unfold P31 P40 at *
  unfold t_l_hash_9cde
  walk_at "rd"
  have ss : Sm s := sm_of 32 (by omega) (by omega)
  have sc : Sm c := sm_of 42 (by omega) (by omega)
  have hm : ∀ a : Int, 0 ≤ a.fmod 2147483629 ∧ a.fmod 2147483629 < 2147483629 := fun a => fm_range (by decide)
  have k1 : Sm (16777259 * c) := sm_of 72 (by omega) (by omega)
  refine ⟨⟨ss, sm_of 32 (by decide) (by decide)⟩, ⟨sm_of 32 (by decide) (by decide), sc⟩, ⟨k1, sc⟩, ⟨sm_of 32 (by decide) (by decide), sc⟩, (by decide : (2147483629 : Int) ≠ 0), ?_⟩
  generalize hv : Int.fmod _ 2147483629 = v
  have v1 : 0 ≤ v ∧ v < 2147483629 := by rw [← hv]; exact hm _
  have sv : Sm v := sm_of 32 (by omega) (by omega)
  refine ⟨⟨sv, sv⟩, ⟨sm_of 32 (by decide) (by decide), sc⟩, (by decide : (2147483587 : Int) ≠ 0), ?_⟩
  generalize hw : Int.fmod _ 2147483587 = w
  have w1 : 0 ≤ w ∧ w < 2147483587 := by rw [← hw]; exact fm_range (by decide)
  refine ⟨⟨sm_of 32 (by omega) (by omega), sm_of 32 (by decide) (by decide)⟩, (by decide : (2147483647 : Int) ≠ 0), ?_⟩
  have r1 : 0 ≤ (w * 69069).fmod 2147483647 ∧ (w * 69069).fmod 2147483647 < 2147483647 := fm_range (by decide)
  exact rtq (q _ r1.1 (by omega))
/-- cell k is a generator that has counted n, at most -/
def Gn (k : Nat) (n : Int) (M : Mem) : Prop := ∃ a s c : Int, M[k]? = some (.lst [.int a, .int s, .int c]) ∧ 0 ≤ s ∧ s < P31 ∧ 0 ≤ c ∧ c ≤ n
/-- cell k alone has changed -/
def Gst (k : Nat) (n : Int) (M M' : Mem) : Prop := M'.length = M.length ∧ Gn k n M' ∧ ∀ i, i ≠ k → M'[i]? = M[i]?
theorem Gn.le {k : Nat} {n m : Int} {M : Mem} (h : Gn k n M) (hn : n ≤ m) : Gn k m M := by
  obtain ⟨a, s, c, h1, h2, h3, h4, h5⟩ := h
  exact ⟨a, s, c, h1, h2, h3, h4, by omega⟩
theorem Gst.refl {k : Nat} {n : Int} {M : Mem} (h : Gn k n M) : Gst k n M M := ⟨rfl, h, fun _ _ => rfl⟩
theorem Gst.trans {k : Nat} {n m : Int} {M M' M'' : Mem} (h : Gst k n M M') (g : Gst k m M' M'') : Gst k m M M'' :=
  ⟨g.1.trans h.1, g.2.1, fun i hi => (g.2.2 i hi).trans (h.2.2 i hi)⟩
theorem Gst.le {k : Nat} {n m : Int} {M M' : Mem} (h : Gst k n M M') (hn : n ≤ m) : Gst k m M M' := ⟨h.1, h.2.1.le hn, h.2.2⟩
theorem Gst.set {k : Nat} {n : Int} {M : Mem} {a s c : Int} (hk : k < M.length) (h2 : 0 ≤ s) (h3 : s < P31) (h4 : 0 ≤ c) (h5 : c ≤ n) : Gst k n M (M.set k (.lst [.int a, .int s, .int c])) :=
  ⟨List.length_set, ⟨a, s, c, List.getElem?_set_self hk, h2, h3, h4, h5⟩, fun _ hi => List.getElem?_set_ne (Ne.symm hi)⟩
/-- a def that has changed the generator alone -/
theorem Gst.rtq {k : Nat} {n : Int} {M M' : Mem} {Q : DQ} {d : D} (h : Gst k n M M') (q : Q d M') (hb : below M'.length d = true := by rfl) : Rtq M Q d M' := by
  refine rtqC q (Nat.le_of_eq h.1.symm) hb fun i c hc => ?_
  by_cases hi : i = k
  · subst hi
    obtain ⟨a, s, c', e, _⟩ := h.2.1
    rw [e] at hc
    cases hc
    exact .inr rfl
  · rw [h.2.2 i hi] at hc
    exact .inl hc
def sp_random : DSp := fun ds M Q _ => ∃ (k : Nat) (b n : Int), ds = [.own k, .int b] ∧ 0 < b ∧ b < 2 ^ 900 ∧ Gn k n M ∧ n ≤ P40 - 40 ∧ ∀ v M', 0 ≤ v → v < b → Gst k (n + 40) M M' → Q (.int v) M'
theorem bits_le {b : Int} {n : Nat} (h0 : 0 < b) (h : b < 2 ^ n) : Builtin.Int.intBits b ≤ n := by
  unfold Builtin.Int.intBits
  rw [if_neg (by simp; omega)]
  have h1 : b.natAbs < 2 ^ n := by
    have e : ((2 ^ n : Nat) : Int) = (2 : Int) ^ n := by rw [Int.natCast_pow]; rfl
    omega
  have := (Nat.log2_lt (by omega)).mpr h1
  omega
theorem rd_l_random_7821 : ∀ ds M Q, ds.length = 2 → sp_random ds M Q DX0 → t_l_random_7821 sp_hash (dEnds M Q) (startD 4 ds) M := by
  rintro _ M Q - ⟨k, b, n, rfl, b0, b1, ⟨a, s, c, hk, s0, s1, c0, c1⟩, hn, q⟩
  have kl : k < M.length := (List.getElem?_eq_some_iff.mp hk).1
  unfold t_l_random_7821
  walk_at "rd"
  have e0 : res M (.own k) = .lst [.int a, .int s, .int c] := by unfold res; dsimp only; rw [hk]
  simp only [e0, hk]
  walk_at "rd"
  by_cases ha : 0 < a
  · rw [if_pos ha]
    have := fm_range (a := a) b0
    refine ⟨(by omega : b ≠ 0), ⟨by omega, Nat.lt_of_lt_of_le (log2_of 900 (by
      have e : ((2 ^ 900 : Nat) : Int) = (2 : Int) ^ 900 := by rw [Int.natCast_pow]; rfl
      omega) (by decide)) (by decide)⟩, ?_⟩
    exact (Gst.set kl s0 s1 c0 (by omega)).rtq (q _ _ this.1 this.2 (Gst.set kl s0 s1 c0 (by omega)))
  · rw [if_neg ha]
    have hb := bits_le b0 b1
    generalize hbits : Builtin.Int.intBits b = bits at hb
    have ef : ((bits : Nat) : Int).fdiv 30 = (bits / 30 : Nat) := by rw [fdiv_pos (by decide)]; omega
    rw [ef]
    refine ⟨⟨by decide, by decide⟩, ⟨by omega, by omega⟩, ?_⟩
    have eT : (1 + ((bits / 30 : Nat) : Int)).toNat = 1 + bits / 30 := by omega
    rw [eT]
    generalize hT : 1 + bits / 30 = T
    have hT1 : T ≤ 31 := by omega
    refine ⟨fun i r M' => i ≤ T ∧ Gst k (n + i) M M' ∧ ∃ dr tn, r = [some (.own k), some (.int b), some (.int dr), tn] ∧ 0 ≤ dr ∧ dr < 2 ^ (32 * i), ⟨by omega, ⟨rfl, ⟨a, s, c, hk, s0, s1, c0, by omega⟩, fun _ _ => rfl⟩, 0, _, rfl, by decide, by decide⟩, ?_⟩
    rintro i r M' ⟨hi, hg, dr, tn, rfl, d0, d1⟩
    refine ⟨trivial, fun hl => ?_, fun d hd => ?_⟩
    · walk_at "rd"
      have := fm_range (a := dr) b0
      exact ⟨(by omega : b ≠ 0), hg.rtq (q _ _ this.1 this.2 (hg.le (by omega)))⟩
    · obtain ⟨hi2, rfl⟩ := rng_get.mp hd
      obtain ⟨a', s', c', hk', s0', s1', c0', c1'⟩ := hg.2.1
      have kl' : k < M'.length := (List.getElem?_eq_some_iff.mp hk').1
      have e1 : res M' (.own k) = .lst [.int a', .int s', .int c'] := by unfold res; dsimp only; rw [hk']
      walk_at "rd"
      simp only [e1, hk']
      walk_at "rd"
      have e2 : res (M'.set k (.lst [.int a', .int s', .int (c' + 1)])) (.own k) = .lst [.int a', .int s', .int (c' + 1)] := by unfold res; dsimp only; rw [List.getElem?_set_self kl']
      simp only [e2]
      walk_at "rd"
      have sd : Sm dr := sm_of (32 * i) (by have := Int.pow_pos (n := 2) (m := 32 * i) (by decide); omega) d1 (by omega)
      unfold P40 at hn
      refine ⟨⟨sd, sm_of 32 (by decide) (by decide)⟩, s', c' + 1, rfl, s0', s1', by omega, by unfold P40; omega, fun v v0 v1 => ?_⟩
      refine ⟨by omega, hg.trans (Gst.set kl' s0' s1' (by omega) (by omega)), _, _, rfl, by omega, ?_⟩
      unfold P31 at v1
      have e3 : (2 : Int) ^ (32 * (i + 1)) = 2 ^ (32 * i) * 4294967296 := by rw [Nat.mul_add, Int.pow_add]; rfl
      rw [e3]
      omega
def sp_cell : DSp := fun ds M Q _ => ∃ (ns : List Int) (i : Int), ds = [.scr ns, .int i] ∧ 0 ≤ i ∧ ∀ v, Q (.int v) M
theorem rd_l_cell_cf3b : ∀ ds M Q, ds.length = 2 → sp_cell ds M Q DX0 → t_l_cell_cf3b (dEnds M Q) (startD 2 ds) M := by
  rintro _ M Q - ⟨ns, i, rfl, i0, q⟩
  unfold t_l_cell_cf3b
  walk_at "rd"
  by_cases hi : i < (ns.length : Nat)
  · rw [if_pos hi]
    have e : i = (i.toNat : Nat) := by omega
    have hl : i.toNat < ns.length := by omega
    rw [e, atI_of _ hl, List.getElem?_eq_getElem hl]
    exact rtq (q _)
  · rw [if_neg hi]
    obtain ⟨xs, ex⟩ := cut_map ns none (some 1)
    unfold gSlL
    walk_at "rd"
    rw [ex]
    unfold gSum
    walk_at "rd"
    rw [intsD_map]
    exact ⟨(by decide : (1000003 : Int) ≠ 0), rtq (q _)⟩
def sp_generator : DSp := fun ds M Q _ => ∃ (ns : List Int) (i : Int), ds = [.scr ns, .int i] ∧ 0 ≤ i ∧ i < P31 ∧ ∀ M', M'.length = M.length + 1 → Gn M.length (1000 * i) M' → (∀ j, j < M.length → M'[j]? = M[j]?) → Q (.own M.length) M'
theorem rd_l_generator_b324 : ∀ ds M Q, ds.length = 2 → sp_generator ds M Q DX0 → t_l_generator_b324 sp_cell (dEnds M Q) (startD 3 ds) M := by
  rintro _ M Q - ⟨ns, i, rfl, i0, i1, q⟩
  unfold t_l_generator_b324
  walk_at "rd"
  refine ⟨ns, i, rfl, i0, fun v => ?_⟩
  dsimp only
  have cp : CPow 10 18 ∧ CPow 10 60 ∧ CPow (10 ^ Int.toNat 60) 10 := by refine ⟨?_, ?_, ?_⟩ <;> (unfold CPow; decide)
  have hi : Sm i := by unfold P31 at i1; exact sm_of 32 (by omega) (by omega)
  refine ⟨cp.1, cp.2.1, cp.2.2, ?_, (by decide : (2147483647 : Int) ≠ 0), ⟨Sm.of 20 (by decide), hi⟩, ?_⟩
  · have h1 : (0 : Int) < (10 ^ Int.toNat 60) ^ Int.toNat 10 := Int.pow_pos (Int.pow_pos (by decide))
    exact fun e => by rw [e] at h1; exact absurd h1 (by decide)
  · have g := fm_range (a := v) (b := 2147483647) (by decide)
    have hl : ∀ c : Own, (M ++ [c])[M.length]? = some c := fun c => by rw [List.getElem?_append_right (Nat.le_refl _), Nat.sub_self]; rfl
    refine rtqC (q _ (by simp) ⟨_, _, _, hl _, g.1, by unfold P31; omega, by omega, Int.le_refl _⟩ fun j hj => List.getElem?_append_left hj) (by simp) (by simp only [below]; exact decide_eq_true (by simp)) fun j c hc => ?_
    by_cases hj : j < M.length
    · rw [List.getElem?_append_left hj] at hc; exact .inl hc
    · have hj2 : j < M.length + 1 := by
        have := (List.getElem?_eq_some_iff.mp hc).1
        simpa using this
      have e : j = M.length := by omega
      subst e
      rw [hl] at hc
      cases hc
      exact .inr rfl
theorem rd_l_common_6be5 : ∀ ds M Q, ds.length = 2 → sp_gcd ds M Q DX0 → t_l_common_6be5 (dEnds M Q) (startD 4 ds) M := by
  rintro _ M Q - ⟨a, b, rfl, q⟩
  unfold t_l_common_6be5
  walk_at "rd"
  refine dwhile_of (fun n r M' => ∃ l h : Int, r = [some (.int a), some (.int b), some (.int l), some (.int h)] ∧ M' = M ∧ 0 ≤ l ∧ 0 ≤ h ∧ Int.gcd l h = Int.gcd a b ∧ n = h.toNat) _ ⟨_, _, rfl, rfl, ?_, ?_, gcd_abs a b, rfl⟩ ?_
  · split <;> omega
  · split <;> omega
  · rintro n r M' ⟨l, h, rfl, rfl, hl, hh, hg, rfl⟩
    walk_at "rd"
    split
    · rename_i h0
      have hp : 0 < h := by omega
      refine ⟨h0, _, ?_, h, l.fmod h, rfl, hh, ?_, (gcd_step hl hp).trans hg, rfl⟩
      · have := fm_range (a := l) hp
        omega
      · exact (fm_range (a := l) hp).1
    · rename_i h0
      have h0 : h = 0 := by omega
      subst h0
      rw [← hg, gcd_end hl] at q
      exact rtq q
theorem rd_l_root_d754 : ∀ ds M Q, ds.length = 1 → sp_isq ds M Q DX0 → t_l_root_d754 (dEnds M Q) (startD 4 ds) M := by
  rintro _ M Q - ⟨n, rfl, h0, hB, q⟩
  unfold t_l_root_d754
  walk_at "rd"
  refine dwhile_of (fun m r M' => ∃ f : Int, r = [some (.int n), some (.int 0), some (.int f), none] ∧ M' = M ∧ 1 ≤ f ∧ f ≤ 2 * n + 1 ∧ m = (2 * n + 2 - f).toNat) _ ⟨1, rfl, rfl, by omega, by omega, rfl⟩ ?_
  rintro m r M' ⟨f, rfl, rfl, hf, hf2, rfl⟩
  walk_at "rd"
  have sf : Sm f := sm_big8 (by have := big_ge 1; omega) (by have := big_ge 1; omega)
  refine ⟨⟨sf, sf⟩, ?_⟩
  split
  · rename_i hc
    have : f * 1 ≤ f * f := Int.mul_le_mul_of_nonneg_left hf (by omega)
    exact ⟨⟨Sm.of 4 (by decide), sf⟩, _, by omega, 2 * f, rfl, by omega, by omega, rfl⟩
  · rename_i hc
    refine dwhile_of (fun m r M'' => ∃ lo hi : Int, ∃ mi, r = [some (.int n), some (.int lo), some (.int hi), mi] ∧ M'' = M' ∧ 0 ≤ lo ∧ lo < hi ∧ hi ≤ 2 * n + 1 ∧ lo * lo ≤ n ∧ n < hi * hi ∧ m = (hi - lo).toNat) _ ⟨0, f, none, rfl, rfl, by omega, by omega, hf2, by omega, by omega, rfl⟩ ?_
    rintro m r M'' ⟨lo, hi, mi, rfl, rfl, g1, g2, g3, g4, g5, rfl⟩
    walk_at "rd"
    split
    · rename_i hlt
      have e2 : (lo + hi).fdiv 2 = (lo + hi) / 2 := fdiv_pos (by decide)
      rw [e2]
      have sm : Sm ((lo + hi) / 2) := sm_big8 (by have := big_ge 1; omega) (by have := big_ge 1; omega)
      refine ⟨⟨by decide, by decide⟩, ⟨sm, sm⟩, ?_⟩
      split
      · rename_i hm
        exact ⟨_, by omega, (lo + hi) / 2, hi, _, rfl, by omega, by omega, by omega, hm, g5, rfl⟩
      · rename_i hm
        exact ⟨_, by omega, lo, (lo + hi) / 2, _, rfl, by omega, by omega, by omega, g4, by omega, rfl⟩
    · rename_i hge
      have e : hi = lo + 1 := by omega
      subst e
      have e : isq n = lo := isq_uni (by omega) g4 g5
      rw [e] at q
      exact rtq q
def P400 : Int := 2 ^ 400
theorem p400_big : P400 ≤ BIG := by
  unfold P400 BIG BIGN
  have h : (2 : Nat) ^ 400 ≤ 2 ^ 4000 := Nat.pow_le_pow_right (by decide) (by decide)
  have e : ((2 ^ 400 : Nat) : Int) = (2 : Int) ^ 400 := by rw [Int.natCast_pow]; rfl
  omega
theorem p400_900 : P400 < 2 ^ 900 := by
  unfold P400
  have h : (2 : Nat) ^ 400 < 2 ^ 900 := Nat.pow_lt_pow_right (by decide) (by decide)
  have e : ((2 ^ 400 : Nat) : Int) = (2 : Int) ^ 400 := by rw [Int.natCast_pow]; rfl
  have e2 : ((2 ^ 900 : Nat) : Int) = (2 : Int) ^ 900 := by rw [Int.natCast_pow]; rfl
  omega
theorem p400_ten {i : Nat} (h : i ≤ 110) : 5 * (10 : Int) ^ i + 10 ≤ P400 := by
  have h1 : (10 : Int) ^ i ≤ 10 ^ 110 := by
    have h0 : (10 : Nat) ^ i ≤ 10 ^ 110 := Nat.pow_le_pow_right (by decide) h
    have e : ((10 ^ i : Nat) : Int) = (10 : Int) ^ i := by rw [Int.natCast_pow]; rfl
    have e2 : ((10 ^ 110 : Nat) : Int) = (10 : Int) ^ 110 := by rw [Int.natCast_pow]; rfl
    omega
  have h2 : 5 * (10 : Int) ^ 110 + 10 ≤ P400 := by unfold P400; decide +kernel
  omega
def sp_lmeasure : DSp := fun ds M Q _ => ∃ (k : Nat) (f n : Int), ds = [.own k, .int f] ∧ 0 < f ∧ f ≤ 100 ∧ Gn k n M ∧ n ≤ P40 - 400 ∧ ∀ m M', isMeas (.int m) = true → m ≤ 10 ^ (f.toNat + 1) → Gst k (n + 160) M M' → Q (.int m) M'
theorem rd_l_measure_0db7 : ∀ ds M Q, ds.length = 2 → sp_lmeasure ds M Q DX0 → t_l_measure_0db7 sp_random sp_isq (dEnds M Q) (startD 6 ds) M := by
  rintro _ M Q - ⟨k, f, n, rfl, f0, f1, hg, hn, q⟩
  unfold t_l_measure_0db7
  walk_at "rd"
  refine ⟨k, f, n, rfl, f0, by have := p400_900; have := p400_ten (i := 3) (by decide); omega, hg, by omega, fun v M1 v0 v1 g1 => ?_⟩
  walk_at "rd"
  refine ⟨⟨by omega, by omega⟩, ?_⟩
  have eT : (1 + v).toNat ≤ 100 := by omega
  have eF : (1 + v).toNat ≤ f.toNat := by omega
  generalize hT : (1 + v).toNat = T at eT eF
  refine ⟨fun i r M' => i ≤ T ∧ M' = M1 ∧ ∃ b tn, r = [some (.own k), some (.int f), some (.int b), tn, none, none] ∧ 5 ≤ b ∧ b ≤ 5 * 10 ^ i, ⟨by omega, rfl, 5, _, rfl, by omega, by decide⟩, ?_⟩
  rintro i r M' ⟨hi, rfl, b, tn, rfl, b5, b1⟩
  have hp := p400_ten (i := i) (by omega)
  refine ⟨trivial, fun hl => ?_, fun d hd => ?_⟩
  · walk_at "rd"
    refine ⟨k, b, n + 40, rfl, by omega, by have := p400_900; omega, g1.2.1, by omega, fun v2 M2 v20 v21 g2 => ?_⟩
    walk_at "rd"
    refine ⟨k, 6, n + 40 + 40, rfl, by decide, by have := p400_900; have := p400_ten (i := 3) (by decide); omega, g2.2.1, by omega, fun v3 M3 v30 v31 g3 => ?_⟩
    walk_at "rd"
    have hq := isq_le_self (n := 5 + v2) (by omega)
    have hq2 := isq_le (n := 5 + v2) (by omega)
    have hq3 := isq_lt (n := 5 + v2) (by omega)
    have hq0 := isq_nn (5 + v2)
    have hq4 : 2 ≤ isq (5 + v2) := by
      by_cases z : 2 ≤ isq (5 + v2)
      · exact z
      · rcases (by omega : isq (5 + v2) = 0 ∨ isq (5 + v2) = 1) with e | e <;> rw [e] at hq3 <;> omega
    have hq5 : 4 ≤ isq (5 + v2) * isq (5 + v2) := by
      have : 2 * 2 ≤ isq (5 + v2) * isq (5 + v2) := Int.mul_le_mul hq4 hq4 (by decide) hq0
      omega
    have pb := p400_big
    have p9 := p400_900
    have p3 := p400_ten (i := 3) (by decide)
    have pF : 5 * (10 : Int) ^ i + 5 ≤ 10 ^ (f.toNat + 1) := by
      have h0 : (10 : Nat) ^ i ≤ 10 ^ f.toNat := Nat.pow_le_pow_right (by decide) (by omega)
      have h1 : (10 : Nat) ^ (f.toNat + 1) = 10 ^ f.toNat * 10 := by rw [Nat.pow_succ]
      have e : ((10 ^ i : Nat) : Int) = (10 : Int) ^ i := by rw [Int.natCast_pow]; rfl
      have e2 : ((10 ^ (f.toNat + 1) : Nat) : Int) = (10 : Int) ^ (f.toNat + 1) := by rw [Int.natCast_pow]; rfl
      have h3 : 0 < (10 : Nat) ^ i := Nat.pow_pos (by decide)
      omega
    have fin : ∀ N : Int, 4 ≤ N → N ≤ 5 + v2 → ∀ (v4 : Int) M4, 0 ≤ v4 → v4 < 2 → Gst k (n + 40 + 40 + 40 + 40) M3 M4 → Q (.int (if 4 < N - N.fmod 4 + v4 then N - N.fmod 4 + v4 else 5)) M4 := by
      intro N n1 n2 v4 M4 v40 v41 g4
      have ef : N.fmod 4 = N % 4 := fmod_pos (by decide)
      rw [ef]
      refine q _ M4 ?_ ?_ (((((g1.trans g2).trans g3).trans g4).le (by omega)))
      · split
        · rename_i h4
          have h5 : 5 ≤ N - N % 4 + v4 := by omega
          simp only [isMeas, h5, decide_true, Bool.true_and, Bool.or_eq_true, beq_iff_eq]
          omega
        · decide
      · split <;> omega
    by_cases h3 : v3 = 0
    · rw [if_pos h3]
      have sq : Sm (isq (5 + v2)) := sm_big (by omega) (by omega)
      refine ⟨_, rfl, by omega, by omega, _, rfl, by omega, by omega, ⟨sq, sq⟩, (by decide : (4 : Int) ≠ 0), k, 2, n + 40 + 40 + 40, rfl, by decide, by omega, g3.2.1, by omega, fun v4 M4 v40 v41 g4 => ?_⟩
      walk_at "rd"
      have g5 := fin _ hq5 hq2 v4 M4 v40 v41 g4
      have gg := ((g1.trans g2).trans g3).trans g4
      split
      · rename_i h4
        rw [if_pos h4] at g5
        exact gg.rtq g5
      · rename_i h4
        rw [if_neg h4] at g5
        exact gg.rtq g5
    · rw [if_neg h3]
      refine ⟨(by decide : (4 : Int) ≠ 0), k, 2, n + 40 + 40 + 40, rfl, by decide, by omega, g3.2.1, by omega, fun v4 M4 v40 v41 g4 => ?_⟩
      walk_at "rd"
      have g5 := fin _ (by omega) (Int.le_refl _) v4 M4 v40 v41 g4
      have gg := ((g1.trans g2).trans g3).trans g4
      split
      · rename_i h4
        rw [if_pos h4] at g5
        exact gg.rtq g5
      · rename_i h4
        rw [if_neg h4] at g5
        exact gg.rtq g5
  · obtain ⟨hi2, rfl⟩ := rng_get.mp hd
    walk_at "rd"
    have sb : Sm b := sm_big (by have := big_pos; omega) (by have := p400_big; omega)
    refine ⟨⟨Sm.of 5 (by decide), sb⟩, by omega, _, _, rfl, by omega, ?_⟩
    rw [Int.pow_succ]
    omega
end DL
namespace DL
open PySem PySem.Spec PyProof.Rows L2
local macro_rules | `(tactic| walk_at "rd") => `(tactic| simp only [startD, List.map, List.replicate, List.length_cons, List.length_nil, List.append_eq, List.append_nil, List.nil_append, List.cons_append, Nat.reduceSub, Nat.reduceAdd, List.getElem?_cons_zero, List.getElem?_cons_succ, List.set_cons_zero, List.set_cons_succ,
  dC, dVar, dOp, dTru, gTru, tru, dChain, dAnd, dOr, dNot, dAndV, dOrV, dNotV, dIf, dNeg, gNeg, dNil, dCons, dTup, dLst, dOwn, gIx, rBin, gAdd, gCmpI, dCall, dCallK, dSeq, dNext, dDrop, dRet, dRetN, dIfS, dName, dGNil, dGCons, dGTup, dSub, gSetL, dAsg, dPar, dPar3, dAug, gIpI, dSeqI, gSeqI, dRngI, gRng1, gRng2, dCB, gAbs, gInt, gMax, gMin, gGcd, gLen, lenD, gIsi, tyM, tyD, dBits, gBits, dMet, gAppend, dPart, dNoPart, dSl, dEnds, gIs, isB, dNever, dFor, dLc, wipeD, dYes,
  sizeLine_eq, Nat.reduceLeDiff, gEq_int, gNe_int, gEq_strs, gNe_strs, gIn_two, gRepr_bl, rs_lst, rs_tup, rs_scr, rs_int, atI_0, atI_1, atI_2, atI_3, atI_4, atI_5, ixN_30, ixN_31, ixN_32, gEq_bl, gNe_bl, decide_eq_true_eq, beq_iff_eq, Bool.not_eq_true', beq_eq_false_iff_ne, decide_eq_false_iff_not, Bool.not_true, Bool.not_false, if_true, if_false, Bool.false_eq_true, ite_true, ite_false, true_and, and_true, ne_eq, Bool.bne_false, Bool.bne_true, reduceCtorEq])
local macro_rules | `(tactic| walk_at "rh") => `(tactic| simp only [*, startD, List.map, List.replicate, List.length_cons, List.length_nil, List.append_eq, List.append_nil, List.nil_append, List.cons_append, Nat.reduceSub, Nat.reduceAdd, List.getElem?_cons_zero, List.getElem?_cons_succ, List.set_cons_zero, List.set_cons_succ,
  dC, dVar, dOp, dTru, gTru, tru, dChain, dAnd, dOr, dNot, dAndV, dOrV, dNotV, dIf, dNeg, gNeg, dNil, dCons, dTup, dLst, dOwn, gIx, rBin, gAdd, gCmpI, dCall, dCallK, dSeq, dNext, dDrop, dRet, dRetN, dIfS, dName, dGNil, dGCons, dGTup, dSub, gSetL, dAsg, dPar, dPar3, dAug, gIpI, dSeqI, gSeqI, dRngI, gRng1, gRng2, dCB, gAbs, gInt, gMax, gMin, gGcd, gLen, lenD, gIsi, tyM, tyD, dBits, gBits, dMet, gAppend, dPart, dNoPart, dSl, dEnds, gIs, isB, dNever, dFor, dLc, wipeD, dYes,
  sizeLine_eq, Nat.reduceLeDiff, gEq_int, gNe_int, gEq_strs, gNe_strs, gIn_two, gRepr_bl, rs_lst, rs_tup, rs_scr, rs_int, atI_0, atI_1, atI_2, atI_3, atI_4, atI_5, ixN_30, ixN_31, ixN_32, gEq_bl, gNe_bl, decide_eq_true_eq, beq_iff_eq, Bool.not_eq_true', beq_eq_false_iff_ne, decide_eq_false_iff_not, Bool.not_true, Bool.not_false, if_true, if_false, Bool.false_eq_true, ite_true, ite_false, true_and, and_true, ne_eq, Bool.bne_false, Bool.bne_true, reduceCtorEq])
local macro_rules | `(tactic| walk_at "kb") => `(tactic| simp only [kb_NoneType_list, kb_bool_list, kb_int_list, kb_str_list, kb_tuple_list, kb_list_list, kb_dict_list, kb_NoneType_int, kb_bool_int, kb_int_int, kb_str_int, kb_tuple_int, kb_list_int, kb_dict_int, kb_NoneType_bool, kb_bool_bool, kb_int_bool, kb_str_bool, kb_tuple_bool, kb_list_bool, kb_dict_bool, kb_NoneType_tuple, kb_bool_tuple, kb_int_tuple, kb_str_tuple, kb_tuple_tuple, kb_list_tuple, kb_dict_tuple, if_true, if_false, Bool.false_eq_true, ite_true, ite_false, Bool.not_true, Bool.not_false])
theorem dSeq_open {a b : DTS} {E : DEnds} {r : Env} {M : Mem} (h : ∀ B : Env → Mem → Prop, b E = B → a { E with nx := B } r M) : dSeq a b E r M := h _ rfl
/-! ### the least form: scaled, its size -/
theorem gcd_dvd3 (X Y b : Int) : (Int.gcd (Int.gcd X Y : Int) b : Int) ∣ X ∧ (Int.gcd (Int.gcd X Y : Int) b : Int) ∣ Y ∧ (Int.gcd (Int.gcd X Y : Int) b : Int) ∣ b :=
  ⟨Int.dvd_trans (Int.gcd_dvd_left _ _) (Int.gcd_dvd_left _ _), Int.dvd_trans (Int.gcd_dvd_left _ _) (Int.gcd_dvd_right _ _), Int.gcd_dvd_right _ _⟩
theorem rnC_dvd (m x y b : Int) : rnC m x y b ∣ rnX m x y ∧ rnC m x y b ∣ rnY m y ∧ rnC m x y b ∣ b := by
  have h := gcd_dvd3 (rnX m x y) (rnY m y) b
  unfold rnC
  split
  · rw [Int.zero_sub]
    exact ⟨Int.neg_dvd.mpr h.1, Int.neg_dvd.mpr h.2.1, Int.neg_dvd.mpr h.2.2⟩
  · exact h
theorem rnC_ne {m x y b : Int} (hb : b ≠ 0) : rnC m x y b ≠ 0 := by
  have := gcd_bound (g := (Int.gcd (rnX m x y) (rnY m y) : Int)) hb
  unfold rnC
  split <;> omega
theorem fdiv_scale {k a c : Int} (hk : k ≠ 0) (hc : c ≠ 0) (h : c ∣ a) : (k * a).fdiv (k * c) = a.fdiv c := by
  obtain ⟨t, rfl⟩ := h
  rw [Int.mul_fdiv_cancel_left _ hc, ← Int.mul_assoc, Int.mul_fdiv_cancel_left]
  exact Int.mul_ne_zero hk hc
theorem rnX_scale (k m x y : Int) : rnX m (k * x) (k * y) = k * rnX m x y := by
  unfold rnX
  split
  · rw [Int.mul_add, Int.mul_assoc]
  · rfl
theorem rnY_scale (k m y : Int) : rnY m (k * y) = k * rnY m y := by
  unfold rnY
  split
  · rw [Int.mul_zero]
  · rfl
theorem mul_neg_iff {k b : Int} (hk : k < 0) : k * b < 0 ↔ 0 < b := by
  constructor
  · intro h
    by_cases z : 0 < b
    · exact z
    · have := Int.mul_nonneg_of_nonpos_of_nonpos (a := k) (b := b) (by omega) (by omega)
      omega
  · exact fun h => Int.mul_neg_of_neg_of_pos hk h
theorem mul_pos_iff' {k b : Int} (hk : 0 < k) : k * b < 0 ↔ b < 0 := by
  constructor
  · intro h
    by_cases z : b < 0
    · exact z
    · have := Int.mul_nonneg (a := k) (b := b) (by omega) (by omega)
      omega
  · exact fun h => Int.mul_neg_of_pos_of_neg hk h
theorem rnC_scale {k m x y b : Int} (hk : k ≠ 0) (hb : b ≠ 0) : rnC m (k * x) (k * y) (k * b) = k * rnC m x y b := by
  unfold rnC
  rw [rnX_scale, rnY_scale]
  have e : (Int.gcd (Int.gcd (k * rnX m x y) (k * rnY m y) : Int) (k * b) : Int) = k.natAbs * (Int.gcd (Int.gcd (rnX m x y) (rnY m y) : Int) b : Int) := by
    rw [Int.gcd_mul_left]
    have e2 : ((k.natAbs * Int.gcd (rnX m x y) (rnY m y) : Nat) : Int) = (k.natAbs : Int) * (Int.gcd (rnX m x y) (rnY m y) : Int) := Int.natCast_mul _ _
    have e3 : ∀ (u v : Int), Int.gcd ((k.natAbs : Int) * u) (k * v) = k.natAbs * Int.gcd u v := by
      intro u v
      unfold Int.gcd
      rw [Int.natAbs_mul, Int.natAbs_mul, Int.natAbs_natCast, Nat.gcd_mul_left]
    rw [e2, e3, Int.natCast_mul]
  rw [e]
  generalize (Int.gcd (Int.gcd (rnX m x y) (rnY m y) : Int) b : Int) = g
  rcases (by omega : 0 < k ∨ k < 0) with h | h
  · have ek : (k.natAbs : Int) = k := by omega
    rw [ek]
    simp only [mul_pos_iff' h]
    split
    · rw [Int.mul_sub, Int.mul_zero]
    · rfl
  · have ek : (k.natAbs : Int) = -k := by omega
    rw [ek]
    simp only [mul_neg_iff h]
    by_cases z : 0 < b
    · rw [if_pos z, if_neg (by omega), Int.neg_mul]; omega
    · rw [if_neg z, if_pos (by omega), Int.neg_mul, Int.mul_sub]; omega
theorem rootN_scale {k m x y b : Int} (hk : k ≠ 0) (hb : b ≠ 0) : rootN m (k * x) (k * y) (k * b) = rootN m x y b := by
  have h := rnC_dvd m x y b
  have h0 := rnC_ne (m := m) (x := x) (y := y) hb
  unfold rootN
  rw [rnC_scale hk hb, rnX_scale, rnY_scale, fdiv_scale hk h0 h.1, fdiv_scale hk h0 h.2.1, fdiv_scale hk h0 h.2.2]
theorem str_self (z : Str) : (z == z) = true := by simp
theorem lit_cons {B : Nat} {d : D} {l : List D} (h : lit B d = true) (h2 : litAll B l = true) : litAll B (d :: l) = true := by
  simp only [litAll, h, h2, Bool.and_self]
end DL
namespace DL
open PySem PySem.Spec PyProof.Rows L2
local macro_rules | `(tactic| walk_at "rd") => `(tactic| simp only [startD, List.map, List.replicate, List.length_cons, List.length_nil, List.append_eq, List.append_nil, List.nil_append, List.cons_append, Nat.reduceSub, Nat.reduceAdd, List.getElem?_cons_zero, List.getElem?_cons_succ, List.set_cons_zero, List.set_cons_succ,
  dC, dVar, dOp, dTru, gTru, tru, dChain, dAnd, dOr, dNot, dAndV, dOrV, dNotV, dIf, dNeg, gNeg, dNil, dCons, dTup, dLst, dOwn, gIx, rBin, gAdd, gCmpI, dCall, dCallK, dSeq, dNext, dDrop, dRet, dRetN, dIfS, dName, dGNil, dGCons, dGTup, dSub, gSetL, dAsg, dPar, dPar3, dAug, gIpI, dSeqI, gSeqI, dRngI, gRng1, gRng2, dCB, gAbs, gInt, gMax, gMin, gGcd, gLen, lenD, gIsi, tyM, tyD, dBits, gBits, dMet, gAppend, dPart, dNoPart, dSl, dEnds, gIs, isB, dNever, dFor, dLc, wipeD, dYes,
  sizeLine_eq, Nat.reduceLeDiff, gEq_int, gNe_int, gEq_strs, gNe_strs, gIn_two, gRepr_bl, rs_lst, rs_tup, rs_scr, rs_int, atI_0, atI_1, atI_2, atI_3, atI_4, atI_5, ixN_30, ixN_31, ixN_32, gEq_bl, gNe_bl, decide_eq_true_eq, beq_iff_eq, Bool.not_eq_true', beq_eq_false_iff_ne, decide_eq_false_iff_not, Bool.not_true, Bool.not_false, if_true, if_false, Bool.false_eq_true, ite_true, ite_false, true_and, and_true, ne_eq, Bool.bne_false, Bool.bne_true, reduceCtorEq])
local macro_rules | `(tactic| walk_at "rh") => `(tactic| simp only [*, startD, List.map, List.replicate, List.length_cons, List.length_nil, List.append_eq, List.append_nil, List.nil_append, List.cons_append, Nat.reduceSub, Nat.reduceAdd, List.getElem?_cons_zero, List.getElem?_cons_succ, List.set_cons_zero, List.set_cons_succ,
  dC, dVar, dOp, dTru, gTru, tru, dChain, dAnd, dOr, dNot, dAndV, dOrV, dNotV, dIf, dNeg, gNeg, dNil, dCons, dTup, dLst, dOwn, gIx, rBin, gAdd, gCmpI, dCall, dCallK, dSeq, dNext, dDrop, dRet, dRetN, dIfS, dName, dGNil, dGCons, dGTup, dSub, gSetL, dAsg, dPar, dPar3, dAug, gIpI, dSeqI, gSeqI, dRngI, gRng1, gRng2, dCB, gAbs, gInt, gMax, gMin, gGcd, gLen, lenD, gIsi, tyM, tyD, dBits, gBits, dMet, gAppend, dPart, dNoPart, dSl, dEnds, gIs, isB, dNever, dFor, dLc, wipeD, dYes,
  sizeLine_eq, Nat.reduceLeDiff, gEq_int, gNe_int, gEq_strs, gNe_strs, gIn_two, gRepr_bl, rs_lst, rs_tup, rs_scr, rs_int, atI_0, atI_1, atI_2, atI_3, atI_4, atI_5, ixN_30, ixN_31, ixN_32, gEq_bl, gNe_bl, decide_eq_true_eq, beq_iff_eq, Bool.not_eq_true', beq_eq_false_iff_ne, decide_eq_false_iff_not, Bool.not_true, Bool.not_false, if_true, if_false, Bool.false_eq_true, ite_true, ite_false, true_and, and_true, ne_eq, Bool.bne_false, Bool.bne_true, reduceCtorEq])
local macro_rules | `(tactic| walk_at "kb") => `(tactic| simp only [kb_NoneType_list, kb_bool_list, kb_int_list, kb_str_list, kb_tuple_list, kb_list_list, kb_dict_list, kb_NoneType_int, kb_bool_int, kb_int_int, kb_str_int, kb_tuple_int, kb_list_int, kb_dict_int, kb_NoneType_bool, kb_bool_bool, kb_int_bool, kb_str_bool, kb_tuple_bool, kb_list_bool, kb_dict_bool, kb_NoneType_tuple, kb_bool_tuple, kb_int_tuple, kb_str_tuple, kb_tuple_tuple, kb_list_tuple, kb_dict_tuple, if_true, if_false, Bool.false_eq_true, ite_true, ite_false, Bool.not_true, Bool.not_false])
/-! ### bits -/
def Bi (n : Nat) (i : Int) : Prop := i.natAbs < 2 ^ n
theorem Bi.mono {n k : Nat} {i : Int} (h : Bi n i) (hk : n ≤ k := by decide) : Bi k i := Nat.lt_of_lt_of_le h (Nat.pow_le_pow_right (by decide) hk)
theorem Bi.mul {n k : Nat} {i j : Int} (h : Bi n i) (g : Bi k j) : Bi (n + k) (i * j) := by
  unfold Bi at *
  rw [Int.natAbs_mul, Nat.pow_add]
  exact Nat.mul_lt_mul'' h g
theorem Bi.add {n : Nat} {i j : Int} (h : Bi n i) (g : Bi n j) : Bi (n + 1) (i + j) := by
  unfold Bi at *
  rw [Nat.pow_succ]
  omega
theorem Bi.sub {n : Nat} {i j : Int} (h : Bi n i) (g : Bi n j) : Bi (n + 1) (i - j) := by
  unfold Bi at *
  rw [Nat.pow_succ]
  omega
theorem Bi.neg {n : Nat} {i : Int} (h : Bi n i) : Bi n (0 - i) := by
  unfold Bi at *
  omega
theorem Bi.sm {n : Nat} {i : Int} (h : Bi n i) (hn : n ≤ 400000 := by decide) : Sm i := Sm.of n h hn
theorem Bi.big {n : Nat} {i : Int} (h : Bi n i) (hn : n ≤ 4000 := by decide) : -BIG ≤ i ∧ i ≤ BIG := by
  have h1 := bign_ge hn
  unfold Bi at h
  unfold BIG
  omega
theorem Bi.of_dvd {n : Nat} {c a x : Int} (h : Bi n x) (hc : c ≠ 0) (e : x = c * a) : Bi n a := by
  unfold Bi at *
  rw [e, Int.natAbs_mul] at h
  exact Nat.lt_of_le_of_lt (Nat.le_mul_of_pos_left _ (by omega)) h
theorem Bi.of_abs {n : Nat} {i : Int} (k : Nat) (h : i.natAbs ≤ k) (hk : k < 2 ^ n := by decide) : Bi n i := Nat.lt_of_le_of_lt h hk
/-! ### normal forms -/
abbrev T3 (a b c : Int) : D := .tup [.int a, .int b, .int c]
/-- (a, b, c) in least terms, over the measure m -/
structure NF (m a b c : Int) : Prop where
  pos : 1 ≤ c
  cop : Int.gcd (Int.gcd a b : Int) c = 1
  pr : isSq m → b = 0
def nC (X Y b : Int) : Int := if b < 0 then 0 - (Int.gcd (Int.gcd X Y : Int) b : Int) else (Int.gcd (Int.gcd X Y : Int) b : Int)
def nf (X Y b : Int) : D := T3 (X.fdiv (nC X Y b)) (Y.fdiv (nC X Y b)) (b.fdiv (nC X Y b))
theorem rootN_nf (m x y b : Int) : rootN m x y b = nf (rnX m x y) (rnY m y) b := rfl
theorem rootN_pr {m x y : Int} (b : Int) (h : isSq m → y = 0) : rootN m x y b = nf x y b := by
  rw [rootN_nf]
  by_cases hq : isSq m
  · have e := h hq
    subst e
    unfold rnX rnY
    rw [if_pos hq, if_pos hq, Int.zero_mul, Int.add_zero]
  · unfold rnX rnY
    rw [if_neg hq, if_neg hq]
theorem nf_scale {k X Y b : Int} (hk : k ≠ 0) (hb : b ≠ 0) : nf (k * X) (k * Y) (k * b) = nf X Y b := by
  have h : ¬ isSq 2 := by
    have e : isq 2 = 1 := isq_uni (by decide) (by decide) (by decide)
    unfold isSq; rw [e]; decide
  rw [← rootN_pr (m := 2) (k * b) (fun z => absurd z h), ← rootN_pr (m := 2) b (fun z => absurd z h)]
  exact rootN_scale hk hb
theorem nf_eq {X Y b X' Y' b' : Int} (hb : b ≠ 0) (hb' : b' ≠ 0) (h1 : X * b' = X' * b) (h2 : Y * b' = Y' * b) : nf X Y b = nf X' Y' b' := by
  rw [← nf_scale hb' hb, ← nf_scale (X := X') (Y := Y') hb hb']
  have e1 : b' * X = b * X' := by rw [Int.mul_comm, h1, Int.mul_comm]
  have e2 : b' * Y = b * Y' := by rw [Int.mul_comm, h2, Int.mul_comm]
  rw [e1, e2, Int.mul_comm b' b]
/-! ### sums, products, quotients -/
def Sz (n : Nat) (a b c : Int) : Prop := Bi n a ∧ Bi n b ∧ Bi n c
/-! ### the law's drawn root numbers -/
/-! ### sizes and values, for the laws -/
theorem NF.neg {m a b c : Int} (h : NF m a b c) : NF m (0 - a) (0 - b) c := by
  refine ⟨h.pos, ?_, fun q => by rw [h.pr q]; rfl⟩
  rw [Int.zero_sub, Int.zero_sub, Int.gcd_neg, Int.neg_gcd]
  exact h.cop
theorem Sz.neg {n : Nat} {a b c : Int} (h : Sz n a b c) : Sz n (0 - a) (0 - b) c := ⟨h.1.neg, h.2.1.neg, h.2.2⟩
theorem Sz.mono {n k : Nat} {a b c : Int} (h : Sz n a b c) (hk : n ≤ k := by decide) : Sz k a b c := ⟨h.1.mono hk, h.2.1.mono hk, h.2.2.mono hk⟩
end DL
namespace DL
open PySem PySem.Spec PyProof.Rows L2
local macro_rules | `(tactic| walk_at "rd") => `(tactic| simp only [startD, List.map, List.replicate, List.length_cons, List.length_nil, List.append_eq, List.append_nil, List.nil_append, List.cons_append, Nat.reduceSub, Nat.reduceAdd, List.getElem?_cons_zero, List.getElem?_cons_succ, List.set_cons_zero, List.set_cons_succ,
  dC, dVar, dOp, dTru, gTru, tru, dChain, dAnd, dOr, dNot, dAndV, dOrV, dNotV, dIf, dNeg, gNeg, dNil, dCons, dTup, dLst, dOwn, gIx, rBin, gAdd, gCmpI, dCall, dCallK, dSeq, dNext, dDrop, dRet, dRetN, dIfS, dName, dGNil, dGCons, dGTup, dSub, gSetL, dAsg, dPar, dPar3, dAug, gIpI, dSeqI, gSeqI, dRngI, gRng1, gRng2, dCB, gAbs, gInt, gMax, gMin, gGcd, gLen, lenD, gIsi, tyM, tyD, dBits, gBits, dMet, gAppend, dPart, dNoPart, dSl, dEnds, gIs, isB, dNever, dFor, dLc, wipeD, dYes,
  sizeLine_eq, Nat.reduceLeDiff, gEq_int, gNe_int, gEq_strs, gNe_strs, gIn_two, gRepr_bl, rs_lst, rs_tup, rs_scr, rs_int, atI_0, atI_1, atI_2, atI_3, atI_4, atI_5, ixN_30, ixN_31, ixN_32, gEq_bl, gNe_bl, decide_eq_true_eq, beq_iff_eq, Bool.not_eq_true', beq_eq_false_iff_ne, decide_eq_false_iff_not, Bool.not_true, Bool.not_false, if_true, if_false, Bool.false_eq_true, ite_true, ite_false, true_and, and_true, ne_eq, Bool.bne_false, Bool.bne_true, reduceCtorEq])
local macro_rules | `(tactic| walk_at "rh") => `(tactic| simp only [*, startD, List.map, List.replicate, List.length_cons, List.length_nil, List.append_eq, List.append_nil, List.nil_append, List.cons_append, Nat.reduceSub, Nat.reduceAdd, List.getElem?_cons_zero, List.getElem?_cons_succ, List.set_cons_zero, List.set_cons_succ,
  dC, dVar, dOp, dTru, gTru, tru, dChain, dAnd, dOr, dNot, dAndV, dOrV, dNotV, dIf, dNeg, gNeg, dNil, dCons, dTup, dLst, dOwn, gIx, rBin, gAdd, gCmpI, dCall, dCallK, dSeq, dNext, dDrop, dRet, dRetN, dIfS, dName, dGNil, dGCons, dGTup, dSub, gSetL, dAsg, dPar, dPar3, dAug, gIpI, dSeqI, gSeqI, dRngI, gRng1, gRng2, dCB, gAbs, gInt, gMax, gMin, gGcd, gLen, lenD, gIsi, tyM, tyD, dBits, gBits, dMet, gAppend, dPart, dNoPart, dSl, dEnds, gIs, isB, dNever, dFor, dLc, wipeD, dYes,
  sizeLine_eq, Nat.reduceLeDiff, gEq_int, gNe_int, gEq_strs, gNe_strs, gIn_two, gRepr_bl, rs_lst, rs_tup, rs_scr, rs_int, atI_0, atI_1, atI_2, atI_3, atI_4, atI_5, ixN_30, ixN_31, ixN_32, gEq_bl, gNe_bl, decide_eq_true_eq, beq_iff_eq, Bool.not_eq_true', beq_eq_false_iff_ne, decide_eq_false_iff_not, Bool.not_true, Bool.not_false, if_true, if_false, Bool.false_eq_true, ite_true, ite_false, true_and, and_true, ne_eq, Bool.bne_false, Bool.bne_true, reduceCtorEq])
local macro_rules | `(tactic| walk_at "kb") => `(tactic| simp only [kb_NoneType_list, kb_bool_list, kb_int_list, kb_str_list, kb_tuple_list, kb_list_list, kb_dict_list, kb_NoneType_int, kb_bool_int, kb_int_int, kb_str_int, kb_tuple_int, kb_list_int, kb_dict_int, kb_NoneType_bool, kb_bool_bool, kb_int_bool, kb_str_bool, kb_tuple_bool, kb_list_bool, kb_dict_bool, kb_NoneType_tuple, kb_bool_tuple, kb_int_tuple, kb_str_tuple, kb_tuple_tuple, kb_list_tuple, kb_dict_tuple, if_true, if_false, Bool.false_eq_true, ite_true, ite_false, Bool.not_true, Bool.not_false])
/-! ### the side of x + y root m -/
/-! ### the floor -/
end DL
namespace DL
open PySem PySem.Spec PyProof.Rows L2
local macro_rules | `(tactic| walk_at "rd") => `(tactic| simp only [startD, List.map, List.replicate, List.length_cons, List.length_nil, List.append_eq, List.append_nil, List.nil_append, List.cons_append, Nat.reduceSub, Nat.reduceAdd, List.getElem?_cons_zero, List.getElem?_cons_succ, List.set_cons_zero, List.set_cons_succ,
  dC, dVar, dOp, dTru, gTru, tru, dChain, dAnd, dOr, dNot, dAndV, dOrV, dNotV, dIf, dNeg, gNeg, dNil, dCons, dTup, dLst, dOwn, gIx, rBin, gAdd, gCmpI, dCall, dCallK, dSeq, dNext, dDrop, dRet, dRetN, dIfS, dName, dGNil, dGCons, dGTup, dSub, gSetL, dAsg, dPar, dPar3, dAug, gIpI, dSeqI, gSeqI, dRngI, gRng1, gRng2, dCB, gAbs, gInt, gMax, gMin, gGcd, gLen, lenD, gIsi, tyM, tyD, dBits, gBits, dMet, gAppend, dPart, dNoPart, dSl, dEnds, gIs, isB, dNever, dFor, dLc, wipeD, dYes,
  sizeLine_eq, Nat.reduceLeDiff, gEq_int, gNe_int, gEq_strs, gNe_strs, gIn_two, gRepr_bl, rs_lst, rs_tup, rs_scr, rs_int, atI_0, atI_1, atI_2, atI_3, atI_4, atI_5, ixN_30, ixN_31, ixN_32, gEq_bl, gNe_bl, decide_eq_true_eq, beq_iff_eq, Bool.not_eq_true', beq_eq_false_iff_ne, decide_eq_false_iff_not, Bool.not_true, Bool.not_false, if_true, if_false, Bool.false_eq_true, ite_true, ite_false, true_and, and_true, ne_eq, Bool.bne_false, Bool.bne_true, reduceCtorEq])
local macro_rules | `(tactic| walk_at "rh") => `(tactic| simp only [*, startD, List.map, List.replicate, List.length_cons, List.length_nil, List.append_eq, List.append_nil, List.nil_append, List.cons_append, Nat.reduceSub, Nat.reduceAdd, List.getElem?_cons_zero, List.getElem?_cons_succ, List.set_cons_zero, List.set_cons_succ,
  dC, dVar, dOp, dTru, gTru, tru, dChain, dAnd, dOr, dNot, dAndV, dOrV, dNotV, dIf, dNeg, gNeg, dNil, dCons, dTup, dLst, dOwn, gIx, rBin, gAdd, gCmpI, dCall, dCallK, dSeq, dNext, dDrop, dRet, dRetN, dIfS, dName, dGNil, dGCons, dGTup, dSub, gSetL, dAsg, dPar, dPar3, dAug, gIpI, dSeqI, gSeqI, dRngI, gRng1, gRng2, dCB, gAbs, gInt, gMax, gMin, gGcd, gLen, lenD, gIsi, tyM, tyD, dBits, gBits, dMet, gAppend, dPart, dNoPart, dSl, dEnds, gIs, isB, dNever, dFor, dLc, wipeD, dYes,
  sizeLine_eq, Nat.reduceLeDiff, gEq_int, gNe_int, gEq_strs, gNe_strs, gIn_two, gRepr_bl, rs_lst, rs_tup, rs_scr, rs_int, atI_0, atI_1, atI_2, atI_3, atI_4, atI_5, ixN_30, ixN_31, ixN_32, gEq_bl, gNe_bl, decide_eq_true_eq, beq_iff_eq, Bool.not_eq_true', beq_eq_false_iff_ne, decide_eq_false_iff_not, Bool.not_true, Bool.not_false, if_true, if_false, Bool.false_eq_true, ite_true, ite_false, true_and, and_true, ne_eq, Bool.bne_false, Bool.bne_true, reduceCtorEq])
local macro_rules | `(tactic| walk_at "kb") => `(tactic| simp only [kb_NoneType_list, kb_bool_list, kb_int_list, kb_str_list, kb_tuple_list, kb_list_list, kb_dict_list, kb_NoneType_int, kb_bool_int, kb_int_int, kb_str_int, kb_tuple_int, kb_list_int, kb_dict_int, kb_NoneType_bool, kb_bool_bool, kb_int_bool, kb_str_bool, kb_tuple_bool, kb_list_bool, kb_dict_bool, kb_NoneType_tuple, kb_bool_tuple, kb_int_tuple, kb_str_tuple, kb_tuple_tuple, kb_list_tuple, kb_dict_tuple, if_true, if_false, Bool.false_eq_true, ite_true, ite_false, Bool.not_true, Bool.not_false])
/-! ### cuttings -/
/-- a cutting: (a, b, c, e) -/
def isCut (a b c e : Int) : Bool := decide (1 ≤ b) && (decide (1 ≤ c) && (decide (c + e < b) && (decide (0 ≤ a) && (decide (a < (Int.gcd b c : Int)) && (Int.gcd (Int.gcd a (Int.gcd b c : Int) : Int) e : Int) == 1))))
abbrev T4 (a b c e : Int) : D := .tup [.int a, .int b, .int c, .int e]
def meas4 (b c e : Int) : Int := e * e + 4 * b * c
theorem cut_parts {a b c e : Int} (h : isCut a b c e = true) : 1 ≤ b ∧ 1 ≤ c ∧ c + e < b ∧ 0 ≤ a ∧ a < (Int.gcd b c : Int) ∧ (Int.gcd (Int.gcd a (Int.gcd b c : Int) : Int) e : Int) = 1 := by
  simpa only [isCut, Bool.and_eq_true, decide_eq_true_eq, beq_iff_eq] using h
end DL
/-! MB: what a deed makes of a cutting; plain -/
namespace DL
/-- two ways to write the common divisor differ by a multiple of the other two -/
theorem bez_diff {m n g u v u' v' : Int} (hg : g ≠ 0) (hm : g ∣ m) (hn : g ∣ n) (h : u * m + v * n = g) (h' : u' * m + v' * n = g) : ∃ t, (u - u') * g = t * n ∧ (v - v') * g = -(t * m) := by
  -- t = u v' - u' v
  refine ⟨u * v' - u' * v, ?_, ?_⟩
  · have : (u - u') * g = u * (u' * m + v' * n) - u' * (u * m + v * n) := by rw [h, h']; grind
    rw [this]; grind
  · have : (v - v') * g = v * (u' * m + v' * n) - v' * (u * m + v * n) := by rw [h, h']; grind
    rw [this]; grind
theorem row_diff {p q x z x' z' : Int} (f1 : p * z - q * x = 1) (f1' : p * z' - q * x' = 1) : ∃ s, x - x' = s * p ∧ z - z' = s * q := by
  refine ⟨x * z' - x' * z, ?_, ?_⟩
  · have : x - x' = x * (p * z' - q * x') - x' * (p * z - q * x) := by rw [f1, f1']; omega
    rw [this]; grind
  · have : z - z' = z * (p * z' - q * x') - z' * (p * z - q * x) := by rw [f1, f1']; omega
    rw [this]; grind
/-- (a', w, g, e') is where the deed (p, q) leads from (a, b, c, e) -/
structure IsDone (a b c e p q a' w g e' : Int) : Prop where
  gc : g = (Int.gcd (p * b + q * a) (q * c) : Int)
  wi : w * g = c * (b - q * e - q * q * c)
  tu : e' = 0 - e - 2 * q * c
  lo : 0 ≤ a'
  hi : a' < (Int.gcd w g : Int)
  ex : ∃ u v x z : Int, p * z - q * x = 1 ∧ u * (p * b + q * a) + v * (q * c) = g ∧ (Int.gcd w g : Int) ∣ a' + (u * (x * b + z * a + e + q * c) + v * (z * c))
theorem isDone_unique {a b c e p q a1 w1 g1 e1 a2 w2 g2 e2 : Int} (hg : g1 ≠ 0) (h1 : IsDone a b c e p q a1 w1 g1 e1) (h2 : IsDone a b c e p q a2 w2 g2 e2) : a1 = a2 ∧ w1 = w2 ∧ g1 = g2 ∧ e1 = e2 := by
  have eg : g1 = g2 := h1.gc.trans h2.gc.symm
  subst eg
  have ew : w1 = w2 := Int.eq_of_mul_eq_mul_right hg (h1.wi.trans h2.wi.symm)
  subst ew
  refine ⟨?_, rfl, rfl, h1.tu.trans h2.tu.symm⟩
  obtain ⟨u, v, x, z, f1, f2, f3⟩ := h1.ex
  obtain ⟨u', v', x', z', f1', f2', f3'⟩ := h2.ex
  have dm : g1 ∣ p * b + q * a := by rw [h1.gc]; exact Int.gcd_dvd_left _ _
  have dn : g1 ∣ q * c := by rw [h1.gc]; exact Int.gcd_dvd_right _ _
  obtain ⟨t, t1, t2⟩ := bez_diff hg dm dn f2 f2'
  -- the second rows differ by a multiple of the first
  have hs := row_diff f1 f1'
  obtain ⟨s, s1, s2⟩ := hs
  have hw : w1 * g1 = (p * b + q * a) * (z' * c) - (q * c) * (x' * b + z' * a + e + q * c) := by
    rw [h1.wi]
    have : (p * b + q * a) * (z' * c) - (q * c) * (x' * b + z' * a + e + q * c) = c * (b * (p * z' - q * x') - q * e - q * q * c) := by grind
    rw [this, f1', Int.mul_one]
  -- the difference of the two rests
  have hd : ∃ k, (u * (x * b + z * a + e + q * c) + v * (z * c)) - (u' * (x' * b + z' * a + e + q * c) + v' * (z' * c)) = s * g1 + k * w1 := by
    refine ⟨-t, ?_⟩
    refine Int.eq_of_mul_eq_mul_right hg ?_
    have ex' : x = x' + s * p := by omega
    have ez' : z = z' + s * q := by omega
    have l1 : ((u * (x * b + z * a + e + q * c) + v * (z * c)) - (u' * (x' * b + z' * a + e + q * c) + v' * (z' * c))) = s * (u * (p * b + q * a) + v * (q * c)) + ((u - u') * (x' * b + z' * a + e + q * c) + (v - v') * (z' * c)) := by
      rw [ex', ez']; grind
    rw [l1, f2]
    have l2 : (s * g1 + ((u - u') * (x' * b + z' * a + e + q * c) + (v - v') * (z' * c))) * g1 = s * g1 * g1 + (((u - u') * g1) * (x' * b + z' * a + e + q * c) + ((v - v') * g1) * (z' * c)) := by grind
    rw [l2, t1, t2]
    have l3 : (s * g1 + -t * w1) * g1 = s * g1 * g1 + -t * (w1 * g1) := by grind
    rw [l3, hw]
    grind
  obtain ⟨k, hk⟩ := hd
  have dG : (Int.gcd w1 g1 : Int) ∣ a1 - a2 := by
    have d1 := Int.dvd_sub f3 f3'
    have d2 : (Int.gcd w1 g1 : Int) ∣ s * g1 + k * w1 := Int.dvd_add (Int.dvd_trans (Int.gcd_dvd_right _ _) (Int.dvd_mul_left _ _)) (Int.dvd_trans (Int.gcd_dvd_left _ _) (Int.dvd_mul_left _ _))
    have d3 := Int.dvd_sub d1 d2
    have e3 : a1 + (u * (x * b + z * a + e + q * c) + v * (z * c)) - (a2 + (u' * (x' * b + z' * a + e + q * c) + v' * (z' * c))) - (s * g1 + k * w1) = a1 - a2 := by rw [← hk]; omega
    rwa [e3] at d3
  obtain ⟨j, hj⟩ := dG
  have l1 := h1.lo
  have l2 := h2.lo
  have u1 := h1.hi
  have u2 := h2.hi
  generalize (Int.gcd w1 g1 : Int) = G at *
  by_cases hj0 : j = 0
  · subst hj0; omega
  · exfalso
    rcases (by omega : 1 ≤ j ∨ j ≤ -1) with q | q
    · have : G * 1 ≤ G * j := Int.mul_le_mul_of_nonneg_left q (by omega)
      omega
    · have : G * j ≤ G * (-1) := Int.mul_le_mul_of_nonneg_left q (by omega)
      omega
/-- a concave form is positive between two places where it is -/
theorem between_pos {b c e q s : Int} (hb : 0 < b) (hc : 0 < c) (hq : 0 < q) (hf : 0 < b - q * e - q * q * c) (s0 : 0 ≤ s) (s1 : s ≤ q * c) : 0 < c * b - s * e - s * s := by
  have hqc : 0 < q * c := Int.mul_pos hq hc
  have e1 : q * c * (c * b - s * e - s * s) = (q * c - s) * (c * b) + s * (c * (b - q * e - q * q * c)) + s * ((q * c - s) * (q * c)) := by grind
  have h1 : 0 < c * b := Int.mul_pos hc hb
  have h2 : 0 < c * (b - q * e - q * q * c) := Int.mul_pos hc hf
  have h3 : 0 ≤ s * ((q * c - s) * (q * c)) := Int.mul_nonneg s0 (Int.mul_nonneg (by omega) (by omega))
  have h4 : 0 < (q * c - s) * (c * b) + s * (c * (b - q * e - q * q * c)) := by
    by_cases z : s = 0
    · subst z
      have := Int.mul_pos hqc h1
      simp only [Int.sub_zero, Int.zero_mul, Int.add_zero]
      exact this
    · have h5 : 0 ≤ (q * c - s) * (c * b) := Int.mul_nonneg (by omega) (by omega)
      have h6 : 0 < s * (c * (b - q * e - q * q * c)) := Int.mul_pos (by omega) h2
      omega
  have h7 : 0 < q * c * (c * b - s * e - s * s) := by omega
  by_cases z : 0 < c * b - s * e - s * s
  · exact z
  · have : q * c * (c * b - s * e - s * s) ≤ 0 := Int.mul_nonpos_of_nonneg_of_nonpos (by omega) (by omega)
    omega
/-- where a deed leads, the side is less wide than it must be -/
theorem done_room {b c e q w g : Int} (hb : 0 < b) (hc : 0 < c) (hq : 0 < q) (hg : 0 < g) (hf : 0 < b - q * e - q * q * c) (hd : g ∣ q * c) (hw : w * g = c * (b - q * e - q * q * c)) : 0 < w ∧ g + (0 - e - 2 * q * c) < w := by
  have h2 : 0 < c * (b - q * e - q * q * c) := Int.mul_pos hc hf
  have hle : g ≤ q * c := Int.le_of_dvd (Int.mul_pos hq hc) hd
  have hp := between_pos (s := q * c - g) hb hc hq hf (by omega) (by omega)
  have e1 : c * b - (q * c - g) * e - (q * c - g) * (q * c - g) = w * g - g * (g + (0 - e - 2 * q * c)) := by rw [hw]; grind
  rw [e1] at hp
  refine ⟨?_, ?_⟩
  · by_cases z : 0 < w
    · exact z
    · have : w * g ≤ 0 := Int.mul_nonpos_of_nonpos_of_nonneg (by omega) (by omega)
      omega
  · by_cases z : g + (0 - e - 2 * q * c) < w
    · exact z
    · have h3 : g * w ≤ g * (g + (0 - e - 2 * q * c)) := Int.mul_le_mul_of_nonneg_left (by omega) (by omega)
      have h4 : g * w = w * g := Int.mul_comm _ _
      omega
/-- what divides all of the new cutting divides all of the old one -/
theorem done_dvd {a b c e p q a' w g e' d : Int} (hg : g ≠ 0) (h : IsDone a b c e p q a' w g e') (d1 : d ∣ a') (d2 : d ∣ w) (d3 : d ∣ g) (d4 : d ∣ e') : d ∣ a ∧ d ∣ b ∧ d ∣ c ∧ d ∣ e := by
  obtain ⟨u, v, x, z, f1, f2, f3⟩ := h.ex
  have dm : g ∣ p * b + q * a := by rw [h.gc]; exact Int.gcd_dvd_left _ _
  have dn : g ∣ q * c := by rw [h.gc]; exact Int.gcd_dvd_right _ _
  obtain ⟨m', hm⟩ := dm
  obtain ⟨n', hn⟩ := dn
  have hu : u * m' + v * n' = 1 := by
    have : g * (u * m' + v * n') = g * 1 := by
      have e1 : g * (u * m' + v * n') = u * (g * m') + v * (g * n') := by grind
      rw [e1, ← hm, ← hn, f2, Int.mul_one]
    exact Int.eq_of_mul_eq_mul_left hg this
  generalize hr3 : x * b + z * a + e + q * c = r3 at f3
  generalize hr4 : z * c = r4 at f3
  have hW : w = m' * r4 - n' * r3 := by
    refine Int.eq_of_mul_eq_mul_right hg ?_
    rw [h.wi]
    have e1 : (m' * r4 - n' * r3) * g = (g * m') * r4 - (g * n') * r3 := by grind
    rw [e1, ← hm, ← hn, ← hr3, ← hr4]
    have e2 : (p * b + q * a) * (z * c) - (q * c) * (x * b + z * a + e + q * c) = c * (b * (p * z - q * x) - q * e - q * q * c) := by grind
    rw [e2, f1, Int.mul_one]
  have dR : d ∣ u * r3 + v * r4 := by
    have h1 : d ∣ (Int.gcd w g : Int) := Int.dvd_coe_gcd d2 d3
    have h2 := Int.dvd_sub (Int.dvd_trans h1 f3) d1
    have e1 : a' + (u * r3 + v * r4) - a' = u * r3 + v * r4 := by omega
    rwa [e1] at h2
  generalize hR : u * r3 + v * r4 = R at dR
  have e3 : r3 = m' * R - v * w := by
    have : m' * R - v * w = (u * m' + v * n') * r3 := by rw [← hR, hW]; grind
    rw [this, hu, Int.one_mul]
  have e4 : r4 = n' * R + u * w := by
    have : n' * R + u * w = (u * m' + v * n') * r4 := by rw [← hR, hW]; grind
    rw [this, hu, Int.one_mul]
  have D3 : d ∣ r3 := by rw [e3]; exact Int.dvd_sub (Int.dvd_mul_of_dvd_right dR) (Int.dvd_mul_of_dvd_right d2)
  have D4 : d ∣ r4 := by rw [e4]; exact Int.dvd_add (Int.dvd_mul_of_dvd_right dR) (Int.dvd_mul_of_dvd_right d2)
  have Dm : d ∣ p * b + q * a := by rw [hm]; exact Int.dvd_mul_of_dvd_left d3
  have Dn : d ∣ q * c := by rw [hn]; exact Int.dvd_mul_of_dvd_left d3
  have De : d ∣ e := by
    have h1 : e = 0 - e' - 2 * (q * c) := by have := h.tu; have e1 : 2 * q * c = 2 * (q * c) := Int.mul_assoc _ _ _; omega
    rw [h1, Int.zero_sub]
    exact Int.dvd_sub (Int.dvd_neg.mpr d4) (Int.dvd_mul_of_dvd_right Dn)
  have Dc : d ∣ c := by
    have h1 : c = p * r4 - x * (q * c) := by
      have : p * r4 - x * (q * c) = c * (p * z - q * x) := by rw [← hr4]; grind
      rw [this, f1, Int.mul_one]
    rw [h1]
    exact Int.dvd_sub (Int.dvd_mul_of_dvd_right D4) (Int.dvd_mul_of_dvd_right Dn)
  have Dx : d ∣ x * b + z * a := by
    have h1 : x * b + z * a = r3 - e - q * c := by omega
    rw [h1]
    exact Int.dvd_sub (Int.dvd_sub D3 De) Dn
  refine ⟨?_, ?_, Dc, De⟩
  · have h1 : a = p * (x * b + z * a) - x * (p * b + q * a) := by
      have : p * (x * b + z * a) - x * (p * b + q * a) = a * (p * z - q * x) := by grind
      rw [this, f1, Int.mul_one]
    rw [h1]
    exact Int.dvd_sub (Int.dvd_mul_of_dvd_right Dx) (Int.dvd_mul_of_dvd_right Dm)
  · have h1 : b = z * (p * b + q * a) - q * (x * b + z * a) := by
      have : z * (p * b + q * a) - q * (x * b + z * a) = b * (p * z - q * x) := by grind
      rw [this, f1, Int.mul_one]
    rw [h1]
    exact Int.dvd_sub (Int.dvd_mul_of_dvd_right Dm) (Int.dvd_mul_of_dvd_right Dx)
end DL
namespace DL
open PySem PySem.Spec PyProof.Rows L2
local macro_rules | `(tactic| walk_at "rd") => `(tactic| simp only [startD, List.map, List.replicate, List.length_cons, List.length_nil, List.append_eq, List.append_nil, List.nil_append, List.cons_append, Nat.reduceSub, Nat.reduceAdd, List.getElem?_cons_zero, List.getElem?_cons_succ, List.set_cons_zero, List.set_cons_succ,
  dC, dVar, dOp, dTru, gTru, tru, dChain, dAnd, dOr, dNot, dAndV, dOrV, dNotV, dIf, dNeg, gNeg, dNil, dCons, dTup, dLst, dOwn, gIx, rBin, gAdd, gCmpI, dCall, dCallK, dSeq, dNext, dDrop, dRet, dRetN, dIfS, dName, dGNil, dGCons, dGTup, dSub, gSetL, dAsg, dPar, dPar3, dAug, gIpI, dSeqI, gSeqI, dRngI, gRng1, gRng2, dCB, gAbs, gInt, gMax, gMin, gGcd, gLen, lenD, gIsi, tyM, tyD, dBits, gBits, dMet, gAppend, dPart, dNoPart, dSl, dEnds, gIs, isB, dNever, dFor, dLc, wipeD, dYes,
  sizeLine_eq, Nat.reduceLeDiff, gEq_int, gNe_int, gEq_strs, gNe_strs, gIn_two, gRepr_bl, rs_lst, rs_tup, rs_scr, rs_int, atI_0, atI_1, atI_2, atI_3, atI_4, atI_5, ixN_30, ixN_31, ixN_32, gEq_bl, gNe_bl, decide_eq_true_eq, beq_iff_eq, Bool.not_eq_true', beq_eq_false_iff_ne, decide_eq_false_iff_not, Bool.not_true, Bool.not_false, if_true, if_false, Bool.false_eq_true, ite_true, ite_false, true_and, and_true, ne_eq, Bool.bne_false, Bool.bne_true, reduceCtorEq])
local macro_rules | `(tactic| walk_at "rh") => `(tactic| simp only [*, startD, List.map, List.replicate, List.length_cons, List.length_nil, List.append_eq, List.append_nil, List.nil_append, List.cons_append, Nat.reduceSub, Nat.reduceAdd, List.getElem?_cons_zero, List.getElem?_cons_succ, List.set_cons_zero, List.set_cons_succ,
  dC, dVar, dOp, dTru, gTru, tru, dChain, dAnd, dOr, dNot, dAndV, dOrV, dNotV, dIf, dNeg, gNeg, dNil, dCons, dTup, dLst, dOwn, gIx, rBin, gAdd, gCmpI, dCall, dCallK, dSeq, dNext, dDrop, dRet, dRetN, dIfS, dName, dGNil, dGCons, dGTup, dSub, gSetL, dAsg, dPar, dPar3, dAug, gIpI, dSeqI, gSeqI, dRngI, gRng1, gRng2, dCB, gAbs, gInt, gMax, gMin, gGcd, gLen, lenD, gIsi, tyM, tyD, dBits, gBits, dMet, gAppend, dPart, dNoPart, dSl, dEnds, gIs, isB, dNever, dFor, dLc, wipeD, dYes,
  sizeLine_eq, Nat.reduceLeDiff, gEq_int, gNe_int, gEq_strs, gNe_strs, gIn_two, gRepr_bl, rs_lst, rs_tup, rs_scr, rs_int, atI_0, atI_1, atI_2, atI_3, atI_4, atI_5, ixN_30, ixN_31, ixN_32, gEq_bl, gNe_bl, decide_eq_true_eq, beq_iff_eq, Bool.not_eq_true', beq_eq_false_iff_ne, decide_eq_false_iff_not, Bool.not_true, Bool.not_false, if_true, if_false, Bool.false_eq_true, ite_true, ite_false, true_and, and_true, ne_eq, Bool.bne_false, Bool.bne_true, reduceCtorEq])
local macro_rules | `(tactic| walk_at "kb") => `(tactic| simp only [kb_NoneType_list, kb_bool_list, kb_int_list, kb_str_list, kb_tuple_list, kb_list_list, kb_dict_list, kb_NoneType_int, kb_bool_int, kb_int_int, kb_str_int, kb_tuple_int, kb_list_int, kb_dict_int, kb_NoneType_bool, kb_bool_bool, kb_int_bool, kb_str_bool, kb_tuple_bool, kb_list_bool, kb_dict_bool, kb_NoneType_tuple, kb_bool_tuple, kb_int_tuple, kb_str_tuple, kb_tuple_tuple, kb_list_tuple, kb_dict_tuple, if_true, if_false, Bool.false_eq_true, ite_true, ite_false, Bool.not_true, Bool.not_false])
/-! ### deeds -/
/-- where a deed leads is a cutting of the same measure -/
theorem done_cut {a b c e p q a' w g e' : Int} (h : isCut a b c e = true) (hq : 1 ≤ q) (hf : 0 < b - q * e - q * q * c) (hd : IsDone a b c e p q a' w g e') : isCut a' w g e' = true ∧ meas4 w g e' = meas4 b c e := by
  obtain ⟨h1, h2, h3, h4, h5, h6⟩ := cut_parts h
  have hqc : 0 < q * c := Int.mul_pos (by omega) (by omega)
  have dn : g ∣ q * c := by rw [hd.gc]; exact Int.gcd_dvd_right _ _
  have hg : 0 < g := by
    have := Int.gcd_pos_of_ne_zero_right (p * b + q * a) (show q * c ≠ 0 by omega)
    rw [hd.gc]; omega
  obtain ⟨w0, room⟩ := done_room (by omega : 0 < b) (by omega : 0 < c) (by omega : 0 < q) hg hf dn hd.wi
  have hprim : (Int.gcd (Int.gcd a' (Int.gcd w g : Int) : Int) e' : Int) = 1 := by
    have d0 : (Int.gcd (Int.gcd a' (Int.gcd w g : Int) : Int) e' : Int) ∣ (Int.gcd a' (Int.gcd w g : Int) : Int) := Int.gcd_dvd_left _ _
    have d4 : (Int.gcd (Int.gcd a' (Int.gcd w g : Int) : Int) e' : Int) ∣ e' := Int.gcd_dvd_right _ _
    have d1 := Int.dvd_trans d0 (Int.gcd_dvd_left _ _)
    have d5 := Int.dvd_trans d0 (Int.gcd_dvd_right _ _)
    have d2 := Int.dvd_trans d5 (Int.gcd_dvd_left _ _)
    have d3 := Int.dvd_trans d5 (Int.gcd_dvd_right _ _)
    obtain ⟨k1, k2, k3, k4⟩ := done_dvd (by omega) hd d1 d2 d3 d4
    have k5 : (Int.gcd (Int.gcd a' (Int.gcd w g : Int) : Int) e' : Int) ∣ 1 := by
      rw [← h6]
      exact Int.dvd_coe_gcd (Int.dvd_coe_gcd k1 (Int.dvd_coe_gcd k2 k3)) k4
    have k6 := Int.le_of_dvd (by decide) k5
    have k7 : (Int.gcd (Int.gcd a' (Int.gcd w g : Int) : Int) e' : Int) ≠ 0 := by
      intro z
      rw [z] at k5
      exact absurd (Int.zero_dvd.mp k5) (by decide)
    omega
  refine ⟨?_, ?_⟩
  · unfold isCut
    rw [decide_eq_true (show 1 ≤ w by omega), decide_eq_true (show 1 ≤ g by omega), decide_eq_true (show g + e' < w by have := hd.tu; omega), decide_eq_true hd.lo, decide_eq_true hd.hi, hprim]
    rfl
  · unfold meas4
    rw [hd.tu]
    have e1 : 4 * w * g = 4 * (w * g) := Int.mul_assoc _ _ _
    rw [e1, hd.wi]
    grind
end DL
/-! MC: Euclid's rule with the factors; plain -/
namespace DL
theorem fmod_pos' {a b : Int} (h : 0 < b) : a.fmod b = a % b := Int.fmod_eq_emod_of_nonneg a (Int.le_of_lt h)
/-- the state of the rule: low = f m + t n, high = s m + h n, the sizes bounded -/
structure Euc (m n low high f s t h : Int) : Prop where
  e1 : low = f * m + t * n
  e2 : high = s * m + h * n
  l0 : 0 < low
  h0 : 0 ≤ high
  sg : (0 ≤ f ∧ s ≤ 0 ∧ f * high - s * low = n) ∨ (f ≤ 0 ∧ 0 ≤ s ∧ s * low - f * high = n)
  fb : -n ≤ f ∧ f ≤ n
  gc : (Int.gcd low high : Int) = Int.gcd m n
theorem Euc.sb {m n low high f s t h : Int} (E : Euc m n low high f s t h) : -n ≤ s ∧ s ≤ n := by
  have l0 := E.l0
  rcases E.sg with ⟨a, b, c⟩ | ⟨a, b, c⟩
  · have h1 : 0 ≤ f * high := Int.mul_nonneg a E.h0
    have h2 : (-s) * 1 ≤ (-s) * low := Int.mul_le_mul_of_nonneg_left l0 (by omega)
    have h3 : (-s) * low = -(s * low) := Int.neg_mul _ _
    omega
  · have h1 : 0 ≤ (-f) * high := Int.mul_nonneg (by omega) E.h0
    have h1' : (-f) * high = -(f * high) := Int.neg_mul _ _
    have h2 : s * 1 ≤ s * low := Int.mul_le_mul_of_nonneg_left l0 b
    omega
theorem Euc.step {m n low high f s t h : Int} (E : Euc m n low high f s t h) (hz : high ≠ 0) : Euc m n high (low - low / high * high) s (f - low / high * s) h (t - low / high * h) := by
  have h0 := E.h0
  have hp : 0 < high := by omega
  have k0 : 0 ≤ low / high := Int.ediv_nonneg (Int.le_of_lt E.l0) h0
  have r0 := Int.emod_nonneg low hz
  have rm : low - low / high * high = low % high := by
    have := Int.mul_ediv_add_emod low high
    have e : low / high * high = high * (low / high) := Int.mul_comm _ _
    omega
  refine ⟨E.e2, ?_, hp, by rw [rm]; exact r0, ?_, E.sb, ?_⟩
  · have e1 := E.e1
    have e2 := E.e2
    generalize low / high = k at *
    rw [e1, e2]
    grind
  · have sg := E.sg
    generalize low / high = k at *
    rcases sg with ⟨a, b, c⟩ | ⟨a, b, c⟩
    · right
      have : k * s ≤ 0 := Int.mul_nonpos_of_nonneg_of_nonpos k0 b
      refine ⟨b, by omega, ?_⟩
      rw [← c]; grind
    · left
      have : 0 ≤ k * s := Int.mul_nonneg k0 b
      refine ⟨b, by omega, ?_⟩
      rw [← c]; grind
  · rw [rm, ← E.gc, ← fmod_pos' hp]
    exact congrArg _ (gcd_step (Int.le_of_lt E.l0) hp)
theorem gcd_emod' (m n : Int) : (Int.gcd n (m % n) : Int) = Int.gcd m n := by
  have h := Int.mul_ediv_add_emod m n
  refine congrArg _ (Nat.dvd_antisymm ?_ ?_)
  · refine Int.natCast_dvd_natCast.mp (Int.dvd_coe_gcd ?_ (Int.gcd_dvd_left _ _))
    have h1 : (Int.gcd n (m % n) : Int) ∣ n * (m / n) + m % n := Int.dvd_add (Int.dvd_mul_of_dvd_left (Int.gcd_dvd_left _ _)) (Int.gcd_dvd_right _ _)
    rwa [h] at h1
  · refine Int.natCast_dvd_natCast.mp (Int.dvd_coe_gcd (Int.gcd_dvd_right _ _) ?_)
    have e : m % n = m - n * (m / n) := by omega
    rw [e]
    exact Int.dvd_sub (Int.gcd_dvd_left _ _) (Int.dvd_mul_of_dvd_left (Int.gcd_dvd_right _ _))
end DL
namespace DL
open PySem PySem.Spec PyProof.Rows L2
local macro_rules | `(tactic| walk_at "rd") => `(tactic| simp only [startD, List.map, List.replicate, List.length_cons, List.length_nil, List.append_eq, List.append_nil, List.nil_append, List.cons_append, Nat.reduceSub, Nat.reduceAdd, List.getElem?_cons_zero, List.getElem?_cons_succ, List.set_cons_zero, List.set_cons_succ,
  dC, dVar, dOp, dTru, gTru, tru, dChain, dAnd, dOr, dNot, dAndV, dOrV, dNotV, dIf, dNeg, gNeg, dNil, dCons, dTup, dLst, dOwn, gIx, rBin, gAdd, gCmpI, dCall, dCallK, dSeq, dNext, dDrop, dRet, dRetN, dIfS, dName, dGNil, dGCons, dGTup, dSub, gSetL, dAsg, dPar, dPar3, dAug, gIpI, dSeqI, gSeqI, dRngI, gRng1, gRng2, dCB, gAbs, gInt, gMax, gMin, gGcd, gLen, lenD, gIsi, tyM, tyD, dBits, gBits, dMet, gAppend, dPart, dNoPart, dSl, dEnds, gIs, isB, dNever, dFor, dLc, wipeD, dYes,
  sizeLine_eq, Nat.reduceLeDiff, gEq_int, gNe_int, gEq_strs, gNe_strs, gIn_two, gRepr_bl, rs_lst, rs_tup, rs_scr, rs_int, atI_0, atI_1, atI_2, atI_3, atI_4, atI_5, ixN_30, ixN_31, ixN_32, gEq_bl, gNe_bl, decide_eq_true_eq, beq_iff_eq, Bool.not_eq_true', beq_eq_false_iff_ne, decide_eq_false_iff_not, Bool.not_true, Bool.not_false, if_true, if_false, Bool.false_eq_true, ite_true, ite_false, true_and, and_true, ne_eq, Bool.bne_false, Bool.bne_true, reduceCtorEq])
local macro_rules | `(tactic| walk_at "rh") => `(tactic| simp only [*, startD, List.map, List.replicate, List.length_cons, List.length_nil, List.append_eq, List.append_nil, List.nil_append, List.cons_append, Nat.reduceSub, Nat.reduceAdd, List.getElem?_cons_zero, List.getElem?_cons_succ, List.set_cons_zero, List.set_cons_succ,
  dC, dVar, dOp, dTru, gTru, tru, dChain, dAnd, dOr, dNot, dAndV, dOrV, dNotV, dIf, dNeg, gNeg, dNil, dCons, dTup, dLst, dOwn, gIx, rBin, gAdd, gCmpI, dCall, dCallK, dSeq, dNext, dDrop, dRet, dRetN, dIfS, dName, dGNil, dGCons, dGTup, dSub, gSetL, dAsg, dPar, dPar3, dAug, gIpI, dSeqI, gSeqI, dRngI, gRng1, gRng2, dCB, gAbs, gInt, gMax, gMin, gGcd, gLen, lenD, gIsi, tyM, tyD, dBits, gBits, dMet, gAppend, dPart, dNoPart, dSl, dEnds, gIs, isB, dNever, dFor, dLc, wipeD, dYes,
  sizeLine_eq, Nat.reduceLeDiff, gEq_int, gNe_int, gEq_strs, gNe_strs, gIn_two, gRepr_bl, rs_lst, rs_tup, rs_scr, rs_int, atI_0, atI_1, atI_2, atI_3, atI_4, atI_5, ixN_30, ixN_31, ixN_32, gEq_bl, gNe_bl, decide_eq_true_eq, beq_iff_eq, Bool.not_eq_true', beq_eq_false_iff_ne, decide_eq_false_iff_not, Bool.not_true, Bool.not_false, if_true, if_false, Bool.false_eq_true, ite_true, ite_false, true_and, and_true, ne_eq, Bool.bne_false, Bool.bne_true, reduceCtorEq])
local macro_rules | `(tactic| walk_at "kb") => `(tactic| simp only [kb_NoneType_list, kb_bool_list, kb_int_list, kb_str_list, kb_tuple_list, kb_list_list, kb_dict_list, kb_NoneType_int, kb_bool_int, kb_int_int, kb_str_int, kb_tuple_int, kb_list_int, kb_dict_int, kb_NoneType_bool, kb_bool_bool, kb_int_bool, kb_str_bool, kb_tuple_bool, kb_list_bool, kb_dict_bool, kb_NoneType_tuple, kb_bool_tuple, kb_int_tuple, kb_str_tuple, kb_tuple_tuple, kb_list_tuple, kb_dict_tuple, if_true, if_false, Bool.false_eq_true, ite_true, ite_false, Bool.not_true, Bool.not_false])
/-! ### the common divisor with its two factors -/
end DL
namespace DL
open PySem PySem.Spec PyProof.Rows L2
local macro_rules | `(tactic| walk_at "rd") => `(tactic| simp only [startD, List.map, List.replicate, List.length_cons, List.length_nil, List.append_eq, List.append_nil, List.nil_append, List.cons_append, Nat.reduceSub, Nat.reduceAdd, List.getElem?_cons_zero, List.getElem?_cons_succ, List.set_cons_zero, List.set_cons_succ,
  dC, dVar, dOp, dTru, gTru, tru, dChain, dAnd, dOr, dNot, dAndV, dOrV, dNotV, dIf, dNeg, gNeg, dNil, dCons, dTup, dLst, dOwn, gIx, rBin, gAdd, gCmpI, dCall, dCallK, dSeq, dNext, dDrop, dRet, dRetN, dIfS, dName, dGNil, dGCons, dGTup, dSub, gSetL, dAsg, dPar, dPar3, dAug, gIpI, dSeqI, gSeqI, dRngI, gRng1, gRng2, dCB, gAbs, gInt, gMax, gMin, gGcd, gLen, lenD, gIsi, tyM, tyD, dBits, gBits, dMet, gAppend, dPart, dNoPart, dSl, dEnds, gIs, isB, dNever, dFor, dLc, wipeD, dYes,
  sizeLine_eq, Nat.reduceLeDiff, gEq_int, gNe_int, gEq_strs, gNe_strs, gIn_two, gRepr_bl, rs_lst, rs_tup, rs_scr, rs_int, atI_0, atI_1, atI_2, atI_3, atI_4, atI_5, ixN_30, ixN_31, ixN_32, gEq_bl, gNe_bl, decide_eq_true_eq, beq_iff_eq, Bool.not_eq_true', beq_eq_false_iff_ne, decide_eq_false_iff_not, Bool.not_true, Bool.not_false, if_true, if_false, Bool.false_eq_true, ite_true, ite_false, true_and, and_true, ne_eq, Bool.bne_false, Bool.bne_true, reduceCtorEq])
local macro_rules | `(tactic| walk_at "rh") => `(tactic| simp only [*, startD, List.map, List.replicate, List.length_cons, List.length_nil, List.append_eq, List.append_nil, List.nil_append, List.cons_append, Nat.reduceSub, Nat.reduceAdd, List.getElem?_cons_zero, List.getElem?_cons_succ, List.set_cons_zero, List.set_cons_succ,
  dC, dVar, dOp, dTru, gTru, tru, dChain, dAnd, dOr, dNot, dAndV, dOrV, dNotV, dIf, dNeg, gNeg, dNil, dCons, dTup, dLst, dOwn, gIx, rBin, gAdd, gCmpI, dCall, dCallK, dSeq, dNext, dDrop, dRet, dRetN, dIfS, dName, dGNil, dGCons, dGTup, dSub, gSetL, dAsg, dPar, dPar3, dAug, gIpI, dSeqI, gSeqI, dRngI, gRng1, gRng2, dCB, gAbs, gInt, gMax, gMin, gGcd, gLen, lenD, gIsi, tyM, tyD, dBits, gBits, dMet, gAppend, dPart, dNoPart, dSl, dEnds, gIs, isB, dNever, dFor, dLc, wipeD, dYes,
  sizeLine_eq, Nat.reduceLeDiff, gEq_int, gNe_int, gEq_strs, gNe_strs, gIn_two, gRepr_bl, rs_lst, rs_tup, rs_scr, rs_int, atI_0, atI_1, atI_2, atI_3, atI_4, atI_5, ixN_30, ixN_31, ixN_32, gEq_bl, gNe_bl, decide_eq_true_eq, beq_iff_eq, Bool.not_eq_true', beq_eq_false_iff_ne, decide_eq_false_iff_not, Bool.not_true, Bool.not_false, if_true, if_false, Bool.false_eq_true, ite_true, ite_false, true_and, and_true, ne_eq, Bool.bne_false, Bool.bne_true, reduceCtorEq])
local macro_rules | `(tactic| walk_at "kb") => `(tactic| simp only [kb_NoneType_list, kb_bool_list, kb_int_list, kb_str_list, kb_tuple_list, kb_list_list, kb_dict_list, kb_NoneType_int, kb_bool_int, kb_int_int, kb_str_int, kb_tuple_int, kb_list_int, kb_dict_int, kb_NoneType_bool, kb_bool_bool, kb_int_bool, kb_str_bool, kb_tuple_bool, kb_list_bool, kb_dict_bool, kb_NoneType_tuple, kb_bool_tuple, kb_int_tuple, kb_str_tuple, kb_tuple_tuple, kb_list_tuple, kb_dict_tuple, if_true, if_false, Bool.false_eq_true, ite_true, ite_false, Bool.not_true, Bool.not_false])
end DL
namespace DL
open PySem PySem.Spec PyProof.Rows L2
local macro_rules | `(tactic| walk_at "rd") => `(tactic| simp only [startD, List.map, List.replicate, List.length_cons, List.length_nil, List.append_eq, List.append_nil, List.nil_append, List.cons_append, Nat.reduceSub, Nat.reduceAdd, List.getElem?_cons_zero, List.getElem?_cons_succ, List.set_cons_zero, List.set_cons_succ,
  dC, dVar, dOp, dTru, gTru, tru, dChain, dAnd, dOr, dNot, dAndV, dOrV, dNotV, dIf, dNeg, gNeg, dNil, dCons, dTup, dLst, dOwn, gIx, rBin, gAdd, gCmpI, dCall, dCallK, dSeq, dNext, dDrop, dRet, dRetN, dIfS, dName, dGNil, dGCons, dGTup, dSub, gSetL, dAsg, dPar, dPar3, dAug, gIpI, dSeqI, gSeqI, dRngI, gRng1, gRng2, dCB, gAbs, gInt, gMax, gMin, gGcd, gLen, lenD, gIsi, tyM, tyD, dBits, gBits, dMet, gAppend, dPart, dNoPart, dSl, dEnds, gIs, isB, dNever, dFor, dLc, wipeD, dYes,
  sizeLine_eq, Nat.reduceLeDiff, gEq_int, gNe_int, gEq_strs, gNe_strs, gIn_two, gRepr_bl, rs_lst, rs_tup, rs_scr, rs_int, atI_0, atI_1, atI_2, atI_3, atI_4, atI_5, ixN_30, ixN_31, ixN_32, gEq_bl, gNe_bl, decide_eq_true_eq, beq_iff_eq, Bool.not_eq_true', beq_eq_false_iff_ne, decide_eq_false_iff_not, Bool.not_true, Bool.not_false, if_true, if_false, Bool.false_eq_true, ite_true, ite_false, true_and, and_true, ne_eq, Bool.bne_false, Bool.bne_true, reduceCtorEq])
local macro_rules | `(tactic| walk_at "rh") => `(tactic| simp only [*, startD, List.map, List.replicate, List.length_cons, List.length_nil, List.append_eq, List.append_nil, List.nil_append, List.cons_append, Nat.reduceSub, Nat.reduceAdd, List.getElem?_cons_zero, List.getElem?_cons_succ, List.set_cons_zero, List.set_cons_succ,
  dC, dVar, dOp, dTru, gTru, tru, dChain, dAnd, dOr, dNot, dAndV, dOrV, dNotV, dIf, dNeg, gNeg, dNil, dCons, dTup, dLst, dOwn, gIx, rBin, gAdd, gCmpI, dCall, dCallK, dSeq, dNext, dDrop, dRet, dRetN, dIfS, dName, dGNil, dGCons, dGTup, dSub, gSetL, dAsg, dPar, dPar3, dAug, gIpI, dSeqI, gSeqI, dRngI, gRng1, gRng2, dCB, gAbs, gInt, gMax, gMin, gGcd, gLen, lenD, gIsi, tyM, tyD, dBits, gBits, dMet, gAppend, dPart, dNoPart, dSl, dEnds, gIs, isB, dNever, dFor, dLc, wipeD, dYes,
  sizeLine_eq, Nat.reduceLeDiff, gEq_int, gNe_int, gEq_strs, gNe_strs, gIn_two, gRepr_bl, rs_lst, rs_tup, rs_scr, rs_int, atI_0, atI_1, atI_2, atI_3, atI_4, atI_5, ixN_30, ixN_31, ixN_32, gEq_bl, gNe_bl, decide_eq_true_eq, beq_iff_eq, Bool.not_eq_true', beq_eq_false_iff_ne, decide_eq_false_iff_not, Bool.not_true, Bool.not_false, if_true, if_false, Bool.false_eq_true, ite_true, ite_false, true_and, and_true, ne_eq, Bool.bne_false, Bool.bne_true, reduceCtorEq])
local macro_rules | `(tactic| walk_at "kb") => `(tactic| simp only [kb_NoneType_list, kb_bool_list, kb_int_list, kb_str_list, kb_tuple_list, kb_list_list, kb_dict_list, kb_NoneType_int, kb_bool_int, kb_int_int, kb_str_int, kb_tuple_int, kb_list_int, kb_dict_int, kb_NoneType_bool, kb_bool_bool, kb_int_bool, kb_str_bool, kb_tuple_bool, kb_list_bool, kb_dict_bool, kb_NoneType_tuple, kb_bool_tuple, kb_int_tuple, kb_str_tuple, kb_tuple_tuple, kb_list_tuple, kb_dict_tuple, if_true, if_false, Bool.false_eq_true, ite_true, ite_false, Bool.not_true, Bool.not_false])
/-! ### all that a deed makes -/
end DL
/-! MD: deeds with q = 1 that lead nearer to the heart; columns led down; plain -/
namespace DL
end DL
/-! ME: two columns led down; plain -/
namespace DL
/-- (o1, o2), (t1, t2) came of (i, k), (j, l) -/
structure Led (i k j l o1 o2 t1 t2 : Int) : Prop where
  ex : ∃ u v u' v' : Int, o1 = u * i + v * j ∧ o2 = u * k + v * l ∧ t1 = u' * i + v' * j ∧ t2 = u' * k + v' * l ∧ (u * v' - u' * v = 1 ∨ u * v' - u' * v = -1)
theorem Led.start (i k j l : Int) : Led i k j l i k j l := ⟨1, 0, 0, 1, by omega, by omega, by omega, by omega, .inl (by omega)⟩
theorem Led.step {i k j l o1 o2 t1 t2 : Int} (h : Led i k j l o1 o2 t1 t2) (T : Int) : Led i k j l t1 t2 (o1 - T * t1) (o2 - T * t2) := by
  obtain ⟨u, v, u', v', e1, e2, e3, e4, e5⟩ := h.ex
  refine ⟨u', v', u - T * u', v - T * v', e3, e4, ?_, ?_, ?_⟩
  · rw [e1, e3]; grind
  · rw [e2, e4]; grind
  · have : u' * (v - T * v') - (u - T * u') * v' = -(u * v' - u' * v) := by grind
    rw [this]
    omega
end DL
namespace DL
open PySem PySem.Spec PyProof.Rows L2
local macro_rules | `(tactic| walk_at "rd") => `(tactic| simp only [startD, List.map, List.replicate, List.length_cons, List.length_nil, List.append_eq, List.append_nil, List.nil_append, List.cons_append, Nat.reduceSub, Nat.reduceAdd, List.getElem?_cons_zero, List.getElem?_cons_succ, List.set_cons_zero, List.set_cons_succ,
  dC, dVar, dOp, dTru, gTru, tru, dChain, dAnd, dOr, dNot, dAndV, dOrV, dNotV, dIf, dNeg, gNeg, dNil, dCons, dTup, dLst, dOwn, gIx, rBin, gAdd, gCmpI, dCall, dCallK, dSeq, dNext, dDrop, dRet, dRetN, dIfS, dName, dGNil, dGCons, dGTup, dSub, gSetL, dAsg, dPar, dPar3, dAug, gIpI, dSeqI, gSeqI, dRngI, gRng1, gRng2, dCB, gAbs, gInt, gMax, gMin, gGcd, gLen, lenD, gIsi, tyM, tyD, dBits, gBits, dMet, gAppend, dPart, dNoPart, dSl, gSl_tup, gSl_lst, cut_1, dEnds, gIs, isB, dNever, dFor, dLc, wipeD, dYes,
  sizeLine_eq, Nat.reduceLeDiff, gEq_int, gNe_int, gEq_strs, gNe_strs, gIn_two, gRepr_bl, rs_lst, rs_tup, rs_scr, rs_int, atI_0, atI_1, atI_2, atI_3, atI_4, atI_5, ixN_30, ixN_31, ixN_32, gEq_bl, gNe_bl, decide_eq_true_eq, beq_iff_eq, Bool.not_eq_true', beq_eq_false_iff_ne, decide_eq_false_iff_not, Bool.not_true, Bool.not_false, if_true, if_false, Bool.false_eq_true, ite_true, ite_false, true_and, and_true, ne_eq, Bool.bne_false, Bool.bne_true, reduceCtorEq])
local macro_rules | `(tactic| walk_at "rh") => `(tactic| simp only [*, startD, List.map, List.replicate, List.length_cons, List.length_nil, List.append_eq, List.append_nil, List.nil_append, List.cons_append, Nat.reduceSub, Nat.reduceAdd, List.getElem?_cons_zero, List.getElem?_cons_succ, List.set_cons_zero, List.set_cons_succ,
  dC, dVar, dOp, dTru, gTru, tru, dChain, dAnd, dOr, dNot, dAndV, dOrV, dNotV, dIf, dNeg, gNeg, dNil, dCons, dTup, dLst, dOwn, gIx, rBin, gAdd, gCmpI, dCall, dCallK, dSeq, dNext, dDrop, dRet, dRetN, dIfS, dName, dGNil, dGCons, dGTup, dSub, gSetL, dAsg, dPar, dPar3, dAug, gIpI, dSeqI, gSeqI, dRngI, gRng1, gRng2, dCB, gAbs, gInt, gMax, gMin, gGcd, gLen, lenD, gIsi, tyM, tyD, dBits, gBits, dMet, gAppend, dPart, dNoPart, dSl, gSl_tup, gSl_lst, cut_1, dEnds, gIs, isB, dNever, dFor, dLc, wipeD, dYes,
  sizeLine_eq, Nat.reduceLeDiff, gEq_int, gNe_int, gEq_strs, gNe_strs, gIn_two, gRepr_bl, rs_lst, rs_tup, rs_scr, rs_int, atI_0, atI_1, atI_2, atI_3, atI_4, atI_5, ixN_30, ixN_31, ixN_32, gEq_bl, gNe_bl, decide_eq_true_eq, beq_iff_eq, Bool.not_eq_true', beq_eq_false_iff_ne, decide_eq_false_iff_not, Bool.not_true, Bool.not_false, if_true, if_false, Bool.false_eq_true, ite_true, ite_false, true_and, and_true, ne_eq, Bool.bne_false, Bool.bne_true, reduceCtorEq])
local macro_rules | `(tactic| walk_at "kb") => `(tactic| simp only [kb_NoneType_list, kb_bool_list, kb_int_list, kb_str_list, kb_tuple_list, kb_list_list, kb_dict_list, kb_NoneType_int, kb_bool_int, kb_int_int, kb_str_int, kb_tuple_int, kb_list_int, kb_dict_int, kb_NoneType_bool, kb_bool_bool, kb_int_bool, kb_str_bool, kb_tuple_bool, kb_list_bool, kb_dict_bool, kb_NoneType_tuple, kb_bool_tuple, kb_int_tuple, kb_str_tuple, kb_tuple_tuple, kb_list_tuple, kb_dict_tuple, if_true, if_false, Bool.false_eq_true, ite_true, ite_false, Bool.not_true, Bool.not_false])
/-! ### sizes of cuttings by their measure -/
theorem sq_nn (e : Int) : 0 ≤ e * e := by rcases (by omega : 0 ≤ e ∨ e ≤ 0) with h | h; exact Int.mul_nonneg h h; exact Int.mul_nonneg_of_nonpos_of_nonpos h h
theorem abs_le_sq (e : Int) : (e.natAbs : Int) ≤ e * e := by
  rcases (by omega : e = 0 ∨ 1 ≤ e ∨ e ≤ -1) with h | h | h
  · subst h; decide
  · have : e * 1 ≤ e * e := Int.mul_le_mul_of_nonneg_left h (by omega); omega
  · have : (-e) * 1 ≤ (-e) * (-e) := Int.mul_le_mul_of_nonneg_left (by omega) (by omega)
    rw [Int.neg_mul_neg] at this; omega
theorem cut_le {a b c e : Int} (h : isCut a b c e = true) : 0 ≤ a ∧ a < c ∧ a < b ∧ b ≤ meas4 b c e ∧ c ≤ meas4 b c e ∧ (e.natAbs : Int) ≤ meas4 b c e ∧ e * e < meas4 b c e := by
  obtain ⟨h1, h2, h3, h4, h5, _⟩ := cut_parts h
  have g1 : (Int.gcd b c : Int) ≤ c := Int.le_of_dvd (by omega) (Int.gcd_dvd_right _ _)
  have g2 : (Int.gcd b c : Int) ≤ b := Int.le_of_dvd (by omega) (Int.gcd_dvd_left _ _)
  have e1 : 4 * b * c = 4 * (b * c) := Int.mul_assoc _ _ _
  have hb : b * 1 ≤ b * c := Int.mul_le_mul_of_nonneg_left h2 (by omega)
  have hc : 1 * c ≤ b * c := Int.mul_le_mul_of_nonneg_right h1 (by omega)
  have he := abs_le_sq e
  have hs := sq_nn e
  unfold meas4
  refine ⟨h4, by omega, by omega, by omega, by omega, by omega, by omega⟩
def CutB (n : Nat) (a b c e : Int) : Prop := Bi n a ∧ Bi n b ∧ Bi n c ∧ Bi n e
theorem cut_bi {n : Nat} {a b c e : Int} (h : isCut a b c e = true) (hm : Bi n (meas4 b c e)) : CutB n a b c e := by
  obtain ⟨h1, h2, h3, h4, h5, h6, h7⟩ := cut_le h
  have h8 := (cut_parts h).1
  have h9 := (cut_parts h).2.1
  have hs := sq_nn e
  unfold CutB Bi at *
  omega
theorem CutB.mono {n k : Nat} {a b c e : Int} (h : CutB n a b c e) (hk : n ≤ k := by decide) : CutB k a b c e := ⟨h.1.mono hk, h.2.1.mono hk, h.2.2.1.mono hk, h.2.2.2.mono hk⟩
/-- a deed's numbers, but for the bound of the first -/
structure DeedQ (b c e p q : Int) : Prop where
  q1 : 1 ≤ q
  al : 0 < b - q * e - q * q * c
  p0 : 0 ≤ p
  cp : Int.gcd p q = 1
theorem deedq_one {a b c e p : Int} (h : isCut a b c e = true) (hp : 0 ≤ p) : DeedQ b c e p 1 := by
  obtain ⟨h1, h2, h3, h4, h5, _⟩ := cut_parts h
  refine ⟨by omega, by rw [Int.one_mul, Int.one_mul, Int.one_mul]; omega, hp, ?_⟩
  simp [Int.gcd]
def farV (a b c : Int) : Int := if c = 1 then 0 else if (Int.gcd (Int.gcd a b : Int) c : Int) = 1 then 1 else 2
theorem done_g {a b c e p q a' w g e' : Int} (hc : 1 ≤ c) (hq : 1 ≤ q) (h : IsDone a b c e p q a' w g e') : 0 < g := by
  have := Int.gcd_pos_of_ne_zero_right (p * b + q * a) (show q * c ≠ 0 by have := Int.mul_pos (show 0 < q by omega) (show 0 < c by omega); omega)
  have := h.gc
  omega
/-- p is the least that leads nearer -/
def IsNear (a b c e p : Int) : Prop := (∀ a' w g e', IsDone a b c e p 1 a' w g e' → farV a' w g + 1 = farV a b c) ∧ ∀ p', 0 ≤ p' → p' < p → ∀ a' w g e', IsDone a b c e p' 1 a' w g e' → farV a b c ≤ farV a' w g
theorem lot_le {b c : Int} (hc : 1 ≤ c) : 1 ≤ c / (Int.gcd b c : Int) ∧ c / (Int.gcd b c : Int) ≤ c := by
  have G0 : 0 < (Int.gcd b c : Int) := by
    have := Int.gcd_pos_of_ne_zero_right b (show c ≠ 0 by omega)
    omega
  exact ⟨Int.ediv_pos_of_pos_of_dvd (by omega) (by omega) (Int.gcd_dvd_right _ _), Int.ediv_le_self _ (by omega)⟩
end DL
namespace DL
open PySem PySem.Spec PyProof.Rows L2
local macro_rules | `(tactic| walk_at "rd") => `(tactic| simp only [startD, List.map, List.replicate, List.length_cons, List.length_nil, List.append_eq, List.append_nil, List.nil_append, List.cons_append, Nat.reduceSub, Nat.reduceAdd, List.getElem?_cons_zero, List.getElem?_cons_succ, List.set_cons_zero, List.set_cons_succ,
  dC, dVar, dOp, dTru, gTru, tru, dChain, dAnd, dOr, dNot, dAndV, dOrV, dNotV, dIf, dNeg, gNeg, dNil, dCons, dTup, dLst, dOwn, gIx, rBin, gAdd, gCmpI, dCall, dCallK, dSeq, dNext, dDrop, dRet, dRetN, dIfS, dName, dGNil, dGCons, dGTup, dSub, gSetL, dAsg, dPar, dPar3, dAug, gIpI, dSeqI, gSeqI, dRngI, gRng1, gRng2, dCB, gAbs, gInt, gMax, gMin, gGcd, gLen, lenD, gIsi, tyM, tyD, dBits, gBits, dMet, gAppend, dPart, dNoPart, dSl, gSl_tup, gSl_lst, cut_1, dEnds, gIs, isB, dNever, dFor, dLc, wipeD, dYes,
  sizeLine_eq, Nat.reduceLeDiff, gEq_int, gNe_int, gEq_strs, gNe_strs, gIn_two, gRepr_bl, rs_lst, rs_tup, rs_scr, rs_int, atI_0, atI_1, atI_2, atI_3, atI_4, atI_5, ixN_30, ixN_31, ixN_32, gEq_bl, gNe_bl, decide_eq_true_eq, beq_iff_eq, Bool.not_eq_true', beq_eq_false_iff_ne, decide_eq_false_iff_not, Bool.not_true, Bool.not_false, if_true, if_false, Bool.false_eq_true, ite_true, ite_false, true_and, and_true, ne_eq, Bool.bne_false, Bool.bne_true, reduceCtorEq])
local macro_rules | `(tactic| walk_at "rh") => `(tactic| simp only [*, startD, List.map, List.replicate, List.length_cons, List.length_nil, List.append_eq, List.append_nil, List.nil_append, List.cons_append, Nat.reduceSub, Nat.reduceAdd, List.getElem?_cons_zero, List.getElem?_cons_succ, List.set_cons_zero, List.set_cons_succ,
  dC, dVar, dOp, dTru, gTru, tru, dChain, dAnd, dOr, dNot, dAndV, dOrV, dNotV, dIf, dNeg, gNeg, dNil, dCons, dTup, dLst, dOwn, gIx, rBin, gAdd, gCmpI, dCall, dCallK, dSeq, dNext, dDrop, dRet, dRetN, dIfS, dName, dGNil, dGCons, dGTup, dSub, gSetL, dAsg, dPar, dPar3, dAug, gIpI, dSeqI, gSeqI, dRngI, gRng1, gRng2, dCB, gAbs, gInt, gMax, gMin, gGcd, gLen, lenD, gIsi, tyM, tyD, dBits, gBits, dMet, gAppend, dPart, dNoPart, dSl, gSl_tup, gSl_lst, cut_1, dEnds, gIs, isB, dNever, dFor, dLc, wipeD, dYes,
  sizeLine_eq, Nat.reduceLeDiff, gEq_int, gNe_int, gEq_strs, gNe_strs, gIn_two, gRepr_bl, rs_lst, rs_tup, rs_scr, rs_int, atI_0, atI_1, atI_2, atI_3, atI_4, atI_5, ixN_30, ixN_31, ixN_32, gEq_bl, gNe_bl, decide_eq_true_eq, beq_iff_eq, Bool.not_eq_true', beq_eq_false_iff_ne, decide_eq_false_iff_not, Bool.not_true, Bool.not_false, if_true, if_false, Bool.false_eq_true, ite_true, ite_false, true_and, and_true, ne_eq, Bool.bne_false, Bool.bne_true, reduceCtorEq])
local macro_rules | `(tactic| walk_at "kb") => `(tactic| simp only [kb_NoneType_list, kb_bool_list, kb_int_list, kb_str_list, kb_tuple_list, kb_list_list, kb_dict_list, kb_NoneType_int, kb_bool_int, kb_int_int, kb_str_int, kb_tuple_int, kb_list_int, kb_dict_int, kb_NoneType_bool, kb_bool_bool, kb_int_bool, kb_str_bool, kb_tuple_bool, kb_list_bool, kb_dict_bool, kb_NoneType_tuple, kb_bool_tuple, kb_int_tuple, kb_str_tuple, kb_tuple_tuple, kb_list_tuple, kb_dict_tuple, if_true, if_false, Bool.false_eq_true, ite_true, ite_false, Bool.not_true, Bool.not_false])
/-! ### the way to the heart -/
/-- deeds (p, 1), one behind the other, from (a, b, c, e) to (a', b', c', e') -/
def HWay : List Int → Int → Int → Int → Int → Int → Int → Int → Int → Prop
  | [], a, b, c, e, a', b', c', e' => a' = a ∧ b' = b ∧ c' = c ∧ e' = e
  | p :: ps, a, b, c, e, a', b', c', e' => ∃ a1 w g e1, 0 ≤ p ∧ p < c / (Int.gcd b c : Int) ∧ IsDone a b c e p 1 a1 w g e1 ∧ HWay ps a1 w g e1 a' b' c' e' ∧ IsNear a b c e p
theorem done_one {a b c e p a' w g e' : Int} (h : isCut a b c e = true) (hp : 0 ≤ p) (hd : IsDone a b c e p 1 a' w g e') : isCut a' w g e' = true ∧ meas4 w g e' = meas4 b c e :=
  done_cut h (Int.le_refl _) (deedq_one h hp).al hd
end DL
namespace DL
open PySem PySem.Spec PyProof.Rows L2
local macro_rules | `(tactic| walk_at "rd") => `(tactic| simp only [startD, List.map, List.replicate, List.length_cons, List.length_nil, List.append_eq, List.append_nil, List.nil_append, List.cons_append, Nat.reduceSub, Nat.reduceAdd, List.getElem?_cons_zero, List.getElem?_cons_succ, List.set_cons_zero, List.set_cons_succ,
  dC, dVar, dOp, dTru, gTru, tru, dChain, dAnd, dOr, dNot, dAndV, dOrV, dNotV, dIf, dNeg, gNeg, dNil, dCons, dTup, dLst, dOwn, gIx, rBin, gAdd, gCmpI, dCall, dCallK, dSeq, dNext, dDrop, dRet, dRetN, dIfS, dName, dGNil, dGCons, dGTup, dSub, gSetL, dAsg, dPar, dPar3, dAug, gIpI, dSeqI, gSeqI, dRngI, gRng1, gRng2, dCB, gAbs, gInt, gMax, gMin, gGcd, gLen, lenD, gIsi, tyM, tyD, dBits, gBits, dMet, gAppend, dPart, dNoPart, dSl, gSl_tup, gSl_lst, cut_1, dEnds, gIs, isB, dNever, dFor, dLc, wipeD, dYes,
  sizeLine_eq, Nat.reduceLeDiff, gEq_int, gNe_int, gEq_strs, gNe_strs, gIn_two, gRepr_bl, rs_lst, rs_tup, rs_scr, rs_int, atI_0, atI_1, atI_2, atI_3, atI_4, atI_5, ixN_30, ixN_31, ixN_32, gEq_bl, gNe_bl, decide_eq_true_eq, beq_iff_eq, Bool.not_eq_true', beq_eq_false_iff_ne, decide_eq_false_iff_not, Bool.not_true, Bool.not_false, if_true, if_false, Bool.false_eq_true, ite_true, ite_false, true_and, and_true, ne_eq, Bool.bne_false, Bool.bne_true, reduceCtorEq])
local macro_rules | `(tactic| walk_at "rh") => `(tactic| simp only [*, startD, List.map, List.replicate, List.length_cons, List.length_nil, List.append_eq, List.append_nil, List.nil_append, List.cons_append, Nat.reduceSub, Nat.reduceAdd, List.getElem?_cons_zero, List.getElem?_cons_succ, List.set_cons_zero, List.set_cons_succ,
  dC, dVar, dOp, dTru, gTru, tru, dChain, dAnd, dOr, dNot, dAndV, dOrV, dNotV, dIf, dNeg, gNeg, dNil, dCons, dTup, dLst, dOwn, gIx, rBin, gAdd, gCmpI, dCall, dCallK, dSeq, dNext, dDrop, dRet, dRetN, dIfS, dName, dGNil, dGCons, dGTup, dSub, gSetL, dAsg, dPar, dPar3, dAug, gIpI, dSeqI, gSeqI, dRngI, gRng1, gRng2, dCB, gAbs, gInt, gMax, gMin, gGcd, gLen, lenD, gIsi, tyM, tyD, dBits, gBits, dMet, gAppend, dPart, dNoPart, dSl, gSl_tup, gSl_lst, cut_1, dEnds, gIs, isB, dNever, dFor, dLc, wipeD, dYes,
  sizeLine_eq, Nat.reduceLeDiff, gEq_int, gNe_int, gEq_strs, gNe_strs, gIn_two, gRepr_bl, rs_lst, rs_tup, rs_scr, rs_int, atI_0, atI_1, atI_2, atI_3, atI_4, atI_5, ixN_30, ixN_31, ixN_32, gEq_bl, gNe_bl, decide_eq_true_eq, beq_iff_eq, Bool.not_eq_true', beq_eq_false_iff_ne, decide_eq_false_iff_not, Bool.not_true, Bool.not_false, if_true, if_false, Bool.false_eq_true, ite_true, ite_false, true_and, and_true, ne_eq, Bool.bne_false, Bool.bne_true, reduceCtorEq])
local macro_rules | `(tactic| walk_at "kb") => `(tactic| simp only [kb_NoneType_list, kb_bool_list, kb_int_list, kb_str_list, kb_tuple_list, kb_list_list, kb_dict_list, kb_NoneType_int, kb_bool_int, kb_int_int, kb_str_int, kb_tuple_int, kb_list_int, kb_dict_int, kb_NoneType_bool, kb_bool_bool, kb_int_bool, kb_str_bool, kb_tuple_bool, kb_list_bool, kb_dict_bool, kb_NoneType_tuple, kb_bool_tuple, kb_int_tuple, kb_str_tuple, kb_tuple_tuple, kb_list_tuple, kb_dict_tuple, if_true, if_false, Bool.false_eq_true, ite_true, ite_false, Bool.not_true, Bool.not_false])
/-! ### the law's own deeds -/
theorem gEq_nil' {n : Nat} {l : List D} {M : Mem} {Q : DQ} (h : fineAll n l = true) (q : Q (.bl l.isEmpty) M) (hn : n ≤ 60 := by decide) : gEq (.lst l) (.lst []) M Q := by
  unfold gEq
  rw [rs_lst, rs_lst, eqB_nil h hn]
  exact q
end DL
namespace DL
open PySem PySem.Spec PyProof.Rows L2
local macro_rules | `(tactic| walk_at "rd") => `(tactic| simp only [startD, List.map, List.replicate, List.length_cons, List.length_nil, List.append_eq, List.append_nil, List.nil_append, List.cons_append, Nat.reduceSub, Nat.reduceAdd, List.getElem?_cons_zero, List.getElem?_cons_succ, List.set_cons_zero, List.set_cons_succ,
  dC, dVar, dOp, dTru, gTru, tru, dChain, dAnd, dOr, dNot, dAndV, dOrV, dNotV, dIf, dNeg, gNeg, dNil, dCons, dTup, dLst, dOwn, gIx, rBin, gAdd, gCmpI, dCall, dCallK, dSeq, dNext, dDrop, dRet, dRetN, dIfS, dName, dGNil, dGCons, dGTup, dSub, gSetL, dAsg, dPar, dPar3, dAug, gIpI, dSeqI, gSeqI, dRngI, gRng1, gRng2, dCB, gAbs, gInt, gMax, gMin, gGcd, gLen, lenD, gIsi, tyM, tyD, dBits, gBits, dMet, gAppend, dPart, dNoPart, dSl, gSl_tup, gSl_lst, cut_1, dEnds, gIs, isB, dNever, dFor, dLc, wipeD, dYes,
  sizeLine_eq, Nat.reduceLeDiff, gEq_int, gNe_int, gEq_strs, gNe_strs, gIn_two, gRepr_bl, rs_lst, rs_tup, rs_scr, rs_int, atI_0, atI_1, atI_2, atI_3, atI_4, atI_5, ixN_30, ixN_31, ixN_32, gEq_bl, gNe_bl, decide_eq_true_eq, beq_iff_eq, Bool.not_eq_true', beq_eq_false_iff_ne, decide_eq_false_iff_not, Bool.not_true, Bool.not_false, if_true, if_false, Bool.false_eq_true, ite_true, ite_false, true_and, and_true, ne_eq, Bool.bne_false, Bool.bne_true, reduceCtorEq])
local macro_rules | `(tactic| walk_at "rh") => `(tactic| simp only [*, startD, List.map, List.replicate, List.length_cons, List.length_nil, List.append_eq, List.append_nil, List.nil_append, List.cons_append, Nat.reduceSub, Nat.reduceAdd, List.getElem?_cons_zero, List.getElem?_cons_succ, List.set_cons_zero, List.set_cons_succ,
  dC, dVar, dOp, dTru, gTru, tru, dChain, dAnd, dOr, dNot, dAndV, dOrV, dNotV, dIf, dNeg, gNeg, dNil, dCons, dTup, dLst, dOwn, gIx, rBin, gAdd, gCmpI, dCall, dCallK, dSeq, dNext, dDrop, dRet, dRetN, dIfS, dName, dGNil, dGCons, dGTup, dSub, gSetL, dAsg, dPar, dPar3, dAug, gIpI, dSeqI, gSeqI, dRngI, gRng1, gRng2, dCB, gAbs, gInt, gMax, gMin, gGcd, gLen, lenD, gIsi, tyM, tyD, dBits, gBits, dMet, gAppend, dPart, dNoPart, dSl, gSl_tup, gSl_lst, cut_1, dEnds, gIs, isB, dNever, dFor, dLc, wipeD, dYes,
  sizeLine_eq, Nat.reduceLeDiff, gEq_int, gNe_int, gEq_strs, gNe_strs, gIn_two, gRepr_bl, rs_lst, rs_tup, rs_scr, rs_int, atI_0, atI_1, atI_2, atI_3, atI_4, atI_5, ixN_30, ixN_31, ixN_32, gEq_bl, gNe_bl, decide_eq_true_eq, beq_iff_eq, Bool.not_eq_true', beq_eq_false_iff_ne, decide_eq_false_iff_not, Bool.not_true, Bool.not_false, if_true, if_false, Bool.false_eq_true, ite_true, ite_false, true_and, and_true, ne_eq, Bool.bne_false, Bool.bne_true, reduceCtorEq])
local macro_rules | `(tactic| walk_at "kb") => `(tactic| simp only [kb_NoneType_list, kb_bool_list, kb_int_list, kb_str_list, kb_tuple_list, kb_list_list, kb_dict_list, kb_NoneType_int, kb_bool_int, kb_int_int, kb_str_int, kb_tuple_int, kb_list_int, kb_dict_int, kb_NoneType_bool, kb_bool_bool, kb_int_bool, kb_str_bool, kb_tuple_bool, kb_list_bool, kb_dict_bool, kb_NoneType_tuple, kb_bool_tuple, kb_int_tuple, kb_str_tuple, kb_tuple_tuple, kb_list_tuple, kb_dict_tuple, if_true, if_false, Bool.false_eq_true, ite_true, ite_false, Bool.not_true, Bool.not_false])
/-! ### k63: drawn deeds, the heart's numbers -/
/-- a deed: (p, q) is one of (a, b, c, e) -/
def isDeed (b c e p q : Int) : Bool := decide (1 ≤ q) && (decide (0 < b - q * e - q * q * c) && (decide (0 ≤ p) && (decide (p < q * (c / (Int.gcd b c : Int))) && (Int.gcd p q : Int) == 1)))
def sp_lmade : DSp := fun ds M Q _ => ∃ m n : Int, ds = [.int m, .int n] ∧ Bi 450 n ∧ Q (T4 0 ((m - n * n) / 4) 1 n) M
theorem rd_l_made_4c69 : ∀ ds M Q, ds.length = 2 → sp_lmade ds M Q DX0 → t_l_made_4c69 (dEnds M Q) (startD 2 ds) M := by
  rintro _ M Q - ⟨m, n, rfl, bn, q⟩
  unfold t_l_made_4c69
  walk_at "rd"
  rw [← fdiv_pos (show (0 : Int) < 4 by decide)] at q
  exact ⟨⟨bn.sm, bn.sm⟩, ⟨by decide, by decide⟩, rtq q⟩
/-- the heart's bounds -/
def hLow (m : Int) : Int := let r := if isq m * isq m < m then 0 - isq m else 1 - isq m; if (r - m) % 2 = 0 then r else r + 1
def hHigh (m : Int) : Int := let r := 0 - (if isq m * isq m < m then 0 - isq m else 1 - isq m) - 2; if (r - m) % 2 = 0 then r else r - 1
def sp_bounds_by : DSp := fun ds M Q _ => ∃ m : Int, ds = [.int m] ∧ 0 ≤ m ∧ m ≤ BIG ∧ Q (.tup [.int (hLow m), .int (hHigh m)]) M
theorem rd_bounds_by : ∀ ds M Q, ds.length = 1 → sp_bounds_by ds M Q DX0 → t_bounds_by sp_isq (dEnds M Q) (startD 4 ds) M := by
  rintro _ M Q - ⟨m, rfl, m0, mB, q⟩
  unfold t_bounds_by
  have h4 := isq_le_self m0
  have h3 := isq_nn m
  have sr : Sm (isq m) := sm_big (by have := big_pos; omega) (by omega)
  refine dSeq_open fun B hB => ?_
  walk_at "rd"
  refine ⟨m, rfl, m0, mB, ?_⟩
  rw [← hB]
  clear hB B
  unfold hLow hHigh at q
  dsimp only at q
  refine dSeq_open fun B hB => ?_
  walk_at "rd"
  refine ⟨⟨sr, sr⟩, ?_⟩
  have main : ∀ r : Int, (if isq m * isq m < m then 0 - isq m else 1 - isq m) = r → B [some (.int m), some (.int (isq m)), some (.int r), none] M := by
    intro r hr
    rw [hr] at q
    rw [← hB]
    clear hB B
    walk_at "rd"
    refine ⟨(by decide : (2 : Int) ≠ 0), ?_⟩
    rw [fmod_pos (show (0 : Int) < 2 by decide)]
    by_cases z : (r - m) % 2 = 0
    · rw [if_neg (fun w => w z)]
      rw [if_pos z] at q
      refine ⟨(by decide : (2 : Int) ≠ 0), ?_⟩
      rw [fmod_pos (show (0 : Int) < 2 by decide)]
      by_cases z2 : (0 - r - 2 - m) % 2 = 0
      · rw [if_neg (fun w => w z2)]
        rw [if_pos z2] at q
        exact rtq q
      · rw [if_pos z2]
        rw [if_neg z2] at q
        exact rtq q
    · rw [if_pos z]
      rw [if_neg z] at q
      refine ⟨(by decide : (2 : Int) ≠ 0), ?_⟩
      rw [fmod_pos (show (0 : Int) < 2 by decide)]
      by_cases z2 : (0 - r - 2 - m) % 2 = 0
      · rw [if_neg (fun w => w z2)]
        rw [if_pos z2] at q
        exact rtq q
      · rw [if_pos z2]
        rw [if_neg z2] at q
        exact rtq q
  by_cases hs : isq m * isq m < m
  · rw [if_pos hs]
    exact main _ (if_pos hs)
  · rw [if_neg hs]
    exact main _ (if_neg hs)
theorem meas_par {a b c e : Int} : (e - meas4 b c e) % 2 = 0 := by
  unfold meas4
  have e1 : 4 * b * c = 4 * (b * c) := Int.mul_assoc _ _ _
  rw [e1]
  rcases (by omega : e % 2 = 0 ∨ e % 2 = 1) with q | q
  · obtain ⟨t, rfl⟩ : ∃ t, e = 2 * t := ⟨e / 2, by omega⟩
    have : 2 * t * (2 * t) = 4 * (t * t) := by grind
    omega
  · obtain ⟨t, rfl⟩ : ∃ t, e = 2 * t + 1 := ⟨e / 2, by omega⟩
    have : (2 * t + 1) * (2 * t + 1) = 4 * (t * t + t) + 1 := by grind
    omega
end DL
namespace DL
open PySem PySem.Spec PyProof.Rows L2
local macro_rules | `(tactic| walk_at "rd") => `(tactic| simp only [startD, List.map, List.replicate, List.length_cons, List.length_nil, List.append_eq, List.append_nil, List.nil_append, List.cons_append, Nat.reduceSub, Nat.reduceAdd, List.getElem?_cons_zero, List.getElem?_cons_succ, List.set_cons_zero, List.set_cons_succ,
  dC, dVar, dOp, dTru, gTru, tru, dChain, dAnd, dOr, dNot, dAndV, dOrV, dNotV, dIf, dNeg, gNeg, dNil, dCons, dTup, dLst, dOwn, gIx, rBin, gAdd, gCmpI, dCall, dCallK, dSeq, dNext, dDrop, dRet, dRetN, dIfS, dName, dGNil, dGCons, dGTup, dSub, gSetL, dAsg, dPar, dPar3, dAug, gIpI, dSeqI, gSeqI, dRngI, gRng1, gRng2, dCB, gAbs, gInt, gMax, gMin, gGcd, gLen, lenD, gIsi, tyM, tyD, dBits, gBits, dMet, gAppend, dPart, dNoPart, dSl, gSl_tup, gSl_lst, cut_1, dEnds, gIs, isB, dNever, dFor, dLc, wipeD, dYes,
  sizeLine_eq, Nat.reduceLeDiff, gEq_int, gNe_int, gEq_strs, gNe_strs, gIn_two, gRepr_bl, rs_lst, rs_tup, rs_scr, rs_int, atI_0, atI_1, atI_2, atI_3, atI_4, atI_5, ixN_30, ixN_31, ixN_32, gEq_bl, gNe_bl, decide_eq_true_eq, beq_iff_eq, Bool.not_eq_true', beq_eq_false_iff_ne, decide_eq_false_iff_not, Bool.not_true, Bool.not_false, if_true, if_false, Bool.false_eq_true, ite_true, ite_false, true_and, and_true, ne_eq, Bool.bne_false, Bool.bne_true, reduceCtorEq])
local macro_rules | `(tactic| walk_at "rh") => `(tactic| simp only [*, startD, List.map, List.replicate, List.length_cons, List.length_nil, List.append_eq, List.append_nil, List.nil_append, List.cons_append, Nat.reduceSub, Nat.reduceAdd, List.getElem?_cons_zero, List.getElem?_cons_succ, List.set_cons_zero, List.set_cons_succ,
  dC, dVar, dOp, dTru, gTru, tru, dChain, dAnd, dOr, dNot, dAndV, dOrV, dNotV, dIf, dNeg, gNeg, dNil, dCons, dTup, dLst, dOwn, gIx, rBin, gAdd, gCmpI, dCall, dCallK, dSeq, dNext, dDrop, dRet, dRetN, dIfS, dName, dGNil, dGCons, dGTup, dSub, gSetL, dAsg, dPar, dPar3, dAug, gIpI, dSeqI, gSeqI, dRngI, gRng1, gRng2, dCB, gAbs, gInt, gMax, gMin, gGcd, gLen, lenD, gIsi, tyM, tyD, dBits, gBits, dMet, gAppend, dPart, dNoPart, dSl, gSl_tup, gSl_lst, cut_1, dEnds, gIs, isB, dNever, dFor, dLc, wipeD, dYes,
  sizeLine_eq, Nat.reduceLeDiff, gEq_int, gNe_int, gEq_strs, gNe_strs, gIn_two, gRepr_bl, rs_lst, rs_tup, rs_scr, rs_int, atI_0, atI_1, atI_2, atI_3, atI_4, atI_5, ixN_30, ixN_31, ixN_32, gEq_bl, gNe_bl, decide_eq_true_eq, beq_iff_eq, Bool.not_eq_true', beq_eq_false_iff_ne, decide_eq_false_iff_not, Bool.not_true, Bool.not_false, if_true, if_false, Bool.false_eq_true, ite_true, ite_false, true_and, and_true, ne_eq, Bool.bne_false, Bool.bne_true, reduceCtorEq])
local macro_rules | `(tactic| walk_at "kb") => `(tactic| simp only [kb_NoneType_list, kb_bool_list, kb_int_list, kb_str_list, kb_tuple_list, kb_list_list, kb_dict_list, kb_NoneType_int, kb_bool_int, kb_int_int, kb_str_int, kb_tuple_int, kb_list_int, kb_dict_int, kb_NoneType_bool, kb_bool_bool, kb_int_bool, kb_str_bool, kb_tuple_bool, kb_list_bool, kb_dict_bool, kb_NoneType_tuple, kb_bool_tuple, kb_int_tuple, kb_str_tuple, kb_tuple_tuple, kb_list_tuple, kb_dict_tuple, if_true, if_false, Bool.false_eq_true, ite_true, ite_false, Bool.not_true, Bool.not_false])
/-! ### all cuttings of a measure, as laws list them -/
def IsC (m : Int) (x : List Int) : Prop := ∃ a b c e, x = [a, b, c, e] ∧ isCut a b c e = true ∧ meas4 b c e = m
/-- l: cuttings of the measure m, among them all with P c e -/
def Cov (m : Int) (l : List (List Int)) (P : Int → Int → Prop) : Prop := (∀ x ∈ l, IsC m x) ∧ ∀ a b c e, isCut a b c e = true → meas4 b c e = m → P c e → [a, b, c, e] ∈ l
theorem Cov.weak {m : Int} {l : List (List Int)} {P P' : Int → Int → Prop} (h : Cov m l P) (w : ∀ a b c e, isCut a b c e = true → meas4 b c e = m → P' c e → P c e) : Cov m l P' := ⟨h.1, fun a b c e h1 h2 h3 => h.2 a b c e h1 h2 (w a b c e h1 h2 h3)⟩
theorem Cov.app {m : Int} {l l2 : List (List Int)} {P P' : Int → Int → Prop} (h : Cov m l P) (g : Cov m l2 P') : Cov m (l ++ l2) fun c e => P c e ∨ P' c e :=
  ⟨fun x hx => (List.mem_append.mp hx).elim (h.1 x) (g.1 x), fun a b c e h1 h2 h3 => List.mem_append.mpr (h3.imp (h.2 a b c e h1 h2) (g.2 a b c e h1 h2))⟩
theorem Cov.nil {m : Int} : Cov m [] fun _ _ => False := ⟨fun x hx => (by cases hx), fun _ _ _ _ _ _ h => h.elim⟩
theorem meas_bc {b c e m : Int} : meas4 b c e = m ↔ 4 * (b * c) = m - e * e := by
  unfold meas4
  rw [Int.mul_assoc]
  omega
/-- sizes at measures to 1,000 -/
theorem isC_small {m a b c e : Int} (h : isCut a b c e = true) (hm : meas4 b c e = m) (h1 : m ≤ 1000) : 0 ≤ a ∧ 1 ≤ b ∧ 1 ≤ c ∧ a < c ∧ 4 * b ≤ m ∧ 4 * c ≤ m ∧ -31 ≤ e ∧ e ≤ 31 := by
  obtain ⟨k1, k2, k3, k4, k5, _⟩ := cut_parts h
  have k6 := (cut_le h).2.1
  have h3 := meas_bc.mp hm
  have hs := sq_nn e
  have hb : b * 1 ≤ b * c := Int.mul_le_mul_of_nonneg_left k2 (by omega)
  have hc : 1 * c ≤ b * c := Int.mul_le_mul_of_nonneg_right k1 (by omega)
  have he : e * e < 1000 := by omega
  refine ⟨k4, k1, k2, k6, by omega, by omega, ?_, ?_⟩
  · by_cases z : -31 ≤ e
    · exact z
    · have : 32 * 32 ≤ (-e) * (-e) := Int.mul_le_mul (by omega) (by omega) (by decide) (by omega)
      rw [Int.neg_mul_neg] at this
      omega
  · by_cases z : e ≤ 31
    · exact z
    · have : 32 * 32 ≤ e * e := Int.mul_le_mul (by omega) (by omega) (by decide) (by omega)
      omega
/-! ### k28's own lists -/
/-! every deed leads somewhere -/
theorem bez_ex : ∀ (k : Nat) (m n : Int), n.natAbs ≤ k → ∃ u v : Int, u * m + v * n = (Int.gcd m n : Int)
  | 0, m, n, h => by
    have : n = 0 := by omega
    subst this
    rw [Int.gcd_zero_right]
    rcases (by omega : 0 ≤ m ∨ m ≤ 0) with h | h
    · exact ⟨1, 0, by omega⟩
    · exact ⟨-1, 0, by omega⟩
  | k + 1, m, n, h => by
    by_cases z : n = 0
    · subst z
      exact bez_ex k m 0 (by simp)
    · have r0 := Int.emod_nonneg m z
      have r1 := Int.emod_lt m z
      obtain ⟨u, v, e⟩ := bez_ex k n (m % n) (by omega)
      have eg : (Int.gcd n (m % n) : Int) = Int.gcd m n := gcd_emod' m n
      rw [eg] at e
      have em := Int.mul_ediv_add_emod m n
      refine ⟨v, u - v * (m / n), ?_⟩
      have : v * m + (u - v * (m / n)) * n = u * n + v * (m - n * (m / n)) := by grind
      rw [this, ← e]
      have : m - n * (m / n) = m % n := by omega
      rw [this]
theorem done_ex {a b c e p q : Int} (hc : 1 ≤ c) (hq : 1 ≤ q) (cp : Int.gcd p q = 1) : ∃ a' w g e', IsDone a b c e p q a' w g e' := by
  obtain ⟨z, y, hz⟩ := bez_ex q.natAbs p q (Nat.le_refl _)
  rw [cp] at hz
  have row : p * z - q * (-y) = 1 := by
    have : p * z - q * (-y) = z * p + y * q := by grind
    rw [this]; exact hz
  obtain ⟨u, v, huv⟩ := bez_ex (q * c).natAbs (p * b + q * a) (q * c) (Nat.le_refl _)
  have j0 : 0 < q * c := Int.mul_pos (by omega) (by omega)
  have g0 : 0 < (Int.gcd (p * b + q * a) (q * c) : Int) := by
    have := Int.gcd_pos_of_ne_zero_right (p * b + q * a) (show q * c ≠ 0 by omega)
    omega
  have dg : (Int.gcd (p * b + q * a) (q * c) : Int) ∣ c * (b - q * e - q * q * c) := by
    have h1 : c * (b - q * e - q * q * c) = (p * b + q * a) * (z * c) - (q * c) * ((-y) * b + z * a + e + q * c) := by
      have : (p * b + q * a) * (z * c) - (q * c) * ((-y) * b + z * a + e + q * c) = c * (b * (p * z - q * (-y)) - q * e - q * q * c) := by grind
      rw [this, row, Int.mul_one]
    rw [h1]
    exact Int.dvd_sub (Int.dvd_mul_of_dvd_left (Int.gcd_dvd_left _ _)) (Int.dvd_mul_of_dvd_left (Int.gcd_dvd_right _ _))
  obtain ⟨w, hw⟩ := dg
  have G0 : 0 < (Int.gcd w (Int.gcd (p * b + q * a) (q * c) : Int) : Int) := by
    have := Int.gcd_pos_of_ne_zero_right w (show (Int.gcd (p * b + q * a) (q * c) : Int) ≠ 0 by omega)
    omega
  refine ⟨_, w, _, _, rfl, by rw [hw, Int.mul_comm], rfl, Int.emod_nonneg (0 - (u * ((-y) * b + z * a + e + q * c) + v * (z * c))) (by omega), Int.emod_lt_of_pos _ G0, u, v, -y, z, row, huv, ?_⟩
  have := Int.mul_ediv_add_emod (0 - (u * ((-y) * b + z * a + e + q * c) + v * (z * c))) (Int.gcd w (Int.gcd (p * b + q * a) (q * c) : Int) : Int)
  refine ⟨-((0 - (u * ((-y) * b + z * a + e + q * c) + v * (z * c))) / (Int.gcd w (Int.gcd (p * b + q * a) (q * c) : Int) : Int)), ?_⟩
  rw [Int.mul_neg]
  omega
/-! where a deed leads, as a function -/
theorem isDeed_parts {b c e p q : Int} (h : isDeed b c e p q = true) : DeedQ b c e p q ∧ p < q * (c / (Int.gcd b c : Int)) := by
  simp only [isDeed, Bool.and_eq_true, decide_eq_true_eq, beq_iff_eq] at h
  obtain ⟨h1, h2, h3, h4, h5⟩ := h
  exact ⟨⟨h1, h2, h3, by omega⟩, h4⟩
theorem isDeed_mk {b c e p q : Int} (h : DeedQ b c e p q) (h2 : p < q * (c / (Int.gcd b c : Int))) : isDeed b c e p q = true := by
  simp only [isDeed, Bool.and_eq_true, decide_eq_true_eq, beq_iff_eq]
  exact ⟨h.q1, h.al, h.p0, h2, by rw [h.cp]; rfl⟩
end DL
namespace DL
open PySem PySem.Spec PyProof.Rows L2
local macro_rules | `(tactic| walk_at "rd") => `(tactic| simp only [startD, List.map, List.replicate, List.length_cons, List.length_nil, List.append_eq, List.append_nil, List.nil_append, List.cons_append, Nat.reduceSub, Nat.reduceAdd, List.getElem?_cons_zero, List.getElem?_cons_succ, List.set_cons_zero, List.set_cons_succ,
  dC, dVar, dOp, dTru, gTru, tru, dChain, dAnd, dOr, dNot, dAndV, dOrV, dNotV, dIf, dNeg, gNeg, dNil, dCons, dTup, dLst, dOwn, gIx, rBin, gAdd, gCmpI, dCall, dCallK, dSeq, dNext, dDrop, dRet, dRetN, dIfS, dName, dGNil, dGCons, dGTup, dSub, gSetL, dAsg, dPar, dPar3, dAug, gIpI, dSeqI, gSeqI, dRngI, gRng1, gRng2, dCB, gAbs, gInt, gMax, gMin, gGcd, gLen, lenD, gIsi, tyM, tyD, dBits, gBits, dMet, gAppend, dPart, dNoPart, dSl, gSl_tup, gSl_lst, cut_1, dEnds, gIs, isB, dNever, dFor, dLc, wipeD, dYes,
  sizeLine_eq, Nat.reduceLeDiff, gEq_int, gNe_int, gEq_strs, gNe_strs, gIn_two, gRepr_bl, rs_lst, rs_tup, rs_scr, rs_int, atI_0, atI_1, atI_2, atI_3, atI_4, atI_5, ixN_30, ixN_31, ixN_32, gEq_bl, gNe_bl, decide_eq_true_eq, beq_iff_eq, Bool.not_eq_true', beq_eq_false_iff_ne, decide_eq_false_iff_not, Bool.not_true, Bool.not_false, if_true, if_false, Bool.false_eq_true, ite_true, ite_false, true_and, and_true, ne_eq, Bool.bne_false, Bool.bne_true, reduceCtorEq])
local macro_rules | `(tactic| walk_at "rh") => `(tactic| simp only [*, startD, List.map, List.replicate, List.length_cons, List.length_nil, List.append_eq, List.append_nil, List.nil_append, List.cons_append, Nat.reduceSub, Nat.reduceAdd, List.getElem?_cons_zero, List.getElem?_cons_succ, List.set_cons_zero, List.set_cons_succ,
  dC, dVar, dOp, dTru, gTru, tru, dChain, dAnd, dOr, dNot, dAndV, dOrV, dNotV, dIf, dNeg, gNeg, dNil, dCons, dTup, dLst, dOwn, gIx, rBin, gAdd, gCmpI, dCall, dCallK, dSeq, dNext, dDrop, dRet, dRetN, dIfS, dName, dGNil, dGCons, dGTup, dSub, gSetL, dAsg, dPar, dPar3, dAug, gIpI, dSeqI, gSeqI, dRngI, gRng1, gRng2, dCB, gAbs, gInt, gMax, gMin, gGcd, gLen, lenD, gIsi, tyM, tyD, dBits, gBits, dMet, gAppend, dPart, dNoPart, dSl, gSl_tup, gSl_lst, cut_1, dEnds, gIs, isB, dNever, dFor, dLc, wipeD, dYes,
  sizeLine_eq, Nat.reduceLeDiff, gEq_int, gNe_int, gEq_strs, gNe_strs, gIn_two, gRepr_bl, rs_lst, rs_tup, rs_scr, rs_int, atI_0, atI_1, atI_2, atI_3, atI_4, atI_5, ixN_30, ixN_31, ixN_32, gEq_bl, gNe_bl, decide_eq_true_eq, beq_iff_eq, Bool.not_eq_true', beq_eq_false_iff_ne, decide_eq_false_iff_not, Bool.not_true, Bool.not_false, if_true, if_false, Bool.false_eq_true, ite_true, ite_false, true_and, and_true, ne_eq, Bool.bne_false, Bool.bne_true, reduceCtorEq])
local macro_rules | `(tactic| walk_at "kb") => `(tactic| simp only [kb_NoneType_list, kb_bool_list, kb_int_list, kb_str_list, kb_tuple_list, kb_list_list, kb_dict_list, kb_NoneType_int, kb_bool_int, kb_int_int, kb_str_int, kb_tuple_int, kb_list_int, kb_dict_int, kb_NoneType_bool, kb_bool_bool, kb_int_bool, kb_str_bool, kb_tuple_bool, kb_list_bool, kb_dict_bool, kb_NoneType_tuple, kb_bool_tuple, kb_int_tuple, kb_str_tuple, kb_tuple_tuple, kb_list_tuple, kb_dict_tuple, if_true, if_false, Bool.false_eq_true, ite_true, ite_false, Bool.not_true, Bool.not_false])
/-! ### cells are only added -/
def Plus (M M' : Mem) : Prop := ∃ G, M' = M ++ G ∧ ∀ c ∈ G, ∀ n, belowO n c = true
theorem Plus.refl (M : Mem) : Plus M M := ⟨[], (List.append_nil M).symm, fun c h => (by cases h)⟩
theorem Plus.trans {M M' M'' : Mem} (h : Plus M M') (g : Plus M' M'') : Plus M M'' := by
  obtain ⟨G, rfl, h1⟩ := h
  obtain ⟨G', rfl, h2⟩ := g
  exact ⟨G ++ G', List.append_assoc _ _ _, fun c hc => (List.mem_append.mp hc).elim (h1 c) (h2 c)⟩
theorem Plus.add {M M' : Mem} {l : List D} (h : Plus M M') (hl : ∀ n, belowAll n l = true) : Plus M (M' ++ [.lst l]) :=
  h.trans ⟨[.lst l], rfl, fun c hc n => by rw [List.mem_singleton.mp hc]; exact hl n⟩
theorem Plus.get {M M' : Mem} (h : Plus M M') {i : Nat} (hi : i < M.length) : M'[i]? = M[i]? := by
  obtain ⟨G, rfl, _⟩ := h
  exact List.getElem?_append_left hi
theorem Plus.len {M M' : Mem} (h : Plus M M') : M.length ≤ M'.length := by
  obtain ⟨G, rfl, _⟩ := h
  rw [List.length_append]; omega
theorem Plus.rtq {M M' : Mem} {Q : DQ} {d : D} (h : Plus M M') (q : Q d M') (hb : below M'.length d = true := by rfl) : Rtq M Q d M' := by
  refine rtqC q h.len hb fun i c hc => ?_
  obtain ⟨G, rfl, h1⟩ := h
  by_cases hi : i < M.length
  · rw [List.getElem?_append_left hi] at hc
    exact .inl hc
  · rw [List.getElem?_append_right (by omega)] at hc
    exact .inr (h1 c (List.mem_of_getElem? hc) _)
/-- the new cells are let go -/
theorem Plus.drop {M M' : Mem} {Q : DQ} {d : D} (h : Plus M M') (q : Q d M) (hb : below M.length d = true := by rfl) : Rtq M Q d M' := by
  obtain ⟨G, rfl, _⟩ := h
  exact rtqG q hb
theorem Plus.set {M M' : Mem} {k : Nat} {l : List D} (h : Plus M M') (hk : M.length ≤ k) (hl : ∀ n, belowAll n l = true) : Plus M (M'.set k (.lst l)) := by
  obtain ⟨G, rfl, h1⟩ := h
  refine ⟨G.set (k - M.length) (.lst l), ?_, fun c hc n => ?_⟩
  · rw [List.set_append_right _ _ hk]
  · rcases List.mem_or_eq_of_mem_set hc with hc | rfl
    · exact h1 c hc n
    · exact hl n
/-! ### the way to the heart, as a list of the caller's -/
/-! ### k28 -/
theorem near_uniq {a b c e p p2 : Int} (h : isCut a b c e = true) (h1 : IsNear a b c e p) (h2 : IsNear a b c e p2) (k1 : 0 ≤ p) (k2 : 0 ≤ p2) : p = p2 := by
  have key : ∀ x y : Int, IsNear a b c e x → IsNear a b c e y → 0 ≤ x → x < y → False := by
    intro x y hx hy x0 xy
    obtain ⟨a', w, g, e', hd⟩ := done_ex (a := a) (b := b) (e := e) (p := x) (cut_parts h).2.1 (Int.le_refl 1) (deedq_one h x0).cp
    have := hx.1 _ _ _ _ hd
    have := hy.2 x x0 xy _ _ _ _ hd
    omega
  rcases (by omega : p = p2 ∨ p < p2 ∨ p2 < p) with z | z | z
  · exact z
  · exact (key p p2 h1 h2 k1 z).elim
  · exact (key p2 p h2 h1 k2 z).elim
theorem HWay.uniq : ∀ {ps ps2 : List Int} {a b c e a1 b1 c1 e1 a2 b2 c2 e2 : Int}, isCut a b c e = true → HWay ps a b c e a1 b1 c1 e1 → HWay ps2 a b c e a2 b2 c2 e2 → ps.length = ps2.length → ps = ps2
  | [], [], _, _, _, _, _, _, _, _, _, _, _, _, _, _, _, _ => rfl
  | [], _ :: _, _, _, _, _, _, _, _, _, _, _, _, _, _, _, _, h => by cases h
  | _ :: _, [], _, _, _, _, _, _, _, _, _, _, _, _, _, _, _, h => by cases h
  | p :: ps, p2 :: ps2, _, _, _, _, _, _, _, _, _, _, _, _, hc, ⟨x1, x2, x3, x4, u0, u1, u2, u3, u4⟩, ⟨y1, y2, y3, y4, v0, v1, v2, v3, v4⟩, h => by
    have ep := near_uniq hc u4 v4 u0 v0
    subst ep
    have hg := done_g (cut_parts hc).2.1 (Int.le_refl 1) u2
    obtain ⟨rfl, rfl, rfl, rfl⟩ := isDone_unique (by omega) u2 v2
    rw [HWay.uniq (done_one hc u0 u2).1 u3 v3 (by simpa using h)]
end DL
namespace DL
open PySem PySem.Spec PyProof.Rows L2
local macro_rules | `(tactic| walk_at "rd") => `(tactic| simp only [startD, List.map, List.replicate, List.length_cons, List.length_nil, List.append_eq, List.append_nil, List.nil_append, List.cons_append, Nat.reduceSub, Nat.reduceAdd, List.getElem?_cons_zero, List.getElem?_cons_succ, List.set_cons_zero, List.set_cons_succ,
  dC, dVar, dOp, dTru, gTru, tru, dChain, dAnd, dOr, dNot, dAndV, dOrV, dNotV, dIf, dNeg, gNeg, dNil, dCons, dTup, dLst, dOwn, gIx, rBin, gAdd, gCmpI, dCall, dCallK, dSeq, dNext, dDrop, dRet, dRetN, dIfS, dName, dGNil, dGCons, dGTup, dSub, gSetL, dAsg, dPar, dPar3, dAug, gIpI, dSeqI, gSeqI, dRngI, gRng1, gRng2, dCB, gAbs, gInt, gMax, gMin, gGcd, gLen, lenD, gIsi, tyM, tyD, dBits, gBits, dMet, gAppend, dPart, dNoPart, dSl, gSl_tup, gSl_lst, cut_1, dEnds, gIs, isB, dNever, dFor, dLc, wipeD, dYes,
  sizeLine_eq, Nat.reduceLeDiff, gEq_int, gNe_int, gEq_strs, gNe_strs, gIn_two, gRepr_bl, rs_lst, rs_tup, rs_scr, rs_int, atI_0, atI_1, atI_2, atI_3, atI_4, atI_5, ixN_30, ixN_31, ixN_32, gEq_bl, gNe_bl, decide_eq_true_eq, beq_iff_eq, Bool.not_eq_true', beq_eq_false_iff_ne, decide_eq_false_iff_not, Bool.not_true, Bool.not_false, if_true, if_false, Bool.false_eq_true, ite_true, ite_false, true_and, and_true, ne_eq, Bool.bne_false, Bool.bne_true, reduceCtorEq])
local macro_rules | `(tactic| walk_at "rh") => `(tactic| simp only [*, startD, List.map, List.replicate, List.length_cons, List.length_nil, List.append_eq, List.append_nil, List.nil_append, List.cons_append, Nat.reduceSub, Nat.reduceAdd, List.getElem?_cons_zero, List.getElem?_cons_succ, List.set_cons_zero, List.set_cons_succ,
  dC, dVar, dOp, dTru, gTru, tru, dChain, dAnd, dOr, dNot, dAndV, dOrV, dNotV, dIf, dNeg, gNeg, dNil, dCons, dTup, dLst, dOwn, gIx, rBin, gAdd, gCmpI, dCall, dCallK, dSeq, dNext, dDrop, dRet, dRetN, dIfS, dName, dGNil, dGCons, dGTup, dSub, gSetL, dAsg, dPar, dPar3, dAug, gIpI, dSeqI, gSeqI, dRngI, gRng1, gRng2, dCB, gAbs, gInt, gMax, gMin, gGcd, gLen, lenD, gIsi, tyM, tyD, dBits, gBits, dMet, gAppend, dPart, dNoPart, dSl, gSl_tup, gSl_lst, cut_1, dEnds, gIs, isB, dNever, dFor, dLc, wipeD, dYes,
  sizeLine_eq, Nat.reduceLeDiff, gEq_int, gNe_int, gEq_strs, gNe_strs, gIn_two, gRepr_bl, rs_lst, rs_tup, rs_scr, rs_int, atI_0, atI_1, atI_2, atI_3, atI_4, atI_5, ixN_30, ixN_31, ixN_32, gEq_bl, gNe_bl, decide_eq_true_eq, beq_iff_eq, Bool.not_eq_true', beq_eq_false_iff_ne, decide_eq_false_iff_not, Bool.not_true, Bool.not_false, if_true, if_false, Bool.false_eq_true, ite_true, ite_false, true_and, and_true, ne_eq, Bool.bne_false, Bool.bne_true, reduceCtorEq])
local macro_rules | `(tactic| walk_at "kb") => `(tactic| simp only [kb_NoneType_list, kb_bool_list, kb_int_list, kb_str_list, kb_tuple_list, kb_list_list, kb_dict_list, kb_NoneType_int, kb_bool_int, kb_int_int, kb_str_int, kb_tuple_int, kb_list_int, kb_dict_int, kb_NoneType_bool, kb_bool_bool, kb_int_bool, kb_str_bool, kb_tuple_bool, kb_list_bool, kb_dict_bool, kb_NoneType_tuple, kb_bool_tuple, kb_int_tuple, kb_str_tuple, kb_tuple_tuple, kb_list_tuple, kb_dict_tuple, if_true, if_false, Bool.false_eq_true, ite_true, ite_false, Bool.not_true, Bool.not_false])
/-! ### sorted lists of tuples of ints -/
abbrev LSorted (l : List (List Int)) : Prop := l.Pairwise fun x y => lexL y x = false
theorem sorted_uniq : ∀ {l1 l2 : List (List Int)}, l1.Perm l2 → LSorted l1 → LSorted l2 → l1 = l2
  | [], l2, h, _, _ => (List.Perm.eq_nil h.symm).symm
  | x :: l1, [], h, _, _ => absurd h.length_eq (by simp)
  | x :: l1, y :: l2, h, s1, s2 => by
    have h1 := List.pairwise_cons.mp s1
    have h2 := List.pairwise_cons.mp s2
    have e : x = y := by
      rcases List.mem_cons.mp (h.mem_iff.mp (List.mem_cons_self (a := x) (l := l1))) with e | hx
      · exact e
      · rcases List.mem_cons.mp (h.mem_iff.mpr (List.mem_cons_self (a := y) (l := l2))) with e | hy
        · exact e.symm
        · exact lexL_conn x y (h2.1 x hx) (h1.1 y hy)
    subst e
    rw [sorted_uniq h.cons_inv h1.2 h2.2]
theorem nodup_perm {α : Type} {l1 l2 : List α} (h1 : l1.Nodup) (h2 : l2.Nodup) (h : ∀ x, x ∈ l1 ↔ x ∈ l2) : l1.Perm l2 := (List.perm_ext_iff_of_nodup h1 h2).mpr h
theorem sorted_one {l1 l2 : List (List Int)} (h1 : l1.Nodup) (h2 : l2.Nodup) (h : ∀ x, x ∈ l1 ↔ x ∈ l2) (s1 : LSorted l1) (s2 : LSorted l2) : l1 = l2 := sorted_uniq (nodup_perm h1 h2 h) s1 s2
/-! ### all cuttings of a measure, each once -/
def CovX (m : Int) (l : List (List Int)) (P : Int → Int → Prop) : Prop := l.Nodup ∧ ∀ x, x ∈ l ↔ ∃ a b c e, x = [a, b, c, e] ∧ isCut a b c e = true ∧ meas4 b c e = m ∧ P c e
theorem CovX.nil {m : Int} {P : Int → Int → Prop} (h : ∀ a b c e, isCut a b c e = true → meas4 b c e = m → ¬ P c e) : CovX m [] P :=
  ⟨List.nodup_nil, fun x => ⟨fun h => (by cases h), by rintro ⟨a, b, c, e, rfl, h1, h2, h3⟩; exact (h a b c e h1 h2 h3).elim⟩⟩
theorem CovX.iff {m : Int} {l : List (List Int)} {P P' : Int → Int → Prop} (h : CovX m l P) (w : ∀ a b c e, isCut a b c e = true → meas4 b c e = m → (P' c e ↔ P c e)) : CovX m l P' := by
  refine ⟨h.1, fun x => (h.2 x).trans ?_⟩
  constructor
  · rintro ⟨a, b, c, e, rfl, h1, h2, h3⟩; exact ⟨a, b, c, e, rfl, h1, h2, (w a b c e h1 h2).mpr h3⟩
  · rintro ⟨a, b, c, e, rfl, h1, h2, h3⟩; exact ⟨a, b, c, e, rfl, h1, h2, (w a b c e h1 h2).mp h3⟩
theorem CovX.app {m : Int} {l l2 : List (List Int)} {P P' : Int → Int → Prop} (h : CovX m l P) (g : CovX m l2 P') (w : ∀ c e, P c e → P' c e → False) : CovX m (l ++ l2) fun c e => P c e ∨ P' c e := by
  refine ⟨List.nodup_append.mpr ⟨h.1, g.1, fun x hx y hy e => ?_⟩, fun x => ?_⟩
  · subst e
    obtain ⟨a, b, c, e, rfl, _, _, h3⟩ := (h.2 x).mp hx
    obtain ⟨a', b', c', e', h4, _, _, h5⟩ := (g.2 _).mp hy
    cases h4
    exact w c e h3 h5
  · rw [List.mem_append, h.2, g.2]
    constructor
    · rintro (⟨a, b, c, e, rfl, h1, h2, h3⟩ | ⟨a, b, c, e, rfl, h1, h2, h3⟩)
      · exact ⟨a, b, c, e, rfl, h1, h2, .inl h3⟩
      · exact ⟨a, b, c, e, rfl, h1, h2, .inr h3⟩
    · rintro ⟨a, b, c, e, rfl, h1, h2, h3 | h3⟩
      · exact .inl ⟨a, b, c, e, rfl, h1, h2, h3⟩
      · exact .inr ⟨a, b, c, e, rfl, h1, h2, h3⟩
/-- the whole of them, sorted -/
structure AllC (m : Int) (l : List (List Int)) : Prop where
  nd : l.Nodup
  mem : ∀ x, x ∈ l ↔ IsC m x
  srt : LSorted l
  len : l.length ≤ 10000000
theorem AllC.of {m : Int} {l l' : List (List Int)} {P : Int → Int → Prop} (h : CovX m l P) (w : ∀ a b c e, isCut a b c e = true → meas4 b c e = m → P c e) (hl : l.length ≤ 10000000) (pm : l'.Perm l) (sd : LSorted l') : AllC m l' := by
  refine ⟨(pm.nodup_iff).mpr h.1, fun x => ?_, sd, by rw [pm.length_eq]; exact hl⟩
  rw [pm.mem_iff, h.2]
  constructor
  · rintro ⟨a, b, c, e, rfl, h1, h2, _⟩; exact ⟨a, b, c, e, rfl, h1, h2⟩
  · rintro ⟨a, b, c, e, rfl, h1, h2⟩; exact ⟨a, b, c, e, rfl, h1, h2, w a b c e h1 h2⟩
theorem AllC.uniq {m : Int} {l l' : List (List Int)} (h : AllC m l) (g : AllC m l') : l = l' := sorted_one h.nd g.nd (fun x => (h.mem x).trans (g.mem x).symm) h.srt g.srt
/-! ### the functions of k13 to k16 -/
end DL
namespace DL
open PySem PySem.Spec PyProof.Rows L2
local macro_rules | `(tactic| walk_at "rd") => `(tactic| simp only [startD, List.map, List.replicate, List.length_cons, List.length_nil, List.append_eq, List.append_nil, List.nil_append, List.cons_append, Nat.reduceSub, Nat.reduceAdd, List.getElem?_cons_zero, List.getElem?_cons_succ, List.set_cons_zero, List.set_cons_succ,
  dC, dVar, dOp, dTru, gTru, tru, dChain, dAnd, dOr, dNot, dAndV, dOrV, dNotV, dIf, dNeg, gNeg, dNil, dCons, dTup, dLst, dOwn, gIx, rBin, gAdd, gCmpI, dCall, dCallK, dSeq, dNext, dDrop, dRet, dRetN, dIfS, dName, dGNil, dGCons, dGTup, dSub, gSetL, dAsg, dPar, dPar3, dAug, gIpI, dSeqI, gSeqI, dRngI, gRng1, gRng2, dCB, gAbs, gInt, gMax, gMin, gGcd, gLen, lenD, gIsi, tyM, tyD, dBits, gBits, dMet, gAppend, dPart, dNoPart, dSl, gSl_tup, gSl_lst, cut_1, dEnds, gIs, isB, dNever, dFor, dLc, wipeD, dYes,
  sizeLine_eq, Nat.reduceLeDiff, gEq_int, gNe_int, gEq_strs, gNe_strs, gIn_two, gRepr_bl, rs_lst, rs_tup, rs_scr, rs_int, atI_0, atI_1, atI_2, atI_3, atI_4, atI_5, ixN_30, ixN_31, ixN_32, gEq_bl, gNe_bl, decide_eq_true_eq, beq_iff_eq, Bool.not_eq_true', beq_eq_false_iff_ne, decide_eq_false_iff_not, Bool.not_true, Bool.not_false, if_true, if_false, Bool.false_eq_true, ite_true, ite_false, true_and, and_true, ne_eq, Bool.bne_false, Bool.bne_true, reduceCtorEq])
local macro_rules | `(tactic| walk_at "rh") => `(tactic| simp only [*, startD, List.map, List.replicate, List.length_cons, List.length_nil, List.append_eq, List.append_nil, List.nil_append, List.cons_append, Nat.reduceSub, Nat.reduceAdd, List.getElem?_cons_zero, List.getElem?_cons_succ, List.set_cons_zero, List.set_cons_succ,
  dC, dVar, dOp, dTru, gTru, tru, dChain, dAnd, dOr, dNot, dAndV, dOrV, dNotV, dIf, dNeg, gNeg, dNil, dCons, dTup, dLst, dOwn, gIx, rBin, gAdd, gCmpI, dCall, dCallK, dSeq, dNext, dDrop, dRet, dRetN, dIfS, dName, dGNil, dGCons, dGTup, dSub, gSetL, dAsg, dPar, dPar3, dAug, gIpI, dSeqI, gSeqI, dRngI, gRng1, gRng2, dCB, gAbs, gInt, gMax, gMin, gGcd, gLen, lenD, gIsi, tyM, tyD, dBits, gBits, dMet, gAppend, dPart, dNoPart, dSl, gSl_tup, gSl_lst, cut_1, dEnds, gIs, isB, dNever, dFor, dLc, wipeD, dYes,
  sizeLine_eq, Nat.reduceLeDiff, gEq_int, gNe_int, gEq_strs, gNe_strs, gIn_two, gRepr_bl, rs_lst, rs_tup, rs_scr, rs_int, atI_0, atI_1, atI_2, atI_3, atI_4, atI_5, ixN_30, ixN_31, ixN_32, gEq_bl, gNe_bl, decide_eq_true_eq, beq_iff_eq, Bool.not_eq_true', beq_eq_false_iff_ne, decide_eq_false_iff_not, Bool.not_true, Bool.not_false, if_true, if_false, Bool.false_eq_true, ite_true, ite_false, true_and, and_true, ne_eq, Bool.bne_false, Bool.bne_true, reduceCtorEq])
local macro_rules | `(tactic| walk_at "kb") => `(tactic| simp only [kb_NoneType_list, kb_bool_list, kb_int_list, kb_str_list, kb_tuple_list, kb_list_list, kb_dict_list, kb_NoneType_int, kb_bool_int, kb_int_int, kb_str_int, kb_tuple_int, kb_list_int, kb_dict_int, kb_NoneType_bool, kb_bool_bool, kb_int_bool, kb_str_bool, kb_tuple_bool, kb_list_bool, kb_dict_bool, kb_NoneType_tuple, kb_bool_tuple, kb_int_tuple, kb_str_tuple, kb_tuple_tuple, kb_list_tuple, kb_dict_tuple, if_true, if_false, Bool.false_eq_true, ite_true, ite_false, Bool.not_true, Bool.not_false])
/-! ### a drawn cutting of a small measure -/
/-! ### all deeds of a cutting -/
theorem allowed_mono {b c e q q' : Int} (hb : 1 ≤ b) (hc : 1 ≤ c) (h1 : 1 ≤ q) (h2 : q ≤ q') (h : 0 < b - q' * e - q' * q' * c) : 0 < b - q * e - q * q * c := by
  have e1 : q' * (b - q * e - q * q * c) = q * (b - q' * e - q' * q' * c) + (q' - q) * b + q * q' * (q' - q) * c := by grind
  have p1 : 0 < q * (b - q' * e - q' * q' * c) := Int.mul_pos (by omega) h
  have p2 : 0 ≤ (q' - q) * b := Int.mul_nonneg (by omega) (by omega)
  have p3 : 0 ≤ q * q' * (q' - q) * c := Int.mul_nonneg (Int.mul_nonneg (Int.mul_nonneg (by omega) (by omega)) (by omega)) (by omega)
  by_cases z : 0 < b - q * e - q * q * c
  · exact z
  · have : q' * (b - q * e - q * q * c) ≤ 0 := Int.mul_nonpos_of_nonneg_of_nonpos (by omega) (by omega)
    omega
def CovD (b c e : Int) (l : List (List Int)) (k : Int) : Prop := l.Nodup ∧ ∀ x, x ∈ l ↔ ∃ p q, x = [p, q] ∧ isDeed b c e p q = true ∧ q < k
/-- the deeds with a told second number -/
def rowD (N : Nat) (q : Int) : List (List Int) := (List.range N).filterMap fun (i : Nat) => if (Int.gcd (i : Int) q : Int) = 1 then some [(i : Int), q] else none
theorem rowD_mem {N : Nat} {q : Int} {x : List Int} : x ∈ rowD N q ↔ ∃ i : Nat, i < N ∧ (Int.gcd (i : Int) q : Int) = 1 ∧ x = [(i : Int), q] := by
  unfold rowD
  rw [List.mem_filterMap]
  constructor
  · rintro ⟨i, hi, h⟩
    by_cases hc : (Int.gcd (i : Int) q : Int) = 1
    · rw [if_pos hc] at h
      exact ⟨i, List.mem_range.mp hi, hc, (Option.some.inj h).symm⟩
    · rw [if_neg hc] at h; cases h
  · rintro ⟨i, hi, hc, rfl⟩
    exact ⟨i, List.mem_range.mpr hi, by rw [if_pos hc]⟩
theorem rowD_len {N : Nat} {q : Int} : (rowD N q).length ≤ N := Nat.le_trans (List.length_filterMap_le _ _) (by rw [List.length_range]; omega)
theorem rowD_nodup {N : Nat} {q : Int} : (rowD N q).Nodup := by
  unfold rowD
  refine List.Pairwise.filterMap _ (fun a a' (hne : a ≠ a') x hx y hy => ?_) List.nodup_range
  by_cases h1 : (Int.gcd (a : Int) q : Int) = 1
  · by_cases h2 : (Int.gcd (a' : Int) q : Int) = 1
    · rw [if_pos h1] at hx
      rw [if_pos h2] at hy
      cases hx; cases hy
      intro z
      have := List.cons.inj z
      omega
    · rw [if_neg h2] at hy; cases hy
  · rw [if_neg h1] at hx; cases hx
theorem CovD.step {b c e k : Int} {l : List (List Int)} (h : CovD b c e l k) (hk : 1 ≤ k) (ha : 0 < b - k * e - k * k * c) : CovD b c e (l ++ rowD (k * (c / (Int.gcd b c : Int))).toNat k) (k + 1) := by
  refine ⟨List.nodup_append.mpr ⟨h.1, rowD_nodup, fun x hx y hy z => ?_⟩, fun x => ?_⟩
  · subst z
    obtain ⟨p, q, rfl, _, h3⟩ := (h.2 x).mp hx
    obtain ⟨i, _, _, h4⟩ := rowD_mem.mp hy
    cases h4
    omega
  · rw [List.mem_append, h.2, rowD_mem]
    constructor
    · rintro (⟨p, q, rfl, h1, h2⟩ | ⟨i, h1, h2, rfl⟩)
      · exact ⟨p, q, rfl, h1, by omega⟩
      · exact ⟨i, k, rfl, isDeed_mk ⟨hk, ha, by omega, by omega⟩ (by omega), by omega⟩
    · rintro ⟨p, q, rfl, h1, h2⟩
      by_cases z : q < k
      · exact .inl ⟨p, q, rfl, h1, z⟩
      · have : q = k := by omega
        subst this
        obtain ⟨⟨q1, q2, q3, q4⟩, q5⟩ := isDeed_parts h1
        exact .inr ⟨p.toNat, by omega, by rw [Int.toNat_of_nonneg q3]; omega, by rw [Int.toNat_of_nonneg q3]⟩
structure AllD (b c e : Int) (l : List (List Int)) : Prop where
  nd : l.Nodup
  mem : ∀ x, x ∈ l ↔ ∃ p q, x = [p, q] ∧ isDeed b c e p q = true
  srt : LSorted l
  len : l.length ≤ 10000000
theorem AllD.uniq {b c e : Int} {l l' : List (List Int)} (h : AllD b c e l) (g : AllD b c e l') : l = l' := sorted_one h.nd g.nd (fun x => (h.mem x).trans (g.mem x).symm) h.srt g.srt
theorem AllD.of {b c e k : Int} {l l' : List (List Int)} (hb : 1 ≤ b) (hc : 1 ≤ c) (hk : 1 ≤ k) (h : CovD b c e l k) (hn : ¬ 0 < b - k * e - k * k * c) (hl : l.length ≤ 10000000) (pm : l'.Perm l) (sd : LSorted l') : AllD b c e l' := by
  refine ⟨(pm.nodup_iff).mpr h.1, fun x => ?_, sd, by rw [pm.length_eq]; exact hl⟩
  rw [pm.mem_iff, h.2]
  constructor
  · rintro ⟨p, q, rfl, h1, _⟩; exact ⟨p, q, rfl, h1⟩
  · rintro ⟨p, q, rfl, h1⟩
    refine ⟨p, q, rfl, h1, ?_⟩
    by_cases z : q < k
    · exact z
    · exact (hn (allowed_mono hb hc hk (by omega) (isDeed_parts h1).1.al)).elim
/-- sizes at measures to 600 -/
theorem cut600 {a b c e : Int} (h : isCut a b c e = true) (hm : meas4 b c e ≤ 600) : 0 ≤ a ∧ 1 ≤ b ∧ 1 ≤ c ∧ a < c ∧ b ≤ 150 ∧ c ≤ 150 ∧ -24 ≤ e ∧ e ≤ 24 := by
  obtain ⟨k1, k2, k3, k4, k5, k6, _⟩ := isC_small h rfl (by omega)
  have hs := (cut_le h).2.2.2.2.2.2
  refine ⟨k1, k2, k3, k4, by omega, by omega, ?_, ?_⟩
  · by_cases z : -24 ≤ e
    · exact z
    · have : 25 * 25 ≤ (-e) * (-e) := Int.mul_le_mul (by omega) (by omega) (by decide) (by omega)
      rw [Int.neg_mul_neg] at this
      omega
  · by_cases z : e ≤ 24
    · exact z
    · have : 25 * 25 ≤ e * e := Int.mul_le_mul (by omega) (by omega) (by decide) (by omega)
      omega
/-! ### deeds judged -/
theorem len2 {l : List D} (h : l.length = 2) : ∃ a b, l = [a, b] := by
  match l, h with
  | [a, b], _ => exact ⟨a, b, rfl⟩
/-! ### columns led down -/
end DL
namespace DL
open PySem PySem.Spec PyProof.Rows L2
local macro_rules | `(tactic| walk_at "rd") => `(tactic| simp only [startD, List.map, List.replicate, List.length_cons, List.length_nil, List.append_eq, List.append_nil, List.nil_append, List.cons_append, Nat.reduceSub, Nat.reduceAdd, List.getElem?_cons_zero, List.getElem?_cons_succ, List.set_cons_zero, List.set_cons_succ,
  dC, dVar, dOp, dTru, gTru, tru, dChain, dAnd, dOr, dNot, dAndV, dOrV, dNotV, dIf, dNeg, gNeg, dNil, dCons, dTup, dLst, dOwn, gIx, rBin, gAdd, gCmpI, dCall, dCallK, dSeq, dNext, dDrop, dRet, dRetN, dIfS, dName, dGNil, dGCons, dGTup, dSub, gSetL, dAsg, dPar, dPar3, dAug, gIpI, dSeqI, gSeqI, dRngI, gRng1, gRng2, dCB, gAbs, gInt, gMax, gMin, gGcd, gLen, lenD, gIsi, tyM, tyD, dBits, gBits, dMet, gAppend, dPart, dNoPart, dSl, gSl_tup, gSl_lst, cut_1, dEnds, gIs, isB, dNever, dFor, dLc, wipeD, dYes,
  sizeLine_eq, Nat.reduceLeDiff, gEq_int, gNe_int, gEq_strs, gNe_strs, gIn_two, gRepr_bl, rs_lst, rs_tup, rs_scr, rs_int, atI_0, atI_1, atI_2, atI_3, atI_4, atI_5, ixN_30, ixN_31, ixN_32, gEq_bl, gNe_bl, decide_eq_true_eq, beq_iff_eq, Bool.not_eq_true', beq_eq_false_iff_ne, decide_eq_false_iff_not, Bool.not_true, Bool.not_false, if_true, if_false, Bool.false_eq_true, ite_true, ite_false, true_and, and_true, ne_eq, Bool.bne_false, Bool.bne_true, reduceCtorEq])
local macro_rules | `(tactic| walk_at "rh") => `(tactic| simp only [*, startD, List.map, List.replicate, List.length_cons, List.length_nil, List.append_eq, List.append_nil, List.nil_append, List.cons_append, Nat.reduceSub, Nat.reduceAdd, List.getElem?_cons_zero, List.getElem?_cons_succ, List.set_cons_zero, List.set_cons_succ,
  dC, dVar, dOp, dTru, gTru, tru, dChain, dAnd, dOr, dNot, dAndV, dOrV, dNotV, dIf, dNeg, gNeg, dNil, dCons, dTup, dLst, dOwn, gIx, rBin, gAdd, gCmpI, dCall, dCallK, dSeq, dNext, dDrop, dRet, dRetN, dIfS, dName, dGNil, dGCons, dGTup, dSub, gSetL, dAsg, dPar, dPar3, dAug, gIpI, dSeqI, gSeqI, dRngI, gRng1, gRng2, dCB, gAbs, gInt, gMax, gMin, gGcd, gLen, lenD, gIsi, tyM, tyD, dBits, gBits, dMet, gAppend, dPart, dNoPart, dSl, gSl_tup, gSl_lst, cut_1, dEnds, gIs, isB, dNever, dFor, dLc, wipeD, dYes,
  sizeLine_eq, Nat.reduceLeDiff, gEq_int, gNe_int, gEq_strs, gNe_strs, gIn_two, gRepr_bl, rs_lst, rs_tup, rs_scr, rs_int, atI_0, atI_1, atI_2, atI_3, atI_4, atI_5, ixN_30, ixN_31, ixN_32, gEq_bl, gNe_bl, decide_eq_true_eq, beq_iff_eq, Bool.not_eq_true', beq_eq_false_iff_ne, decide_eq_false_iff_not, Bool.not_true, Bool.not_false, if_true, if_false, Bool.false_eq_true, ite_true, ite_false, true_and, and_true, ne_eq, Bool.bne_false, Bool.bne_true, reduceCtorEq])
local macro_rules | `(tactic| walk_at "kb") => `(tactic| simp only [kb_NoneType_list, kb_bool_list, kb_int_list, kb_str_list, kb_tuple_list, kb_list_list, kb_dict_list, kb_NoneType_int, kb_bool_int, kb_int_int, kb_str_int, kb_tuple_int, kb_list_int, kb_dict_int, kb_NoneType_bool, kb_bool_bool, kb_int_bool, kb_str_bool, kb_tuple_bool, kb_list_bool, kb_dict_bool, kb_NoneType_tuple, kb_bool_tuple, kb_int_tuple, kb_str_tuple, kb_tuple_tuple, kb_list_tuple, kb_dict_tuple, if_true, if_false, Bool.false_eq_true, ite_true, ite_false, Bool.not_true, Bool.not_false])
/-! ### columns of a deed's table, led down -/
/-! ### x in l -/
theorem done_of {a b c e p q a' w g e' : Int} (h : isCut a b c e = true) (hd : isDeed b c e p q = true) (hdn : IsDone a b c e p q a' w g e') : isCut a' w g e' = true ∧ meas4 w g e' = meas4 b c e ∧ 0 < g :=
  have hp := (isDeed_parts hd).1
  let ⟨h1, h2⟩ := done_cut h hp.q1 hp.al hdn
  ⟨h1, h2, done_g (cut_parts h).2.1 hp.q1 hdn⟩
end DL
/-! MF: the deed that leads back; plain -/
namespace DL
theorem wide_of {a b c e p q w g x z : Int} (hw : w * g = c * (b - q * e - q * q * c)) (hr : p * z - q * x = 1) : (p * b + q * a) * (z * c) - (q * c) * (x * b + z * a + e + q * c) = w * g := by
  have h1 : (p * b + q * a) * (z * c) - (q * c) * (x * b + z * a + e + q * c) = c * (b * (p * z - q * x) - q * e - q * q * c) := by grind
  rw [h1, hr, Int.mul_one, hw]
end DL
namespace DL
open PySem PySem.Spec PyProof.Rows L2
local macro_rules | `(tactic| walk_at "rd") => `(tactic| simp only [startD, List.map, List.replicate, List.length_cons, List.length_nil, List.append_eq, List.append_nil, List.nil_append, List.cons_append, Nat.reduceSub, Nat.reduceAdd, List.getElem?_cons_zero, List.getElem?_cons_succ, List.set_cons_zero, List.set_cons_succ,
  dC, dVar, dOp, dTru, gTru, tru, dChain, dAnd, dOr, dNot, dAndV, dOrV, dNotV, dIf, dNeg, gNeg, dNil, dCons, dTup, dLst, dOwn, gIx, rBin, gAdd, gCmpI, dCall, dCallK, dSeq, dNext, dDrop, dRet, dRetN, dIfS, dName, dGNil, dGCons, dGTup, dSub, gSetL, dAsg, dPar, dPar3, dAug, gIpI, dSeqI, gSeqI, dRngI, gRng1, gRng2, dCB, gAbs, gInt, gMax, gMin, gGcd, gLen, lenD, gIsi, tyM, tyD, dBits, gBits, dMet, gAppend, dPart, dNoPart, dSl, gSl_tup, gSl_lst, cut_1, dEnds, gIs, isB, dNever, dFor, dLc, wipeD, dYes,
  sizeLine_eq, Nat.reduceLeDiff, gEq_int, gNe_int, gEq_strs, gNe_strs, gIn_two, gRepr_bl, rs_lst, rs_tup, rs_scr, rs_int, atI_0, atI_1, atI_2, atI_3, atI_4, atI_5, ixN_30, ixN_31, ixN_32, gEq_bl, gNe_bl, decide_eq_true_eq, beq_iff_eq, Bool.not_eq_true', beq_eq_false_iff_ne, decide_eq_false_iff_not, Bool.not_true, Bool.not_false, if_true, if_false, Bool.false_eq_true, ite_true, ite_false, true_and, and_true, ne_eq, Bool.bne_false, Bool.bne_true, reduceCtorEq])
local macro_rules | `(tactic| walk_at "rh") => `(tactic| simp only [*, startD, List.map, List.replicate, List.length_cons, List.length_nil, List.append_eq, List.append_nil, List.nil_append, List.cons_append, Nat.reduceSub, Nat.reduceAdd, List.getElem?_cons_zero, List.getElem?_cons_succ, List.set_cons_zero, List.set_cons_succ,
  dC, dVar, dOp, dTru, gTru, tru, dChain, dAnd, dOr, dNot, dAndV, dOrV, dNotV, dIf, dNeg, gNeg, dNil, dCons, dTup, dLst, dOwn, gIx, rBin, gAdd, gCmpI, dCall, dCallK, dSeq, dNext, dDrop, dRet, dRetN, dIfS, dName, dGNil, dGCons, dGTup, dSub, gSetL, dAsg, dPar, dPar3, dAug, gIpI, dSeqI, gSeqI, dRngI, gRng1, gRng2, dCB, gAbs, gInt, gMax, gMin, gGcd, gLen, lenD, gIsi, tyM, tyD, dBits, gBits, dMet, gAppend, dPart, dNoPart, dSl, gSl_tup, gSl_lst, cut_1, dEnds, gIs, isB, dNever, dFor, dLc, wipeD, dYes,
  sizeLine_eq, Nat.reduceLeDiff, gEq_int, gNe_int, gEq_strs, gNe_strs, gIn_two, gRepr_bl, rs_lst, rs_tup, rs_scr, rs_int, atI_0, atI_1, atI_2, atI_3, atI_4, atI_5, ixN_30, ixN_31, ixN_32, gEq_bl, gNe_bl, decide_eq_true_eq, beq_iff_eq, Bool.not_eq_true', beq_eq_false_iff_ne, decide_eq_false_iff_not, Bool.not_true, Bool.not_false, if_true, if_false, Bool.false_eq_true, ite_true, ite_false, true_and, and_true, ne_eq, Bool.bne_false, Bool.bne_true, reduceCtorEq])
local macro_rules | `(tactic| walk_at "kb") => `(tactic| simp only [kb_NoneType_list, kb_bool_list, kb_int_list, kb_str_list, kb_tuple_list, kb_list_list, kb_dict_list, kb_NoneType_int, kb_bool_int, kb_int_int, kb_str_int, kb_tuple_int, kb_list_int, kb_dict_int, kb_NoneType_bool, kb_bool_bool, kb_int_bool, kb_str_bool, kb_tuple_bool, kb_list_bool, kb_dict_bool, kb_NoneType_tuple, kb_bool_tuple, kb_int_tuple, kb_str_tuple, kb_tuple_tuple, kb_list_tuple, kb_dict_tuple, if_true, if_false, Bool.false_eq_true, ite_true, ite_false, Bool.not_true, Bool.not_false])
theorem toPy_tupE {l : List D} {p : PyData} (h : toPy (.tup l) = some p) : ∃ ps, toPyAll l = some ps ∧ p = .tuple ps := by
  unfold toPy at h
  cases hl : toPyAll l with
  | none => rw [hl] at h; cases h
  | some ps => rw [hl] at h; cases h; exact ⟨ps, rfl, rfl⟩
theorem toPy_lstE {l : List D} {p : PyData} (h : toPy (.lst l) = some p) : ∃ ps, toPyAll l = some ps ∧ p = .list ps := by
  unfold toPy at h
  cases hl : toPyAll l with
  | none => rw [hl] at h; cases h
  | some ps => rw [hl] at h; cases h; exact ⟨ps, rfl, rfl⟩
theorem toPyAll_cons {d : D} {ds : List D} {ps : List PyData} (h : toPyAll (d :: ds) = some ps) : ∃ p qs, toPy d = some p ∧ toPyAll ds = some qs ∧ ps = p :: qs := by
  unfold toPyAll at h
  cases h1 : toPy d with
  | none => rw [h1] at h; cases h
  | some p =>
    cases h2 : toPyAll ds with
    | none => rw [h1, h2] at h; cases h
    | some qs => rw [h1, h2] at h; cases h; exact ⟨p, qs, rfl, rfl, rfl⟩
theorem toPy_non {d : D}  {p : PyData} (h : toPy d = some p) (e : p = .none) : d = .non := by
  cases d with
  | non => subst e; first | (cases h; done) | (cases h; rfl)
  | bl b => subst e; first | (cases h; done) | (cases h; rfl)
  | int i => subst e; first | (cases h; done) | (cases h; rfl)
  | str x => subst e; first | (cases h; done) | (cases h; rfl)
  | dct0 => subst e; first | (cases h; done) | (cases h; rfl)
  | scr ns => subst e; first | (cases h; done) | (cases h; rfl)
  | own k => subst e; first | (cases h; done) | (cases h; rfl)
  | exc C d => subst e; first | (cases h; done) | (cases h; rfl)
  | glb x => subst e; first | (cases h; done) | (cases h; rfl)
  | val v => subst e; first | (cases h; done) | (cases h; rfl)
  | tup l => obtain ⟨ps, h1, h2⟩ := toPy_tupE h; subst e; first | (cases h2; done) | (cases h2; exact ⟨l, rfl, h1⟩)
  | lst l => obtain ⟨ps, h1, h2⟩ := toPy_lstE h; subst e; first | (cases h2; done) | (cases h2; exact ⟨l, rfl, h1⟩)
theorem toPy_bl {d : D} {b : Bool} {p : PyData} (h : toPy d = some p) (e : p = .bool b) : d = .bl b := by
  cases d with
  | non => subst e; first | (cases h; done) | (cases h; rfl)
  | bl b => subst e; first | (cases h; done) | (cases h; rfl)
  | int i => subst e; first | (cases h; done) | (cases h; rfl)
  | str x => subst e; first | (cases h; done) | (cases h; rfl)
  | dct0 => subst e; first | (cases h; done) | (cases h; rfl)
  | scr ns => subst e; first | (cases h; done) | (cases h; rfl)
  | own k => subst e; first | (cases h; done) | (cases h; rfl)
  | exc C d => subst e; first | (cases h; done) | (cases h; rfl)
  | glb x => subst e; first | (cases h; done) | (cases h; rfl)
  | val v => subst e; first | (cases h; done) | (cases h; rfl)
  | tup l => obtain ⟨ps, h1, h2⟩ := toPy_tupE h; subst e; first | (cases h2; done) | (cases h2; exact ⟨l, rfl, h1⟩)
  | lst l => obtain ⟨ps, h1, h2⟩ := toPy_lstE h; subst e; first | (cases h2; done) | (cases h2; exact ⟨l, rfl, h1⟩)
theorem toPy_int {d : D} {i : Int} {p : PyData} (h : toPy d = some p) (e : p = .int i) : d = .int i := by
  cases d with
  | non => subst e; first | (cases h; done) | (cases h; rfl)
  | bl b => subst e; first | (cases h; done) | (cases h; rfl)
  | int i => subst e; first | (cases h; done) | (cases h; rfl)
  | str x => subst e; first | (cases h; done) | (cases h; rfl)
  | dct0 => subst e; first | (cases h; done) | (cases h; rfl)
  | scr ns => subst e; first | (cases h; done) | (cases h; rfl)
  | own k => subst e; first | (cases h; done) | (cases h; rfl)
  | exc C d => subst e; first | (cases h; done) | (cases h; rfl)
  | glb x => subst e; first | (cases h; done) | (cases h; rfl)
  | val v => subst e; first | (cases h; done) | (cases h; rfl)
  | tup l => obtain ⟨ps, h1, h2⟩ := toPy_tupE h; subst e; first | (cases h2; done) | (cases h2; exact ⟨l, rfl, h1⟩)
  | lst l => obtain ⟨ps, h1, h2⟩ := toPy_lstE h; subst e; first | (cases h2; done) | (cases h2; exact ⟨l, rfl, h1⟩)
theorem toPy_str {d : D} {x : Str} {p : PyData} (h : toPy d = some p) (e : p = .str x) : d = .str x := by
  cases d with
  | non => subst e; first | (cases h; done) | (cases h; rfl)
  | bl b => subst e; first | (cases h; done) | (cases h; rfl)
  | int i => subst e; first | (cases h; done) | (cases h; rfl)
  | str x => subst e; first | (cases h; done) | (cases h; rfl)
  | dct0 => subst e; first | (cases h; done) | (cases h; rfl)
  | scr ns => subst e; first | (cases h; done) | (cases h; rfl)
  | own k => subst e; first | (cases h; done) | (cases h; rfl)
  | exc C d => subst e; first | (cases h; done) | (cases h; rfl)
  | glb x => subst e; first | (cases h; done) | (cases h; rfl)
  | val v => subst e; first | (cases h; done) | (cases h; rfl)
  | tup l => obtain ⟨ps, h1, h2⟩ := toPy_tupE h; subst e; first | (cases h2; done) | (cases h2; exact ⟨l, rfl, h1⟩)
  | lst l => obtain ⟨ps, h1, h2⟩ := toPy_lstE h; subst e; first | (cases h2; done) | (cases h2; exact ⟨l, rfl, h1⟩)
theorem toPy_list {d : D} {qs : List PyData} {p : PyData} (h : toPy d = some p) (e : p = .list qs) : ∃ l, d = .lst l ∧ toPyAll l = some qs := by
  cases d with
  | non => subst e; first | (cases h; done) | (cases h; rfl)
  | bl b => subst e; first | (cases h; done) | (cases h; rfl)
  | int i => subst e; first | (cases h; done) | (cases h; rfl)
  | str x => subst e; first | (cases h; done) | (cases h; rfl)
  | dct0 => subst e; first | (cases h; done) | (cases h; rfl)
  | scr ns => subst e; first | (cases h; done) | (cases h; rfl)
  | own k => subst e; first | (cases h; done) | (cases h; rfl)
  | exc C d => subst e; first | (cases h; done) | (cases h; rfl)
  | glb x => subst e; first | (cases h; done) | (cases h; rfl)
  | val v => subst e; first | (cases h; done) | (cases h; rfl)
  | tup l => obtain ⟨ps, h1, h2⟩ := toPy_tupE h; subst e; first | (cases h2; done) | (cases h2; exact ⟨l, rfl, h1⟩)
  | lst l => obtain ⟨ps, h1, h2⟩ := toPy_lstE h; subst e; first | (cases h2; done) | (cases h2; exact ⟨l, rfl, h1⟩)
theorem toPy_tuple {d : D} {qs : List PyData} {p : PyData} (h : toPy d = some p) (e : p = .tuple qs) : ∃ l, d = .tup l ∧ toPyAll l = some qs := by
  cases d with
  | non => subst e; first | (cases h; done) | (cases h; rfl)
  | bl b => subst e; first | (cases h; done) | (cases h; rfl)
  | int i => subst e; first | (cases h; done) | (cases h; rfl)
  | str x => subst e; first | (cases h; done) | (cases h; rfl)
  | dct0 => subst e; first | (cases h; done) | (cases h; rfl)
  | scr ns => subst e; first | (cases h; done) | (cases h; rfl)
  | own k => subst e; first | (cases h; done) | (cases h; rfl)
  | exc C d => subst e; first | (cases h; done) | (cases h; rfl)
  | glb x => subst e; first | (cases h; done) | (cases h; rfl)
  | val v => subst e; first | (cases h; done) | (cases h; rfl)
  | tup l => obtain ⟨ps, h1, h2⟩ := toPy_tupE h; subst e; first | (cases h2; done) | (cases h2; exact ⟨l, rfl, h1⟩)
  | lst l => obtain ⟨ps, h1, h2⟩ := toPy_lstE h; subst e; first | (cases h2; done) | (cases h2; exact ⟨l, rfl, h1⟩)
theorem toPy_dict {d : D} {qs : List (PyData × PyData)} {p : PyData} (h : toPy d = some p) (e : p = .dict qs) : d = .dct0 := by
  cases d with
  | non => subst e; first | (cases h; done) | (cases h; rfl)
  | bl b => subst e; first | (cases h; done) | (cases h; rfl)
  | int i => subst e; first | (cases h; done) | (cases h; rfl)
  | str x => subst e; first | (cases h; done) | (cases h; rfl)
  | dct0 => subst e; first | (cases h; done) | (cases h; rfl)
  | scr ns => subst e; first | (cases h; done) | (cases h; rfl)
  | own k => subst e; first | (cases h; done) | (cases h; rfl)
  | exc C d => subst e; first | (cases h; done) | (cases h; rfl)
  | glb x => subst e; first | (cases h; done) | (cases h; rfl)
  | val v => subst e; first | (cases h; done) | (cases h; rfl)
  | tup l => obtain ⟨ps, h1, h2⟩ := toPy_tupE h; subst e; first | (cases h2; done) | (cases h2; exact ⟨l, rfl, h1⟩)
  | lst l => obtain ⟨ps, h1, h2⟩ := toPy_lstE h; subst e; first | (cases h2; done) | (cases h2; exact ⟨l, rfl, h1⟩)
mutual
/-- data without truth values and dicts -/
def nb : PyData → Bool
  | .none => true
  | .int _ => true
  | .str _ => true
  | .list l => nbAll l
  | .tuple l => nbAll l
  | _ => false
def nbAll : List PyData → Bool
  | [] => true
  | d :: ds => nb d && nbAll ds
end
mutual
theorem eqv_iff : ∀ p q : PyData, nb p = true → nb q = true → (PyData.eqv p q = true ↔ p = q)
  | .none, .none, _, _ => by simp [PyData.eqv]
  | .none, .int _, _, _ => by simp [PyData.eqv]
  | .none, .str _, _, _ => by simp [PyData.eqv]
  | .none, .list _, _, _ => by simp [PyData.eqv]
  | .none, .tuple _, _, _ => by simp [PyData.eqv]
  | .int _, .none, _, _ => by simp [PyData.eqv]
  | .int _, .int _, _, _ => by simp [PyData.eqv]
  | .int _, .str _, _, _ => by simp [PyData.eqv]
  | .int _, .list _, _, _ => by simp [PyData.eqv]
  | .int _, .tuple _, _, _ => by simp [PyData.eqv]
  | .str _, .none, _, _ => by simp [PyData.eqv]
  | .str _, .int _, _, _ => by simp [PyData.eqv]
  | .str _, .str _, _, _ => by simp [PyData.eqv]
  | .str _, .list _, _, _ => by simp [PyData.eqv]
  | .str _, .tuple _, _, _ => by simp [PyData.eqv]
  | .list _, .none, _, _ => by simp [PyData.eqv]
  | .list _, .int _, _, _ => by simp [PyData.eqv]
  | .list _, .str _, _, _ => by simp [PyData.eqv]
  | .list xs, .list ys, h, g => by
    rw [PyData.eqv, eqv_iffAll xs ys (by simpa only [nb] using h) (by simpa only [nb] using g)]
    simp
  | .list _, .tuple _, _, _ => by simp [PyData.eqv]
  | .tuple _, .none, _, _ => by simp [PyData.eqv]
  | .tuple _, .int _, _, _ => by simp [PyData.eqv]
  | .tuple _, .str _, _, _ => by simp [PyData.eqv]
  | .tuple _, .list _, _, _ => by simp [PyData.eqv]
  | .tuple xs, .tuple ys, h, g => by
    rw [PyData.eqv, eqv_iffAll xs ys (by simpa only [nb] using h) (by simpa only [nb] using g)]
    simp
  | .bool _, _, h, _ => by simp [nb] at h
  | .dict _, _, h, _ => by simp [nb] at h
  | _, .bool _, _, h => by simp [nb] at h
  | _, .dict _, _, h => by simp [nb] at h
theorem eqv_iffAll : ∀ ps qs : List PyData, nbAll ps = true → nbAll qs = true → (PyData.eqvAll ps qs = true ↔ ps = qs)
  | [], [], _, _ => by simp [PyData.eqvAll]
  | [], _ :: _, _, _ => by simp [PyData.eqvAll]
  | _ :: _, [], _, _ => by simp [PyData.eqvAll]
  | p :: ps, q :: qs, h, g => by
    have h' : nb p = true ∧ nbAll ps = true := by simpa only [nbAll, Bool.and_eq_true] using h
    have g' : nb q = true ∧ nbAll qs = true := by simpa only [nbAll, Bool.and_eq_true] using g
    rw [PyData.eqvAll, Bool.and_eq_true, eqv_iff p q h'.1 g'.1, eqv_iffAll ps qs h'.2 g'.2]
    simp
end
mutual
/-- .. among our data -/
def nbD : D → Bool
  | .non => true
  | .int _ => true
  | .str _ => true
  | .tup l => nbDAll l
  | .lst l => nbDAll l
  | _ => false
def nbDAll : List D → Bool
  | [] => true
  | d :: ds => nbD d && nbDAll ds
end
theorem nbDAll_iff : ∀ {l : List D}, nbDAll l = true ↔ ∀ d ∈ l, nbD d = true
  | [] => by simp [nbDAll]
  | d :: l => by simp only [nbDAll, Bool.and_eq_true, List.mem_cons, forall_eq_or_imp, nbDAll_iff (l := l)]
mutual
theorem nb_py : ∀ (d : D) (p : PyData), nbD d = true → toPy d = some p → nb p = true
  | .non, _, _, h => by cases h; rfl
  | .int _, _, _, h => by cases h; rfl
  | .str _, _, _, h => by cases h; rfl
  | .tup l, p, g, h => by
    unfold toPy at h
    cases hl : toPyAll l with
    | none => rw [hl] at h; cases h
    | some ps =>
      rw [hl] at h
      cases h
      simp only [nb]
      exact nb_pyAll l ps (by simpa only [nbD] using g) hl
  | .lst l, p, g, h => by
    unfold toPy at h
    cases hl : toPyAll l with
    | none => rw [hl] at h; cases h
    | some ps =>
      rw [hl] at h
      cases h
      simp only [nb]
      exact nb_pyAll l ps (by simpa only [nbD] using g) hl
  | .bl _, _, g, _ => by simp [nbD] at g
  | .dct0, _, g, _ => by simp [nbD] at g
  | .scr _, _, g, _ => by simp [nbD] at g
  | .own _, _, g, _ => by simp [nbD] at g
  | .exc _ _, _, g, _ => by simp [nbD] at g
  | .glb _, _, g, _ => by simp [nbD] at g
  | .val _, _, g, _ => by simp [nbD] at g
theorem nb_pyAll : ∀ (ds : List D) (ps : List PyData), nbDAll ds = true → toPyAll ds = some ps → nbAll ps = true
  | [], _, _, h => by cases h; rfl
  | d :: ds, ps, g, h => by
    have g' : nbD d = true ∧ nbDAll ds = true := by simpa only [nbDAll, Bool.and_eq_true] using g
    unfold toPyAll at h
    cases h1 : toPy d with
    | none => rw [h1] at h; cases h
    | some p =>
      cases h2 : toPyAll ds with
      | none => rw [h1, h2] at h; cases h
      | some ps' =>
        rw [h1, h2] at h
        cases h
        simp only [nbAll, Bool.and_eq_true]
        exact ⟨nb_py d p g'.1 h1, nb_pyAll ds ps' g'.2 h2⟩
end
mutual
theorem toPy_inj : ∀ (d d' : D) (p : PyData), toPy d = some p → toPy d' = some p → d = d'
  | d, d', .none, h, h' => by
    rw [toPy_non h rfl, toPy_non h' rfl]
  | d, d', .bool b, h, h' => by rw [toPy_bl h rfl, toPy_bl h' rfl]
  | d, d', .int i, h, h' => by rw [toPy_int h rfl, toPy_int h' rfl]
  | d, d', .str x, h, h' => by rw [toPy_str h rfl, toPy_str h' rfl]
  | d, d', .list ps, h, h' => by
    obtain ⟨l, rfl, e⟩ := toPy_list h rfl
    obtain ⟨l', rfl, e'⟩ := toPy_list h' rfl
    rw [toPy_injAll l l' ps e e']
  | d, d', .tuple ps, h, h' => by
    obtain ⟨l, rfl, e⟩ := toPy_tuple h rfl
    obtain ⟨l', rfl, e'⟩ := toPy_tuple h' rfl
    rw [toPy_injAll l l' ps e e']
  | d, d', .dict ps, h, h' => by rw [toPy_dict h rfl, toPy_dict h' rfl]
theorem toPy_injAll : ∀ (l l' : List D) (ps : List PyData), toPyAll l = some ps → toPyAll l' = some ps → l = l'
  | [], [], _, _, _ => rfl
  | [], d :: ds, ps, h, h' => by
    cases h
    obtain ⟨p, ps, h1, h2, e⟩ := toPyAll_cons h'
    cases e
  | d :: ds, [], ps, h, h' => by
    cases h'
    obtain ⟨p, ps, h1, h2, e⟩ := toPyAll_cons h
    cases e
  | d :: ds, d' :: ds', ps, h, h' => by
    obtain ⟨p, qs, h1, h2, rfl⟩ := toPyAll_cons h
    obtain ⟨p', qs', h1', h2', e⟩ := toPyAll_cons h'
    cases e
    rw [toPy_inj d d' p h1 h1', toPy_injAll ds ds' qs h2 h2']
end
/-- equality of plain data -/
theorem eqB_iff {n : Nat} {d d' : D} (h : fine n d = true) (h' : fine n d' = true) (g : nbD d = true) (g' : nbD d' = true) (hn : n ≤ 64 := by decide) : ∃ b, eqB d d' = some b ∧ (b = true ↔ d = d') := by
  obtain ⟨p, h1, h2⟩ := cmpd_fine h hn
  obtain ⟨p', h1', h2'⟩ := cmpd_fine h' hn
  unfold eqB
  split
  · refine ⟨_, rfl, ?_⟩
    rw [beq_iff_eq]
    exact ⟨fun e => by rw [e], fun e => by cases e; rfl⟩
  · rw [h2, h2']
    refine ⟨_, rfl, ?_⟩
    rw [eqv_iff p p' (nb_py d p g h1) (nb_py d' p' g' h1')]
    refine ⟨fun e => ?_, fun e => ?_⟩
    · subst e
      exact toPy_inj d d' p h1 h1'
    · subst e
      rw [h1] at h1'
      exact Option.some.inj h1'
theorem gEq_iff {n : Nat} {d d' : D} {M : Mem} {Q : DQ} (h : fine n d = true) (h' : fine n d' = true) (g : nbD d = true) (g' : nbD d' = true) (q : ∀ b, (b = true ↔ d = d') → Q (.bl b) M) (hn : n ≤ 64 := by decide) : gEq d d' M Q := by
  obtain ⟨b, e, hb⟩ := eqB_iff h h' g g' hn
  unfold gEq
  rw [res_fine h, res_fine h', e]
  exact q b hb
theorem gNe_iff {n : Nat} {d d' : D} {M : Mem} {Q : DQ} (h : fine n d = true) (h' : fine n d' = true) (g : nbD d = true) (g' : nbD d' = true) (q : ∀ b, (b = true ↔ d = d') → Q (.bl (!b)) M) (hn : n ≤ 64 := by decide) : gNe d d' M Q := by
  obtain ⟨b, e, hb⟩ := eqB_iff h h' g g' hn
  unfold gNe
  rw [res_fine h, res_fine h', e]
  exact q b hb
/-- one datum among others -/
theorem gIn_iff {n : Nat} {neg : Bool} {d e : D} {l : List D} {M : Mem} {Q : DQ} (hr : res M e = .lst l) (fd : fine n d = true) (hf : fineAll n l = true) (g : nbD d = true) (gl : nbDAll l = true) (q : ∀ b, (b = true ↔ d ∈ l) → Q (.bl (b != neg)) M) (hn : n ≤ 60 := by decide) : gIn neg d e M Q := by
  have fl : fine (n + 1) (.lst l) = true := by simp only [fine]; exact hf
  obtain ⟨p, hp, cp⟩ := cmpd_fine fd (by omega)
  obtain ⟨pl, hpl, cpl⟩ := cmpd_fine fl (by omega)
  unfold gIn
  rw [res_fine fd, hr, cp, cpl]
  have hpl' := hpl
  unfold toPy at hpl'
  cases hps : toPyAll l with
  | none => rw [hps] at hpl'; cases hpl'
  | some ps =>
    rw [hps] at hpl'
    cases hpl'
    refine q _ ?_
    have np := nb_py d p g hp
    clear hpl cpl fl hf cp hr q
    induction l generalizing ps with
    | nil => cases hps; simp
    | cons x l ih =>
      obtain ⟨p', qs, h1, h2, rfl⟩ := toPyAll_cons hps
      have gl' : nbD x = true ∧ nbDAll l = true := by simpa only [nbDAll, Bool.and_eq_true] using gl
      rw [List.any_cons, Bool.or_eq_true, List.mem_cons]
      refine or_congr ?_ (ih gl'.2 _ h2)
      rw [eqv_iff p' p (nb_py x p' gl'.1 h1) np]
      refine ⟨fun e => ?_, fun e => ?_⟩
      · subst e; exact toPy_inj d x _ hp h1
      · subst e; rw [hp] at h1; exact (Option.some.inj h1).symm
end DL
/-! MG: how many numbers below n are free of n; plain -/
namespace DL
open Classical in
noncomputable def cnt (n : Nat) (P : Nat → Prop) : Nat := (List.range n).countP fun i => decide (P i)
open Classical in
theorem cnt_congr {n : Nat} {P Q : Nat → Prop} (h : ∀ i, i < n → (P i ↔ Q i)) : cnt n P = cnt n Q := by
  unfold cnt
  refine List.countP_congr fun i hi => ?_
  rw [decide_eq_true_iff, decide_eq_true_iff]
  exact h i (List.mem_range.mp hi)
/-- no divisor of n below k divides i -/
def Free (n k i : Nat) : Prop := ∀ d, 2 ≤ d → d < k → d ∣ n → ¬ d ∣ i
noncomputable def phi (n : Nat) : Nat := cnt n fun i => Nat.gcd i n = 1
theorem free_gcd {n k i : Nat} (hn : 1 ≤ n) (hk : n < k) : Free n k i ↔ Nat.gcd i n = 1 := by
  constructor
  · intro h
    have g0 : 0 < Nat.gcd i n := Nat.gcd_pos_of_pos_right _ (by omega)
    have g1 : Nat.gcd i n ≤ n := Nat.le_of_dvd (by omega) (Nat.gcd_dvd_right _ _)
    by_cases z : Nat.gcd i n = 1
    · exact z
    · exact (h (Nat.gcd i n) (by omega) (by omega) (Nat.gcd_dvd_right _ _) (Nat.gcd_dvd_left _ _)).elim
  · intro h d d2 _ dn di
    have := Nat.dvd_gcd di dn
    rw [h] at this
    have := Nat.le_of_dvd (by decide) this
    omega
/-- the state of the reckoning -/
structure Fst (n k left c : Nat) : Prop where
  l1 : 1 ≤ left
  ln : left ∣ n
  low : ∀ d, 2 ≤ d → d < k → ¬ d ∣ left
  up : ∀ d, d ∣ n → (∀ e, 2 ≤ e → e < k → ¬ e ∣ d) → d ∣ left
  ct : c = cnt n (Free n k)
open Classical in
theorem Fst.start {n : Nat} (hn : 1 ≤ n) : Fst n 2 n n := by
  refine ⟨hn, Nat.dvd_refl _, fun d d2 d3 => by omega, fun d h _ => h, ?_⟩
  unfold cnt
  rw [List.countP_eq_length.mpr, List.length_range]
  intro i _
  rw [decide_eq_true_iff]
  intro d d2 d3
  omega
theorem Fst.done {n k left c : Nat} (hn : 1 ≤ n) (hk : n < k) (h : Fst n k left c) : c = phi n := by
  rw [h.ct]
  exact cnt_congr fun i _ => free_gcd hn hk
end DL
namespace DL
open PySem PySem.Spec PyProof.Rows L2
local macro_rules | `(tactic| walk_at "rd") => `(tactic| simp only [startD, List.map, List.replicate, List.length_cons, List.length_nil, List.append_eq, List.append_nil, List.nil_append, List.cons_append, Nat.reduceSub, Nat.reduceAdd, List.getElem?_cons_zero, List.getElem?_cons_succ, List.set_cons_zero, List.set_cons_succ,
  dC, dVar, dOp, dTru, gTru, tru, dChain, dAnd, dOr, dNot, dAndV, dOrV, dNotV, dIf, dNeg, gNeg, dNil, dCons, dTup, dLst, dOwn, gIx, rBin, gAdd, gCmpI, dCall, dCallK, dSeq, dNext, dDrop, dRet, dRetN, dIfS, dName, dGNil, dGCons, dGTup, dSub, gSetL, dAsg, dPar, dPar3, dAug, gIpI, dSeqI, gSeqI, dRngI, gRng1, gRng2, dCB, gAbs, gInt, gMax, gMin, gGcd, gLen, lenD, gIsi, tyM, tyD, dBits, gBits, dMet, gAppend, dPart, dNoPart, dSl, gSl_tup, gSl_lst, cut_1, dEnds, gIs, isB, dNever, dFor, dLc, wipeD, dYes,
  sizeLine_eq, Nat.reduceLeDiff, gEq_int, gNe_int, gEq_strs, gNe_strs, gIn_two, gRepr_bl, rs_lst, rs_tup, rs_scr, rs_int, atI_0, atI_1, atI_2, atI_3, atI_4, atI_5, ixN_30, ixN_31, ixN_32, gEq_bl, gNe_bl, decide_eq_true_eq, beq_iff_eq, Bool.not_eq_true', beq_eq_false_iff_ne, decide_eq_false_iff_not, Bool.not_true, Bool.not_false, if_true, if_false, Bool.false_eq_true, ite_true, ite_false, true_and, and_true, ne_eq, Bool.bne_false, Bool.bne_true, reduceCtorEq])
local macro_rules | `(tactic| walk_at "rh") => `(tactic| simp only [*, startD, List.map, List.replicate, List.length_cons, List.length_nil, List.append_eq, List.append_nil, List.nil_append, List.cons_append, Nat.reduceSub, Nat.reduceAdd, List.getElem?_cons_zero, List.getElem?_cons_succ, List.set_cons_zero, List.set_cons_succ,
  dC, dVar, dOp, dTru, gTru, tru, dChain, dAnd, dOr, dNot, dAndV, dOrV, dNotV, dIf, dNeg, gNeg, dNil, dCons, dTup, dLst, dOwn, gIx, rBin, gAdd, gCmpI, dCall, dCallK, dSeq, dNext, dDrop, dRet, dRetN, dIfS, dName, dGNil, dGCons, dGTup, dSub, gSetL, dAsg, dPar, dPar3, dAug, gIpI, dSeqI, gSeqI, dRngI, gRng1, gRng2, dCB, gAbs, gInt, gMax, gMin, gGcd, gLen, lenD, gIsi, tyM, tyD, dBits, gBits, dMet, gAppend, dPart, dNoPart, dSl, gSl_tup, gSl_lst, cut_1, dEnds, gIs, isB, dNever, dFor, dLc, wipeD, dYes,
  sizeLine_eq, Nat.reduceLeDiff, gEq_int, gNe_int, gEq_strs, gNe_strs, gIn_two, gRepr_bl, rs_lst, rs_tup, rs_scr, rs_int, atI_0, atI_1, atI_2, atI_3, atI_4, atI_5, ixN_30, ixN_31, ixN_32, gEq_bl, gNe_bl, decide_eq_true_eq, beq_iff_eq, Bool.not_eq_true', beq_eq_false_iff_ne, decide_eq_false_iff_not, Bool.not_true, Bool.not_false, if_true, if_false, Bool.false_eq_true, ite_true, ite_false, true_and, and_true, ne_eq, Bool.bne_false, Bool.bne_true, reduceCtorEq])
local macro_rules | `(tactic| walk_at "kb") => `(tactic| simp only [kb_NoneType_list, kb_bool_list, kb_int_list, kb_str_list, kb_tuple_list, kb_list_list, kb_dict_list, kb_NoneType_int, kb_bool_int, kb_int_int, kb_str_int, kb_tuple_int, kb_list_int, kb_dict_int, kb_NoneType_bool, kb_bool_bool, kb_int_bool, kb_str_bool, kb_tuple_bool, kb_list_bool, kb_dict_bool, kb_NoneType_tuple, kb_bool_tuple, kb_int_tuple, kb_str_tuple, kb_tuple_tuple, kb_list_tuple, kb_dict_tuple, if_true, if_false, Bool.false_eq_true, ite_true, ite_false, Bool.not_true, Bool.not_false])
/-- how far the deeds reach at measures to 600 -/
theorem allowed_qc {a b c e q : Int} (h : isCut a b c e = true) (hm : meas4 b c e ≤ 600) (hq : 1 ≤ q) (hal : 0 < b - q * e - q * q * c) : 1 ≤ q * c ∧ q * c ≤ 24 ∧ q ≤ 24 := by
  obtain ⟨k1, k2, k3, k4, k5, k6, k7, k8⟩ := cut600 h hm
  have h1 : 1 * 1 ≤ q * c := Int.mul_le_mul hq k3 (by decide) (by omega)
  have h2 : q * 1 ≤ q * c := Int.mul_le_mul_of_nonneg_left k3 (by omega)
  have h3 : q * c ≤ 24 := by
    by_cases z : q * c ≤ 24
    · exact z
    · have e1 : 0 < c * (b - q * e - q * q * c) := Int.mul_pos (by omega) hal
      have e2 : c * (b - q * e - q * q * c) = b * c - (q * c) * e - (q * c) * (q * c) := by grind
      have e3 : (2 * (q * c) + e) * (2 * (q * c) + e) = e * e + 4 * ((q * c) * e + (q * c) * (q * c)) := by grind
      have e4 : 26 * 26 ≤ (2 * (q * c) + e) * (2 * (q * c) + e) := Int.mul_le_mul (by omega) (by omega) (by decide) (by omega)
      unfold meas4 at hm
      have e5 : 4 * b * c = 4 * (b * c) := Int.mul_assoc _ _ _
      omega
  omega
theorem CovD.count {b c e k : Int} {l l' : List (List Int)} (hb : 1 ≤ b) (hc : 1 ≤ c) (hk : 1 ≤ k) (h : CovD b c e l k) (hn : ¬ 0 < b - k * e - k * k * c) (g : AllD b c e l') : l'.length = l.length := by
  refine (List.perm_ext_iff_of_nodup g.nd h.1).mpr (fun x => ?_) |>.length_eq
  rw [g.mem, h.2]
  constructor
  · rintro ⟨p, q, rfl, h1⟩
    refine ⟨p, q, rfl, h1, ?_⟩
    by_cases z : q < k
    · exact z
    · exact (hn (allowed_mono hb hc hk (by omega) (isDeed_parts h1).1.al)).elim
  · rintro ⟨p, q, rfl, h1, _⟩; exact ⟨p, q, rfl, h1⟩
/-- a run through the deeds -/
theorem cov_run {a b c e : Int} (hcut : isCut a b c e = true) (hm : meas4 b c e ≤ 600) : ∀ (n k : Nat) (l : List (List Int)), 25 - k ≤ n → 1 ≤ k → k ≤ 25 → CovD b c e l k → l.length ≤ 24 * (k - 1) → ∃ (l' : List (List Int)) (k' : Nat), CovD b c e l' k' ∧ 1 ≤ k' ∧ ¬ 0 < b - (k' : Int) * e - k' * k' * c ∧ l'.length ≤ 600
  | n, k, l, hn, h1, h2, hc, hl => by
    by_cases hal : 0 < b - (k : Int) * e - k * k * c
    · obtain ⟨r1, r2, r3⟩ := allowed_qc hcut hm (by omega) hal
      obtain ⟨k1, k2, k3, _⟩ := cut600 hcut hm
      obtain ⟨l1, l2⟩ := lot_le (b := b) k3
      have hst := hc.step (by omega) hal
      have hr := rowD_len (N := ((k : Int) * (c / (Int.gcd b c : Int))).toNat) (q := (k : Int))
      have h3 : (k : Int) * (c / (Int.gcd b c : Int)) ≤ k * c := Int.mul_le_mul_of_nonneg_left l2 (by omega)
      match n, hn with
      | 0, hn => omega
      | n + 1, hn => exact cov_run hcut hm n (k + 1) _ (by omega) (by omega) (by omega) hst (by rw [List.length_append]; omega)
    · exact ⟨l, k, hc, h1, hal, by omega⟩
theorem AllD.small {a b c e : Int} {l : List (List Int)} (hcut : isCut a b c e = true) (hm : meas4 b c e ≤ 600) (h : AllD b c e l) : l.length ≤ 600 := by
  obtain ⟨k1, k2, k3, _⟩ := cut600 hcut hm
  obtain ⟨l', k', h1, h2, h3, h4⟩ := cov_run hcut hm 25 1 [] (by decide) (Nat.le_refl _) (by decide) ⟨List.nodup_nil, fun x => ⟨fun h => (by cases h), by
    rintro ⟨p, q, rfl, h1, h2⟩
    have := (isDeed_parts h1).1.q1
    omega⟩⟩ (Nat.zero_le _)
  rw [h1.count k2 k3 (by omega) h3 h]
  exact h4
end DL
/-! MH: mirrored cuttings, mirrored deeds; plain -/
namespace DL
end DL
namespace DL
open PySem PySem.Spec PyProof.Rows L2
local macro_rules | `(tactic| walk_at "rd") => `(tactic| simp only [startD, List.map, List.replicate, List.length_cons, List.length_nil, List.append_eq, List.append_nil, List.nil_append, List.cons_append, Nat.reduceSub, Nat.reduceAdd, List.getElem?_cons_zero, List.getElem?_cons_succ, List.set_cons_zero, List.set_cons_succ,
  dC, dVar, dOp, dTru, gTru, tru, dChain, dAnd, dOr, dNot, dAndV, dOrV, dNotV, dIf, dNeg, gNeg, dNil, dCons, dTup, dLst, dOwn, gIx, rBin, gAdd, gCmpI, dCall, dCallK, dSeq, dNext, dDrop, dRet, dRetN, dIfS, dName, dGNil, dGCons, dGTup, dSub, gSetL, dAsg, dPar, dPar3, dAug, gIpI, dSeqI, gSeqI, dRngI, gRng1, gRng2, dCB, gAbs, gInt, gMax, gMin, gGcd, gLen, lenD, gIsi, tyM, tyD, dBits, gBits, dMet, gAppend, dPart, dNoPart, dSl, gSl_tup, gSl_lst, cut_1, dEnds, gIs, isB, dNever, dFor, dLc, wipeD, dYes,
  sizeLine_eq, Nat.reduceLeDiff, gEq_int, gNe_int, gEq_strs, gNe_strs, gIn_two, gRepr_bl, rs_lst, rs_tup, rs_scr, rs_int, atI_0, atI_1, atI_2, atI_3, atI_4, atI_5, ixN_30, ixN_31, ixN_32, gEq_bl, gNe_bl, decide_eq_true_eq, beq_iff_eq, Bool.not_eq_true', beq_eq_false_iff_ne, decide_eq_false_iff_not, Bool.not_true, Bool.not_false, if_true, if_false, Bool.false_eq_true, ite_true, ite_false, true_and, and_true, ne_eq, Bool.bne_false, Bool.bne_true, reduceCtorEq])
local macro_rules | `(tactic| walk_at "rh") => `(tactic| simp only [*, startD, List.map, List.replicate, List.length_cons, List.length_nil, List.append_eq, List.append_nil, List.nil_append, List.cons_append, Nat.reduceSub, Nat.reduceAdd, List.getElem?_cons_zero, List.getElem?_cons_succ, List.set_cons_zero, List.set_cons_succ,
  dC, dVar, dOp, dTru, gTru, tru, dChain, dAnd, dOr, dNot, dAndV, dOrV, dNotV, dIf, dNeg, gNeg, dNil, dCons, dTup, dLst, dOwn, gIx, rBin, gAdd, gCmpI, dCall, dCallK, dSeq, dNext, dDrop, dRet, dRetN, dIfS, dName, dGNil, dGCons, dGTup, dSub, gSetL, dAsg, dPar, dPar3, dAug, gIpI, dSeqI, gSeqI, dRngI, gRng1, gRng2, dCB, gAbs, gInt, gMax, gMin, gGcd, gLen, lenD, gIsi, tyM, tyD, dBits, gBits, dMet, gAppend, dPart, dNoPart, dSl, gSl_tup, gSl_lst, cut_1, dEnds, gIs, isB, dNever, dFor, dLc, wipeD, dYes,
  sizeLine_eq, Nat.reduceLeDiff, gEq_int, gNe_int, gEq_strs, gNe_strs, gIn_two, gRepr_bl, rs_lst, rs_tup, rs_scr, rs_int, atI_0, atI_1, atI_2, atI_3, atI_4, atI_5, ixN_30, ixN_31, ixN_32, gEq_bl, gNe_bl, decide_eq_true_eq, beq_iff_eq, Bool.not_eq_true', beq_eq_false_iff_ne, decide_eq_false_iff_not, Bool.not_true, Bool.not_false, if_true, if_false, Bool.false_eq_true, ite_true, ite_false, true_and, and_true, ne_eq, Bool.bne_false, Bool.bne_true, reduceCtorEq])
local macro_rules | `(tactic| walk_at "kb") => `(tactic| simp only [kb_NoneType_list, kb_bool_list, kb_int_list, kb_str_list, kb_tuple_list, kb_list_list, kb_dict_list, kb_NoneType_int, kb_bool_int, kb_int_int, kb_str_int, kb_tuple_int, kb_list_int, kb_dict_int, kb_NoneType_bool, kb_bool_bool, kb_int_bool, kb_str_bool, kb_tuple_bool, kb_list_bool, kb_dict_bool, kb_NoneType_tuple, kb_bool_tuple, kb_int_tuple, kb_str_tuple, kb_tuple_tuple, kb_list_tuple, kb_dict_tuple, if_true, if_false, Bool.false_eq_true, ite_true, ite_false, Bool.not_true, Bool.not_false])
/-! calls whose answers are known -/
end DL
namespace DL
open PySem PySem.Spec PyProof.Rows L2
local macro_rules | `(tactic| walk_at "rd") => `(tactic| simp only [startD, List.map, List.replicate, List.length_cons, List.length_nil, List.append_eq, List.append_nil, List.nil_append, List.cons_append, Nat.reduceSub, Nat.reduceAdd, List.getElem?_cons_zero, List.getElem?_cons_succ, List.set_cons_zero, List.set_cons_succ,
  dC, dVar, dOp, dTru, gTru, tru, dChain, dAnd, dOr, dNot, dAndV, dOrV, dNotV, dIf, dNeg, gNeg, dNil, dCons, dTup, dLst, dOwn, gIx, rBin, gAdd, gCmpI, dCall, dCallK, dSeq, dNext, dDrop, dRet, dRetN, dIfS, dName, dGNil, dGCons, dGTup, dSub, gSetL, dAsg, dPar, dPar3, dAug, gIpI, dSeqI, gSeqI, dRngI, gRng1, gRng2, dCB, gAbs, gInt, gMax, gMin, gGcd, gLen, lenD, gIsi, tyM, tyD, dBits, gBits, dMet, gAppend, dPart, dNoPart, dSl, gSl_tup, gSl_lst, cut_1, dEnds, gIs, isB, dNever, dFor, dLc, wipeD, dYes,
  sizeLine_eq, Nat.reduceLeDiff, gEq_int, gNe_int, gEq_strs, gNe_strs, gIn_two, gRepr_bl, rs_lst, rs_tup, rs_scr, rs_int, atI_0, atI_1, atI_2, atI_3, atI_4, atI_5, ixN_30, ixN_31, ixN_32, gEq_bl, gNe_bl, decide_eq_true_eq, beq_iff_eq, Bool.not_eq_true', beq_eq_false_iff_ne, decide_eq_false_iff_not, Bool.not_true, Bool.not_false, if_true, if_false, Bool.false_eq_true, ite_true, ite_false, true_and, and_true, ne_eq, Bool.bne_false, Bool.bne_true, reduceCtorEq])
local macro_rules | `(tactic| walk_at "rh") => `(tactic| simp only [*, startD, List.map, List.replicate, List.length_cons, List.length_nil, List.append_eq, List.append_nil, List.nil_append, List.cons_append, Nat.reduceSub, Nat.reduceAdd, List.getElem?_cons_zero, List.getElem?_cons_succ, List.set_cons_zero, List.set_cons_succ,
  dC, dVar, dOp, dTru, gTru, tru, dChain, dAnd, dOr, dNot, dAndV, dOrV, dNotV, dIf, dNeg, gNeg, dNil, dCons, dTup, dLst, dOwn, gIx, rBin, gAdd, gCmpI, dCall, dCallK, dSeq, dNext, dDrop, dRet, dRetN, dIfS, dName, dGNil, dGCons, dGTup, dSub, gSetL, dAsg, dPar, dPar3, dAug, gIpI, dSeqI, gSeqI, dRngI, gRng1, gRng2, dCB, gAbs, gInt, gMax, gMin, gGcd, gLen, lenD, gIsi, tyM, tyD, dBits, gBits, dMet, gAppend, dPart, dNoPart, dSl, gSl_tup, gSl_lst, cut_1, dEnds, gIs, isB, dNever, dFor, dLc, wipeD, dYes,
  sizeLine_eq, Nat.reduceLeDiff, gEq_int, gNe_int, gEq_strs, gNe_strs, gIn_two, gRepr_bl, rs_lst, rs_tup, rs_scr, rs_int, atI_0, atI_1, atI_2, atI_3, atI_4, atI_5, ixN_30, ixN_31, ixN_32, gEq_bl, gNe_bl, decide_eq_true_eq, beq_iff_eq, Bool.not_eq_true', beq_eq_false_iff_ne, decide_eq_false_iff_not, Bool.not_true, Bool.not_false, if_true, if_false, Bool.false_eq_true, ite_true, ite_false, true_and, and_true, ne_eq, Bool.bne_false, Bool.bne_true, reduceCtorEq])
local macro_rules | `(tactic| walk_at "kb") => `(tactic| simp only [kb_NoneType_list, kb_bool_list, kb_int_list, kb_str_list, kb_tuple_list, kb_list_list, kb_dict_list, kb_NoneType_int, kb_bool_int, kb_int_int, kb_str_int, kb_tuple_int, kb_list_int, kb_dict_int, kb_NoneType_bool, kb_bool_bool, kb_int_bool, kb_str_bool, kb_tuple_bool, kb_list_bool, kb_dict_bool, kb_NoneType_tuple, kb_bool_tuple, kb_int_tuple, kb_str_tuple, kb_tuple_tuple, kb_list_tuple, kb_dict_tuple, if_true, if_false, Bool.false_eq_true, ite_true, ite_false, Bool.not_true, Bool.not_false])
/-! ### the sides of cuttings -/
/-! ### what the first numbers may be -/
theorem below_ints {n : Nat} : ∀ l : List Int, belowAll n (l.map D.int) = true
  | [] => rfl
  | i :: l => by show (true && belowAll n (l.map D.int)) = true; rw [below_ints l]; rfl
/-! ### all turns -/
structure TurnsOK (m : Int) (l : List Int) : Prop where
  nd : l.Nodup
  bd : ∀ e ∈ l, -128 ≤ e ∧ e ≤ 128
  all : ∀ e : Int, e * e < m → (m - e) % 2 = 0 → e ∈ l
  len : l.length ≤ 260
theorem CovX.start {m : Int} {T : List Int} : CovX m [] fun _ e' => e' ∈ T.take 0 := CovX.nil fun a b c e _ _ h => by rw [List.take_zero] at h; cases h
theorem CovX.all {m : Int} {l : List (List Int)} {T : List Int} (h : CovX m l fun _ e' => e' ∈ T) (hT : TurnsOK m T) : CovX m l fun _ _ => True :=
  h.iff fun a b c e h1 h2 => ⟨fun _ => by
    obtain ⟨k1, k2, _⟩ := cut_parts h1
    have h3 := meas_bc.mp h2
    have h4 : 1 * 1 ≤ b * c := Int.mul_le_mul k1 k2 (by decide) (by omega)
    have h5 : (e - m) % 2 = 0 := by rw [← h2]; exact meas_par (a := a)
    exact hT.all e (by omega) (by omega), fun _ => trivial⟩
theorem CovX.len {m : Int} {l l' : List (List Int)} (h : CovX m l fun _ _ => True) (g : AllC m l') : l'.length = l.length := by
  refine ((List.perm_ext_iff_of_nodup g.nd h.1).mpr fun x => ?_).length_eq
  rw [g.mem, h.2]
  constructor
  · rintro ⟨a, b, c, e, rfl, h1, h2⟩; exact ⟨a, b, c, e, rfl, h1, h2, trivial⟩
  · rintro ⟨a, b, c, e, rfl, h1, h2, _⟩; exact ⟨a, b, c, e, rfl, h1, h2⟩
/-! ### how many cuttings there are -/
theorem CovX.same {m : Int} {l l' : List (List Int)} {P : Int → Int → Prop} (h : CovX m l P) (g : CovX m l' P) : l.length = l'.length :=
  ((List.perm_ext_iff_of_nodup h.1 g.1).mpr fun x => (h.2 x).trans (g.2 x).symm).length_eq
end DL
/-! MI: how many cuttings have a told last number; plain -/
namespace DL
end DL
namespace DL
open PySem PySem.Spec PyProof.Rows L2
local macro_rules | `(tactic| walk_at "rd") => `(tactic| simp only [startD, List.map, List.replicate, List.length_cons, List.length_nil, List.append_eq, List.append_nil, List.nil_append, List.cons_append, Nat.reduceSub, Nat.reduceAdd, List.getElem?_cons_zero, List.getElem?_cons_succ, List.set_cons_zero, List.set_cons_succ,
  dC, dVar, dOp, dTru, gTru, tru, dChain, dAnd, dOr, dNot, dAndV, dOrV, dNotV, dIf, dNeg, gNeg, dNil, dCons, dTup, dLst, dOwn, gIx, rBin, gAdd, gCmpI, dCall, dCallK, dSeq, dNext, dDrop, dRet, dRetN, dIfS, dName, dGNil, dGCons, dGTup, dSub, gSetL, dAsg, dPar, dPar3, dAug, gIpI, dSeqI, gSeqI, dRngI, gRng1, gRng2, dCB, gAbs, gInt, gMax, gMin, gGcd, gLen, lenD, gIsi, tyM, tyD, dBits, gBits, dMet, gAppend, dPart, dNoPart, dSl, gSl_tup, gSl_lst, cut_1, dEnds, gIs, isB, dNever, dFor, dLc, wipeD, dYes,
  sizeLine_eq, Nat.reduceLeDiff, gEq_int, gNe_int, gEq_strs, gNe_strs, gIn_two, gRepr_bl, rs_lst, rs_tup, rs_scr, rs_int, atI_0, atI_1, atI_2, atI_3, atI_4, atI_5, ixN_30, ixN_31, ixN_32, gEq_bl, gNe_bl, decide_eq_true_eq, beq_iff_eq, Bool.not_eq_true', beq_eq_false_iff_ne, decide_eq_false_iff_not, Bool.not_true, Bool.not_false, if_true, if_false, Bool.false_eq_true, ite_true, ite_false, true_and, and_true, ne_eq, Bool.bne_false, Bool.bne_true, reduceCtorEq])
local macro_rules | `(tactic| walk_at "rh") => `(tactic| simp only [*, startD, List.map, List.replicate, List.length_cons, List.length_nil, List.append_eq, List.append_nil, List.nil_append, List.cons_append, Nat.reduceSub, Nat.reduceAdd, List.getElem?_cons_zero, List.getElem?_cons_succ, List.set_cons_zero, List.set_cons_succ,
  dC, dVar, dOp, dTru, gTru, tru, dChain, dAnd, dOr, dNot, dAndV, dOrV, dNotV, dIf, dNeg, gNeg, dNil, dCons, dTup, dLst, dOwn, gIx, rBin, gAdd, gCmpI, dCall, dCallK, dSeq, dNext, dDrop, dRet, dRetN, dIfS, dName, dGNil, dGCons, dGTup, dSub, gSetL, dAsg, dPar, dPar3, dAug, gIpI, dSeqI, gSeqI, dRngI, gRng1, gRng2, dCB, gAbs, gInt, gMax, gMin, gGcd, gLen, lenD, gIsi, tyM, tyD, dBits, gBits, dMet, gAppend, dPart, dNoPart, dSl, gSl_tup, gSl_lst, cut_1, dEnds, gIs, isB, dNever, dFor, dLc, wipeD, dYes,
  sizeLine_eq, Nat.reduceLeDiff, gEq_int, gNe_int, gEq_strs, gNe_strs, gIn_two, gRepr_bl, rs_lst, rs_tup, rs_scr, rs_int, atI_0, atI_1, atI_2, atI_3, atI_4, atI_5, ixN_30, ixN_31, ixN_32, gEq_bl, gNe_bl, decide_eq_true_eq, beq_iff_eq, Bool.not_eq_true', beq_eq_false_iff_ne, decide_eq_false_iff_not, Bool.not_true, Bool.not_false, if_true, if_false, Bool.false_eq_true, ite_true, ite_false, true_and, and_true, ne_eq, Bool.bne_false, Bool.bne_true, reduceCtorEq])
local macro_rules | `(tactic| walk_at "kb") => `(tactic| simp only [kb_NoneType_list, kb_bool_list, kb_int_list, kb_str_list, kb_tuple_list, kb_list_list, kb_dict_list, kb_NoneType_int, kb_bool_int, kb_int_int, kb_str_int, kb_tuple_int, kb_list_int, kb_dict_int, kb_NoneType_bool, kb_bool_bool, kb_int_bool, kb_str_bool, kb_tuple_bool, kb_list_bool, kb_dict_bool, kb_NoneType_tuple, kb_bool_tuple, kb_int_tuple, kb_str_tuple, kb_tuple_tuple, kb_list_tuple, kb_dict_tuple, if_true, if_false, Bool.false_eq_true, ite_true, ite_false, Bool.not_true, Bool.not_false])
end DL
namespace DL
open PySem PySem.Spec PyProof.Rows L2
local macro_rules | `(tactic| walk_at "rd") => `(tactic| simp only [startD, List.map, List.replicate, List.length_cons, List.length_nil, List.append_eq, List.append_nil, List.nil_append, List.cons_append, Nat.reduceSub, Nat.reduceAdd, List.getElem?_cons_zero, List.getElem?_cons_succ, List.set_cons_zero, List.set_cons_succ,
  dC, dVar, dOp, dTru, gTru, tru, dChain, dAnd, dOr, dNot, dAndV, dOrV, dNotV, dIf, dNeg, gNeg, dNil, dCons, dTup, dLst, dOwn, gIx, rBin, gAdd, gCmpI, dCall, dCallK, dSeq, dNext, dDrop, dRet, dRetN, dIfS, dName, dGNil, dGCons, dGTup, dSub, gSetL, dAsg, dPar, dPar3, dAug, gIpI, dSeqI, gSeqI, dRngI, gRng1, gRng2, dCB, gAbs, gInt, gMax, gMin, gGcd, gLen, lenD, gIsi, tyM, tyD, dBits, gBits, dMet, gAppend, dPart, dNoPart, dSl, gSl_tup, gSl_lst, cut_1, dEnds, gIs, isB, dNever, dCallX, dRaise, dTry, dFld, dCallV, gLRng, gFrz, dFrz, dFor, dLc, wipeD, dYes,
  sizeLine_eq, Nat.reduceLeDiff, gEq_int, gNe_int, gEq_strs, gNe_strs, gIn_two, gRepr_bl, rs_lst, rs_tup, rs_scr, rs_int, atI_0, atI_1, atI_2, atI_3, atI_4, atI_5, ixN_30, ixN_31, ixN_32, gEq_bl, gNe_bl, decide_eq_true_eq, beq_iff_eq, Bool.not_eq_true', beq_eq_false_iff_ne, decide_eq_false_iff_not, Bool.not_true, Bool.not_false, if_true, if_false, Bool.false_eq_true, ite_true, ite_false, true_and, and_true, ne_eq, Bool.bne_false, Bool.bne_true, reduceCtorEq])
local macro_rules | `(tactic| walk_at "rh") => `(tactic| simp only [*, startD, List.map, List.replicate, List.length_cons, List.length_nil, List.append_eq, List.append_nil, List.nil_append, List.cons_append, Nat.reduceSub, Nat.reduceAdd, List.getElem?_cons_zero, List.getElem?_cons_succ, List.set_cons_zero, List.set_cons_succ,
  dC, dVar, dOp, dTru, gTru, tru, dChain, dAnd, dOr, dNot, dAndV, dOrV, dNotV, dIf, dNeg, gNeg, dNil, dCons, dTup, dLst, dOwn, gIx, rBin, gAdd, gCmpI, dCall, dCallK, dSeq, dNext, dDrop, dRet, dRetN, dIfS, dName, dGNil, dGCons, dGTup, dSub, gSetL, dAsg, dPar, dPar3, dAug, gIpI, dSeqI, gSeqI, dRngI, gRng1, gRng2, dCB, gAbs, gInt, gMax, gMin, gGcd, gLen, lenD, gIsi, tyM, tyD, dBits, gBits, dMet, gAppend, dPart, dNoPart, dSl, gSl_tup, gSl_lst, cut_1, dEnds, gIs, isB, dNever, dCallX, dRaise, dTry, dFld, dCallV, gLRng, gFrz, dFrz, dFor, dLc, wipeD, dYes,
  sizeLine_eq, Nat.reduceLeDiff, gEq_int, gNe_int, gEq_strs, gNe_strs, gIn_two, gRepr_bl, rs_lst, rs_tup, rs_scr, rs_int, atI_0, atI_1, atI_2, atI_3, atI_4, atI_5, ixN_30, ixN_31, ixN_32, gEq_bl, gNe_bl, decide_eq_true_eq, beq_iff_eq, Bool.not_eq_true', beq_eq_false_iff_ne, decide_eq_false_iff_not, Bool.not_true, Bool.not_false, if_true, if_false, Bool.false_eq_true, ite_true, ite_false, true_and, and_true, ne_eq, Bool.bne_false, Bool.bne_true, reduceCtorEq])
local macro_rules | `(tactic| walk_at "kb") => `(tactic| simp only [kb_NoneType_list, kb_bool_list, kb_int_list, kb_str_list, kb_tuple_list, kb_list_list, kb_dict_list, kb_NoneType_int, kb_bool_int, kb_int_int, kb_str_int, kb_tuple_int, kb_list_int, kb_dict_int, kb_NoneType_bool, kb_bool_bool, kb_int_bool, kb_str_bool, kb_tuple_bool, kb_list_bool, kb_dict_bool, kb_NoneType_tuple, kb_bool_tuple, kb_int_tuple, kb_str_tuple, kb_tuple_tuple, kb_list_tuple, kb_dict_tuple, if_true, if_false, Bool.false_eq_true, ite_true, ite_false, Bool.not_true, Bool.not_false])
/-! RdZ: the checks with their errors -/
theorem belowAll_mem {n : Nat} : ∀ {l : List D} {d : D}, belowAll n l = true → d ∈ l → below n d = true
  | [], _, _, h => by simp at h
  | x :: l, d, h, hd => by
    simp only [belowAll, Bool.and_eq_true] at h
    rcases List.mem_cons.mp hd with e | e
    · rw [e]; exact h.1
    · exact belowAll_mem h.2 e
def sp_check_measure_x : DSp := fun ds M Q E => ∃ d T, ds = [d] ∧ tyM M d = some T ∧ (isMeas d = true → Q .non M) ∧ (isMeas d = false → E "InvalidMeasure" d M)
theorem rd_check_measure_x : ∀ ds M Q E, ds.length = 1 → belowAll M.length ds = true → sp_check_measure_x ds M Q E → t_check_measure_x sp_is_measure (dOut M E) (dEnds M Q) (startD 1 ds) M := by
  rintro _ M Q E - hb ⟨d, T, rfl, ht, q, q2⟩
  unfold t_check_measure_x
  walk_at "rd"
  refine ⟨d, T, rfl, ht, ?_⟩
  cases h : isMeas d with
  | true => walk_at "rd"; exact rtq (q h)
  | false => walk_at "rd"; exact ⟨d, rfl, rtx (belowAll_mem hb (by simp)) (q2 h)⟩
/-! ### the heart's numbers -/
/-- e is one of the heart of m -/
def fits (m e : Int) : Bool := (e - m) % 2 == 0 && (decide (e * e < m) && decide ((e + 2) * (e + 2) < m))
theorem sq_lt_iff {m e : Int} (hm : 0 < m) : e * e < m ↔ (if isq m * isq m < m then 0 - isq m else 1 - isq m) ≤ e ∧ e ≤ -(if isq m * isq m < m then 0 - isq m else 1 - isq m) := by
  have r0 := isq_nn m
  have r1 := isq_le (Int.le_of_lt hm)
  have r2 := isq_lt (Int.le_of_lt hm)
  generalize isq m = r at *
  by_cases h : r * r < m
  · rw [if_pos h]
    constructor
    · intro h2
      have : e < r + 1 := Classical.byContradiction fun z => by
        have := Int.mul_le_mul (show r + 1 ≤ e by omega) (show r + 1 ≤ e by omega) (by omega) (by omega)
        omega
      have : -e < r + 1 := Classical.byContradiction fun z => by
        have := Int.mul_le_mul (show r + 1 ≤ -e by omega) (show r + 1 ≤ -e by omega) (by omega) (by omega)
        rw [Int.neg_mul_neg] at this
        omega
      omega
    · rintro ⟨h1, h2⟩
      by_cases he : 0 ≤ e
      · have := Int.mul_le_mul (show e ≤ r by omega) (show e ≤ r by omega) he r0
        omega
      · have := Int.mul_le_mul (show -e ≤ r by omega) (show -e ≤ r by omega) (by omega) r0
        rw [Int.neg_mul_neg] at this
        omega
  · rw [if_neg h]
    have hr : r * r = m := by omega
    constructor
    · intro h2
      have : e < r := Classical.byContradiction fun z => by
        have := Int.mul_le_mul (show r ≤ e by omega) (show r ≤ e by omega) (by omega) (by omega)
        omega
      have : -e < r := Classical.byContradiction fun z => by
        have := Int.mul_le_mul (show r ≤ -e by omega) (show r ≤ -e by omega) (by omega) (by omega)
        rw [Int.neg_mul_neg] at this
        omega
      omega
    · rintro ⟨h1, h2⟩
      have hr1 : 0 < r := by
        rcases Int.lt_or_eq_of_le r0 with z | z
        · exact z
        · rw [← z] at hr; omega
      by_cases he : 0 ≤ e
      · have h3 := Int.mul_le_mul (show e ≤ r - 1 by omega) (show e ≤ r - 1 by omega) he (by omega)
        have h4 : (r - 1) * (r - 1) = r * r - 2 * r + 1 := by grind
        omega
      · have h3 := Int.mul_le_mul (show -e ≤ r - 1 by omega) (show -e ≤ r - 1 by omega) (by omega) (by omega)
        rw [Int.neg_mul_neg] at h3
        have h4 : (r - 1) * (r - 1) = r * r - 2 * r + 1 := by grind
        omega
theorem fits_iff {m e : Int} (hm : 0 < m) : fits m e = true ↔ (e - m) % 2 = 0 ∧ hLow m ≤ e ∧ e ≤ hHigh m := by
  unfold fits
  simp only [Bool.and_eq_true, beq_iff_eq, decide_eq_true_eq]
  have a1 := sq_lt_iff (e := e) hm
  have a2 := sq_lt_iff (e := e + 2) hm
  unfold hLow hHigh
  dsimp only
  generalize (if isq m * isq m < m then 0 - isq m else 1 - isq m) = L at *
  rw [a1, a2]
  clear a1 a2
  constructor
  · rintro ⟨h0, ⟨h1, h2⟩, h3, h4⟩
    refine ⟨h0, ?_, ?_⟩
    · split <;> omega
    · split <;> omega
  · rintro ⟨h0, h1, h2⟩
    refine ⟨h0, ?_⟩
    split at h1 <;> split at h2 <;> omega
theorem hLow_par (m : Int) : (hLow m - m) % 2 = 0 := by
  unfold hLow
  dsimp only
  split <;> omega
theorem hHigh_par (m : Int) : (hHigh m - m) % 2 = 0 := by
  unfold hHigh
  dsimp only
  split <;> omega
/-- how many they are -/
def hMany (m : Int) : Int := (hHigh m - hLow m) / 2 + 1
theorem heart_some {m : Int} (h : isMeas (.int m) = true) : hLow m ≤ hHigh m := by
  have h5 : 5 ≤ m ∧ (m % 4 = 0 ∨ m % 4 = 1) := by
    simpa [isMeas] using h
  have hm : 0 < m := by omega
  rcases h5.2 with e | e
  · have : fits m (-2) = true := by
      unfold fits
      simp only [Bool.and_eq_true, beq_iff_eq, decide_eq_true_eq]
      omega
    have := (fits_iff hm).mp this
    omega
  · have : fits m (-1) = true := by
      unfold fits
      simp only [Bool.and_eq_true, beq_iff_eq, decide_eq_true_eq]
      omega
    have := (fits_iff hm).mp this
    omega
/-! ### the heart's functions -/
def sp_heart_by : DSp := sp_lmade
theorem rd_heart_by : ∀ ds M Q, ds.length = 2 → sp_heart_by ds M Q DX0 → t_heart_by (dEnds M Q) (startD 2 ds) M := by
  rintro _ M Q - ⟨m, n, rfl, bn, q⟩
  unfold t_heart_by
  walk_at "rd"
  rw [fdiv_pos (show (0 : Int) < 4 by decide)]
  exact ⟨⟨bn.sm, bn.sm⟩, ⟨by decide, by decide⟩, rtq q⟩
theorem isMeas_int {d : D} (h : isMeas d = true) : ∃ m, d = .int m ∧ 5 ≤ m ∧ (m % 4 = 0 ∨ m % 4 = 1) := by
  unfold isMeas at h
  split at h
  · rename_i i; exact ⟨i, rfl, by simpa using h⟩
  · cases h
theorem fit_big {m : Int} (h : Bi 300 m) (h5 : 5 ≤ m) : 0 ≤ m ∧ m ≤ BIG := ⟨by omega, (h.big).2⟩
end DL
namespace DL
open PySem PySem.Spec PyProof.Rows L2
local macro_rules | `(tactic| walk_at "rd") => `(tactic| simp only [startD, List.map, List.replicate, List.length_cons, List.length_nil, List.append_eq, List.append_nil, List.nil_append, List.cons_append, Nat.reduceSub, Nat.reduceAdd, List.getElem?_cons_zero, List.getElem?_cons_succ, List.set_cons_zero, List.set_cons_succ,
  dC, dVar, dOp, dTru, gTru, tru, dChain, dAnd, dOr, dNot, dAndV, dOrV, dNotV, dIf, dNeg, gNeg, dNil, dCons, dTup, dLst, dOwn, gIx, rBin, gAdd, gCmpI, dCall, dCallK, dSeq, dNext, dDrop, dRet, dRetN, dIfS, dName, dGNil, dGCons, dGTup, dSub, gSetL, dAsg, dPar, dPar3, dAug, gIpI, dSeqI, gSeqI, dRngI, gRng1, gRng2, dCB, gAbs, gInt, gMax, gMin, gGcd, gLen, lenD, gIsi, tyM, tyD, dBits, gBits, dMet, gAppend, dPart, dNoPart, dSl, gSl_tup, gSl_lst, cut_1, dEnds, gIs, isB, dNever, dCallX, dRaise, dTry, dFld, dCallV, gLRng, gFrz, dFrz, dFor, dLc, wipeD, dYes,
  sizeLine_eq, Nat.reduceLeDiff, gEq_int, gNe_int, gEq_strs, gNe_strs, gIn_two, gRepr_bl, rs_lst, rs_tup, rs_scr, rs_int, atI_0, atI_1, atI_2, atI_3, atI_4, atI_5, ixN_30, ixN_31, ixN_32, gEq_bl, gNe_bl, decide_eq_true_eq, beq_iff_eq, Bool.not_eq_true', beq_eq_false_iff_ne, decide_eq_false_iff_not, Bool.not_true, Bool.not_false, if_true, if_false, Bool.false_eq_true, ite_true, ite_false, true_and, and_true, ne_eq, Bool.bne_false, Bool.bne_true, reduceCtorEq])
local macro_rules | `(tactic| walk_at "rh") => `(tactic| simp only [*, startD, List.map, List.replicate, List.length_cons, List.length_nil, List.append_eq, List.append_nil, List.nil_append, List.cons_append, Nat.reduceSub, Nat.reduceAdd, List.getElem?_cons_zero, List.getElem?_cons_succ, List.set_cons_zero, List.set_cons_succ,
  dC, dVar, dOp, dTru, gTru, tru, dChain, dAnd, dOr, dNot, dAndV, dOrV, dNotV, dIf, dNeg, gNeg, dNil, dCons, dTup, dLst, dOwn, gIx, rBin, gAdd, gCmpI, dCall, dCallK, dSeq, dNext, dDrop, dRet, dRetN, dIfS, dName, dGNil, dGCons, dGTup, dSub, gSetL, dAsg, dPar, dPar3, dAug, gIpI, dSeqI, gSeqI, dRngI, gRng1, gRng2, dCB, gAbs, gInt, gMax, gMin, gGcd, gLen, lenD, gIsi, tyM, tyD, dBits, gBits, dMet, gAppend, dPart, dNoPart, dSl, gSl_tup, gSl_lst, cut_1, dEnds, gIs, isB, dNever, dCallX, dRaise, dTry, dFld, dCallV, gLRng, gFrz, dFrz, dFor, dLc, wipeD, dYes,
  sizeLine_eq, Nat.reduceLeDiff, gEq_int, gNe_int, gEq_strs, gNe_strs, gIn_two, gRepr_bl, rs_lst, rs_tup, rs_scr, rs_int, atI_0, atI_1, atI_2, atI_3, atI_4, atI_5, ixN_30, ixN_31, ixN_32, gEq_bl, gNe_bl, decide_eq_true_eq, beq_iff_eq, Bool.not_eq_true', beq_eq_false_iff_ne, decide_eq_false_iff_not, Bool.not_true, Bool.not_false, if_true, if_false, Bool.false_eq_true, ite_true, ite_false, true_and, and_true, ne_eq, Bool.bne_false, Bool.bne_true, reduceCtorEq])
local macro_rules | `(tactic| walk_at "kb") => `(tactic| simp only [kb_NoneType_list, kb_bool_list, kb_int_list, kb_str_list, kb_tuple_list, kb_list_list, kb_dict_list, kb_NoneType_int, kb_bool_int, kb_int_int, kb_str_int, kb_tuple_int, kb_list_int, kb_dict_int, kb_NoneType_bool, kb_bool_bool, kb_int_bool, kb_str_bool, kb_tuple_bool, kb_list_bool, kb_dict_bool, kb_NoneType_tuple, kb_bool_tuple, kb_int_tuple, kb_str_tuple, kb_tuple_tuple, kb_list_tuple, kb_dict_tuple, if_true, if_false, Bool.false_eq_true, ite_true, ite_false, Bool.not_true, Bool.not_false])
/-! RdDD: data that is shown, dicts among them (X_k11 has its own copy) -/
abbrev er (x : Str) (d : D) : Option (Str × D) := some (x, d)
/-! ### data that is shown -/
structure Sh (d : D) : Prop where
  f : fine 10 d = true
  l : lit 200 d = true
  w : wt 200 d ≤ 10000
mutual
theorem resD_fine (M : Mem) : ∀ (n : Nat) (d : D), fine n d = true → resD M d = d
  | _, .non, _ => rfl
  | _, .bl _, _ => rfl
  | _, .int _, _ => rfl
  | _, .str _, _ => rfl
  | 0, .tup l, h => by simp [fine] at h
  | 0, .lst l, h => by simp [fine] at h
  | n + 1, .tup l, h => by unfold resD; rw [resDA_fine M n l (by simpa only [fine] using h)]
  | n + 1, .lst l, h => by unfold resD; rw [resDA_fine M n l (by simpa only [fine] using h)]
  | _, .dct0, h => rfl
  | _, .scr _, h => by simp [fine] at h
  | _, .own _, h => by simp [fine] at h
  | _, .exc _ _, h => by simp [fine] at h
  | _, .glb _, h => by simp [fine] at h
  | _, .val _, h => by simp [fine] at h
theorem resDA_fine (M : Mem) : ∀ (n : Nat) (ds : List D), fineAll n ds = true → resDA M ds = ds
  | _, [], _ => rfl
  | n, d :: ds, h => by
    have h' : fine n d = true ∧ fineAll n ds = true := by simpa only [fineAll, Bool.and_eq_true] using h
    unfold resDA
    rw [resD_fine M n d h'.1, resDA_fine M n ds h'.2]
end
theorem Sh.shown {d : D} (h : Sh d) (M : Mem) : ∃ z, shwnZ (resD M d) = some z := by
  rw [resD_fine M 10 d h.f]
  obtain ⟨z, hz⟩ := shw_of 200 10 h.f h.l (by have := h.w; omega)
  exact ⟨z, shwnZ_of hz⟩
end DL
namespace DL
open PySem PySem.Spec PyProof.Rows L2
local macro_rules | `(tactic| walk_at "rd") => `(tactic| simp only [startD, List.map, List.replicate, List.length_cons, List.length_nil, List.append_eq, List.append_nil, List.nil_append, List.cons_append, Nat.reduceSub, Nat.reduceAdd, List.getElem?_cons_zero, List.getElem?_cons_succ, List.set_cons_zero, List.set_cons_succ,
  dC, dVar, dOp, dTru, gTru, tru, dChain, dAnd, dOr, dNot, dAndV, dOrV, dNotV, dIf, dNeg, gNeg, dNil, dCons, dTup, dLst, dOwn, gIx, rBin, gAdd, gCmpI, dCall, dCallK, dSeq, dNext, dDrop, dRet, dRetN, dIfS, dName, dGNil, dGCons, dGTup, dSub, gSetL, dAsg, dPar, dPar3, dAug, gIpI, dSeqI, gSeqI, dRngI, gRng1, gRng2, dCB, gAbs, gInt, gMax, gMin, gGcd, gLen, lenD, gIsi, tyM, tyD, dBits, gBits, dMet, gAppend, dPart, dNoPart, dSl, gSl_tup, gSl_lst, cut_1, dEnds, gIs, isB, dNever, dFor, dLc, wipeD, dYes,
  sizeLine_eq, Nat.reduceLeDiff, gEq_int, gNe_int, gEq_strs, gNe_strs, gIn_two, gRepr_bl, rs_lst, rs_tup, rs_scr, rs_int, atI_0, atI_1, atI_2, atI_3, atI_4, atI_5, ixN_30, ixN_31, ixN_32, gEq_bl, gNe_bl, decide_eq_true_eq, beq_iff_eq, Bool.not_eq_true', beq_eq_false_iff_ne, decide_eq_false_iff_not, Bool.not_true, Bool.not_false, if_true, if_false, Bool.false_eq_true, ite_true, ite_false, true_and, and_true, ne_eq, Bool.bne_false, Bool.bne_true, reduceCtorEq])
local macro_rules | `(tactic| walk_at "rh") => `(tactic| simp only [*, startD, List.map, List.replicate, List.length_cons, List.length_nil, List.append_eq, List.append_nil, List.nil_append, List.cons_append, Nat.reduceSub, Nat.reduceAdd, List.getElem?_cons_zero, List.getElem?_cons_succ, List.set_cons_zero, List.set_cons_succ,
  dC, dVar, dOp, dTru, gTru, tru, dChain, dAnd, dOr, dNot, dAndV, dOrV, dNotV, dIf, dNeg, gNeg, dNil, dCons, dTup, dLst, dOwn, gIx, rBin, gAdd, gCmpI, dCall, dCallK, dSeq, dNext, dDrop, dRet, dRetN, dIfS, dName, dGNil, dGCons, dGTup, dSub, gSetL, dAsg, dPar, dPar3, dAug, gIpI, dSeqI, gSeqI, dRngI, gRng1, gRng2, dCB, gAbs, gInt, gMax, gMin, gGcd, gLen, lenD, gIsi, tyM, tyD, dBits, gBits, dMet, gAppend, dPart, dNoPart, dSl, gSl_tup, gSl_lst, cut_1, dEnds, gIs, isB, dNever, dFor, dLc, wipeD, dYes,
  sizeLine_eq, Nat.reduceLeDiff, gEq_int, gNe_int, gEq_strs, gNe_strs, gIn_two, gRepr_bl, rs_lst, rs_tup, rs_scr, rs_int, atI_0, atI_1, atI_2, atI_3, atI_4, atI_5, ixN_30, ixN_31, ixN_32, gEq_bl, gNe_bl, decide_eq_true_eq, beq_iff_eq, Bool.not_eq_true', beq_eq_false_iff_ne, decide_eq_false_iff_not, Bool.not_true, Bool.not_false, if_true, if_false, Bool.false_eq_true, ite_true, ite_false, true_and, and_true, ne_eq, Bool.bne_false, Bool.bne_true, reduceCtorEq])
local macro_rules | `(tactic| walk_at "kb") => `(tactic| simp only [kb_NoneType_list, kb_bool_list, kb_int_list, kb_str_list, kb_tuple_list, kb_list_list, kb_dict_list, kb_NoneType_int, kb_bool_int, kb_int_int, kb_str_int, kb_tuple_int, kb_list_int, kb_dict_int, kb_NoneType_bool, kb_bool_bool, kb_int_bool, kb_str_bool, kb_tuple_bool, kb_list_bool, kb_dict_bool, kb_NoneType_tuple, kb_bool_tuple, kb_int_tuple, kb_str_tuple, kb_tuple_tuple, kb_list_tuple, kb_dict_tuple, if_true, if_false, Bool.false_eq_true, ite_true, ite_false, Bool.not_true, Bool.not_false])
/-! ### k08's own lists -/
end DL
namespace DL
open PySem PySem.Spec PyProof.Rows L2
local macro_rules | `(tactic| walk_at "rd") => `(tactic| simp only [startD, List.map, List.replicate, List.length_cons, List.length_nil, List.append_eq, List.append_nil, List.nil_append, List.cons_append, Nat.reduceSub, Nat.reduceAdd, List.getElem?_cons_zero, List.getElem?_cons_succ, List.set_cons_zero, List.set_cons_succ,
  dC, dVar, dOp, dTru, gTru, tru, dChain, dAnd, dOr, dNot, dAndV, dOrV, dNotV, dIf, dNeg, gNeg, dNil, dCons, dTup, dLst, dOwn, gIx, rBin, gAdd, gCmpI, dCall, dCallK, dSeq, dNext, dDrop, dRet, dRetN, dIfS, dName, dGNil, dGCons, dGTup, dSub, gSetL, dAsg, dPar, dPar3, dAug, gIpI, dSeqI, gSeqI, dRngI, gRng1, gRng2, dCB, gAbs, gInt, gMax, gMin, gGcd, gLen, lenD, gIsi, tyM, tyD, dBits, gBits, dMet, gAppend, dPart, dNoPart, dSl, gSl_tup, gSl_lst, cut_1, dEnds, gIs, isB, dNever, dCallX, dRaise, dTry, dFld, dCallV, gLRng, gFrz, dFrz, dFor, dLc, wipeD, dYes,
  sizeLine_eq, Nat.reduceLeDiff, gEq_int, gNe_int, gEq_strs, gNe_strs, gIn_two, gRepr_bl, rs_lst, rs_tup, rs_scr, rs_int, atI_0, atI_1, atI_2, atI_3, atI_4, atI_5, ixN_30, ixN_31, ixN_32, gEq_bl, gNe_bl, decide_eq_true_eq, beq_iff_eq, Bool.not_eq_true', beq_eq_false_iff_ne, decide_eq_false_iff_not, Bool.not_true, Bool.not_false, if_true, if_false, Bool.false_eq_true, ite_true, ite_false, true_and, and_true, ne_eq, Bool.bne_false, Bool.bne_true, reduceCtorEq])
local macro_rules | `(tactic| walk_at "rh") => `(tactic| simp only [*, startD, List.map, List.replicate, List.length_cons, List.length_nil, List.append_eq, List.append_nil, List.nil_append, List.cons_append, Nat.reduceSub, Nat.reduceAdd, List.getElem?_cons_zero, List.getElem?_cons_succ, List.set_cons_zero, List.set_cons_succ,
  dC, dVar, dOp, dTru, gTru, tru, dChain, dAnd, dOr, dNot, dAndV, dOrV, dNotV, dIf, dNeg, gNeg, dNil, dCons, dTup, dLst, dOwn, gIx, rBin, gAdd, gCmpI, dCall, dCallK, dSeq, dNext, dDrop, dRet, dRetN, dIfS, dName, dGNil, dGCons, dGTup, dSub, gSetL, dAsg, dPar, dPar3, dAug, gIpI, dSeqI, gSeqI, dRngI, gRng1, gRng2, dCB, gAbs, gInt, gMax, gMin, gGcd, gLen, lenD, gIsi, tyM, tyD, dBits, gBits, dMet, gAppend, dPart, dNoPart, dSl, gSl_tup, gSl_lst, cut_1, dEnds, gIs, isB, dNever, dCallX, dRaise, dTry, dFld, dCallV, gLRng, gFrz, dFrz, dFor, dLc, wipeD, dYes,
  sizeLine_eq, Nat.reduceLeDiff, gEq_int, gNe_int, gEq_strs, gNe_strs, gIn_two, gRepr_bl, rs_lst, rs_tup, rs_scr, rs_int, atI_0, atI_1, atI_2, atI_3, atI_4, atI_5, ixN_30, ixN_31, ixN_32, gEq_bl, gNe_bl, decide_eq_true_eq, beq_iff_eq, Bool.not_eq_true', beq_eq_false_iff_ne, decide_eq_false_iff_not, Bool.not_true, Bool.not_false, if_true, if_false, Bool.false_eq_true, ite_true, ite_false, true_and, and_true, ne_eq, Bool.bne_false, Bool.bne_true, reduceCtorEq])
local macro_rules | `(tactic| walk_at "kb") => `(tactic| simp only [kb_NoneType_list, kb_bool_list, kb_int_list, kb_str_list, kb_tuple_list, kb_list_list, kb_dict_list, kb_NoneType_int, kb_bool_int, kb_int_int, kb_str_int, kb_tuple_int, kb_list_int, kb_dict_int, kb_NoneType_bool, kb_bool_bool, kb_int_bool, kb_str_bool, kb_tuple_bool, kb_list_bool, kb_dict_bool, kb_NoneType_tuple, kb_bool_tuple, kb_int_tuple, kb_str_tuple, kb_tuple_tuple, kb_list_tuple, kb_dict_tuple, if_true, if_false, Bool.false_eq_true, ite_true, ite_false, Bool.not_true, Bool.not_false])
/-! RdCC: cuttings with their errors, numbered -/
/-! ### places in a list of tuples of whole numbers -/
/-! ### the functions -/
theorem AllC.at {m a b c e : Int} {l : List (List Int)} (h : AllC m l) (hc : isCut a b c e = true) (hm : meas4 b c e = m) : ∃ j : Nat, l[j]? = some [a, b, c, e] :=
  List.mem_iff_getElem?.mp ((h.mem _).mpr ⟨a, b, c, e, rfl, hc, hm⟩)
end DL
namespace DL
open PySem PySem.Spec PyProof.Rows L2
local macro_rules | `(tactic| walk_at "rd") => `(tactic| simp only [startD, List.map, List.replicate, List.length_cons, List.length_nil, List.append_eq, List.append_nil, List.nil_append, List.cons_append, Nat.reduceSub, Nat.reduceAdd, List.getElem?_cons_zero, List.getElem?_cons_succ, List.set_cons_zero, List.set_cons_succ,
  dC, dVar, dOp, dTru, gTru, tru, dChain, dAnd, dOr, dNot, dAndV, dOrV, dNotV, dIf, dNeg, gNeg, dNil, dCons, dTup, dLst, dOwn, gIx, rBin, gAdd, gCmpI, dCall, dCallK, dSeq, dNext, dDrop, dRet, dRetN, dIfS, dName, dGNil, dGCons, dGTup, dSub, gSetL, dAsg, dPar, dPar3, dAug, gIpI, dSeqI, gSeqI, dRngI, gRng1, gRng2, dCB, gAbs, gInt, gMax, gMin, gGcd, gLen, lenD, gIsi, tyM, tyD, dBits, gBits, dMet, gAppend, dPart, dNoPart, dSl, gSl_tup, gSl_lst, cut_1, dEnds, gIs, isB, dNever, dCallX, dRaise, dTry, dFld, dCallV, gLRng, gFrz, dFrz, dFor, dLc, wipeD, dYes,
  sizeLine_eq, Nat.reduceLeDiff, gEq_int, gNe_int, gEq_strs, gNe_strs, gIn_two, gRepr_bl, rs_lst, rs_tup, rs_scr, rs_int, atI_0, atI_1, atI_2, atI_3, atI_4, atI_5, ixN_30, ixN_31, ixN_32, gEq_bl, gNe_bl, decide_eq_true_eq, beq_iff_eq, Bool.not_eq_true', beq_eq_false_iff_ne, decide_eq_false_iff_not, Bool.not_true, Bool.not_false, if_true, if_false, Bool.false_eq_true, ite_true, ite_false, true_and, and_true, ne_eq, Bool.bne_false, Bool.bne_true, reduceCtorEq])
local macro_rules | `(tactic| walk_at "rh") => `(tactic| simp only [*, startD, List.map, List.replicate, List.length_cons, List.length_nil, List.append_eq, List.append_nil, List.nil_append, List.cons_append, Nat.reduceSub, Nat.reduceAdd, List.getElem?_cons_zero, List.getElem?_cons_succ, List.set_cons_zero, List.set_cons_succ,
  dC, dVar, dOp, dTru, gTru, tru, dChain, dAnd, dOr, dNot, dAndV, dOrV, dNotV, dIf, dNeg, gNeg, dNil, dCons, dTup, dLst, dOwn, gIx, rBin, gAdd, gCmpI, dCall, dCallK, dSeq, dNext, dDrop, dRet, dRetN, dIfS, dName, dGNil, dGCons, dGTup, dSub, gSetL, dAsg, dPar, dPar3, dAug, gIpI, dSeqI, gSeqI, dRngI, gRng1, gRng2, dCB, gAbs, gInt, gMax, gMin, gGcd, gLen, lenD, gIsi, tyM, tyD, dBits, gBits, dMet, gAppend, dPart, dNoPart, dSl, gSl_tup, gSl_lst, cut_1, dEnds, gIs, isB, dNever, dCallX, dRaise, dTry, dFld, dCallV, gLRng, gFrz, dFrz, dFor, dLc, wipeD, dYes,
  sizeLine_eq, Nat.reduceLeDiff, gEq_int, gNe_int, gEq_strs, gNe_strs, gIn_two, gRepr_bl, rs_lst, rs_tup, rs_scr, rs_int, atI_0, atI_1, atI_2, atI_3, atI_4, atI_5, ixN_30, ixN_31, ixN_32, gEq_bl, gNe_bl, decide_eq_true_eq, beq_iff_eq, Bool.not_eq_true', beq_eq_false_iff_ne, decide_eq_false_iff_not, Bool.not_true, Bool.not_false, if_true, if_false, Bool.false_eq_true, ite_true, ite_false, true_and, and_true, ne_eq, Bool.bne_false, Bool.bne_true, reduceCtorEq])
local macro_rules | `(tactic| walk_at "kb") => `(tactic| simp only [kb_NoneType_list, kb_bool_list, kb_int_list, kb_str_list, kb_tuple_list, kb_list_list, kb_dict_list, kb_NoneType_int, kb_bool_int, kb_int_int, kb_str_int, kb_tuple_int, kb_list_int, kb_dict_int, kb_NoneType_bool, kb_bool_bool, kb_int_bool, kb_str_bool, kb_tuple_bool, kb_list_bool, kb_dict_bool, kb_NoneType_tuple, kb_bool_tuple, kb_int_tuple, kb_str_tuple, kb_tuple_tuple, kb_list_tuple, kb_dict_tuple, if_true, if_false, Bool.false_eq_true, ite_true, ite_false, Bool.not_true, Bool.not_false])
/-! ### lists of whole numbers -/
theorem sorted_ext : ∀ {l1 l2 : List Int}, l1.Pairwise (· < ·) → l2.Pairwise (· < ·) → (∀ x, x ∈ l1 ↔ x ∈ l2) → l1 = l2
  | [], [], _, _, _ => rfl
  | [], y :: l2, _, _, h => absurd ((h y).mpr List.mem_cons_self) (by simp)
  | x :: l1, [], _, _, h => absurd ((h x).mp List.mem_cons_self) (by simp)
  | x :: l1, y :: l2, h1, h2, h => by
    obtain ⟨a1, b1⟩ := List.pairwise_cons.mp h1
    obtain ⟨a2, b2⟩ := List.pairwise_cons.mp h2
    have e : x = y := by
      have m1 := (h x).mp List.mem_cons_self
      have m2 := (h y).mpr List.mem_cons_self
      rcases List.mem_cons.mp m1 with z | z
      · exact z
      · rcases List.mem_cons.mp m2 with w | w
        · exact w.symm
        · have := a1 _ w; have := a2 _ z; omega
    subst e
    rw [sorted_ext b1 b2 fun z => ⟨fun hz => ?_, fun hz => ?_⟩]
    · rcases List.mem_cons.mp ((h z).mp (List.mem_cons_of_mem _ hz)) with w | w
      · have := a1 _ hz; omega
      · exact w
    · rcases List.mem_cons.mp ((h z).mpr (List.mem_cons_of_mem _ hz)) with w | w
      · have := a2 _ hz; omega
      · exact w
/-- lo, lo + 1, .. -/
def intsL (lo : Int) (n : Nat) : List Int := (List.range n).map fun i => lo + (i : Nat)
theorem rng_intsL (lo : Int) (n : Nat) : rng lo n = (intsL lo n).map D.int := by unfold rng intsL; rw [List.map_map]; rfl
theorem intsL_sorted (lo : Int) (n : Nat) : (intsL lo n).Pairwise (· < ·) := by
  unfold intsL
  rw [List.pairwise_map]
  exact List.pairwise_lt_range.imp fun h => by omega
theorem intsL_mem {lo x : Int} {n : Nat} : x ∈ intsL lo n ↔ lo ≤ x ∧ x < lo + n := by
  unfold intsL
  simp only [List.mem_map, List.mem_range]
  constructor
  · rintro ⟨i, hi, rfl⟩; omega
  · rintro ⟨h1, h2⟩
    exact ⟨(x - lo).toNat, by omega, by omega⟩
/-- lo, lo + 2, .. -/
def evens (lo : Int) (n : Nat) : List Int := (List.range n).map fun i => lo + 2 * (i : Nat)
theorem evens_sorted (lo : Int) (n : Nat) : (evens lo n).Pairwise (· < ·) := by
  unfold evens
  rw [List.pairwise_map]
  exact List.pairwise_lt_range.imp fun h => by omega
theorem evens_mem {lo x : Int} {n : Nat} : x ∈ evens lo n ↔ lo ≤ x ∧ x < lo + 2 * n ∧ (x - lo) % 2 = 0 := by
  unfold evens
  simp only [List.mem_map, List.mem_range]
  constructor
  · rintro ⟨i, hi, rfl⟩; omega
  · rintro ⟨h1, h2, h3⟩
    exact ⟨((x - lo) / 2).toNat, by omega, by omega⟩
theorem filterMap_int {p : Int → Bool} {f : D → Option D} (h : ∀ i, f (.int i) = if p i = true then some (.int i) else none) : ∀ l : List Int, (l.map D.int).filterMap f = (l.filter p).map D.int
  | [] => rfl
  | i :: l => by
    rw [List.map_cons, List.filterMap_cons, h, List.filter_cons]
    cases p i with
    | true => simp only [if_true, List.map_cons, filterMap_int h l]
    | false => simp only [Bool.false_eq_true, if_false, filterMap_int h l]
/-- the heart's numbers -/
def heartI (m : Int) : List Int := evens (hLow m) (hMany m).toNat
theorem heart_filter {m : Int} (hm : 0 < m) (h5 : isMeas (.int m) = true) : (intsL (0 - isq m) (isq m + 1 - (0 - isq m)).toNat).filter (fits m) = heartI m := by
  have r0 := isq_nn m
  have hs := heart_some h5
  refine sorted_ext ((intsL_sorted _ _).filter _) (evens_sorted _ _) fun x => ?_
  rw [List.mem_filter, intsL_mem, heartI, evens_mem, fits_iff hm]
  have hl := hLow_par m
  have hh := hHigh_par m
  have r2 := isq_lt (Int.le_of_lt hm)
  have lo : 0 - isq m ≤ hLow m := by
    unfold hLow
    dsimp only
    split <;> split <;> omega
  have hi : hHigh m ≤ isq m := by
    unfold hHigh
    dsimp only
    split <;> split <;> omega
  unfold hMany
  constructor
  · rintro ⟨_, h1, h2, h3⟩; omega
  · rintro ⟨h1, h2, h3⟩; omega
def sp_lheart : DSp := fun ds M Q _ => ∃ m : Int, ds = [.int m] ∧ isMeas (.int m) = true ∧ m ≤ 50000 ∧ Q (.lst ((heartI m).map D.int)) M
theorem rd_l_heart_e005 : ∀ ds M Q, ds.length = 1 → sp_lheart ds M Q DX0 → t_l_heart_e005 sp_isq (dEnds M Q) (startD 4 ds) M := by
  rintro _ M Q - ⟨m, rfl, hm, m1, q⟩
  obtain ⟨m', e, h5, h6⟩ := isMeas_int hm
  cases e
  have r0 := isq_nn m
  have r1 := isq_le_self (n := m) (by omega)
  unfold t_l_heart_e005
  refine dSeq_open fun B hB => ?_
  walk_at "rd"
  refine ⟨m, rfl, by omega, (Bi.of_abs (n := 20) 60000 (by omega) (by decide)).big.2, ?_⟩
  rw [← hB]
  clear hB B
  refine dSeq_open fun B hB => ?_
  walk_at "rd"
  refine ⟨⟨by omega, by omega, by omega, by omega, by omega⟩, ?_⟩
  rw [← hB]
  clear hB B
  walk_at "rd"
  refine lcW_pure (fun d => match d with | .int e => if fits m e = true then some (.int e) else none | _ => none) trivial (by rw [rng_len, sizeLine_eq]; omega) (fun d hd Y N' hy => ?_) ?_
  · obtain ⟨i, hi⟩ := List.mem_iff_getElem?.mp hd
    obtain ⟨hi, rfl⟩ := rng_get.mp hi
    generalize he : (0 - isq m + (i : Int)) = e at *
    have be : Bi 40 e := Bi.of_abs 100000 (by omega) (by decide)
    have be2 : Bi 41 (e + 2) := be.add (Bi.of_abs 2 (by decide) (by decide))
    dsimp only at hy
    walk_at "rd"
    refine ⟨(by decide : (2 : Int) ≠ 0), ?_⟩
    rw [fmod_pos (show (0 : Int) < 2 by decide)]
    by_cases z1 : (e - m) % 2 = 0
    · simp only [z1, if_true]
      refine ⟨⟨be.sm, be.sm⟩, ?_⟩
      by_cases z2 : e * e < m
      · simp only [z2, if_true]
        refine ⟨⟨be2.sm, be2.sm⟩, ?_⟩
        by_cases z3 : (e + 2) * (e + 2) < m
        · have : fits m e = true := by unfold fits; simp [z1, z2, z3]
          rw [if_pos this] at hy
          simp only [z3, if_true]
          exact hy
        · have : fits m e ≠ true := by unfold fits; simp [z1, z2, z3]
          rw [if_neg this] at hy
          simp only [z3, if_false]
          exact hy
      · have : fits m e ≠ true := by unfold fits; simp [z1, z2]
        rw [if_neg this] at hy
        simp only [z2, if_false]
        exact hy
    · have : fits m e ≠ true := by unfold fits; simp [z1]
      rw [if_neg this] at hy
      simp only [z1, if_false]
      exact hy
  · rw [rng_intsL, filterMap_int (p := fits m) (f := fun d => match d with | .int e => if fits m e = true then some (.int e) else none | _ => none) (fun i => rfl), heart_filter (by omega) hm]
    exact rtq q (by simp only [below]; exact below_ints _)
end DL
namespace DL
open PySem PySem.Spec PyProof.Rows L2
local macro_rules | `(tactic| walk_at "rd") => `(tactic| simp only [startD, List.map, List.replicate, List.length_cons, List.length_nil, List.append_eq, List.append_nil, List.nil_append, List.cons_append, Nat.reduceSub, Nat.reduceAdd, List.getElem?_cons_zero, List.getElem?_cons_succ, List.set_cons_zero, List.set_cons_succ,
  dC, dVar, dOp, dTru, gTru, tru, dChain, dAnd, dOr, dNot, dAndV, dOrV, dNotV, dIf, dNeg, gNeg, dNil, dCons, dTup, dLst, dOwn, gIx, rBin, gAdd, gCmpI, dCall, dCallK, dSeq, dNext, dDrop, dRet, dRetN, dIfS, dName, dGNil, dGCons, dGTup, dSub, gSetL, dAsg, dPar, dPar3, dAug, gIpI, dSeqI, gSeqI, dRngI, gRng1, gRng2, dCB, gAbs, gInt, gMax, gMin, gGcd, gLen, lenD, gIsi, tyM, tyD, dBits, gBits, dMet, gAppend, dPart, dNoPart, dSl, gSl_tup, gSl_lst, cut_1, dEnds, gIs, isB, dNever, dCallX, dRaise, dTry, dFld, dCallV, gLRng, gFrz, dFrz, dFor, dLc, wipeD, dYes,
  sizeLine_eq, Nat.reduceLeDiff, gEq_int, gNe_int, gEq_strs, gNe_strs, gIn_two, gRepr_bl, rs_lst, rs_tup, rs_scr, rs_int, atI_0, atI_1, atI_2, atI_3, atI_4, atI_5, ixN_30, ixN_31, ixN_32, gEq_bl, gNe_bl, decide_eq_true_eq, beq_iff_eq, Bool.not_eq_true', beq_eq_false_iff_ne, decide_eq_false_iff_not, Bool.not_true, Bool.not_false, if_true, if_false, Bool.false_eq_true, ite_true, ite_false, true_and, and_true, ne_eq, Bool.bne_false, Bool.bne_true, reduceCtorEq])
local macro_rules | `(tactic| walk_at "rh") => `(tactic| simp only [*, startD, List.map, List.replicate, List.length_cons, List.length_nil, List.append_eq, List.append_nil, List.nil_append, List.cons_append, Nat.reduceSub, Nat.reduceAdd, List.getElem?_cons_zero, List.getElem?_cons_succ, List.set_cons_zero, List.set_cons_succ,
  dC, dVar, dOp, dTru, gTru, tru, dChain, dAnd, dOr, dNot, dAndV, dOrV, dNotV, dIf, dNeg, gNeg, dNil, dCons, dTup, dLst, dOwn, gIx, rBin, gAdd, gCmpI, dCall, dCallK, dSeq, dNext, dDrop, dRet, dRetN, dIfS, dName, dGNil, dGCons, dGTup, dSub, gSetL, dAsg, dPar, dPar3, dAug, gIpI, dSeqI, gSeqI, dRngI, gRng1, gRng2, dCB, gAbs, gInt, gMax, gMin, gGcd, gLen, lenD, gIsi, tyM, tyD, dBits, gBits, dMet, gAppend, dPart, dNoPart, dSl, gSl_tup, gSl_lst, cut_1, dEnds, gIs, isB, dNever, dCallX, dRaise, dTry, dFld, dCallV, gLRng, gFrz, dFrz, dFor, dLc, wipeD, dYes,
  sizeLine_eq, Nat.reduceLeDiff, gEq_int, gNe_int, gEq_strs, gNe_strs, gIn_two, gRepr_bl, rs_lst, rs_tup, rs_scr, rs_int, atI_0, atI_1, atI_2, atI_3, atI_4, atI_5, ixN_30, ixN_31, ixN_32, gEq_bl, gNe_bl, decide_eq_true_eq, beq_iff_eq, Bool.not_eq_true', beq_eq_false_iff_ne, decide_eq_false_iff_not, Bool.not_true, Bool.not_false, if_true, if_false, Bool.false_eq_true, ite_true, ite_false, true_and, and_true, ne_eq, Bool.bne_false, Bool.bne_true, reduceCtorEq])
local macro_rules | `(tactic| walk_at "kb") => `(tactic| simp only [kb_NoneType_list, kb_bool_list, kb_int_list, kb_str_list, kb_tuple_list, kb_list_list, kb_dict_list, kb_NoneType_int, kb_bool_int, kb_int_int, kb_str_int, kb_tuple_int, kb_list_int, kb_dict_int, kb_NoneType_bool, kb_bool_bool, kb_int_bool, kb_str_bool, kb_tuple_bool, kb_list_bool, kb_dict_bool, kb_NoneType_tuple, kb_bool_tuple, kb_int_tuple, kb_str_tuple, kb_tuple_tuple, kb_list_tuple, kb_dict_tuple, if_true, if_false, Bool.false_eq_true, ite_true, ite_false, Bool.not_true, Bool.not_false])
/-! ### steps within the heart; plain -/
def stepP (m e x : Int) : Bool := decide (2 ≤ 0 - e - x) && ((Int.gcd ((0 - e - x) / 2) ((m - e * e) / 4) : Int) == 1)
theorem hHigh_eq (m : Int) : hHigh m = -hLow m - 2 := by
  unfold hHigh hLow
  dsimp only
  split <;> split <;> omega
/-! ### the readings -/
theorem lcW_pureO {ds : List D} {C : Mem → Prop} {g : DTG} {tt : DTT} {te : DTE} {r : Env} {M : Mem} {Q : DQ} (f : D → Option D) (hC : C M) (hl : ds.length ≤ sizeLine)
    (step : ∀ d ∈ ds, ∀ (Y : D → Mem → Prop) (N : Mem → Prop), (match f d with | some e => Y e M | none => N M) → g d r M fun r2 M2 => tt r2 M2 fun b M3 => if b = true then te r2 M3 Y else N M3)
    (q : Q (.own M.length) (M ++ [.lst (ds.filterMap f)])) : lcW true ds C g tt te r M Q := by
  refine ⟨fun i acc M' => M' = M ∧ acc = (ds.take i).filterMap f ∧ i ≤ ds.length, ⟨rfl, rfl, Nat.zero_le _⟩, ?_⟩
  rintro i acc M' ⟨rfl, rfl, hi⟩
  refine ⟨hC, fun hd => ?_, fun d ed => ?_⟩
  · rw [if_pos rfl, List.take_of_length_le hd]
    exact q
  · have hlt : i < ds.length := (List.getElem?_eq_some_iff.mp ed).1
    have ht : ds.take (i + 1) = ds.take i ++ [d] := by rw [List.take_succ, ed]; rfl
    have hlen : ((ds.take i).filterMap f).length ≤ i := Nat.le_trans (List.length_filterMap_le _ _) (by rw [List.length_take]; omega)
    refine step d (List.mem_of_getElem? ed) _ _ ?_
    split
    · rename_i e he
      exact ⟨by omega, rfl, by rw [ht, List.filterMap_append]; simp [he], hlt⟩
    · rename_i he
      exact ⟨rfl, by rw [ht, List.filterMap_append]; simp [he], hlt⟩
def sp_stepP : DSp := fun ds M Q _ => ∃ m e x : Int, ds = [.int m, .int e, .int x] ∧ Bi 400 e ∧ Q (.bl (stepP m e x)) M
theorem rd_l_steps_3e4d : ∀ ds M Q, ds.length = 3 → sp_stepP ds M Q DX0 → t_l_steps_3e4d sp_gcd (dEnds M Q) (startD 4 ds) M := by
  rintro _ M Q - ⟨m, e, x, rfl, be, q⟩
  unfold t_l_steps_3e4d
  refine dSeq_open fun B hB => ?_
  walk_at "rd"
  rw [← hB]
  clear hB B
  unfold stepP at q
  walk_at "rd"
  by_cases h : 2 ≤ 0 - e - x
  · rw [decide_eq_true h, Bool.true_and] at q
    rw [if_pos h]
    refine ⟨⟨by decide, by decide⟩, ⟨be.sm, be.sm⟩, ⟨by decide, by decide⟩, _, _, rfl, ?_⟩
    rw [fdiv_pos (show (0 : Int) < 2 by decide), fdiv_pos (show (0 : Int) < 4 by decide)]
    dsimp only
    rw [gEq_int]
    exact rtq q
  · rw [decide_eq_false h, Bool.false_and] at q
    rw [if_neg h, decide_eq_false h]
    exact rtq q
theorem rd_is_step_by : ∀ ds M Q, ds.length = 3 → sp_stepP ds M Q DX0 → t_is_step_by sp_gcd (dEnds M Q) (startD 4 ds) M := rd_l_steps_3e4d
theorem rgC2 {i j : Int} {n : Nat} (ha : -(2 ^ 61) ≤ i) (ha' : i < 2 ^ 61) (hb : -(2 ^ 61) ≤ j) (hb' : j < 2 ^ 61) (hn : (n : Int) = if i < j then (j - i - 1) / 2 + 1 else 0) : RgC i j 2 n := by
  have e : Builtin.Range.rangeSize i j 2 = (n : Int) := by
    rw [hn]
    unfold Builtin.Range.rangeSize
    simp only [show (2 : Int) > 0 by decide, if_true]
  refine ⟨by decide, by decide, ?_, e⟩
  unfold Builtin.Range.small
  rw [e]
  simp only [Builtin.Range.rangeFitsLong, Bool.and_eq_true, Bool.or_eq_true, decide_eq_true_eq, beq_iff_eq, show (2 : Int) > 0 by decide, if_true]
  by_cases z : i < j
  · rw [if_pos z] at hn
    omega
  · rw [if_neg z] at hn
    omega
theorem rngC_evens (lo : Int) (n : Nat) : rngC lo 2 n = (evens lo n).map D.int := by
  unfold rngC evens
  rw [List.map_map]
  refine List.map_congr_left fun i _ => ?_
  show D.int (lo + (i : Int) * 2) = D.int (lo + 2 * (i : Int))
  rw [Int.mul_comm]
theorem evens_len (lo : Int) (n : Nat) : (evens lo n).length = n := by unfold evens; rw [List.length_map, List.length_range]
theorem isq_low {m : Int} (h : 0 ≤ m) (hm : m ≤ 10 ^ 30) : isq m ≤ 10 ^ 15 := by
  have h1 := isq_le h
  have h0 := isq_nn m
  by_cases z : isq m ≤ 10 ^ 15
  · exact z
  · have : (10 ^ 15 + 1) * (10 ^ 15 + 1) ≤ isq m * isq m := Int.mul_le_mul (by omega) (by omega) (by decide) (by omega)
    omega
theorem low_bd {m : Int} (h : 0 ≤ m) (hm : m ≤ 10 ^ 30) : -(10 ^ 15) ≤ hLow m := by
  have h1 := isq_low h hm
  unfold hLow
  dsimp only
  split <;> split <;> omega
theorem fineA_ints {n : Nat} (l : List Int) : fineAll n (l.map D.int) = true := by
  rw [fineAll_iff]
  intro d hd
  obtain ⟨e, _, rfl⟩ := List.mem_map.mp hd
  cases n <;> rfl
/-! ### a few deeds of one number -/
/-! ### small measures -/
/-! ### great measures -/
/-! ### too many -/
end DL
namespace DL
open PySem PySem.Spec PyProof.Rows L2
local macro_rules | `(tactic| walk_at "rd") => `(tactic| simp only [startD, List.map, List.replicate, List.length_cons, List.length_nil, List.append_eq, List.append_nil, List.nil_append, List.cons_append, Nat.reduceSub, Nat.reduceAdd, List.getElem?_cons_zero, List.getElem?_cons_succ, List.set_cons_zero, List.set_cons_succ,
  dC, dVar, dOp, dTru, gTru, tru, dChain, dAnd, dOr, dNot, dAndV, dOrV, dNotV, dIf, dNeg, gNeg, dNil, dCons, dTup, dLst, dOwn, gIx, rBin, gAdd, gCmpI, dCall, dCallK, dSeq, dNext, dDrop, dRet, dRetN, dIfS, dName, dGNil, dGCons, dGTup, dSub, gSetL, dAsg, dPar, dPar3, dAug, gIpI, dSeqI, gSeqI, dRngI, gRng1, gRng2, dCB, gAbs, gInt, gMax, gMin, gGcd, gLen, lenD, gIsi, tyM, tyD, dBits, gBits, dMet, gAppend, dPart, dNoPart, dSl, gSl_tup, gSl_lst, cut_1, dEnds, gIs, isB, dNever, dCallX, dRaise, dTry, dFld, dCallV, gLRng, gFrz, dFrz, dFor, dLc, wipeD, dYes,
  sizeLine_eq, Nat.reduceLeDiff, gEq_int, gNe_int, gEq_strs, gNe_strs, gIn_two, gRepr_bl, rs_lst, rs_tup, rs_scr, rs_int, atI_0, atI_1, atI_2, atI_3, atI_4, atI_5, ixN_30, ixN_31, ixN_32, gEq_bl, gNe_bl, decide_eq_true_eq, beq_iff_eq, Bool.not_eq_true', beq_eq_false_iff_ne, decide_eq_false_iff_not, Bool.not_true, Bool.not_false, if_true, if_false, Bool.false_eq_true, ite_true, ite_false, true_and, and_true, ne_eq, Bool.bne_false, Bool.bne_true, reduceCtorEq])
local macro_rules | `(tactic| walk_at "rh") => `(tactic| simp only [*, startD, List.map, List.replicate, List.length_cons, List.length_nil, List.append_eq, List.append_nil, List.nil_append, List.cons_append, Nat.reduceSub, Nat.reduceAdd, List.getElem?_cons_zero, List.getElem?_cons_succ, List.set_cons_zero, List.set_cons_succ,
  dC, dVar, dOp, dTru, gTru, tru, dChain, dAnd, dOr, dNot, dAndV, dOrV, dNotV, dIf, dNeg, gNeg, dNil, dCons, dTup, dLst, dOwn, gIx, rBin, gAdd, gCmpI, dCall, dCallK, dSeq, dNext, dDrop, dRet, dRetN, dIfS, dName, dGNil, dGCons, dGTup, dSub, gSetL, dAsg, dPar, dPar3, dAug, gIpI, dSeqI, gSeqI, dRngI, gRng1, gRng2, dCB, gAbs, gInt, gMax, gMin, gGcd, gLen, lenD, gIsi, tyM, tyD, dBits, gBits, dMet, gAppend, dPart, dNoPart, dSl, gSl_tup, gSl_lst, cut_1, dEnds, gIs, isB, dNever, dCallX, dRaise, dTry, dFld, dCallV, gLRng, gFrz, dFrz, dFor, dLc, wipeD, dYes,
  sizeLine_eq, Nat.reduceLeDiff, gEq_int, gNe_int, gEq_strs, gNe_strs, gIn_two, gRepr_bl, rs_lst, rs_tup, rs_scr, rs_int, atI_0, atI_1, atI_2, atI_3, atI_4, atI_5, ixN_30, ixN_31, ixN_32, gEq_bl, gNe_bl, decide_eq_true_eq, beq_iff_eq, Bool.not_eq_true', beq_eq_false_iff_ne, decide_eq_false_iff_not, Bool.not_true, Bool.not_false, if_true, if_false, Bool.false_eq_true, ite_true, ite_false, true_and, and_true, ne_eq, Bool.bne_false, Bool.bne_true, reduceCtorEq])
local macro_rules | `(tactic| walk_at "kb") => `(tactic| simp only [kb_NoneType_list, kb_bool_list, kb_int_list, kb_str_list, kb_tuple_list, kb_list_list, kb_dict_list, kb_NoneType_int, kb_bool_int, kb_int_int, kb_str_int, kb_tuple_int, kb_list_int, kb_dict_int, kb_NoneType_bool, kb_bool_bool, kb_int_bool, kb_str_bool, kb_tuple_bool, kb_list_bool, kb_dict_bool, kb_NoneType_tuple, kb_bool_tuple, kb_int_tuple, kb_str_tuple, kb_tuple_tuple, kb_list_tuple, kb_dict_tuple, if_true, if_false, Bool.false_eq_true, ite_true, ite_false, Bool.not_true, Bool.not_false])
/-! ### hearts, roads: with their errors -/
/-! ### the lots of the heart's numbers -/
theorem count_split {α : Type} (F : List α) (p : α → Bool) : (F.filter p).length + (F.filter fun x => !p x).length = F.length := by
  induction F with
  | nil => rfl
  | cons x F ih =>
    rw [List.filter_cons, List.filter_cons]
    cases h : p x <;> simp [List.length_cons] <;> omega
def LI (l : List Int) : D := .lst (l.map D.int)
theorem below_LI {n : Nat} (l : List Int) : below n (LI l) = true := by
  simp only [LI, below]
  induction l with
  | nil => rfl
  | cons i l ih => simp only [List.map_cons, belowAll, below, ih, Bool.and_self]
/-- what stands in a lot, one number after another -/
def newIn (m : Int) (left lot : List Int) (e : Int) : List Int := left.filter fun x => !(lot.contains x) && stepP m e x
inductive GrowR (m : Int) (left : List Int) : List Int → Nat → List Int → Prop
  | done {lot : List Int} {at' : Nat} : lot.length ≤ at' → GrowR m left lot at' lot
  | step {lot lot' : List Int} {at' : Nat} {e : Int} : lot[at']? = some e → GrowR m left (lot ++ newIn m left lot e) (at' + 1) lot' → GrowR m left lot at' lot'
inductive LotsR (m : Int) : List Int → List (List Int) → Prop
  | nil : LotsR m [] []
  | cons {x : Int} {left lot srt : List Int} {ls : List (List Int)} : GrowR m (x :: left) [x] 0 lot → srt.Perm lot → srt.Pairwise (· ≤ ·) → LotsR m ((x :: left).filter fun y => !(lot.contains y)) ls → LotsR m (x :: left) (srt :: ls)
theorem gIn_ints {neg : Bool} {x : Int} {l : List Int} {M : Mem} {Q : DQ} (q : Q (.bl (l.contains x != neg)) M) : gIn neg (.int x) (.lst (l.map D.int)) M Q := by
  have nb : ∀ l : List Int, nbDAll (l.map D.int) = true := fun l => by
    induction l with
    | nil => rfl
    | cons i l ih => simp only [List.map_cons, nbDAll, nbD, ih, Bool.and_self]
  refine gIn_iff (n := 1) rfl rfl (fineA_ints l) rfl (nb l) fun b hb => ?_
  have : b = l.contains x := by
    rw [Bool.eq_iff_iff, hb, List.contains_iff_mem]
    constructor
    · intro h
      obtain ⟨y, hy, e⟩ := List.mem_map.mp h
      cases e
      exact hy
    · intro h
      exact List.mem_map.mpr ⟨x, h, rfl⟩
  rw [this]
  exact q
def InR (l : List Int) : Prop := ∀ x ∈ l, -(10 ^ 16) ≤ x ∧ x ≤ 10 ^ 16
theorem InR.filter {l : List Int} (h : InR l) (p : Int → Bool) : InR (l.filter p) := fun x hx => h x (List.mem_filter.mp hx).1
def heart0 (m : Int) : List Int := evens (hLow m) (hMany m).toNat
def spLotsBy : DSp := fun ds M Q _ => ∃ m : Int, ds = [.int m] ∧ isMeas (.int m) = true ∧ m ≤ 10 ^ 30 ∧ hMany m ≤ 100 ∧ ∀ ls : List (List Int), LotsR m (heart0 m) ls → ls.length ≤ 101 → (∀ l ∈ ls, l.length ≤ 101 ∧ InR l) → Q (.lst (ls.map LI)) M
theorem rd_lots_by : ∀ ds M Q, ds.length = 1 → spLotsBy ds M Q DX0 → t_lots_by sp_bounds_by sp_stepP (dEnds M Q) (startD 8 ds) M := by
  rintro _ M Q - ⟨m, rfl, hm, hm30, hmn, q⟩
  have m5 := meas_ge hm
  have lb := low_bd (by omega) hm30
  have bm : Bi 300 m := Bi.of_abs (10 ^ 30) (by omega) (by decide +kernel)
  have hbig := fit_big bm m5
  have hh := hHigh_eq m
  have hs := heart_some hm
  unfold t_lots_by
  refine dSeq_open fun B hB => ?_
  walk_at "rd"
  refine ⟨m, rfl, hbig.1, hbig.2, ?_⟩
  walk_at "rd"
  rw [← hB]
  clear hB B
  refine dSeq_open fun B hB => ?_
  walk_at "rd"
  refine ⟨(hMany m).toNat, rgC2 (by omega) (by omega) (by omega) (by omega) (by unfold hMany; split <;> omega), by omega, ?_⟩
  rw [rngC_evens]
  unfold ownQ
  rw [if_neg (by decide)]
  walk_at "rd"
  rw [← hB]
  clear hB B
  have hev : InR (evens (hLow m) (hMany m).toNat) := fun x hx => by
    have := evens_mem.mp hx
    unfold hMany at this
    omega
  have hel := evens_len (hLow m) (hMany m).toNat
  have q : ∀ ls : List (List Int), LotsR m (evens (hLow m) (hMany m).toNat) ls → ls.length ≤ 101 → (∀ l ∈ ls, l.length ≤ 101 ∧ InR l) → Q (.lst (ls.map LI)) M := q
  generalize evens (hLow m) (hMany m).toNat = left0 at *
  refine dSeq_open fun B hB => ?_
  have mK : ∀ x : Own, (M ++ [x])[M.length]? = some x := fun x => by rw [List.getElem?_append_right (Nat.le_refl _), Nat.sub_self]; rfl
  refine dwhile_of (fun n r M' => ∃ (left : List Int) (ls : List (List Int)) (t5 t6 : Option D), r = [some (.int m), some (.int (hLow m)), some (.int (hHigh m)), some (.lst (left.map D.int)), some (.own M.length), t5, t6, none] ∧
    M' = M ++ [.lst (ls.map LI)] ∧ InR left ∧ (∀ l ∈ ls, l.length ≤ 101 ∧ InR l) ∧ ls.length + left.length ≤ 100 ∧ (∀ rest, LotsR m left rest → LotsR m left0 (ls ++ rest)) ∧ n = left.length + 1) _
    ⟨left0, [], none, none, rfl, rfl, hev, fun l h => (by cases h), by rw [hel]; simp; omega, fun rest h => h, rfl⟩ ?_
  rintro _ r M' ⟨left, ls, t5, t6, rfl, rfl, hl, hls, hlen, hR, rfl⟩
  walk_at "rd"
  refine gNe_nil' (n := 1) (fineA_ints left) ?_
  cases left with
  | nil =>
    dsimp only
    rw [if_neg (by exact Bool.false_ne_true), ← hB]
    walk_at "rd"
    have hq := q ls (by have := hR [] .nil; rwa [List.append_nil] at this) (by omega) hls
    rw [mK]
    dsimp only
    have hset : List.set (M ++ [Own.lst (ls.map LI)]) M.length Own.dead = M ++ [Own.dead] := by
      rw [List.set_append_right _ _ (Nat.le_refl _), Nat.sub_self]
      rfl
    rw [hset]
    refine rtqG hq ?_
    have : ∀ ls : List (List Int), belowAll M.length (ls.map LI) = true := fun ls => by
      induction ls with
      | nil => rfl
      | cons l ls ih => simp only [List.map_cons, belowAll, below_LI, ih, Bool.and_self]
    simp only [below, this]
  | cons x left =>
    dsimp only
    rw [if_pos (by rfl), show atI (List.map D.int (x :: left)) 0 = some (.int x) from atI_0]
    dsimp only
    refine dwhile_of (fun n r M' => M' = M ++ [.lst (ls.map LI)] ∧ ∃ (lot : List Int) (at' : Nat), r = [some (.int m), some (.int (hLow m)), some (.int (hHigh m)), some (.lst ((x :: left).map D.int)), some (.own M.length), some (.lst (lot.map D.int)), some (.int at'), none] ∧
      InR lot ∧ lot.length + ((x :: left).filter fun y => !(lot.contains y)).length ≤ 101 ∧ at' ≤ lot.length ∧ x ∈ lot ∧ (∀ lot', GrowR m (x :: left) lot at' lot' → GrowR m (x :: left) [x] 0 lot') ∧
      n = ((x :: left).filter fun y => !(lot.contains y)).length + lot.length - at' + 1) _ ⟨rfl, [x], 0, rfl, fun y hy => hl y (by simp at hy; subst hy; exact List.mem_cons_self), ?_, Nat.zero_le _, List.mem_cons_self, fun _ h => h, rfl⟩ ?_
    · have := List.length_filter_le (fun y => !([x].contains y)) (x :: left)
      simp only [List.length_cons, List.length_nil] at this hlen ⊢
      omega
    rintro _ r M' ⟨rfl, lot, at', rfl, hlo, hsz, hat, hx, hG, rfl⟩
    walk_at "rd"
    rw [List.length_map]
    by_cases hlt : at' < lot.length
    · rw [if_pos (by omega)]
      obtain ⟨e, he⟩ : ∃ e, lot[at']? = some e := ⟨lot[at'], List.getElem?_eq_getElem hlt⟩
      have hei : atI (lot.map D.int) (at' : Int) = some (.int e) := by
        rw [atI_of _ (by rw [List.length_map]; exact hlt), List.getElem?_map, he]
        rfl
      have be : Bi 400 e := Bi.of_abs (10 ^ 16) (by have := hlo e (List.mem_of_getElem? he); omega) (by decide +kernel)
      show lcW false (List.map D.int (x :: left)) _ _ _ _ _ _ _
      refine lcW_pure (fun d => match d with | .int y => if (!(lot.contains y) && stepP m e y) = true then some (.int y) else none | _ => none) trivial (by rw [List.length_map, sizeLine_eq]; have := hlen; simp only [List.length_cons] at this ⊢; omega) (fun d hd Y N' hy => ?_) ?_
      · obtain ⟨y, hyl, rfl⟩ := List.mem_map.mp hd
        walk_at "rd"
        refine gIn_ints ?_
        dsimp only at hy ⊢
        cases hc : lot.contains y with
        | true =>
          rw [hc, Bool.not_true, Bool.false_and, if_neg Bool.false_ne_true] at hy
          rw [if_neg (by decide)]
          exact hy
        | false =>
          rw [hc, Bool.not_false, Bool.true_and] at hy
          rw [if_pos (by decide), hei]
          dsimp only
          refine ⟨m, e, y, rfl, be, ?_⟩
          dsimp only
          cases hst : stepP m e y with
          | true =>
            rw [hst, if_pos rfl] at hy
            rw [if_pos rfl]
            exact hy
          | false =>
            rw [hst, if_neg Bool.false_ne_true] at hy
            rw [if_neg (by decide)]
            exact hy
      rw [filterMap_int (p := fun y => !(lot.contains y) && stepP m e y) (f := fun d => match d with | .int y => if (!(lot.contains y) && stepP m e y) = true then some (.int y) else none | _ => none) (fun i => rfl)]
      dsimp only
      have hF : ((x :: left).filter fun y => !((lot ++ newIn m (x :: left) lot e).contains y)) = ((x :: left).filter fun y => !(lot.contains y)).filter fun y => !(stepP m e y) := by
        rw [List.filter_filter]
        refine List.filter_congr fun y hy => ?_
        rw [Bool.eq_iff_iff]
        simp only [Bool.not_eq_true', Bool.and_eq_true, Bool.eq_false_iff, ne_eq, List.contains_iff_mem, List.mem_append, newIn, List.mem_filter, not_or, not_and]
        constructor
        · rintro ⟨h1, h2⟩
          exact ⟨h2 hy (by simpa using h1), h1⟩
        · rintro ⟨h1, h2⟩
          exact ⟨h2, fun _ _ => h1⟩
      have hN : newIn m (x :: left) lot e = ((x :: left).filter fun y => !(lot.contains y)).filter fun y => stepP m e y := by
        unfold newIn
        rw [List.filter_filter]
        exact List.filter_congr fun y hy => Bool.and_comm _ _
      have hcs := count_split ((x :: left).filter fun y => !(lot.contains y)) fun y => stepP m e y
      rw [← hN, ← hF] at hcs
      refine ⟨by rw [List.length_map, List.length_map]; have : (newIn m (x :: left) lot e).length ≤ 101 := by omega
                 show lot.length + (newIn m (x :: left) lot e).length ≤ 16777216
                 omega, ?_⟩
      refine ⟨((x :: left).filter fun y => !((lot ++ newIn m (x :: left) lot e).contains y)).length + (lot ++ newIn m (x :: left) lot e).length - (at' + 1) + 1, by rw [List.length_append]; omega, rfl, lot ++ newIn m (x :: left) lot e, at' + 1, by rw [List.map_append]; rfl, ?_, by rw [List.length_append]; omega, by rw [List.length_append]; omega, List.mem_append_left _ hx, fun lot' h => hG lot' (.step he h), rfl⟩
      intro y hy
      rcases List.mem_append.mp hy with h | h
      · exact hlo y h
      · exact hl y (List.mem_filter.mp h).1
    · rw [if_neg (by omega)]
      have hdone := hG lot (.done (by omega))
      show lcW false (List.map D.int (x :: left)) _ _ _ _ _ _ _
      refine lcW_pure (fun d => match d with | .int y => if (!(lot.contains y)) = true then some (.int y) else none | _ => none) trivial (by rw [List.length_map, sizeLine_eq]; have := hlen; simp only [List.length_cons] at this ⊢; omega) (fun d hd Y N' hy => ?_) ?_
      · obtain ⟨y, hyl, rfl⟩ := List.mem_map.mp hd
        walk_at "rd"
        refine gIn_ints ?_
        dsimp only at hy ⊢
        cases hc : lot.contains y with
        | true =>
          rw [hc, Bool.not_true, if_neg Bool.false_ne_true] at hy
          rw [if_neg (by decide)]
          exact hy
        | false =>
          rw [hc, Bool.not_false, if_pos rfl] at hy
          rw [if_pos (by decide)]
          exact hy
      rw [filterMap_int (p := fun y => !(lot.contains y)) (f := fun d => match d with | .int y => if (!(lot.contains y)) = true then some (.int y) else none | _ => none) (fun i => rfl)]
      refine ⟨⟨_, _, rfl, mK _⟩, .inl ⟨lot, rfl, fun srt pm sd => ?_⟩⟩
      unfold ownOr
      rw [if_neg (by decide)]
      dsimp only
      rw [mK]
      dsimp only
      have hfl : ((x :: left).filter fun y => !(lot.contains y)).length ≤ left.length := by
        rw [List.filter_cons, if_neg (by simp [hx])]
        exact List.length_filter_le _ _
      simp only [List.length_cons] at hlen
      refine ⟨by rw [List.length_map]; omega, ((x :: left).filter fun y => !(lot.contains y)).length + 1, by omega, _, ls ++ [srt], _, _, rfl, ?_, hl.filter _, fun l hlm => ?_, by rw [List.length_append]; simp only [List.length_singleton]; omega, fun rest h => ?_, rfl⟩
      · rw [List.set_append_right _ _ (Nat.le_refl _), Nat.sub_self, List.map_append]
        rfl
      · rcases List.mem_append.mp hlm with h | h
        · exact hls l h
        · cases List.mem_singleton.mp h
          exact ⟨by rw [pm.length_eq]; omega, fun y hy => hlo y (pm.mem_iff.mp hy)⟩
      · rw [List.append_assoc]
        exact hR _ (.cons hdone pm sd h)
/-! ### steps, distances, words -/
/-! ### roads -/
end DL
namespace DL
/-! MV: the heart's steps as a graph of places 0 .. n - 1 -/
def adjB (n K i j : Nat) : Bool := Nat.ble (i + j + 1) n && Nat.beq (Nat.gcd (n - i - j) (K + j * (n - j))) 1
def exF (f : Nat → Bool) : Nat → Nat → Bool
  | 0, _ => false
  | k + 1, s => f s || exF f k (s + 1)
def alF (f : Nat → Bool) : Nat → Nat → Bool
  | 0, _ => true
  | k + 1, s => f s && alF f k (s + 1)
theorem exF_iff {f : Nat → Bool} {k s : Nat} : exF f k s = true ↔ ∃ j, s ≤ j ∧ j < s + k ∧ f j = true := by
  induction k generalizing s with
  | zero => simp [exF]; omega
  | succ k ih =>
    simp only [exF, Bool.or_eq_true, ih]
    constructor
    · rintro (h | ⟨j, h1, h2, h3⟩)
      · exact ⟨s, Nat.le_refl _, by omega, h⟩
      · exact ⟨j, by omega, by omega, h3⟩
    · rintro ⟨j, h1, h2, h3⟩
      rcases Nat.eq_or_lt_of_le h1 with e | e
      · subst e; exact .inl h3
      · exact .inr ⟨j, by omega, by omega, h3⟩
theorem alF_iff {f : Nat → Bool} {k s : Nat} : alF f k s = true ↔ ∀ j, s ≤ j → j < s + k → f j = true := by
  induction k generalizing s with
  | zero => simp [alF]; intro j h1 h2; omega
  | succ k ih =>
    simp only [alF, Bool.and_eq_true, ih]
    constructor
    · rintro ⟨h, h'⟩ j h1 h2
      rcases Nat.eq_or_lt_of_le h1 with e | e
      · subst e; exact h
      · exact h' j (by omega) (by omega)
    · intro h
      exact ⟨h s (Nat.le_refl _) (by omega), fun j h1 h2 => h j (by omega) (by omega)⟩
def twoB (n K : Nat) : Bool := Nat.beq (n % 2) 1 && Nat.beq (K % 2) 0
def okG (n K : Nat) : Bool :=
  alF (fun i => exF (fun j => adjB n K i j) (min 10 (n - i)) 0) ((n + 1) / 2) 0 &&
  alF (fun j => Nat.beq j 0 || (twoB n K && Nat.beq j 1) || exF (fun h => (!(twoB n K) || Nat.beq (h % 2) (j % 2)) && exF (fun i => adjB n K i j && adjB n K i h) n 0) j 0) (min 10 n) 0
def excG (n K : Nat) : Bool := (Nat.beq n 2 && Nat.beq K 2) || (Nat.beq n 5 && (Nat.beq K 2 || Nat.beq K 6)) || (Nat.beq n 7 && Nat.beq K 6) || (Nat.beq n 9 && Nat.beq K 10) || (Nat.beq n 11 && Nat.beq K 12)
def okN (n : Nat) : Bool := alF (fun K => excG n K || okG n K) (n + 1) 1
theorem okA : alF okN 40 1 = true := by decide +kernel
theorem okB : alF okN 20 41 = true := by decide +kernel
theorem okC : alF okN 15 61 = true := by decide +kernel
theorem okD : alF okN 15 76 = true := by decide +kernel
theorem okE : alF okN 12 91 = true := by decide +kernel
theorem ok_all {n K : Nat} (h1 : 1 ≤ n) (h2 : n ≤ 102) (h3 : 1 ≤ K) (h4 : K ≤ n + 1) (h5 : excG n K = false) : okG n K = true := by
  have h : okN n = true := by
    rcases (by omega : n < 41 ∨ (41 ≤ n ∧ n < 61) ∨ (61 ≤ n ∧ n < 76) ∨ (76 ≤ n ∧ n < 91) ∨ 91 ≤ n) with r | r | r | r | r
    · exact alF_iff.mp okA n h1 (by omega)
    · exact alF_iff.mp okB n r.1 (by omega)
    · exact alF_iff.mp okC n r.1 (by omega)
    · exact alF_iff.mp okD n r.1 (by omega)
    · exact alF_iff.mp okE n r (by omega)
  have := alF_iff.mp h K h3 (by omega)
  rwa [h5, Bool.false_or] at this
/-- there is a way from i to j -/
inductive Way (n K : Nat) : Nat → Nat → Prop
  | refl {i : Nat} : i < n → Way n K i i
  | step {i j k : Nat} : Way n K i j → k < n → adjB n K j k = true → Way n K i k
theorem adjB_parts {n K i j : Nat} : adjB n K i j = true ↔ i + j < n ∧ Nat.gcd (n - i - j) (K + j * (n - j)) = 1 := by
  unfold adjB
  rw [Bool.and_eq_true, Nat.ble_eq, Nat.beq_eq]
  exact ⟨fun ⟨a, b⟩ => ⟨by omega, b⟩, fun ⟨a, b⟩ => ⟨by omega, b⟩⟩
end DL
namespace DL
/-! MW: how many lots the heart has -/
theorem adj_symm {n K i j : Nat} (h : adjB n K i j = true) : adjB n K j i = true := by
  rw [adjB_parts] at h ⊢
  obtain ⟨h1, h2⟩ := h
  refine ⟨by omega, ?_⟩
  obtain ⟨d, rfl⟩ : ∃ d, n = d + i + j := ⟨n - i - j, by omega⟩
  rw [show d + i + j - i - j = d by omega, show d + i + j - j = d + i by omega] at h2
  rw [show d + i + j - j - i = d by omega, show d + i + j - i = d + j by omega]
  rw [show K + j * (d + i) = (K + i * j) + j * d by grind, Nat.gcd_add_mul_right_right] at h2
  rw [show K + i * (d + j) = (K + i * j) + i * d by grind, Nat.gcd_add_mul_right_right]
  exact h2
theorem Way.lt {n K i j : Nat} (h : Way n K i j) : j < n := by cases h <;> assumption
def bas (n K i : Nat) : Nat := if twoB n K = true then i % 2 else 0
theorem way_all {n K : Nat} (h : okG n K = true) {i : Nat} (hi : i < n) : Way n K (bas n K i) i := by
  unfold okG at h
  rw [Bool.and_eq_true] at h
  obtain ⟨hv, hh⟩ := h
  have hub : ∀ k j : Nat, j ≤ k → j < 10 → j < n → Way n K (bas n K j) j := by
    intro k
    induction k with
    | zero =>
      intro j h0 _ hn
      obtain rfl : j = 0 := by omega
      have : bas n K 0 = 0 := by unfold bas; split <;> rfl
      rw [this]
      exact .refl hn
    | succ k ih =>
      intro j hk h10 hn
      have hj := alF_iff.mp hh j (by omega) (by omega)
      simp only [Bool.or_eq_true, Bool.and_eq_true] at hj
      rcases hj with (h0 | ⟨ht, h1⟩) | hx
      · rw [Nat.beq_eq] at h0
        subst h0
        have : bas n K 0 = 0 := by unfold bas; split <;> rfl
        rw [this]
        exact .refl hn
      · rw [Nat.beq_eq] at h1
        subst h1
        have : bas n K 1 = 1 := by unfold bas; rw [if_pos ht]
        rw [this]
        exact .refl hn
      · obtain ⟨h', _, hlt, hb⟩ := exF_iff.mp hx
        simp only [Bool.and_eq_true, Bool.or_eq_true] at hb
        obtain ⟨hp, hi'⟩ := hb
        obtain ⟨i', _, hin, hb2⟩ := exF_iff.mp hi'
        rw [Bool.and_eq_true] at hb2
        have hw := ih h' (by omega) (by omega) (by omega)
        have e : bas n K h' = bas n K j := by
          unfold bas
          rcases hp with hp | hp
          · rw [if_neg (by simpa using hp), if_neg (by simpa using hp)]
          · rw [Nat.beq_eq] at hp
            rw [hp]
        rw [e] at hw
        exact (hw.step (by omega) (adj_symm hb2.2)).step hn hb2.1
  have low : ∀ i, i < (n + 1) / 2 → Way n K (bas n K i) i := by
    intro i hi2
    have hx := alF_iff.mp hv i (by omega) (by omega)
    obtain ⟨j, _, hj, ha⟩ := exF_iff.mp hx
    have hw := hub j j (Nat.le_refl _) (by omega) (by omega)
    have hp := adjB_parts.mp ha
    have e : bas n K j = bas n K i := by
      unfold bas
      by_cases ht : twoB n K = true
      · rw [if_pos ht, if_pos ht]
        unfold twoB at ht
        rw [Bool.and_eq_true, Nat.beq_eq, Nat.beq_eq] at ht
        -- n odd, K even: n - i - j is odd
        rcases (by omega : (i + j) % 2 = 0 ∨ (i + j) % 2 = 1) with r | r
        · omega
        · exfalso
          have d1 : 2 ∣ n - i - j := by omega
          have d2 : 2 ∣ K + j * (n - j) := by
            refine Nat.dvd_add (by omega) ?_
            rcases (by omega : j % 2 = 0 ∨ (n - j) % 2 = 0) with r2 | r2
            · exact Nat.dvd_mul_right_of_dvd (Nat.dvd_of_mod_eq_zero r2) _
            · exact Nat.dvd_mul_left_of_dvd (Nat.dvd_of_mod_eq_zero r2) _
          have := Nat.dvd_gcd d1 d2
          rw [hp.2] at this
          omega
      · rw [if_neg ht, if_neg ht]
    rw [← e]
    exact hw.step (by omega) (adj_symm ha)
  by_cases hi2 : i < (n + 1) / 2
  · exact low i hi2
  · have hw := low (n - 1 - i) (by omega)
    have e : bas n K (n - 1 - i) = bas n K i := by
      unfold bas
      by_cases ht : twoB n K = true
      · rw [if_pos ht, if_pos ht]
        unfold twoB at ht
        rw [Bool.and_eq_true, Nat.beq_eq, Nat.beq_eq] at ht
        omega
      · rw [if_neg ht, if_neg ht]
    rw [e] at hw
    refine hw.step hi (adjB_parts.mpr ⟨by omega, ?_⟩)
    rw [show n - (n - 1 - i) - i = 1 by omega]
    exact Nat.gcd_one_left _
/-! ### the heart as such a graph -/
structure Grf (m : Int) (n K : Nat) : Prop where
  n1 : 1 ≤ n
  k1 : 1 ≤ K
  kn : K ≤ n + 1
  em : m = (n : Int) * n + 4 * K
  lo : hLow m = -(n : Int)
  mn : hMany m = n
theorem grf_of {m : Int} (h : isMeas (.int m) = true) : ∃ n K, Grf m n K := by
  have h5 : 5 ≤ m ∧ (m % 4 = 0 ∨ m % 4 = 1) := by simpa [isMeas] using h
  have hs := heart_some h
  have hh := hHigh_eq m
  have r0 := isq_nn m
  have r1 := isq_le (show 0 ≤ m by omega)
  have r2 := isq_lt (show 0 ≤ m by omega)
  have e2 : (isq m + 1) * (isq m + 1) = isq m * isq m + 2 * isq m + 1 := by grind
  obtain ⟨n, hn, hpar, hlo, hhi⟩ : ∃ n : Int, hLow m = -n ∧ (n - m) % 2 = 0 ∧ n * n < m ∧ m ≤ (n + 2) * (n + 2) := by
    refine ⟨-hLow m, by omega, ?_⟩
    unfold hLow
    dsimp only
    have p1 : (isq m * isq m) % 2 = isq m % 2 := by
      rcases (by omega : isq m % 2 = 0 ∨ isq m % 2 = 1) with r | r
      · obtain ⟨k, hk⟩ : ∃ k, isq m = 2 * k := ⟨isq m / 2, by omega⟩
        rw [hk, show 2 * k * (2 * k) = 2 * (2 * (k * k)) by grind]; omega
      · obtain ⟨k, hk⟩ : ∃ k, isq m = 2 * k + 1 := ⟨isq m / 2, by omega⟩
        rw [hk, show (2 * k + 1) * (2 * k + 1) = 2 * (2 * (k * k) + 2 * k) + 1 by grind]; omega
    generalize isq m = r at *
    by_cases h1 : r * r < m
    · rw [if_pos h1]
      by_cases h2 : (0 - r - m) % 2 = 0
      · rw [if_pos h2]
        refine ⟨by omega, ?_, ?_⟩
        · rw [show -(0 - r) * -(0 - r) = r * r by grind]; exact h1
        · rw [show (-(0 - r) + 2) * (-(0 - r) + 2) = r * r + 4 * r + 4 by grind]; omega
      · rw [if_neg h2]
        refine ⟨by omega, ?_, ?_⟩
        · rw [show -(0 - r + 1) * -(0 - r + 1) = r * r - 2 * r + 1 by grind]; omega
        · rw [show (-(0 - r + 1) + 2) * (-(0 - r + 1) + 2) = r * r + 2 * r + 1 by grind]; omega
    · rw [if_neg h1]
      have e1 : r * r = m := by omega
      have h2 : ¬ (1 - r - m) % 2 = 0 := by omega
      rw [if_neg h2]
      have r3 : 3 ≤ r := by
        rcases (by omega : 3 ≤ r ∨ r = 0 ∨ r = 1 ∨ r = 2) with z | z | z | z
        · exact z
        · subst z; omega
        · subst z; omega
        · subst z; omega
      refine ⟨by omega, ?_, ?_⟩
      · rw [show -(1 - r + 1) * -(1 - r + 1) = r * r - 4 * r + 4 by grind]; omega
      · rw [show (-(1 - r + 1) + 2) * (-(1 - r + 1) + 2) = r * r by grind]; omega
  have n1 : 1 ≤ n := by omega
  have e3 : (n + 2) * (n + 2) = n * n + 4 * n + 4 := by grind
  have d4 : (m - n * n) % 4 = 0 := by
    rcases (by omega : n % 2 = 0 ∨ n % 2 = 1) with r | r
    · obtain ⟨k, hk⟩ : ∃ k, n = 2 * k := ⟨n / 2, by omega⟩
      rw [hk, show 2 * k * (2 * k) = 4 * (k * k) by grind]; omega
    · obtain ⟨k, hk⟩ : ∃ k, n = 2 * k + 1 := ⟨n / 2, by omega⟩
      rw [hk, show (2 * k + 1) * (2 * k + 1) = 4 * (k * k + k) + 1 by grind]; omega
  refine ⟨n.toNat, ((m - n * n) / 4).toNat, by omega, by omega, by omega, ?_, by omega, ?_⟩
  · rw [show ((n.toNat : Nat) : Int) = n by omega]
    omega
  · unfold hMany
    omega
/-- the value at a place -/
def vlu (n i : Nat) : Int := -(n : Int) + 2 * (i : Nat)
theorem step_adj {m : Int} {n K i j : Nat} (G : Grf m n K) (hi : i < n) (hj : j < n) : stepP m (vlu n j) (vlu n i) = adjB n K i j := by
  have e : m - vlu n j * vlu n j = 4 * ((K + j * (n - j) : Nat) : Int) := by
    rw [G.em]
    unfold vlu
    have : ((n - j : Nat) : Int) = (n : Int) - j := by omega
    push_cast
    rw [this]
    grind
  rw [Bool.eq_iff_iff, adjB_parts]
  unfold stepP
  rw [e, Bool.and_eq_true, decide_eq_true_eq, beq_iff_eq, Int.mul_ediv_cancel_left _ (by decide)]
  have e2 : 0 - vlu n j - vlu n i = 2 * ((n : Int) - i - j) := by unfold vlu; omega
  rw [e2, Int.mul_ediv_cancel_left _ (by decide)]
  constructor
  · rintro ⟨h1, h2⟩
    refine ⟨by omega, ?_⟩
    have e3 : (n : Int) - i - j = ((n - i - j : Nat) : Int) := by omega
    rw [e3, Int.gcd_natCast_natCast] at h2
    exact_mod_cast h2
  · rintro ⟨h1, h2⟩
    refine ⟨by omega, ?_⟩
    have e3 : (n : Int) - i - j = ((n - i - j : Nat) : Int) := by omega
    rw [e3, Int.gcd_natCast_natCast, h2]
    rfl
/-! ### what grows -/
theorem grow_has {m : Int} {left lot lot' : List Int} {at' : Nat} (h : GrowR m left lot at' lot') : ∀ x ∈ lot, x ∈ lot' := by
  induction h with
  | done _ => exact fun x hx => hx
  | step _ _ ih => exact fun x hx => ih x (List.mem_append_left _ hx)
theorem grow_closed {m : Int} {left lot lot' : List Int} {at' : Nat} (h : GrowR m left lot at' lot') : (∀ i, i < at' → ∀ e, lot[i]? = some e → ∀ y ∈ left, stepP m e y = true → y ∈ lot) → ∀ e ∈ lot', ∀ y ∈ left, stepP m e y = true → y ∈ lot' := by
  induction h with
  | done hl =>
    intro hc e he y hy hs
    obtain ⟨i, hi⟩ := List.getElem?_of_mem he
    have := (List.getElem?_eq_some_iff.mp hi).1
    exact hc i (by omega) e hi y hy hs
  | @step lot lot' at' e0 he hg ih =>
    intro hc
    refine ih fun i hi e hie y hy hs => ?_
    have hat := (List.getElem?_eq_some_iff.mp he).1
    by_cases hin : y ∈ lot
    · exact List.mem_append_left _ hin
    · rcases (by omega : i < at' ∨ i = at') with r | r
      · rw [List.getElem?_append_left (by omega)] at hie
        exact List.mem_append_left _ (hc i r e hie y hy hs)
      · subst r
        rw [List.getElem?_append_left hat, he] at hie
        cases hie
        refine List.mem_append_right _ (List.mem_filter.mpr ⟨hy, ?_⟩)
        rw [hs, Bool.and_true]
        simpa using hin
theorem grow_prop {m : Int} {left lot lot' : List Int} {at' : Nat} (h : GrowR m left lot at' lot') (P : Int → Prop) (hst : ∀ e y, P e → y ∈ left → stepP m e y = true → P y) : (∀ e ∈ lot, P e) → ∀ e ∈ lot', P e := by
  induction h with
  | done _ => exact fun h => h
  | @step lot lot' at' e0 he hg ih =>
    intro h0
    refine ih fun y hy => ?_
    rcases List.mem_append.mp hy with r | r
    · exact h0 y r
    · obtain ⟨hy1, hy2⟩ := List.mem_filter.mp r
      rw [Bool.and_eq_true] at hy2
      exact hst e0 y (h0 e0 (List.mem_of_getElem? he)) hy1 hy2.2
theorem grow_nodup {m : Int} {left lot lot' : List Int} {at' : Nat} (h : GrowR m left lot at' lot') (hl : left.Nodup) : lot.Nodup → lot'.Nodup := by
  induction h with
  | done _ => exact fun h => h
  | @step lot lot' at' e0 he hg ih =>
    intro h0
    refine ih (List.nodup_append.mpr ⟨h0, hl.filter _, fun a ha b hb e => ?_⟩)
    subst e
    have := (List.mem_filter.mp hb).2
    rw [Bool.and_eq_true] at this
    simp [ha] at this
theorem vlu_inj {n i j : Nat} (h : vlu n i = vlu n j) : i = j := by unfold vlu at h; omega
theorem heart_vlu {m : Int} {n K : Nat} (G : Grf m n K) {x : Int} : x ∈ heart0 m ↔ ∃ i, i < n ∧ x = vlu n i := by
  unfold heart0
  rw [evens_mem, G.lo, G.mn]
  unfold vlu
  constructor
  · rintro ⟨h1, h2, h3⟩
    exact ⟨((x + n) / 2).toNat, by omega, by omega⟩
  · rintro ⟨i, hi, rfl⟩
    omega
theorem heart_nodup (m : Int) : (heart0 m).Nodup := (evens_sorted _ _).imp fun h => by omega
/-- all that a way leads to from x is in the lot of x -/
theorem grow_way {m : Int} {n K : Nat} (G : Grf m n K) {left lot : List Int} {b i : Nat} (hg : GrowR m left [vlu n b] 0 lot) (hw : Way n K b i) (hl : ∀ j, Way n K b j → vlu n j ∈ left) : vlu n i ∈ lot := by
  have hc := grow_closed hg (fun i hi => by omega)
  induction hw with
  | refl hb => exact grow_has hg _ List.mem_cons_self
  | @step j k hw hk ha ih =>
    refine hc _ ih _ (hl k (hw.step hk ha)) ?_
    rw [step_adj G hk hw.lt]
    exact adj_symm ha
theorem heart_cons {m : Int} {n K : Nat} (G : Grf m n K) : ∃ rest, heart0 m = vlu n 0 :: rest := by
  have n1 := G.n1
  refine ⟨(evens (hLow m) (hMany m).toNat).tail, ?_⟩
  unfold heart0
  rw [G.lo, G.mn]
  obtain ⟨n', rfl⟩ : ∃ n', n = n' + 1 := ⟨n - 1, by omega⟩
  rw [show ((n' + 1 : Nat) : Int).toNat = n' + 1 by omega]
  unfold evens
  rw [List.range_succ_eq_map]
  rfl
theorem lots_one {m : Int} {n K : Nat} (G : Grf m n K) (h : okG n K = true) (ht : twoB n K = false) {ls : List (List Int)} (hL : LotsR m (heart0 m) ls) : ∃ s, ls = [s] ∧ s.length = n := by
  obtain ⟨rest, e⟩ := heart_cons G
  have hnd := heart_nodup m
  have hmem : ∀ x, x ∈ heart0 m ↔ ∃ i, i < n ∧ x = vlu n i := fun x => heart_vlu G
  have hlen : (heart0 m).length = n := by
    unfold heart0
    rw [evens_len, G.mn]
    omega
  rw [e] at hL hnd hmem hlen
  cases hL with
  | @cons x left lot srt ls hg hp hs hr =>
    have hall : ∀ i, i < n → vlu n i ∈ lot := fun i hi => by
      have hw := way_all h hi
      have e0 : bas n K i = 0 := by unfold bas; rw [if_neg (by rw [ht]; decide)]
      rw [e0] at hw
      exact grow_way G hg hw fun j hj => (hmem _).mpr ⟨j, hj.lt, rfl⟩
    have hsub : ∀ y ∈ lot, y ∈ vlu n 0 :: rest := grow_prop hg (fun y => y ∈ vlu n 0 :: rest) (fun _ _ _ hy _ => hy) (fun y hy => by simp at hy; subst hy; exact List.mem_cons_self)
    have hnl : lot.Nodup := grow_nodup hg hnd (by simp)
    have hpl : lot.Perm (vlu n 0 :: rest) := (List.perm_ext_iff_of_nodup hnl hnd).mpr fun y => ⟨hsub y, fun hy => by
      obtain ⟨i, hi, rfl⟩ := (hmem y).mp hy
      exact hall i hi⟩
    have hempty : (vlu n 0 :: rest).filter (fun y => !(lot.contains y)) = [] := by
      rw [List.filter_eq_nil_iff]
      intro y hy
      have := hpl.mem_iff.mpr hy
      simp [this]
    rw [hempty] at hr
    cases hr
    exact ⟨srt, rfl, by rw [hp.length_eq, hpl.length_eq, hlen]⟩
theorem step_parity {m : Int} {n K i j : Nat} (G : Grf m n K) (ht : twoB n K = true) (hi : i < n) (hj : j < n) (h : stepP m (vlu n j) (vlu n i) = true) : i % 2 = j % 2 := by
  rw [step_adj G hi hj, adjB_parts] at h
  unfold twoB at ht
  rw [Bool.and_eq_true, Nat.beq_eq, Nat.beq_eq] at ht
  rcases (by omega : (i + j) % 2 = 0 ∨ (i + j) % 2 = 1) with r | r
  · omega
  · exfalso
    have d1 : 2 ∣ n - i - j := by omega
    have d2 : 2 ∣ K + j * (n - j) := by
      refine Nat.dvd_add (by omega) ?_
      rcases (by omega : j % 2 = 0 ∨ (n - j) % 2 = 0) with r2 | r2
      · exact Nat.dvd_mul_right_of_dvd (Nat.dvd_of_mod_eq_zero r2) _
      · exact Nat.dvd_mul_left_of_dvd (Nat.dvd_of_mod_eq_zero r2) _
    have := Nat.dvd_gcd d1 d2
    rw [h.2] at this
    omega
theorem way_par {n K i j : Nat} (ht : twoB n K = true) {m : Int} (G : Grf m n K) (hw : Way n K i j) : i % 2 = j % 2 := by
  induction hw with
  | refl _ => rfl
  | @step j k hw hk ha ih =>
    rw [ih]
    refine (step_parity G ht hk hw.lt ?_).symm
    rw [step_adj G hk hw.lt]
    exact adj_symm ha
/-- the places of one rest -/
def Par (n r : Nat) (y : Int) : Prop := ∃ i, i < n ∧ i % 2 = r ∧ y = vlu n i
theorem lots_two {m : Int} {n K : Nat} (G : Grf m n K) (h : okG n K = true) (ht : twoB n K = true) (n3 : 3 ≤ n) {ls : List (List Int)} (hL : LotsR m (heart0 m) ls) :
    ∃ s1 s2, ls = [s1, s2] ∧ (∀ y ∈ s1, Par n 0 y) ∧ (∀ y ∈ s2, Par n 1 y) ∧ s1 ≠ [] ∧ s2 ≠ [] := by
  obtain ⟨rest, e⟩ := heart_cons G
  have hnd := heart_nodup m
  have hmem : ∀ x, x ∈ heart0 m ↔ ∃ i, i < n ∧ x = vlu n i := fun x => heart_vlu G
  rw [e] at hL hnd hmem
  have hpar : ∀ {left : List Int} (r : Nat), (∀ y ∈ left, ∃ i, i < n ∧ y = vlu n i) → ∀ e y, Par n r e → y ∈ left → stepP m e y = true → Par n r y := by
    rintro left r hl _ y ⟨j, hj, hr, rfl⟩ hy hs
    obtain ⟨i, hi, rfl⟩ := hl y hy
    exact ⟨i, hi, by rw [step_parity G ht hi hj hs]; exact hr, rfl⟩
  cases hL with
  | @cons x left lot srt ls hg hp hs hr =>
    have hall : ∀ i, i < n → i % 2 = 0 → vlu n i ∈ lot := fun i hi hi2 => by
      have hw := way_all h hi
      have e0 : bas n K i = 0 := by unfold bas; rw [if_pos ht, hi2]
      rw [e0] at hw
      exact grow_way G hg hw fun j hj => (hmem _).mpr ⟨j, hj.lt, rfl⟩
    have hP : ∀ y ∈ lot, Par n 0 y := grow_prop hg (Par n 0) (hpar 0 fun y hy => (hmem y).mp hy) (fun y hy => by simp at hy; subst hy; exact ⟨0, by omega, rfl, rfl⟩)
    -- what is left
    have hleft : ∀ y, y ∈ (vlu n 0 :: rest).filter (fun y => !(lot.contains y)) ↔ Par n 1 y := by
      intro y
      rw [List.mem_filter]
      constructor
      · rintro ⟨hy, hc⟩
        obtain ⟨i, hi, rfl⟩ := (hmem y).mp hy
        refine ⟨i, hi, ?_, rfl⟩
        rcases (by omega : i % 2 = 0 ∨ i % 2 = 1) with r | r
        · have := hall i hi r
          simp [this] at hc
        · exact r
      · rintro ⟨i, hi, hi2, rfl⟩
        refine ⟨(hmem _).mpr ⟨i, hi, rfl⟩, ?_⟩
        have : vlu n i ∉ lot := fun hin => by
          obtain ⟨j, hj, hj2, ej⟩ := hP _ hin
          have := vlu_inj ej
          omega
        simp [this]
    have hsrt0 : srt ≠ [] := fun z => by
      have := grow_has hg _ List.mem_cons_self
      rw [z] at hp
      rw [List.nil_perm.mp hp] at this
      cases this
    have hs0 : ∀ y ∈ srt, Par n 0 y := fun y hy => hP y (hp.mem_iff.mp hy)
    have hnd2 : ((vlu n 0 :: rest).filter (fun y => !(lot.contains y))).Nodup := hnd.filter _
    have hpw : ((vlu n 0 :: rest).filter (fun y => !(lot.contains y))).Pairwise (· < ·) := by
      rw [← e]
      exact (evens_sorted _ _).filter _
    generalize (vlu n 0 :: rest).filter (fun y => !(lot.contains y)) = L2 at *
    have h1in : vlu n 1 ∈ L2 := (hleft _).mpr ⟨1, by omega, rfl, rfl⟩
    cases hr with
    | nil => cases h1in
    | @cons x2 left2 lot2 srt2 ls2 hg2 hp2 hs2 hr2 =>
      have hx2 : x2 = vlu n 1 := by
        obtain ⟨i, hi, hi2, ei⟩ := (hleft x2).mp List.mem_cons_self
        rcases List.mem_cons.mp h1in with r | r
        · exact r.symm
        · have := (List.pairwise_cons.mp hpw).1 _ r
          rw [ei] at this
          unfold vlu at this
          omega
      subst hx2
      have hall2 : ∀ i, i < n → i % 2 = 1 → vlu n i ∈ lot2 := fun i hi hi2 => by
        have hw := way_all h hi
        have e0 : bas n K i = 1 := by unfold bas; rw [if_pos ht, hi2]
        rw [e0] at hw
        refine grow_way G hg2 hw fun j hj => (hleft _).mpr ⟨j, hj.lt, ?_, rfl⟩
        have := way_par ht G hj
        omega
      have hP2 : ∀ y ∈ lot2, Par n 1 y := grow_prop hg2 (Par n 1) (hpar 1 fun y hy => by
        obtain ⟨i, hi, _, ei⟩ := (hleft y).mp hy
        exact ⟨i, hi, ei⟩) (fun y hy => by simp at hy; subst hy; exact ⟨1, by omega, rfl, rfl⟩)
      have hempty : (vlu n 1 :: left2).filter (fun y => !(lot2.contains y)) = [] := by
        rw [List.filter_eq_nil_iff]
        intro y hy
        obtain ⟨i, hi, hi2, rfl⟩ := (hleft y).mp hy
        have := hall2 i hi hi2
        simp [this]
      rw [hempty] at hr2
      cases hr2
      refine ⟨srt, srt2, rfl, hs0, fun y hy => hP2 y (hp2.mem_iff.mp hy), hsrt0, fun z => ?_⟩
      have := grow_has hg2 _ List.mem_cons_self
      rw [z] at hp2
      rw [List.nil_perm.mp hp2] at this
      cases this
/-! ### single measures -/
def growF (m : Int) (left : List Int) : Nat → List Int → Nat → Option (List Int)
  | 0, _, _ => none
  | f + 1, lot, at' => match lot[at']? with
    | none => some lot
    | some e => growF m left f (lot ++ newIn m left lot e) (at' + 1)
theorem growF_eq {m : Int} {left lot lot' : List Int} {at' : Nat} (h : GrowR m left lot at' lot') : ∀ f lot2, growF m left f lot at' = some lot2 → lot2 = lot' := by
  induction h with
  | @done lot at' hl =>
    intro f lot2 e
    cases f with
    | zero => cases e
    | succ f =>
      unfold growF at e
      rw [List.getElem?_eq_none hl] at e
      exact (Option.some.inj e).symm
  | @step lot lot' at' e0 he hg ih =>
    intro f lot2 e
    cases f with
    | zero => cases e
    | succ f =>
      unfold growF at e
      rw [he] at e
      exact ih f lot2 e
def lotsF (m : Int) : Nat → List Int → Option (List (List Int))
  | 0, _ => none
  | _ + 1, [] => some []
  | f + 1, x :: left => match growF m (x :: left) 300 [x] 0 with
    | none => none
    | some lot => match lotsF m f ((x :: left).filter fun y => !(lot.contains y)) with
      | none => none
      | some r => some (lot :: r)
theorem lotsF_eq {m : Int} {left : List Int} {ls : List (List Int)} (h : LotsR m left ls) : ∀ f L, lotsF m f left = some L → ls.length = L.length ∧ ∀ s ∈ ls, ∃ l ∈ L, s.Perm l := by
  induction h with
  | nil =>
    intro f L e
    cases f with
    | zero => cases e
    | succ f =>
      unfold lotsF at e
      cases e
      exact ⟨rfl, fun s hs => by cases hs⟩
  | @cons x left lot srt ls hg hp hs hr ih =>
    intro f L e
    cases f with
    | zero => cases e
    | succ f =>
      unfold lotsF at e
      split at e
      · cases e
      · rename_i lot2 e2
        obtain rfl := growF_eq hg _ _ e2
        split at e
        · cases e
        · rename_i r e3
          cases e
          obtain ⟨h1, h2⟩ := ih f r e3
          refine ⟨by simp [h1], fun s hs' => ?_⟩
          rcases List.mem_cons.mp hs' with rfl | k
          · exact ⟨_, List.mem_cons_self, hp⟩
          · obtain ⟨l, hl, hpl⟩ := h2 s k
            exact ⟨l, List.mem_cons_of_mem _ hl, hpl⟩
/-- what the law asks of the lots -/
def LotsOK (m : Int) (ls : List (List Int)) : Prop := ls.length = (if m % 8 = 1 then 2 else 1) ∧ (m % 8 = 1 → ∀ s ∈ ls, s ≠ [] ∧ ∃ r, ∀ y ∈ s, y % 4 = r)
theorem two_iff {m : Int} {n K : Nat} (G : Grf m n K) : twoB n K = true ↔ m % 8 = 1 := by
  unfold twoB
  rw [Bool.and_eq_true, Nat.beq_eq, Nat.beq_eq, G.em]
  rcases (by omega : n % 2 = 0 ∨ n % 2 = 1) with r | r
  · obtain ⟨k, rfl⟩ : ∃ k, n = 2 * k := ⟨n / 2, by omega⟩
    rw [show ((2 * k : Nat) : Int) * ((2 * k : Nat) : Int) = 2 * (2 * (k * k : Int)) by push_cast; grind]
    omega
  · obtain ⟨k, rfl⟩ : ∃ k, n = 2 * k + 1 := ⟨n / 2, by omega⟩
    have e : ((2 * k + 1 : Nat) : Int) * ((2 * k + 1 : Nat) : Int) = 4 * ((k : Int) * k + k) + 1 := by push_cast; grind
    have p : ((k : Int) * k + k) % 2 = 0 := by
      rcases (by omega : k % 2 = 0 ∨ k % 2 = 1) with t | t
      · obtain ⟨j, rfl⟩ : ∃ j, k = 2 * j := ⟨k / 2, by omega⟩
        rw [show ((2 * j : Nat) : Int) * ((2 * j : Nat) : Int) + ((2 * j : Nat) : Int) = 2 * (2 * ((j : Int) * j) + j) by push_cast; grind]; omega
      · obtain ⟨j, rfl⟩ : ∃ j, k = 2 * j + 1 := ⟨k / 2, by omega⟩
        rw [show ((2 * j + 1 : Nat) : Int) * ((2 * j + 1 : Nat) : Int) + ((2 * j + 1 : Nat) : Int) = 2 * (2 * ((j : Int) * j) + 3 * j + 1) by push_cast; grind]; omega
    rw [e]
    omega
theorem lots_12 {ls : List (List Int)} (hL : LotsR 12 (heart0 12) ls) : LotsOK 12 ls := by
  obtain ⟨h1, _⟩ := lotsF_eq hL 10 [[-2, 0]] (by decide +kernel)
  exact ⟨h1, fun h => by omega⟩
theorem lots_33 {ls : List (List Int)} (hL : LotsR 33 (heart0 33) ls) : LotsOK 33 ls := by
  obtain ⟨h1, h2⟩ := lotsF_eq hL 10 [[-5, -1, 3], [-3, 1]] (by decide +kernel)
  refine ⟨h1, fun _ s hs => ?_⟩
  obtain ⟨l, hl, hp⟩ := h2 s hs
  simp only [List.mem_cons, List.not_mem_nil, or_false] at hl
  rcases hl with rfl | rfl
  · exact ⟨fun z => by rw [z] at hp; exact absurd (List.nil_perm.mp hp) (by decide), 3, fun y hy => by
      have := hp.mem_iff.mp hy
      simp only [List.mem_cons, List.not_mem_nil, or_false] at this
      rcases this with rfl | rfl | rfl <;> decide⟩
  · exact ⟨fun z => by rw [z] at hp; exact absurd (List.nil_perm.mp hp) (by decide), 1, fun y hy => by
      have := hp.mem_iff.mp hy
      simp only [List.mem_cons, List.not_mem_nil, or_false] at this
      rcases this with rfl | rfl <;> decide⟩
theorem lots_ok {m : Int} (hm : isMeas (.int m) = true) (hn : hMany m ≤ 102) (hne : m ≠ 9 ∧ m ≠ 49 ∧ m ≠ 73 ∧ m ≠ 121 ∧ m ≠ 169) {ls : List (List Int)} (hL : LotsR m (heart0 m) ls) : LotsOK m ls := by
  obtain ⟨n, K, G⟩ := grf_of hm
  have hmn := G.mn
  have em := G.em
  have n1 := G.n1
  have k1 := G.k1
  have kn := G.kn
  by_cases hx : excG n K = true
  · unfold excG at hx
    simp only [Bool.or_eq_true, Bool.and_eq_true, Nat.beq_eq] at hx
    rcases hx with (((⟨rfl, rfl⟩ | ⟨rfl, rfl | rfl⟩) | ⟨rfl, rfl⟩) | ⟨rfl, rfl⟩) | ⟨rfl, rfl⟩
    · have : m = 12 := by rw [em]; rfl
      subst this
      exact lots_12 hL
    · have : m = 33 := by rw [em]; rfl
      subst this
      exact lots_33 hL
    · exact absurd (by rw [em]; rfl) hne.2.1
    · exact absurd (by rw [em]; rfl) hne.2.2.1
    · exact absurd (by rw [em]; rfl) hne.2.2.2.1
    · exact absurd (by rw [em]; rfl) hne.2.2.2.2
  · have ho := ok_all n1 (by omega) k1 kn (by simpa using hx)
    cases ht : twoB n K with
    | false =>
      obtain ⟨s, rfl, _⟩ := lots_one G ho ht hL
      have h8 : ¬ m % 8 = 1 := fun h => by rw [(two_iff G).mpr h] at ht; cases ht
      exact ⟨by rw [if_neg h8]; rfl, fun h => absurd h h8⟩
    | true =>
      have h8 := (two_iff G).mp ht
      have n3 : 3 ≤ n := by
        unfold twoB at ht
        rw [Bool.and_eq_true, Nat.beq_eq, Nat.beq_eq] at ht
        rcases (by omega : 3 ≤ n ∨ n = 1 ∨ n = 2) with r | r | r
        · exact r
        · subst r
          have : K = 2 := by omega
          subst this
          exact absurd (by rw [em]; rfl) hne.1
        · omega
      obtain ⟨s1, s2, rfl, p1, p2, q1, q2⟩ := lots_two G ho ht n3 hL
      refine ⟨by rw [if_pos h8]; rfl, fun _ s hs => ?_⟩
      simp only [List.mem_cons, List.not_mem_nil, or_false] at hs
      rcases hs with rfl | rfl
      · refine ⟨q1, (-(n : Int)) % 4, fun y hy => ?_⟩
        obtain ⟨i, _, hi2, rfl⟩ := p1 y hy
        unfold vlu
        omega
      · refine ⟨q2, (-(n : Int) + 2) % 4, fun y hy => ?_⟩
        obtain ⟨i, _, hi2, rfl⟩ := p2 y hy
        unfold vlu
        omega
/-- how many lots, single measures -/
theorem lots_len {m : Int} {ls : List (List Int)} (L : List (List Int)) (hL : LotsR m (heart0 m) ls) (h : lotsF m 10 (heart0 m) = some L) : ls.length = L.length := (lotsF_eq hL 10 L h).1
theorem len_all {ls : List (List Int)} : (LotsR 5 (heart0 5) ls → ls.length = 1) ∧ (LotsR 8 (heart0 8) ls → ls.length = 1) ∧ (LotsR 9 (heart0 9) ls → ls.length = 1) ∧ (LotsR 17 (heart0 17) ls → ls.length = 2) ∧
    (LotsR 49 (heart0 49) ls → ls.length = 3) ∧ (LotsR 73 (heart0 73) ls → ls.length = 3) ∧ (LotsR 121 (heart0 121) ls → ls.length = 3) ∧ (LotsR 169 (heart0 169) ls → ls.length = 3) := by
  have key : ∀ (m : Int) (k : Nat), (lotsF m 10 (heart0 m)).map List.length = some k → LotsR m (heart0 m) ls → ls.length = k := fun m k h hL => by
    obtain ⟨L, e, e2⟩ := Option.map_eq_some_iff.mp h
    rw [← e2]
    exact lots_len L hL e
  exact ⟨key 5 1 (by decide +kernel), key 8 1 (by decide +kernel), key 9 1 (by decide +kernel), key 17 2 (by decide +kernel), key 49 3 (by decide +kernel), key 73 3 (by decide +kernel), key 121 3 (by decide +kernel), key 169 3 (by decide +kernel)⟩
theorem lots_10404 {ls : List (List Int)} (hL : LotsR 10404 (heart0 10404) ls) : ∃ s, ls = [s] ∧ s.length = 100 := by
  obtain ⟨n, K, G⟩ := grf_of (m := 10404) (by decide)
  have h1 : hMany 10404 = 100 := by decide +kernel
  have hn : n = 100 := by have := G.mn; omega
  subst hn
  have hK : K = 101 := by have := G.em; omega
  subst hK
  exact lots_one G (ok_all (by decide) (by decide) (by decide) (by decide) (by decide)) (by decide) hL
end DL
namespace DL
open PySem PySem.Spec PyProof.Rows L2
local macro_rules | `(tactic| walk_at "rd") => `(tactic| simp only [startD, List.map, List.replicate, List.length_cons, List.length_nil, List.append_eq, List.append_nil, List.nil_append, List.cons_append, Nat.reduceSub, Nat.reduceAdd, List.getElem?_cons_zero, List.getElem?_cons_succ, List.set_cons_zero, List.set_cons_succ,
  dC, dVar, dOp, dTru, gTru, tru, dChain, dAnd, dOr, dNot, dAndV, dOrV, dNotV, dIf, dNeg, gNeg, dNil, dCons, dTup, dLst, dOwn, gIx, rBin, gAdd, gCmpI, dCall, dCallK, dSeq, dNext, dDrop, dRet, dRetN, dIfS, dName, dGNil, dGCons, dGTup, dSub, gSetL, dAsg, dPar, dPar3, dAug, gIpI, dSeqI, gSeqI, dRngI, gRng1, gRng2, dCB, gAbs, gInt, gMax, gMin, gGcd, gLen, lenD, gIsi, tyM, tyD, dBits, gBits, dMet, gAppend, dPart, dNoPart, dSl, gSl_tup, gSl_lst, cut_1, dEnds, gIs, isB, dNever, dCallX, dRaise, dTry, dFld, dCallV, gLRng, gFrz, dFrz, dFor, dLc, wipeD, dYes,
  sizeLine_eq, Nat.reduceLeDiff, gEq_int, gNe_int, gEq_strs, gNe_strs, gIn_two, gRepr_bl, rs_lst, rs_tup, rs_scr, rs_int, atI_0, atI_1, atI_2, atI_3, atI_4, atI_5, ixN_30, ixN_31, ixN_32, gEq_bl, gNe_bl, decide_eq_true_eq, beq_iff_eq, Bool.not_eq_true', beq_eq_false_iff_ne, decide_eq_false_iff_not, Bool.not_true, Bool.not_false, if_true, if_false, Bool.false_eq_true, ite_true, ite_false, true_and, and_true, ne_eq, Bool.bne_false, Bool.bne_true, reduceCtorEq])
local macro_rules | `(tactic| walk_at "rh") => `(tactic| simp only [*, startD, List.map, List.replicate, List.length_cons, List.length_nil, List.append_eq, List.append_nil, List.nil_append, List.cons_append, Nat.reduceSub, Nat.reduceAdd, List.getElem?_cons_zero, List.getElem?_cons_succ, List.set_cons_zero, List.set_cons_succ,
  dC, dVar, dOp, dTru, gTru, tru, dChain, dAnd, dOr, dNot, dAndV, dOrV, dNotV, dIf, dNeg, gNeg, dNil, dCons, dTup, dLst, dOwn, gIx, rBin, gAdd, gCmpI, dCall, dCallK, dSeq, dNext, dDrop, dRet, dRetN, dIfS, dName, dGNil, dGCons, dGTup, dSub, gSetL, dAsg, dPar, dPar3, dAug, gIpI, dSeqI, gSeqI, dRngI, gRng1, gRng2, dCB, gAbs, gInt, gMax, gMin, gGcd, gLen, lenD, gIsi, tyM, tyD, dBits, gBits, dMet, gAppend, dPart, dNoPart, dSl, gSl_tup, gSl_lst, cut_1, dEnds, gIs, isB, dNever, dCallX, dRaise, dTry, dFld, dCallV, gLRng, gFrz, dFrz, dFor, dLc, wipeD, dYes,
  sizeLine_eq, Nat.reduceLeDiff, gEq_int, gNe_int, gEq_strs, gNe_strs, gIn_two, gRepr_bl, rs_lst, rs_tup, rs_scr, rs_int, atI_0, atI_1, atI_2, atI_3, atI_4, atI_5, ixN_30, ixN_31, ixN_32, gEq_bl, gNe_bl, decide_eq_true_eq, beq_iff_eq, Bool.not_eq_true', beq_eq_false_iff_ne, decide_eq_false_iff_not, Bool.not_true, Bool.not_false, if_true, if_false, Bool.false_eq_true, ite_true, ite_false, true_and, and_true, ne_eq, Bool.bne_false, Bool.bne_true, reduceCtorEq])
local macro_rules | `(tactic| walk_at "kb") => `(tactic| simp only [kb_NoneType_list, kb_bool_list, kb_int_list, kb_str_list, kb_tuple_list, kb_list_list, kb_dict_list, kb_NoneType_int, kb_bool_int, kb_int_int, kb_str_int, kb_tuple_int, kb_list_int, kb_dict_int, kb_NoneType_bool, kb_bool_bool, kb_int_bool, kb_str_bool, kb_tuple_bool, kb_list_bool, kb_dict_bool, kb_NoneType_tuple, kb_bool_tuple, kb_int_tuple, kb_str_tuple, kb_tuple_tuple, kb_list_tuple, kb_dict_tuple, if_true, if_false, Bool.false_eq_true, ite_true, ite_false, Bool.not_true, Bool.not_false])
/-- a comprehension, item by item -/
theorem lcW_idx {ds ys : List D} {C : Mem → Prop} {g : DTG} {tt : DTT} {te : DTE} {r : Env} {M : Mem} {Q : DQ} (hlen : ds.length = ys.length) (hC : C M) (hl : ds.length ≤ sizeLine)
    (step : ∀ (i : Nat) (d y : D), ds[i]? = some d → ys[i]? = some y → ∀ (Y : D → Mem → Prop) (N : Mem → Prop), Y y M → g d r M fun r2 M2 => tt r2 M2 fun b M3 => if b = true then te r2 M3 Y else N M3)
    (q : Q (.lst ys) M) : lcW false ds C g tt te r M Q := by
  refine ⟨fun i acc M' => M' = M ∧ acc = ys.take i ∧ i ≤ ds.length, ⟨rfl, rfl, Nat.zero_le _⟩, ?_⟩
  rintro i acc M' ⟨rfl, rfl, hi⟩
  refine ⟨hC, fun hd => ?_, fun d ed => ?_⟩
  · rw [if_neg Bool.false_ne_true]
    rw [List.take_of_length_le (by omega)]; exact q
  · have hlt : i < ds.length := (List.getElem?_eq_some_iff.mp ed).1
    have ey : ys[i]? = some ys[i] := List.getElem?_eq_getElem (by omega)
    have ht : ys.take (i + 1) = ys.take i ++ [ys[i]] := by rw [List.take_add_one, ey]; rfl
    refine step i d _ ed ey _ _ ⟨?_, rfl, ht.symm, hlt⟩
    rw [List.length_take]; omega
/-! ### root numbers as what they stand for: d stands for (X + Y times the root) / B -/
structure RV (m : Int) (nx nb : Nat) (d : D) (X Y B : Int) : Prop where
  eq : d = rootN m X Y B
  b0 : B ≠ 0
  bx : Bi nx X
  bY : Bi nx Y
  bB : Bi nb B
/-- the triple itself -/
structure RT (m : Int) (nx nb : Nat) (d : D) (X Y B t1 t2 t3 k : Int) : Prop where
  eq : d = T3 t1 t2 t3
  nf : NF m t1 t2 t3
  k0 : k ≠ 0
  e1 : rnX m X Y = k * t1
  e2 : rnY m Y = k * t2
  e3 : B = k * t3
  sz : Bi (nx + 103) t1 ∧ Bi nx t2 ∧ Bi nb t3
theorem Bi.up {n k : Nat} {i : Int} (h : Bi n i) (hk : n ≤ k) : Bi k i := h.mono hk
theorem rn_eq {m X Y B X' Y' B' : Int} (b0 : B ≠ 0) (b0' : B' ≠ 0) (h1 : X * B' = X' * B) (h2 : Y * B' = Y' * B) : rootN m X Y B = rootN m X' Y' B' := by
  rw [rootN_nf, rootN_nf]
  refine nf_eq b0 b0' ?_ ?_
  · unfold rnX
    split
    · have : (X + Y * isq m) * B' = X * B' + Y * B' * isq m := by grind
      rw [this, h1, h2]; grind
    · exact h1
  · unfold rnY
    split
    · rw [Int.zero_mul, Int.zero_mul]
    · exact h2
/-! ### the calls -/
end DL
namespace DL
open PySem PySem.Spec PyProof.Rows L2
local macro_rules | `(tactic| walk_at "rd") => `(tactic| simp only [startD, List.map, List.replicate, List.length_cons, List.length_nil, List.append_eq, List.append_nil, List.nil_append, List.cons_append, Nat.reduceSub, Nat.reduceAdd, List.getElem?_cons_zero, List.getElem?_cons_succ, List.set_cons_zero, List.set_cons_succ,
  dC, dVar, dOp, dTru, gTru, tru, dChain, dAnd, dOr, dNot, dAndV, dOrV, dNotV, dIf, dNeg, gNeg, dNil, dCons, dTup, dLst, dOwn, gIx, rBin, gAdd, gCmpI, dCall, dCallK, dSeq, dNext, dDrop, dRet, dRetN, dIfS, dName, dGNil, dGCons, dGTup, dSub, gSetL, dAsg, dPar, dPar3, dAug, gIpI, dSeqI, gSeqI, dRngI, gRng1, gRng2, dCB, gAbs, gInt, gMax, gMin, gGcd, gLen, lenD, gIsi, tyM, tyD, dBits, gBits, dMet, gAppend, dPart, dNoPart, dSl, gSl_tup, gSl_lst, cut_1, dEnds, gIs, isB, dNever, dCallX, dRaise, dTry, dFld, dCallV, gLRng, gFrz, dFrz, dFor, dLc, wipeD, dYes,
  sizeLine_eq, Nat.reduceLeDiff, gEq_int, gNe_int, gEq_strs, gNe_strs, gIn_two, gRepr_bl, rs_lst, rs_tup, rs_scr, rs_int, atI_0, atI_1, atI_2, atI_3, atI_4, atI_5, ixN_30, ixN_31, ixN_32, gEq_bl, gNe_bl, decide_eq_true_eq, beq_iff_eq, Bool.not_eq_true', beq_eq_false_iff_ne, decide_eq_false_iff_not, Bool.not_true, Bool.not_false, if_true, if_false, Bool.false_eq_true, ite_true, ite_false, true_and, and_true, ne_eq, Bool.bne_false, Bool.bne_true, reduceCtorEq])
local macro_rules | `(tactic| walk_at "rh") => `(tactic| simp only [*, startD, List.map, List.replicate, List.length_cons, List.length_nil, List.append_eq, List.append_nil, List.nil_append, List.cons_append, Nat.reduceSub, Nat.reduceAdd, List.getElem?_cons_zero, List.getElem?_cons_succ, List.set_cons_zero, List.set_cons_succ,
  dC, dVar, dOp, dTru, gTru, tru, dChain, dAnd, dOr, dNot, dAndV, dOrV, dNotV, dIf, dNeg, gNeg, dNil, dCons, dTup, dLst, dOwn, gIx, rBin, gAdd, gCmpI, dCall, dCallK, dSeq, dNext, dDrop, dRet, dRetN, dIfS, dName, dGNil, dGCons, dGTup, dSub, gSetL, dAsg, dPar, dPar3, dAug, gIpI, dSeqI, gSeqI, dRngI, gRng1, gRng2, dCB, gAbs, gInt, gMax, gMin, gGcd, gLen, lenD, gIsi, tyM, tyD, dBits, gBits, dMet, gAppend, dPart, dNoPart, dSl, gSl_tup, gSl_lst, cut_1, dEnds, gIs, isB, dNever, dCallX, dRaise, dTry, dFld, dCallV, gLRng, gFrz, dFrz, dFor, dLc, wipeD, dYes,
  sizeLine_eq, Nat.reduceLeDiff, gEq_int, gNe_int, gEq_strs, gNe_strs, gIn_two, gRepr_bl, rs_lst, rs_tup, rs_scr, rs_int, atI_0, atI_1, atI_2, atI_3, atI_4, atI_5, ixN_30, ixN_31, ixN_32, gEq_bl, gNe_bl, decide_eq_true_eq, beq_iff_eq, Bool.not_eq_true', beq_eq_false_iff_ne, decide_eq_false_iff_not, Bool.not_true, Bool.not_false, if_true, if_false, Bool.false_eq_true, ite_true, ite_false, true_and, and_true, ne_eq, Bool.bne_false, Bool.bne_true, reduceCtorEq])
local macro_rules | `(tactic| walk_at "kb") => `(tactic| simp only [kb_NoneType_list, kb_bool_list, kb_int_list, kb_str_list, kb_tuple_list, kb_list_list, kb_dict_list, kb_NoneType_int, kb_bool_int, kb_int_int, kb_str_int, kb_tuple_int, kb_list_int, kb_dict_int, kb_NoneType_bool, kb_bool_bool, kb_int_bool, kb_str_bool, kb_tuple_bool, kb_list_bool, kb_dict_bool, kb_NoneType_tuple, kb_bool_tuple, kb_int_tuple, kb_str_tuple, kb_tuple_tuple, kb_list_tuple, kb_dict_tuple, if_true, if_false, Bool.false_eq_true, ite_true, ite_false, Bool.not_true, Bool.not_false])
/-! RdGG: what the sheets' laws reckon with -/
theorem RV.same {m X Y B X' Y' B' : Int} {nx nb mx mb : Nat} {d d' : D} (h : RV m nx nb d X Y B) (h' : RV m mx mb d' X' Y' B') (h1 : X * B' = X' * B) (h2 : Y * B' = Y' * B) : d = d' := by
  rw [h.eq, h'.eq, rn_eq h.b0 h'.b0 h1 h2]
/-! ### the side told by the law -/
/-! ### the side of the square -/
/-- a cutting of items of up to 99 bits -/
structure CK (a b c e : Int) : Prop where
  cut : isCut a b c e = true
  ba : Bi 100 a
  bb : Bi 100 b
  bc : Bi 100 c
  be : Bi 100 e
  bm : Bi 200 (meas4 b c e)
  m0 : 0 ≤ meas4 b c e
/-! ### a drawn cutting -/
end DL
namespace DL
open PySem PySem.Spec PyProof.Rows L2
local macro_rules | `(tactic| walk_at "rd") => `(tactic| simp only [startD, List.map, List.replicate, List.length_cons, List.length_nil, List.append_eq, List.append_nil, List.nil_append, List.cons_append, Nat.reduceSub, Nat.reduceAdd, List.getElem?_cons_zero, List.getElem?_cons_succ, List.set_cons_zero, List.set_cons_succ,
  dC, dVar, dOp, dTru, gTru, tru, dChain, dAnd, dOr, dNot, dAndV, dOrV, dNotV, dIf, dNeg, gNeg, dNil, dCons, dTup, dLst, dOwn, gIx, rBin, gAdd, gCmpI, dCall, dCallK, dSeq, dNext, dDrop, dRet, dRetN, dIfS, dName, dGNil, dGCons, dGTup, dSub, gSetL, dAsg, dPar, dPar3, dAug, gIpI, dSeqI, gSeqI, dRngI, gRng1, gRng2, dCB, gAbs, gInt, gMax, gMin, gGcd, gLen, lenD, gIsi, tyM, tyD, dBits, gBits, dMet, gAppend, dPart, dNoPart, dSl, gSl_tup, gSl_lst, cut_1, dEnds, gIs, isB, dNever, dCallX, dRaise, dTry, dFld, dCallV, gLRng, gFrz, dFrz, dFor, dLc, wipeD, dYes,
  sizeLine_eq, Nat.reduceLeDiff, gEq_int, gNe_int, gEq_strs, gNe_strs, gIn_two, gRepr_bl, rs_lst, rs_tup, rs_scr, rs_int, atI_0, atI_1, atI_2, atI_3, atI_4, atI_5, ixN_30, ixN_31, ixN_32, gEq_bl, gNe_bl, decide_eq_true_eq, beq_iff_eq, Bool.not_eq_true', beq_eq_false_iff_ne, decide_eq_false_iff_not, Bool.not_true, Bool.not_false, if_true, if_false, Bool.false_eq_true, ite_true, ite_false, true_and, and_true, ne_eq, Bool.bne_false, Bool.bne_true, reduceCtorEq])
local macro_rules | `(tactic| walk_at "rh") => `(tactic| simp only [*, startD, List.map, List.replicate, List.length_cons, List.length_nil, List.append_eq, List.append_nil, List.nil_append, List.cons_append, Nat.reduceSub, Nat.reduceAdd, List.getElem?_cons_zero, List.getElem?_cons_succ, List.set_cons_zero, List.set_cons_succ,
  dC, dVar, dOp, dTru, gTru, tru, dChain, dAnd, dOr, dNot, dAndV, dOrV, dNotV, dIf, dNeg, gNeg, dNil, dCons, dTup, dLst, dOwn, gIx, rBin, gAdd, gCmpI, dCall, dCallK, dSeq, dNext, dDrop, dRet, dRetN, dIfS, dName, dGNil, dGCons, dGTup, dSub, gSetL, dAsg, dPar, dPar3, dAug, gIpI, dSeqI, gSeqI, dRngI, gRng1, gRng2, dCB, gAbs, gInt, gMax, gMin, gGcd, gLen, lenD, gIsi, tyM, tyD, dBits, gBits, dMet, gAppend, dPart, dNoPart, dSl, gSl_tup, gSl_lst, cut_1, dEnds, gIs, isB, dNever, dCallX, dRaise, dTry, dFld, dCallV, gLRng, gFrz, dFrz, dFor, dLc, wipeD, dYes,
  sizeLine_eq, Nat.reduceLeDiff, gEq_int, gNe_int, gEq_strs, gNe_strs, gIn_two, gRepr_bl, rs_lst, rs_tup, rs_scr, rs_int, atI_0, atI_1, atI_2, atI_3, atI_4, atI_5, ixN_30, ixN_31, ixN_32, gEq_bl, gNe_bl, decide_eq_true_eq, beq_iff_eq, Bool.not_eq_true', beq_eq_false_iff_ne, decide_eq_false_iff_not, Bool.not_true, Bool.not_false, if_true, if_false, Bool.false_eq_true, ite_true, ite_false, true_and, and_true, ne_eq, Bool.bne_false, Bool.bne_true, reduceCtorEq])
local macro_rules | `(tactic| walk_at "kb") => `(tactic| simp only [kb_NoneType_list, kb_bool_list, kb_int_list, kb_str_list, kb_tuple_list, kb_list_list, kb_dict_list, kb_NoneType_int, kb_bool_int, kb_int_int, kb_str_int, kb_tuple_int, kb_list_int, kb_dict_int, kb_NoneType_bool, kb_bool_bool, kb_int_bool, kb_str_bool, kb_tuple_bool, kb_list_bool, kb_dict_bool, kb_NoneType_tuple, kb_bool_tuple, kb_int_tuple, kb_str_tuple, kb_tuple_tuple, kb_list_tuple, kb_dict_tuple, if_true, if_false, Bool.false_eq_true, ite_true, ite_false, Bool.not_true, Bool.not_false])
/-! ### the outline -/
def cS (m e : Int) : D := rootN m e 1 2
/-! ### the law's own outline -/
theorem RV.up {m X Y B : Int} {nx nb mx mb : Nat} {d : D} (h : RV m nx nb d X Y B) (h1 : nx ≤ mx := by decide) (h2 : nb ≤ mb := by decide) : RV m mx mb d X Y B := ⟨h.eq, h.b0, h.bx.up h1, h.bY.up h1, h.bB.up h2⟩
theorem b0 : Bi 100 0 := Bi.of_abs 0 (by decide) (by decide)
/-! ### the area -/
/-! ### less than -/
/-! ### all ends are one -/
/-! ### one cutting's outline is right -/
structure Sh4 (d : D) : Prop where
  f : fine 10 d = true
  l : lit 400 d = true
  w : wt 400 d ≤ 40000
theorem Sh4.shown {d : D} (h : Sh4 d) (M : Mem) : ∃ z, shwnZ (resD M d) = some z := by
  rw [resD_fine M 10 d h.f]
  obtain ⟨z, hz⟩ := shw_of 400 10 h.f h.l (by have := h.w; omega)
  exact ⟨z, shwnZ_of hz⟩
theorem gNe_str_same {z : Str} {M : Mem} {Q : DQ} (q : Q (.bl false) M) : gNe (.str z) (.str z) M Q := by rw [gNe_strs, str_self]; exact q
/-! ### the law -/
end DL
namespace DL
open PySem PySem.Spec PyProof.Rows L2
local macro_rules | `(tactic| walk_at "rd") => `(tactic| simp only [startD, List.map, List.replicate, List.length_cons, List.length_nil, List.append_eq, List.append_nil, List.nil_append, List.cons_append, Nat.reduceSub, Nat.reduceAdd, List.getElem?_cons_zero, List.getElem?_cons_succ, List.set_cons_zero, List.set_cons_succ,
  dC, dVar, dOp, dTru, gTru, tru, dChain, dAnd, dOr, dNot, dAndV, dOrV, dNotV, dIf, dNeg, gNeg, dNil, dCons, dTup, dLst, dOwn, gIx, rBin, gAdd, gCmpI, dCall, dCallK, dSeq, dNext, dDrop, dRet, dRetN, dIfS, dName, dGNil, dGCons, dGTup, dSub, gSetL, dAsg, dPar, dPar3, dAug, gIpI, dSeqI, gSeqI, dRngI, gRng1, gRng2, dCB, gAbs, gInt, gMax, gMin, gGcd, gLen, lenD, gIsi, tyM, tyD, dBits, gBits, dMet, gAppend, dPart, dNoPart, dSl, gSl_tup, gSl_lst, cut_1, dEnds, gIs, isB, dNever, dCallX, dRaise, dTry, dFld, dCallV, gLRng, gFrz, dFrz, dFor, dLc, wipeD, dYes,
  sizeLine_eq, Nat.reduceLeDiff, gEq_int, gNe_int, gEq_strs, gNe_strs, gIn_two, gRepr_bl, rs_lst, rs_tup, rs_scr, rs_int, atI_0, atI_1, atI_2, atI_3, atI_4, atI_5, ixN_30, ixN_31, ixN_32, gEq_bl, gNe_bl, decide_eq_true_eq, beq_iff_eq, Bool.not_eq_true', beq_eq_false_iff_ne, decide_eq_false_iff_not, Bool.not_true, Bool.not_false, if_true, if_false, Bool.false_eq_true, ite_true, ite_false, true_and, and_true, ne_eq, Bool.bne_false, Bool.bne_true, reduceCtorEq])
local macro_rules | `(tactic| walk_at "rh") => `(tactic| simp only [*, startD, List.map, List.replicate, List.length_cons, List.length_nil, List.append_eq, List.append_nil, List.nil_append, List.cons_append, Nat.reduceSub, Nat.reduceAdd, List.getElem?_cons_zero, List.getElem?_cons_succ, List.set_cons_zero, List.set_cons_succ,
  dC, dVar, dOp, dTru, gTru, tru, dChain, dAnd, dOr, dNot, dAndV, dOrV, dNotV, dIf, dNeg, gNeg, dNil, dCons, dTup, dLst, dOwn, gIx, rBin, gAdd, gCmpI, dCall, dCallK, dSeq, dNext, dDrop, dRet, dRetN, dIfS, dName, dGNil, dGCons, dGTup, dSub, gSetL, dAsg, dPar, dPar3, dAug, gIpI, dSeqI, gSeqI, dRngI, gRng1, gRng2, dCB, gAbs, gInt, gMax, gMin, gGcd, gLen, lenD, gIsi, tyM, tyD, dBits, gBits, dMet, gAppend, dPart, dNoPart, dSl, gSl_tup, gSl_lst, cut_1, dEnds, gIs, isB, dNever, dCallX, dRaise, dTry, dFld, dCallV, gLRng, gFrz, dFrz, dFor, dLc, wipeD, dYes,
  sizeLine_eq, Nat.reduceLeDiff, gEq_int, gNe_int, gEq_strs, gNe_strs, gIn_two, gRepr_bl, rs_lst, rs_tup, rs_scr, rs_int, atI_0, atI_1, atI_2, atI_3, atI_4, atI_5, ixN_30, ixN_31, ixN_32, gEq_bl, gNe_bl, decide_eq_true_eq, beq_iff_eq, Bool.not_eq_true', beq_eq_false_iff_ne, decide_eq_false_iff_not, Bool.not_true, Bool.not_false, if_true, if_false, Bool.false_eq_true, ite_true, ite_false, true_and, and_true, ne_eq, Bool.bne_false, Bool.bne_true, reduceCtorEq])
local macro_rules | `(tactic| walk_at "kb") => `(tactic| simp only [kb_NoneType_list, kb_bool_list, kb_int_list, kb_str_list, kb_tuple_list, kb_list_list, kb_dict_list, kb_NoneType_int, kb_bool_int, kb_int_int, kb_str_int, kb_tuple_int, kb_list_int, kb_dict_int, kb_NoneType_bool, kb_bool_bool, kb_int_bool, kb_str_bool, kb_tuple_bool, kb_list_bool, kb_dict_bool, kb_NoneType_tuple, kb_bool_tuple, kb_int_tuple, kb_str_tuple, kb_tuple_tuple, kb_list_tuple, kb_dict_tuple, if_true, if_false, Bool.false_eq_true, ite_true, ite_false, Bool.not_true, Bool.not_false])
/-! RdHH: paths; division, vectors, bands -/
theorem isL {M : Mem} {d : D} {l : List D} (h : res M d = .lst l) : d = .lst l ∨ ∃ k, d = .own k ∧ M[k]? = some (.lst l) := by
  cases d <;> first | (cases h; done) | skip
  · exact .inl h
  · rename_i k
    unfold res at h
    dsimp only at h
    split at h
    · rename_i ds hk
      cases h
      exact .inr ⟨k, rfl, hk⟩
    · cases h
section
variable {m X Y B X' Y' B' t1 t2 t3 k s1 s2 s3 j : Int}
theorem sq_split {m X Y : Int} (hq : isSq m) : X * X - m * Y * Y = (X + Y * isq m) * (X - Y * isq m) := by
  have hq' : isq m * isq m = m := hq
  have : (X + Y * isq m) * (X - Y * isq m) = X * X - (isq m * isq m) * Y * Y := by grind
  rw [this, hq']
theorem RT.ne {nx nb : Nat} {y : D} (T : RT m nx nb y X' Y' B' s1 s2 s3 j) (hN : X' * X' - m * Y' * Y' ≠ 0) : ¬ (s1 = 0 ∧ s2 = 0) := fun ⟨z1, z2⟩ => hN (by
  have f1 := T.e1
  have f2 := T.e2
  rw [z1, Int.mul_zero] at f1
  rw [z2, Int.mul_zero] at f2
  by_cases hq : isSq m
  · rw [rnX, if_pos hq] at f1
    rw [sq_split hq, f1, Int.zero_mul]
  · rw [rnX, if_neg hq] at f1
    rw [rnY, if_neg hq] at f2
    rw [f1, f2]; simp)
end
/-! ### the vectors of paths -/
/-! ### a vector, scaled -/
/-! ### both bands -/
/-- a cutting whose measure has up to 96 bits -/
structure CS (a b c e : Int) : Prop where
  cut : isCut a b c e = true
  sm : Bi 96 (meas4 b c e)
theorem CS.cb {a b c e : Int} (h : CS a b c e) : CutB 96 a b c e := cut_bi h.cut h.sm
theorem CS.ck {a b c e : Int} (h : CS a b c e) : CK a b c e := by
  obtain ⟨h1, h2, h3, h4⟩ := h.cb
  exact ⟨h.cut, h1.mono, h2.mono, h3.mono, h4.mono, h.sm.mono, by have := cut_le h.cut; omega⟩
/-- a cutting, a deed of it, where it leads -/
structure DeS (a b c e p q a' w g e' : Int) : Prop where
  cs : CS a b c e
  deed : isDeed b c e p q = true
  bp : Bi 100 p
  bq : Bi 100 q
  dn : IsDone a b c e p q a' w g e'
theorem DeS.cs' {a b c e p q a' w g e' : Int} (h : DeS a b c e p q a' w g e') : CS a' w g e' ∧ meas4 w g e' = meas4 b c e ∧ 0 < g := by
  obtain ⟨h1, h2, h3⟩ := done_of h.cs.cut h.deed h.dn
  exact ⟨⟨h1, by rw [h2]; exact h.cs.sm⟩, h2, h3⟩
theorem DeS.one {a b c e p q a' w g e' a2 w2 g2 e2 : Int} (h : DeS a b c e p q a' w g e') (k : IsDone a b c e p q a2 w2 g2 e2) : a2 = a' ∧ w2 = w ∧ g2 = g ∧ e2 = e' := by
  have := h.cs'.2.2
  obtain ⟨r1, r2, r3, r4⟩ := isDone_unique (by omega) h.dn k
  exact ⟨r1.symm, r2.symm, r3.symm, r4.symm⟩
/-! ### the law's own way to a common divisor, to what a deed makes -/
/-! ### a drawn deed -/
end DL
namespace DL
/-! MK: two columns led down by sums of one another -/
structure Lad (I J l h a b c d : Int) : Prop where
  e1 : l = a * I + b * J
  e2 : h = c * I + d * J
  dt : a * d - b * c = 1
  gc : Int.gcd l h = Int.gcd I J
  sg : l * h ≤ 0
  ab : h.natAbs < l.natAbs
  wa : a.natAbs ≤ c.natAbs + 1
  wb : b.natAbs ≤ d.natAbs + 1
  lj : l.natAbs ≤ J.natAbs
theorem fm_neg {l h : Int} (hz : h < 0) : h < l.fmod h ∧ l.fmod h ≤ 0 := by
  have h1 := @Int.fmod_eq_emod l h
  have e0 := Int.emod_nonneg l (show h ≠ 0 by omega)
  have e1 := Int.emod_lt_of_pos l (show 0 < -h by omega)
  rw [Int.emod_neg] at e1
  by_cases hd : 0 ≤ h ∨ h ∣ l
  · rw [if_pos hd] at h1
    have hd : h ∣ l := hd.resolve_left (by omega)
    have := Int.emod_eq_zero_of_dvd hd
    omega
  · rw [if_neg hd] at h1
    have : l % h ≠ 0 := fun z => hd (.inr (Int.dvd_of_emod_eq_zero z))
    omega
theorem gcd_lad {l h t : Int} : Int.gcd h (t * h - l) = Int.gcd l h := by
  have h1 : t * h - l = -l + h * t := by rw [Int.mul_comm]; omega
  rw [h1, Int.gcd_add_mul_left_right, Int.gcd_neg, Int.gcd_comm]
theorem Lad.step {I J l h a b c d : Int} (E : Lad I J l h a b c d) (hz : h ≠ 0) : Lad I J h (l.fdiv h * h - l) c d (l.fdiv h * c - a) (l.fdiv h * d - b) := by
  have h1 := Int.mul_fdiv_add_fmod l h
  have e : l.fdiv h * h = h * l.fdiv h := Int.mul_comm _ _
  have eh : l.fdiv h * h - l = -(l.fmod h) := by omega
  have hl := E.ab
  have lne : l ≠ 0 := by omega
  have t2 : 2 ≤ (l.fdiv h).natAbs ∧ 0 ≤ h * l.fmod h ∧ (l.fmod h).natAbs < h.natAbs := by
    have sg := E.sg
    generalize l.fdiv h = t at *
    rcases (by omega : 0 < h ∨ h < 0) with hp | hp
    · have r0 := Int.fmod_nonneg_of_pos l hp
      have r1 := Int.fmod_lt_of_pos l hp
      have ln : l < 0 := by
        rcases (by omega : l < 0 ∨ 0 < l) with z | z
        · exact z
        · have := Int.mul_pos z hp; omega
      refine ⟨?_, Int.mul_nonneg (by omega) r0, by omega⟩
      rcases (by omega : t ≤ -2 ∨ -1 ≤ t) with z | z
      · omega
      · have : h * (-1) ≤ h * t := Int.mul_le_mul_of_nonneg_left z (by omega)
        omega
    · obtain ⟨r1, r0⟩ := fm_neg (l := l) hp
      have ln : 0 < l := by
        rcases (by omega : l < 0 ∨ 0 < l) with z | z
        · have := Int.mul_pos_of_neg_of_neg z hp; omega
        · exact z
      refine ⟨?_, Int.mul_nonneg_of_nonpos_of_nonpos (by omega) r0, by omega⟩
      rcases (by omega : t ≤ -2 ∨ -1 ≤ t) with z | z
      · omega
      · have : h * t ≤ h * (-1) := Int.mul_le_mul_of_nonpos_left (by omega) z
        omega
  obtain ⟨t2, s0, r2⟩ := t2
  have w : ∀ x y : Int, x.natAbs ≤ y.natAbs + 1 → y.natAbs ≤ (l.fdiv h * y - x).natAbs + 1 := fun x y hx => by
    have h3 : (l.fdiv h * y).natAbs = (l.fdiv h).natAbs * y.natAbs := Int.natAbs_mul _ _
    have h4 : 2 * y.natAbs ≤ (l.fdiv h).natAbs * y.natAbs := Nat.mul_le_mul_right _ t2
    omega
  refine ⟨E.e2, ?_, ?_, by rw [gcd_lad]; exact E.gc, by rw [eh, Int.mul_neg]; omega, by omega, w _ _ E.wa, w _ _ E.wb, by have := E.lj; omega⟩
  · have e1 := E.e1
    have e2 := E.e2
    generalize l.fdiv h = t at *
    rw [e1, e2]; grind
  · have dt := E.dt
    generalize l.fdiv h = t at *
    grind
end DL
namespace DL
/-! ML: the table of a deed; plain -/
structure DTab (a b c e p q a' w g x z o0 o1 s2 t2 : Int) : Prop where
  pz : p * z - q * x = 1
  z0 : 0 ≤ z
  z1 : z < q * (w / (Int.gcd w g : Int))
  c1 : o0 * (p * b + q * a) + o1 * (q * c) = g
  c2 : s2 * (p * b + q * a) + t2 * (q * c) = 0
  c3 : o0 * (x * b + z * a + e + q * c) + o1 * (z * c) = 0 - a'
  c4 : s2 * (x * b + z * a + e + q * c) + t2 * (z * c) = w
end DL
namespace DL
open PySem PySem.Spec PyProof.Rows L2
local macro_rules | `(tactic| walk_at "rd") => `(tactic| simp only [startD, List.map, List.replicate, List.length_cons, List.length_nil, List.append_eq, List.append_nil, List.nil_append, List.cons_append, Nat.reduceSub, Nat.reduceAdd, List.getElem?_cons_zero, List.getElem?_cons_succ, List.set_cons_zero, List.set_cons_succ,
  dC, dVar, dOp, dTru, gTru, tru, dChain, dAnd, dOr, dNot, dAndV, dOrV, dNotV, dIf, dNeg, gNeg, dNil, dCons, dTup, dLst, dOwn, gIx, rBin, gAdd, gCmpI, dCall, dCallK, dSeq, dNext, dDrop, dRet, dRetN, dIfS, dName, dGNil, dGCons, dGTup, dSub, gSetL, dAsg, dPar, dPar3, dAug, gIpI, dSeqI, gSeqI, dRngI, gRng1, gRng2, dCB, gAbs, gInt, gMax, gMin, gGcd, gLen, lenD, gIsi, tyM, tyD, dBits, gBits, dMet, gAppend, dPart, dNoPart, dSl, gSl_tup, gSl_lst, cut_1, dEnds, gIs, isB, dNever, dCallX, dRaise, dTry, dFld, dCallV, gLRng, gFrz, dFrz, dFor, dLc, wipeD, dYes,
  sizeLine_eq, Nat.reduceLeDiff, gEq_int, gNe_int, gEq_strs, gNe_strs, gIn_two, gRepr_bl, rs_lst, rs_tup, rs_scr, rs_int, atI_0, atI_1, atI_2, atI_3, atI_4, atI_5, ixN_30, ixN_31, ixN_32, gEq_bl, gNe_bl, decide_eq_true_eq, beq_iff_eq, Bool.not_eq_true', beq_eq_false_iff_ne, decide_eq_false_iff_not, Bool.not_true, Bool.not_false, if_true, if_false, Bool.false_eq_true, ite_true, ite_false, true_and, and_true, ne_eq, Bool.bne_false, Bool.bne_true, reduceCtorEq])
local macro_rules | `(tactic| walk_at "rh") => `(tactic| simp only [*, startD, List.map, List.replicate, List.length_cons, List.length_nil, List.append_eq, List.append_nil, List.nil_append, List.cons_append, Nat.reduceSub, Nat.reduceAdd, List.getElem?_cons_zero, List.getElem?_cons_succ, List.set_cons_zero, List.set_cons_succ,
  dC, dVar, dOp, dTru, gTru, tru, dChain, dAnd, dOr, dNot, dAndV, dOrV, dNotV, dIf, dNeg, gNeg, dNil, dCons, dTup, dLst, dOwn, gIx, rBin, gAdd, gCmpI, dCall, dCallK, dSeq, dNext, dDrop, dRet, dRetN, dIfS, dName, dGNil, dGCons, dGTup, dSub, gSetL, dAsg, dPar, dPar3, dAug, gIpI, dSeqI, gSeqI, dRngI, gRng1, gRng2, dCB, gAbs, gInt, gMax, gMin, gGcd, gLen, lenD, gIsi, tyM, tyD, dBits, gBits, dMet, gAppend, dPart, dNoPart, dSl, gSl_tup, gSl_lst, cut_1, dEnds, gIs, isB, dNever, dCallX, dRaise, dTry, dFld, dCallV, gLRng, gFrz, dFrz, dFor, dLc, wipeD, dYes,
  sizeLine_eq, Nat.reduceLeDiff, gEq_int, gNe_int, gEq_strs, gNe_strs, gIn_two, gRepr_bl, rs_lst, rs_tup, rs_scr, rs_int, atI_0, atI_1, atI_2, atI_3, atI_4, atI_5, ixN_30, ixN_31, ixN_32, gEq_bl, gNe_bl, decide_eq_true_eq, beq_iff_eq, Bool.not_eq_true', beq_eq_false_iff_ne, decide_eq_false_iff_not, Bool.not_true, Bool.not_false, if_true, if_false, Bool.false_eq_true, ite_true, ite_false, true_and, and_true, ne_eq, Bool.bne_false, Bool.bne_true, reduceCtorEq])
local macro_rules | `(tactic| walk_at "kb") => `(tactic| simp only [kb_NoneType_list, kb_bool_list, kb_int_list, kb_str_list, kb_tuple_list, kb_list_list, kb_dict_list, kb_NoneType_int, kb_bool_int, kb_int_int, kb_str_int, kb_tuple_int, kb_list_int, kb_dict_int, kb_NoneType_bool, kb_bool_bool, kb_int_bool, kb_str_bool, kb_tuple_bool, kb_list_bool, kb_dict_bool, kb_NoneType_tuple, kb_bool_tuple, kb_int_tuple, kb_str_tuple, kb_tuple_tuple, kb_list_tuple, kb_dict_tuple, if_true, if_false, Bool.false_eq_true, ite_true, ite_false, Bool.not_true, Bool.not_false])
/-! RdII: the table of a deed -/
/-! ### turned about -/
abbrev R4 (a b c d : Int) : D := .lst [.int a, .int b, .int c, .int d]
/-! ### the table of a deed -/
end DL
namespace DL
open PySem PySem.Spec PyProof.Rows L2
local macro_rules | `(tactic| walk_at "rd") => `(tactic| simp only [startD, List.map, List.replicate, List.length_cons, List.length_nil, List.append_eq, List.append_nil, List.nil_append, List.cons_append, Nat.reduceSub, Nat.reduceAdd, List.getElem?_cons_zero, List.getElem?_cons_succ, List.set_cons_zero, List.set_cons_succ,
  dC, dVar, dOp, dTru, gTru, tru, dChain, dAnd, dOr, dNot, dAndV, dOrV, dNotV, dIf, dNeg, gNeg, dNil, dCons, dTup, dLst, dOwn, gIx, rBin, gAdd, gCmpI, dCall, dCallK, dSeq, dNext, dDrop, dRet, dRetN, dIfS, dName, dGNil, dGCons, dGTup, dSub, gSetL, dAsg, dPar, dPar3, dAug, gIpI, dSeqI, gSeqI, dRngI, gRng1, gRng2, dCB, gAbs, gInt, gMax, gMin, gGcd, gLen, lenD, gIsi, tyM, tyD, dBits, gBits, dMet, gAppend, dPart, dNoPart, dSl, gSl_tup, gSl_lst, cut_1, dEnds, gIs, isB, dNever, dCallX, dRaise, dTry, dFld, dCallV, gLRng, gFrz, dFrz, dFor, dLc, wipeD, dYes,
  sizeLine_eq, Nat.reduceLeDiff, gEq_int, gNe_int, gEq_strs, gNe_strs, gIn_two, gRepr_bl, rs_lst, rs_tup, rs_scr, rs_int, atI_0, atI_1, atI_2, atI_3, atI_4, atI_5, ixN_30, ixN_31, ixN_32, gEq_bl, gNe_bl, decide_eq_true_eq, beq_iff_eq, Bool.not_eq_true', beq_eq_false_iff_ne, decide_eq_false_iff_not, Bool.not_true, Bool.not_false, if_true, if_false, Bool.false_eq_true, ite_true, ite_false, true_and, and_true, ne_eq, Bool.bne_false, Bool.bne_true, reduceCtorEq])
local macro_rules | `(tactic| walk_at "rh") => `(tactic| simp only [*, startD, List.map, List.replicate, List.length_cons, List.length_nil, List.append_eq, List.append_nil, List.nil_append, List.cons_append, Nat.reduceSub, Nat.reduceAdd, List.getElem?_cons_zero, List.getElem?_cons_succ, List.set_cons_zero, List.set_cons_succ,
  dC, dVar, dOp, dTru, gTru, tru, dChain, dAnd, dOr, dNot, dAndV, dOrV, dNotV, dIf, dNeg, gNeg, dNil, dCons, dTup, dLst, dOwn, gIx, rBin, gAdd, gCmpI, dCall, dCallK, dSeq, dNext, dDrop, dRet, dRetN, dIfS, dName, dGNil, dGCons, dGTup, dSub, gSetL, dAsg, dPar, dPar3, dAug, gIpI, dSeqI, gSeqI, dRngI, gRng1, gRng2, dCB, gAbs, gInt, gMax, gMin, gGcd, gLen, lenD, gIsi, tyM, tyD, dBits, gBits, dMet, gAppend, dPart, dNoPart, dSl, gSl_tup, gSl_lst, cut_1, dEnds, gIs, isB, dNever, dCallX, dRaise, dTry, dFld, dCallV, gLRng, gFrz, dFrz, dFor, dLc, wipeD, dYes,
  sizeLine_eq, Nat.reduceLeDiff, gEq_int, gNe_int, gEq_strs, gNe_strs, gIn_two, gRepr_bl, rs_lst, rs_tup, rs_scr, rs_int, atI_0, atI_1, atI_2, atI_3, atI_4, atI_5, ixN_30, ixN_31, ixN_32, gEq_bl, gNe_bl, decide_eq_true_eq, beq_iff_eq, Bool.not_eq_true', beq_eq_false_iff_ne, decide_eq_false_iff_not, Bool.not_true, Bool.not_false, if_true, if_false, Bool.false_eq_true, ite_true, ite_false, true_and, and_true, ne_eq, Bool.bne_false, Bool.bne_true, reduceCtorEq])
local macro_rules | `(tactic| walk_at "kb") => `(tactic| simp only [kb_NoneType_list, kb_bool_list, kb_int_list, kb_str_list, kb_tuple_list, kb_list_list, kb_dict_list, kb_NoneType_int, kb_bool_int, kb_int_int, kb_str_int, kb_tuple_int, kb_list_int, kb_dict_int, kb_NoneType_bool, kb_bool_bool, kb_int_bool, kb_str_bool, kb_tuple_bool, kb_list_bool, kb_dict_bool, kb_NoneType_tuple, kb_bool_tuple, kb_int_tuple, kb_str_tuple, kb_tuple_tuple, kb_list_tuple, kb_dict_tuple, if_true, if_false, Bool.false_eq_true, ite_true, ite_false, Bool.not_true, Bool.not_false])
/-! RdJJ: the change of a deed -/
/-- the items that a table gives are small -/
theorem tab_bi {a b c e p q a' w g e' x z o0 o1 s2 t2 : Int} (h : DeS a b c e p q a' w g e') (k : DTab a b c e p q a' w g x z o0 o1 s2 t2) : Bi 202 z ∧ Bi 305 x := by
  obtain ⟨cs', hm', g0⟩ := h.cs'
  have bw := cs'.ck.bb
  have hp := (isDeed_parts h.deed).1
  obtain ⟨l1, l2, _⟩ := cut_parts cs'.cut
  have z1 := k.z1
  have z0 := k.z0
  have hS : w / (Int.gcd w g : Int) ≤ w := Int.ediv_le_self _ (by omega)
  have h1 : q * (w / (Int.gcd w g : Int)) ≤ q * w := Int.mul_le_mul_of_nonneg_left hS (by have := hp.q1; omega)
  have b1 : Bi 200 (q * w) := h.bq.mul bw
  have bz : Bi 202 z := by
    have b2 : Bi 202 (q * w) := b1.mono
    unfold Bi at b2 ⊢
    omega
  refine ⟨bz, ?_⟩
  have e1 : p * z - 1 = q * x := by have := k.pz; omega
  exact Bi.of_dvd (n := 305) (((h.bp.mul bz).up (by decide : 302 ≤ 304)).sub (Bi.of_abs 1 (by decide) (by decide))) (by have := hp.q1; omega) e1
/-! ### vectors, looked at -/
/-! ### what a change leads a vector to -/
end DL
namespace DL
/-! MM: one turn is right; plain -/
/-- the table's law, solved for the four numbers -/
theorem DTab.sol {a b c e p q a' w g e' x z o0 o1 s2 t2 : Int} (hg : 0 < g) (hw : 0 < w) (hn : IsDone a b c e p q a' w g e') (k : DTab a b c e p q a' w g x z o0 o1 s2 t2) :
    o0 * t2 - o1 * s2 = 1 ∧ p * b + q * a = t2 * g ∧ q * c = 0 - s2 * g ∧ x * b + z * a + e + q * c = 0 - t2 * a' - o1 * w ∧ z * c = s2 * a' + o0 * w := by
  have hwi := wide_of (a := a) hn.wi k.pz
  have c1 := k.c1
  have c2 := k.c2
  have c3 := k.c3
  have c4 := k.c4
  generalize p * b + q * a = I at *
  generalize q * c = J at *
  generalize x * b + z * a + e + J = K at *
  generalize z * c = L at *
  have hd : o0 * t2 - o1 * s2 = 1 := by
    have h1 : (o0 * t2 - o1 * s2) * (I * L - J * K) = (o0 * I + o1 * J) * (s2 * K + t2 * L) - (s2 * I + t2 * J) * (o0 * K + o1 * L) := by grind
    rw [c1, c2, c4, hwi, Int.zero_mul, Int.sub_zero] at h1
    have h2 : w * g * (o0 * t2 - o1 * s2) = w * g * 1 := by rw [Int.mul_comm (w * g), h1, Int.mul_one, Int.mul_comm]
    exact Int.eq_of_mul_eq_mul_left (by have := Int.mul_pos hw hg; omega) h2
  refine ⟨hd, ?_, ?_, ?_, ?_⟩
  · have : I = t2 * (o0 * I + o1 * J) - o1 * (s2 * I + t2 * J) := by
      have : t2 * (o0 * I + o1 * J) - o1 * (s2 * I + t2 * J) = (o0 * t2 - o1 * s2) * I := by grind
      rw [this, hd, Int.one_mul]
    rw [this, c1, c2, Int.mul_zero, Int.sub_zero]
  · have : J = o0 * (s2 * I + t2 * J) - s2 * (o0 * I + o1 * J) := by
      have : o0 * (s2 * I + t2 * J) - s2 * (o0 * I + o1 * J) = (o0 * t2 - o1 * s2) * J := by grind
      rw [this, hd, Int.one_mul]
    rw [this, c1, c2, Int.mul_zero]
  · have : K = t2 * (o0 * K + o1 * L) - o1 * (s2 * K + t2 * L) := by
      have : t2 * (o0 * K + o1 * L) - o1 * (s2 * K + t2 * L) = (o0 * t2 - o1 * s2) * K := by grind
      rw [this, hd, Int.one_mul]
    rw [this, c3, c4]; grind
  · have : L = o0 * (s2 * K + t2 * L) - s2 * (o0 * K + o1 * L) := by
      have : o0 * (s2 * K + t2 * L) - s2 * (o0 * K + o1 * L) = (o0 * t2 - o1 * s2) * L := by grind
      rw [this, hd, Int.one_mul]
    rw [this, c3, c4]; grind
theorem turn_iff {w g n : Int} (hw : 0 < w) (hg : 0 < g) : w ∣ n * g ↔ (w / (Int.gcd w g : Int)) ∣ n := by
  obtain ⟨sh, esh⟩ : ∃ sh : Int, (Int.gcd w g : Int) = sh := ⟨_, rfl⟩
  have sh0 : 0 < sh := by
    have := Int.gcd_pos_of_ne_zero_right w (show g ≠ 0 by omega)
    omega
  obtain ⟨S, hS⟩ : sh ∣ w := by rw [← esh]; exact Int.gcd_dvd_left _ _
  obtain ⟨G, hG⟩ : sh ∣ g := by rw [← esh]; exact Int.gcd_dvd_right _ _
  have eS : w / sh = S := by rw [hS, Int.mul_ediv_cancel_left _ (by omega)]
  have cop : Int.gcd S G = 1 := by
    have h1 : ((Int.gcd (sh * S) (sh * G) : Nat) : Int) = sh := by rw [← hS, ← hG]; exact esh
    rw [Int.gcd_mul_left, Int.natCast_mul] at h1
    have h2 : ((sh.natAbs : Nat) : Int) = sh := by omega
    rw [h2] at h1
    have h3 : sh * (Int.gcd S G : Int) = sh * 1 := by omega
    have := Int.eq_of_mul_eq_mul_left (by omega) h3
    omega
  rw [esh, eS, hS, hG]
  constructor
  · rintro ⟨j, hj⟩
    have h1 : n * G = S * j := by
      have : sh * (n * G) = sh * (S * j) := by
        have e1 : n * (sh * G) = sh * (n * G) := by grind
        have e2 : sh * S * j = sh * (S * j) := by grind
        omega
      exact Int.eq_of_mul_eq_mul_left (by omega) this
    have h2 : S.natAbs ∣ n.natAbs * G.natAbs := by
      rw [← Int.natAbs_mul, Int.natAbs_dvd_natAbs]
      exact ⟨j, h1⟩
    have h3 : Nat.Coprime S.natAbs G.natAbs := cop
    exact Int.natAbs_dvd_natAbs.mp (h3.dvd_of_dvd_mul_right h2)
  · rintro ⟨j, rfl⟩
    exact ⟨j * G, by grind⟩
/-- which turns are right -/
theorem sums_turn {a b c e p q a' w g e' x z o0 o1 s2 t2 n : Int} (hg : 0 < g) (hw : 0 < w) (hn : IsDone a b c e p q a' w g e') (k : DTab a b c e p q a' w g x z o0 o1 s2 t2) :
    ((g ∣ 0 - q * c ∧ w ∣ (z + n * q) * c - (0 - q * c) / g * a') ∧ (g ∣ p * b + q * a ∧ w ∣ (0 - (q * c + ((x + n * p) * b + (z + n * q) * a) + e)) - (p * b + q * a) / g * a')) ↔ (w / (Int.gcd w g : Int)) ∣ n := by
  obtain ⟨hd, hI, hJ, hK, hL⟩ := k.sol hg hw hn
  rw [← turn_iff hw hg]
  have e1 : (0 - q * c) / g = s2 := by
    have : 0 - (0 - s2 * g) = s2 * g := by omega
    rw [hJ, this, Int.mul_ediv_cancel _ (by omega)]
  have e2 : (p * b + q * a) / g = t2 := by rw [hI, Int.mul_ediv_cancel _ (by omega)]
  have e3 : (z + n * q) * c - s2 * a' = o0 * w - s2 * (n * g) := by
    have : (z + n * q) * c = z * c + n * (q * c) := by grind
    rw [this, hL, hJ]; grind
  have e4 : (0 - (q * c + ((x + n * p) * b + (z + n * q) * a) + e)) - t2 * a' = o1 * w - t2 * (n * g) := by
    have : q * c + ((x + n * p) * b + (z + n * q) * a) + e = (x * b + z * a + e + q * c) + n * (p * b + q * a) := by grind
    rw [this, hK, hI]; grind
  rw [e1, e2, e3, e4]
  have d1 : g ∣ 0 - q * c := ⟨s2, by rw [hJ]; grind⟩
  have d2 : g ∣ p * b + q * a := ⟨t2, by rw [hI]; grind⟩
  have ow : ∀ u : Int, w ∣ u * w := fun u => Int.dvd_mul_left _ _
  constructor
  · rintro ⟨⟨_, h1⟩, _, h2⟩
    have h3 : w ∣ s2 * (n * g) := by
      have := Int.dvd_sub (ow o0) h1
      have e : o0 * w - (o0 * w - s2 * (n * g)) = s2 * (n * g) := by omega
      rwa [e] at this
    have h4 : w ∣ t2 * (n * g) := by
      have := Int.dvd_sub (ow o1) h2
      have e : o1 * w - (o1 * w - t2 * (n * g)) = t2 * (n * g) := by omega
      rwa [e] at this
    have e : n * g = o0 * (t2 * (n * g)) - o1 * (s2 * (n * g)) := by
      have : o0 * (t2 * (n * g)) - o1 * (s2 * (n * g)) = (o0 * t2 - o1 * s2) * (n * g) := by grind
      rw [this, hd, Int.one_mul]
    rw [e]
    exact Int.dvd_sub (Int.dvd_trans h4 (Int.dvd_mul_left _ _)) (Int.dvd_trans h3 (Int.dvd_mul_left _ _))
  · intro h
    exact ⟨⟨d1, Int.dvd_sub (ow _) (Int.dvd_trans h (Int.dvd_mul_left _ _))⟩, d2, Int.dvd_sub (ow _) (Int.dvd_trans h (Int.dvd_mul_left _ _))⟩
end DL
namespace DL
/-! MP: paths and tables as numbers -/
@[ext] structure V4 where
  a : Int
  b : Int
  c : Int
  d : Int
deriving DecidableEq
@[ext] structure M4 where
  a : V4
  b : V4
  c : V4
  d : V4
deriving DecidableEq
def V4.get (v : V4) : Nat → Int
  | 0 => v.a | 1 => v.b | 2 => v.c | _ => v.d
def M4.get (A : M4) : Nat → V4
  | 0 => A.a | 1 => A.b | 2 => A.c | _ => A.d
/-- the columns -/
def M4.T (A : M4) : M4 := ⟨⟨A.a.a, A.b.a, A.c.a, A.d.a⟩, ⟨A.a.b, A.b.b, A.c.b, A.d.b⟩, ⟨A.a.c, A.b.c, A.c.c, A.d.c⟩, ⟨A.a.d, A.b.d, A.c.d, A.d.d⟩⟩
def dot4 (v w : V4) : Int := v.a * w.a + v.b * w.b + v.c * w.c + v.d * w.d
def M4.led (A : M4) (v : V4) : V4 := ⟨dot4 A.a v, dot4 A.b v, dot4 A.c v, dot4 A.d v⟩
def crs (v w : V4) : Int := v.a * w.b - v.b * w.a + v.c * w.d - v.d * w.c
def bse : Nat → V4
  | 0 => ⟨1, 0, 0, 0⟩ | 1 => ⟨0, 1, 0, 0⟩ | 2 => ⟨0, 0, 1, 0⟩ | _ => ⟨0, 0, 0, 1⟩
def M4.one : M4 := ⟨bse 0, bse 1, bse 2, bse 3⟩
def M4.mul (A B : M4) : M4 := M4.T ⟨A.led B.T.a, A.led B.T.b, A.led B.T.c, A.led B.T.d⟩
def Keeps (A : M4) : Prop := ∀ i, i < 4 → ∀ j, j < 4 → crs (A.T.get i) (A.T.get j) = crs (bse i) (bse j)
/-- the root's work on a path -/
def rtd (a b c e : Int) (v : V4) : V4 := ⟨e * v.a + b * v.c + a * v.d, e * v.b + c * v.d, c * v.a - a * v.b, b * v.b⟩
/-- the deed's table -/
def tabM (p q x z o0 o1 s2 t2 : Int) : M4 := ⟨⟨0, 1, t2, -o1⟩, ⟨0, 0, -s2, o0⟩, ⟨p, x, -s2 * p, o0 * p⟩, ⟨q, z, -s2 * q, o0 * q⟩⟩
theorem crs_anti (v w : V4) : crs v w = 0 - crs w v := by unfold crs; grind
theorem keeps_of {A : M4} (h1 : crs A.T.a A.T.b = 1) (h2 : crs A.T.c A.T.d = 1) (h3 : crs A.T.a A.T.c = 0) (h4 : crs A.T.a A.T.d = 0) (h5 : crs A.T.b A.T.c = 0) (h6 : crs A.T.b A.T.d = 0) : Keeps A := by
  intro i hi j hj
  have s : ∀ v : V4, crs v v = 0 := fun v => by unfold crs; grind
  have t : ∀ v w : V4, crs w v = 0 - crs v w := fun v w => crs_anti w v
  rcases (by omega : i = 0 ∨ i = 1 ∨ i = 2 ∨ i = 3) with rfl | rfl | rfl | rfl <;> rcases (by omega : j = 0 ∨ j = 1 ∨ j = 2 ∨ j = 3) with rfl | rfl | rfl | rfl
  · exact s A.T.a
  · exact h1
  · exact h3
  · exact h4
  · exact (t A.T.a A.T.b).trans (congrArg (0 - ·) h1)
  · exact s A.T.b
  · exact h5
  · exact h6
  · exact (t A.T.a A.T.c).trans (congrArg (0 - ·) h3)
  · exact (t A.T.b A.T.c).trans (congrArg (0 - ·) h5)
  · exact s A.T.c
  · exact h2
  · exact (t A.T.a A.T.d).trans (congrArg (0 - ·) h4)
  · exact (t A.T.b A.T.d).trans (congrArg (0 - ·) h6)
  · exact (t A.T.c A.T.d).trans (congrArg (0 - ·) h2)
  · exact s A.T.d
end DL
namespace DL
open PySem PySem.Spec PyProof.Rows L2
local macro_rules | `(tactic| walk_at "rd") => `(tactic| simp only [startD, List.map, List.replicate, List.length_cons, List.length_nil, List.append_eq, List.append_nil, List.nil_append, List.cons_append, Nat.reduceSub, Nat.reduceAdd, List.getElem?_cons_zero, List.getElem?_cons_succ, List.set_cons_zero, List.set_cons_succ,
  dC, dVar, dOp, dTru, gTru, tru, dChain, dAnd, dOr, dNot, dAndV, dOrV, dNotV, dIf, dNeg, gNeg, dNil, dCons, dTup, dLst, dOwn, gIx, rBin, gAdd, gCmpI, dCall, dCallK, dSeq, dNext, dDrop, dRet, dRetN, dIfS, dName, dGNil, dGCons, dGTup, dSub, gSetL, dAsg, dPar, dPar3, dAug, gIpI, dSeqI, gSeqI, dRngI, gRng1, gRng2, dCB, gAbs, gInt, gMax, gMin, gGcd, gLen, lenD, gIsi, tyM, tyD, dBits, gBits, dMet, gAppend, dPart, dNoPart, dSl, gSl_tup, gSl_lst, cut_1, dEnds, gIs, isB, dNever, dCallX, dRaise, dTry, dFld, dCallV, gLRng, gFrz, dFrz, dFor, dLc, wipeD, dYes,
  sizeLine_eq, Nat.reduceLeDiff, gEq_int, gNe_int, gEq_strs, gNe_strs, gIn_two, gRepr_bl, rs_lst, rs_tup, rs_scr, rs_int, atI_0, atI_1, atI_2, atI_3, atI_4, atI_5, ixN_30, ixN_31, ixN_32, gEq_bl, gNe_bl, decide_eq_true_eq, beq_iff_eq, Bool.not_eq_true', beq_eq_false_iff_ne, decide_eq_false_iff_not, Bool.not_true, Bool.not_false, if_true, if_false, Bool.false_eq_true, ite_true, ite_false, true_and, and_true, ne_eq, Bool.bne_false, Bool.bne_true, reduceCtorEq])
local macro_rules | `(tactic| walk_at "rh") => `(tactic| simp only [*, startD, List.map, List.replicate, List.length_cons, List.length_nil, List.append_eq, List.append_nil, List.nil_append, List.cons_append, Nat.reduceSub, Nat.reduceAdd, List.getElem?_cons_zero, List.getElem?_cons_succ, List.set_cons_zero, List.set_cons_succ,
  dC, dVar, dOp, dTru, gTru, tru, dChain, dAnd, dOr, dNot, dAndV, dOrV, dNotV, dIf, dNeg, gNeg, dNil, dCons, dTup, dLst, dOwn, gIx, rBin, gAdd, gCmpI, dCall, dCallK, dSeq, dNext, dDrop, dRet, dRetN, dIfS, dName, dGNil, dGCons, dGTup, dSub, gSetL, dAsg, dPar, dPar3, dAug, gIpI, dSeqI, gSeqI, dRngI, gRng1, gRng2, dCB, gAbs, gInt, gMax, gMin, gGcd, gLen, lenD, gIsi, tyM, tyD, dBits, gBits, dMet, gAppend, dPart, dNoPart, dSl, gSl_tup, gSl_lst, cut_1, dEnds, gIs, isB, dNever, dCallX, dRaise, dTry, dFld, dCallV, gLRng, gFrz, dFrz, dFor, dLc, wipeD, dYes,
  sizeLine_eq, Nat.reduceLeDiff, gEq_int, gNe_int, gEq_strs, gNe_strs, gIn_two, gRepr_bl, rs_lst, rs_tup, rs_scr, rs_int, atI_0, atI_1, atI_2, atI_3, atI_4, atI_5, ixN_30, ixN_31, ixN_32, gEq_bl, gNe_bl, decide_eq_true_eq, beq_iff_eq, Bool.not_eq_true', beq_eq_false_iff_ne, decide_eq_false_iff_not, Bool.not_true, Bool.not_false, if_true, if_false, Bool.false_eq_true, ite_true, ite_false, true_and, and_true, ne_eq, Bool.bne_false, Bool.bne_true, reduceCtorEq])
local macro_rules | `(tactic| walk_at "kb") => `(tactic| simp only [kb_NoneType_list, kb_bool_list, kb_int_list, kb_str_list, kb_tuple_list, kb_list_list, kb_dict_list, kb_NoneType_int, kb_bool_int, kb_int_int, kb_str_int, kb_tuple_int, kb_list_int, kb_dict_int, kb_NoneType_bool, kb_bool_bool, kb_int_bool, kb_str_bool, kb_tuple_bool, kb_list_bool, kb_dict_bool, kb_NoneType_tuple, kb_bool_tuple, kb_int_tuple, kb_str_tuple, kb_tuple_tuple, kb_list_tuple, kb_dict_tuple, if_true, if_false, Bool.false_eq_true, ite_true, ite_false, Bool.not_true, Bool.not_false])
/-! RdKK: tables of deeds -/
/-! ### tables -/
abbrev V4.D (v : V4) : D := R4 v.a v.b v.c v.d
abbrev M4.D (A : M4) : D := .lst [A.a.D, A.b.D, A.c.D, A.d.D]
structure V4.bi (n : Nat) (v : V4) : Prop where
  a : Bi n v.a
  b : Bi n v.b
  c : Bi n v.c
  d : Bi n v.d
structure M4.bi (n : Nat) (A : M4) : Prop where
  a : A.a.bi n
  b : A.b.bi n
  c : A.c.bi n
  d : A.d.bi n
theorem V4.bi.up {n k : Nat} {v : V4} (h : v.bi n) (hk : n ≤ k) : v.bi k := ⟨h.a.up hk, h.b.up hk, h.c.up hk, h.d.up hk⟩
theorem M4.bi.up {n k : Nat} {A : M4} (h : A.bi n) (hk : n ≤ k) : A.bi k := ⟨h.a.up hk, h.b.up hk, h.c.up hk, h.d.up hk⟩
theorem M4.bi.T {n : Nat} {A : M4} (h : A.bi n) : A.T.bi n := ⟨⟨h.a.a, h.b.a, h.c.a, h.d.a⟩, ⟨h.a.b, h.b.b, h.c.b, h.d.b⟩, ⟨h.a.c, h.b.c, h.c.c, h.d.c⟩, ⟨h.a.d, h.b.d, h.c.d, h.d.d⟩⟩
/-- d stands there for the table A -/
def TabR (M : Mem) (d : D) (A : M4) : Prop := ∃ x0 x1 x2 x3 : D, res M d = .lst [x0, x1, x2, x3] ∧ res M x0 = A.a.D ∧ res M x1 = A.b.D ∧ res M x2 = A.c.D ∧ res M x3 = A.d.D
theorem res_app {M G : Mem} {x : D} {l : List D} (h : res M x = .lst l) : res (M ++ G) x = .lst l := by
  rcases isL h with rfl | ⟨k, rfl, hk⟩
  · rfl
  · have hl := (List.getElem?_eq_some_iff.mp hk).1
    unfold res
    dsimp only
    rw [List.getElem?_append_left hl, hk]
theorem TabR.app {M : Mem} {d : D} {A : M4} (h : TabR M d A) (G : Mem) : TabR (M ++ G) d A := by
  obtain ⟨x0, x1, x2, x3, e, h0, h1, h2, h3⟩ := h
  exact ⟨x0, x1, x2, x3, res_app e, res_app h0, res_app h1, res_app h2, res_app h3⟩
/-! ### a path led -/
/-! ### turned about, with its own rows -/
abbrev V4.O (v : V4) : Own := .lst [.int v.a, .int v.b, .int v.c, .int v.d]
def cells5 (n : Nat) (A : M4) : Mem := [A.a.O, A.b.O, A.c.O, A.d.O, .lst [.own n, .own (n + 1), .own (n + 2), .own (n + 3)]]
theorem rtqA {M G : Mem} {Q : DQ} {d : D} (q : Q d (M ++ G)) (hb : below (M ++ G).length d = true) (hG : ∀ c ∈ G, belowO (M ++ G).length c = true) : Rtq M Q d (M ++ G) :=
  rtqC q (by rw [List.length_append]; omega) hb fun i c h => by
    rcases Nat.lt_or_ge i M.length with z | z
    · rw [List.getElem?_append_left z] at h; exact .inl h
    · rw [List.getElem?_append_right z] at h; exact .inr (hG c (List.mem_of_getElem? h))
/-! ### the table of a deed, with its own rows -/
def tabOwn (G : Mem) (A : M4) (M : Mem) (Q : DQ) : Prop := Q (.own ((M ++ G).length + 4)) ((M ++ G) ++ cells5 (M ++ G).length A)
def PlainO (G : Mem) : Prop := ∀ c ∈ G, belowO 0 c = true
theorem Rtq.mono {M : Mem} {Q Q' : DQ} {d : D} {M' : Mem} (h : Rtq M Q d M') (k : ∀ d M', Q d M' → Q' d M') : Rtq M Q' d M' := by
  obtain ⟨M2, G, e, h1, h2, h3, q⟩ := h
  exact ⟨M2, G, e, h1, h2, h3, k _ _ q⟩
theorem belowO.mono {m n : Nat} (hmn : m ≤ n) {c : Own} (h : belowO m c = true) : belowO n c = true := by
  cases c with
  | dead => rfl
  | lst l => exact below.mono hmn (.lst l) h
theorem tabOwn.rtq {G : Mem} {A : M4} {M : Mem} {Q : DQ} (h : tabOwn G A M Q) (hG : PlainO G) : Rtq M Q (.own ((M ++ G).length + 4)) ((M ++ G) ++ cells5 (M ++ G).length A) := by
  unfold tabOwn at h
  rw [List.append_assoc] at h ⊢
  refine rtqA h ?_ ?_
  · simp [below, cells5]; omega
  · intro c hc
    rcases List.mem_append.mp hc with r | r
    · exact belowO.mono (Nat.zero_le _) (hG c r)
    · simp only [cells5, List.mem_cons, List.not_mem_nil, or_false] at r
      rcases r with rfl | rfl | rfl | rfl | rfl <;> simp [belowO, belowAll, below, cells5]
      all_goals omega
/-! ### bases, crossings kept -/
theorem M4.bi.get {n : Nat} {A : M4} (h : A.bi n) (i : Nat) : (A.get i).bi n := by
  match i with
  | 0 => exact h.a
  | 1 => exact h.b
  | 2 => exact h.c
  | _ + 3 => exact h.d
theorem bse_bi {n : Nat} (hn : 1 ≤ n) (i : Nat) : (bse i).bi n := by
  have b0 : Bi n 0 := Bi.of_abs 0 (by decide) (Nat.pow_pos (by decide))
  have b1 : Bi n 1 := Bi.of_abs 1 (by decide) (Nat.lt_of_lt_of_le (by decide : 1 < 2 ^ 1) (Nat.pow_le_pow_right (by decide) hn))
  match i with
  | 0 => exact ⟨b1, b0, b0, b0⟩
  | 1 => exact ⟨b0, b1, b0, b0⟩
  | 2 => exact ⟨b0, b0, b1, b0⟩
  | _ + 3 => exact ⟨b0, b0, b0, b1⟩
/-! ### crossings kept, by the program -/
end DL
namespace DL
open PySem PySem.Spec PyProof.Rows L2
local macro_rules | `(tactic| walk_at "rd") => `(tactic| simp only [startD, List.map, List.replicate, List.length_cons, List.length_nil, List.append_eq, List.append_nil, List.nil_append, List.cons_append, Nat.reduceSub, Nat.reduceAdd, List.getElem?_cons_zero, List.getElem?_cons_succ, List.set_cons_zero, List.set_cons_succ,
  dC, dVar, dOp, dTru, gTru, tru, dChain, dAnd, dOr, dNot, dAndV, dOrV, dNotV, dIf, dNeg, gNeg, dNil, dCons, dTup, dLst, dOwn, gIx, rBin, gAdd, gCmpI, dCall, dCallK, dSeq, dNext, dDrop, dRet, dRetN, dIfS, dName, dGNil, dGCons, dGTup, dSub, gSetL, dAsg, dPar, dPar3, dAug, gIpI, dSeqI, gSeqI, dRngI, gRng1, gRng2, dCB, gAbs, gInt, gMax, gMin, gGcd, gLen, lenD, gIsi, tyM, tyD, dBits, gBits, dMet, gAppend, dPart, dNoPart, dSl, gSl_tup, gSl_lst, cut_1, dEnds, gIs, isB, dNever, dCallX, dRaise, dTry, dFld, dCallV, gLRng, gFrz, dFrz, dFor, dLc, wipeD, dYes,
  sizeLine_eq, Nat.reduceLeDiff, gEq_int, gNe_int, gEq_strs, gNe_strs, gIn_two, gRepr_bl, rs_lst, rs_tup, rs_scr, rs_int, atI_0, atI_1, atI_2, atI_3, atI_4, atI_5, ixN_30, ixN_31, ixN_32, gEq_bl, gNe_bl, decide_eq_true_eq, beq_iff_eq, Bool.not_eq_true', beq_eq_false_iff_ne, decide_eq_false_iff_not, Bool.not_true, Bool.not_false, if_true, if_false, Bool.false_eq_true, ite_true, ite_false, true_and, and_true, ne_eq, Bool.bne_false, Bool.bne_true, reduceCtorEq])
local macro_rules | `(tactic| walk_at "rh") => `(tactic| simp only [*, startD, List.map, List.replicate, List.length_cons, List.length_nil, List.append_eq, List.append_nil, List.nil_append, List.cons_append, Nat.reduceSub, Nat.reduceAdd, List.getElem?_cons_zero, List.getElem?_cons_succ, List.set_cons_zero, List.set_cons_succ,
  dC, dVar, dOp, dTru, gTru, tru, dChain, dAnd, dOr, dNot, dAndV, dOrV, dNotV, dIf, dNeg, gNeg, dNil, dCons, dTup, dLst, dOwn, gIx, rBin, gAdd, gCmpI, dCall, dCallK, dSeq, dNext, dDrop, dRet, dRetN, dIfS, dName, dGNil, dGCons, dGTup, dSub, gSetL, dAsg, dPar, dPar3, dAug, gIpI, dSeqI, gSeqI, dRngI, gRng1, gRng2, dCB, gAbs, gInt, gMax, gMin, gGcd, gLen, lenD, gIsi, tyM, tyD, dBits, gBits, dMet, gAppend, dPart, dNoPart, dSl, gSl_tup, gSl_lst, cut_1, dEnds, gIs, isB, dNever, dCallX, dRaise, dTry, dFld, dCallV, gLRng, gFrz, dFrz, dFor, dLc, wipeD, dYes,
  sizeLine_eq, Nat.reduceLeDiff, gEq_int, gNe_int, gEq_strs, gNe_strs, gIn_two, gRepr_bl, rs_lst, rs_tup, rs_scr, rs_int, atI_0, atI_1, atI_2, atI_3, atI_4, atI_5, ixN_30, ixN_31, ixN_32, gEq_bl, gNe_bl, decide_eq_true_eq, beq_iff_eq, Bool.not_eq_true', beq_eq_false_iff_ne, decide_eq_false_iff_not, Bool.not_true, Bool.not_false, if_true, if_false, Bool.false_eq_true, ite_true, ite_false, true_and, and_true, ne_eq, Bool.bne_false, Bool.bne_true, reduceCtorEq])
local macro_rules | `(tactic| walk_at "kb") => `(tactic| simp only [kb_NoneType_list, kb_bool_list, kb_int_list, kb_str_list, kb_tuple_list, kb_list_list, kb_dict_list, kb_NoneType_int, kb_bool_int, kb_int_int, kb_str_int, kb_tuple_int, kb_list_int, kb_dict_int, kb_NoneType_bool, kb_bool_bool, kb_int_bool, kb_str_bool, kb_tuple_bool, kb_list_bool, kb_dict_bool, kb_NoneType_tuple, kb_bool_tuple, kb_int_tuple, kb_str_tuple, kb_tuple_tuple, kb_list_tuple, kb_dict_tuple, if_true, if_false, Bool.false_eq_true, ite_true, ite_false, Bool.not_true, Bool.not_false])
/-! RdLL: where a deed leads, told by the law; drawn deeds -/
/-! ### a drawn deed -/
theorem deed_48 {a b c e p q : Int} (h : CS a b c e) (hd : isDeed b c e p q = true) : Bi 50 p ∧ Bi 50 q := by
  have hp := (isDeed_parts hd).1
  obtain ⟨k1, k2, k3, k4, k5, k6⟩ := cut_parts h.cut
  have q1 := hp.q1
  have al := hp.al
  have sm := h.sm
  have hm : meas4 b c e = e * e + 4 * (b * c) := by unfold meas4; grind
  have e1 : (2 * (q * c) + e) * (2 * (q * c) + e) = meas4 b c e - 4 * (c * (b - q * e - q * q * c)) := by rw [hm]; grind
  have h1 : 0 < c * (b - q * e - q * q * c) := Int.mul_pos (by omega) al
  have h2 : 0 < b * c := Int.mul_pos (by omega) (by omega)
  have big : ∀ x : Int, x * x < 2 ^ 96 → x < 2 ^ 48 ∧ -(2 ^ 48) < x := by
    intro x hx
    constructor
    · rcases (by omega : x < 2 ^ 48 ∨ 2 ^ 48 ≤ x) with r | r
      · exact r
      · have : (2 : Int) ^ 48 * 2 ^ 48 ≤ x * x := Int.mul_le_mul r r (by decide) (by omega)
        omega
    · rcases (by omega : -(2 ^ 48) < x ∨ x ≤ -(2 ^ 48)) with r | r
      · exact r
      · have : (2 : Int) ^ 48 * 2 ^ 48 ≤ (-x) * (-x) := Int.mul_le_mul (by omega) (by omega) (by decide) (by omega)
        rw [Int.neg_mul_neg] at this
        omega
  have m96 : meas4 b c e < 2 ^ 96 := by
    unfold Bi at sm
    have : ((2 ^ 96 : Nat) : Int) = (2 : Int) ^ 96 := by decide
    omega
  have b1 := big (2 * (q * c) + e) (by omega)
  have b2 := big e (by omega)
  have h3 : q * 1 ≤ q * c := Int.mul_le_mul_of_nonneg_left (by omega) (by omega)
  have h4 : q * (c / (Int.gcd b c : Int)) ≤ q * c := Int.mul_le_mul_of_nonneg_left (Int.ediv_le_self _ (by omega)) (by omega)
  have p1 := hp.p0
  have hpl : p < q * (c / (Int.gcd b c : Int)) := by
    simp only [isDeed, Bool.and_eq_true, decide_eq_true_eq, beq_iff_eq] at hd
    exact hd.2.2.2.1
  exact ⟨Bi.of_abs (2 ^ 48) (by omega) (by decide), Bi.of_abs (2 ^ 48) (by omega) (by decide)⟩
end DL
namespace DL
open PySem PySem.Spec PyProof.Rows L2
local macro_rules | `(tactic| walk_at "rd") => `(tactic| simp only [startD, List.map, List.replicate, List.length_cons, List.length_nil, List.append_eq, List.append_nil, List.nil_append, List.cons_append, Nat.reduceSub, Nat.reduceAdd, List.getElem?_cons_zero, List.getElem?_cons_succ, List.set_cons_zero, List.set_cons_succ,
  dC, dVar, dOp, dTru, gTru, tru, dChain, dAnd, dOr, dNot, dAndV, dOrV, dNotV, dIf, dNeg, gNeg, dNil, dCons, dTup, dLst, dOwn, gIx, rBin, gAdd, gCmpI, dCall, dCallK, dSeq, dNext, dDrop, dRet, dRetN, dIfS, dName, dGNil, dGCons, dGTup, dSub, gSetL, dAsg, dPar, dPar3, dAug, gIpI, dSeqI, gSeqI, dRngI, gRng1, gRng2, dCB, gAbs, gInt, gMax, gMin, gGcd, gLen, lenD, gIsi, tyM, tyD, dBits, gBits, dMet, gAppend, dPart, dNoPart, dSl, gSl_tup, gSl_lst, cut_1, dEnds, gIs, isB, dNever, dCallX, dRaise, dTry, dFld, dCallV, gLRng, gFrz, dFrz, dFor, dLc, wipeD, dYes,
  sizeLine_eq, Nat.reduceLeDiff, gEq_int, gNe_int, gEq_strs, gNe_strs, gIn_two, gRepr_bl, rs_lst, rs_tup, rs_scr, rs_int, atI_0, atI_1, atI_2, atI_3, atI_4, atI_5, ixN_30, ixN_31, ixN_32, gEq_bl, gNe_bl, decide_eq_true_eq, beq_iff_eq, Bool.not_eq_true', beq_eq_false_iff_ne, decide_eq_false_iff_not, Bool.not_true, Bool.not_false, if_true, if_false, Bool.false_eq_true, ite_true, ite_false, true_and, and_true, ne_eq, Bool.bne_false, Bool.bne_true, reduceCtorEq])
local macro_rules | `(tactic| walk_at "rh") => `(tactic| simp only [*, startD, List.map, List.replicate, List.length_cons, List.length_nil, List.append_eq, List.append_nil, List.nil_append, List.cons_append, Nat.reduceSub, Nat.reduceAdd, List.getElem?_cons_zero, List.getElem?_cons_succ, List.set_cons_zero, List.set_cons_succ,
  dC, dVar, dOp, dTru, gTru, tru, dChain, dAnd, dOr, dNot, dAndV, dOrV, dNotV, dIf, dNeg, gNeg, dNil, dCons, dTup, dLst, dOwn, gIx, rBin, gAdd, gCmpI, dCall, dCallK, dSeq, dNext, dDrop, dRet, dRetN, dIfS, dName, dGNil, dGCons, dGTup, dSub, gSetL, dAsg, dPar, dPar3, dAug, gIpI, dSeqI, gSeqI, dRngI, gRng1, gRng2, dCB, gAbs, gInt, gMax, gMin, gGcd, gLen, lenD, gIsi, tyM, tyD, dBits, gBits, dMet, gAppend, dPart, dNoPart, dSl, gSl_tup, gSl_lst, cut_1, dEnds, gIs, isB, dNever, dCallX, dRaise, dTry, dFld, dCallV, gLRng, gFrz, dFrz, dFor, dLc, wipeD, dYes,
  sizeLine_eq, Nat.reduceLeDiff, gEq_int, gNe_int, gEq_strs, gNe_strs, gIn_two, gRepr_bl, rs_lst, rs_tup, rs_scr, rs_int, atI_0, atI_1, atI_2, atI_3, atI_4, atI_5, ixN_30, ixN_31, ixN_32, gEq_bl, gNe_bl, decide_eq_true_eq, beq_iff_eq, Bool.not_eq_true', beq_eq_false_iff_ne, decide_eq_false_iff_not, Bool.not_true, Bool.not_false, if_true, if_false, Bool.false_eq_true, ite_true, ite_false, true_and, and_true, ne_eq, Bool.bne_false, Bool.bne_true, reduceCtorEq])
local macro_rules | `(tactic| walk_at "kb") => `(tactic| simp only [kb_NoneType_list, kb_bool_list, kb_int_list, kb_str_list, kb_tuple_list, kb_list_list, kb_dict_list, kb_NoneType_int, kb_bool_int, kb_int_int, kb_str_int, kb_tuple_int, kb_list_int, kb_dict_int, kb_NoneType_bool, kb_bool_bool, kb_int_bool, kb_str_bool, kb_tuple_bool, kb_list_bool, kb_dict_bool, kb_NoneType_tuple, kb_bool_tuple, kb_int_tuple, kb_str_tuple, kb_tuple_tuple, kb_list_tuple, kb_dict_tuple, if_true, if_false, Bool.false_eq_true, ite_true, ite_false, Bool.not_true, Bool.not_false])
/-! k41: tables of deeds -/
theorem tab_bo {a b c e p q a' w g e' x z o0 o1 s2 t2 : Int} (h : DeS a b c e p q a' w g e') (k : DTab a b c e p q a' w g x z o0 o1 s2 t2) : Bi 420 o0 ∧ Bi 420 o1 ∧ Bi 203 s2 ∧ Bi 203 t2 := by
  obtain ⟨cs', hm', g0⟩ := h.cs'
  have ck := h.cs.ck
  have ck' := cs'.ck
  obtain ⟨l1, l2, _⟩ := cut_parts cs'.cut
  obtain ⟨bz, bx⟩ := tab_bi h k
  obtain ⟨hd, hI, hJ, hK, hL⟩ := k.sol g0 (by omega) h.dn
  have b1 : Bi 203 (p * b + q * a) := ((h.bp.mul ck.bb).up (by decide : 200 ≤ 202)).add ((h.bq.mul ck.ba).up (by decide))
  have b2 : Bi 202 (q * c) := (h.bq.mul ck.bc).up (by decide)
  have b4 : Bi 400 (z * c) := (bz.mul ck.bc).up (by decide)
  have b3 : Bi 410 (x * b + z * a + e + q * c) := (((((bx.mul ck.bb).up (by decide : 405 ≤ 407)).add ((bz.mul ck.ba).up (by decide))).up (by decide : 408 ≤ 408)).add (ck.be.up (by decide))).add (b2.up (by decide))
  have bt : Bi 203 t2 := Bi.of_dvd b1 (show g ≠ 0 by omega) (by rw [hI, Int.mul_comm])
  have bs : Bi 203 s2 := Bi.of_dvd (n := 203) ((Bi.of_abs 0 (by decide) (Nat.pow_pos (by decide)) : Bi 202 0).sub b2) (show g ≠ 0 by omega) (by rw [hJ]; grind)
  have bo0 : Bi 420 o0 := Bi.of_dvd (n := 420) ((b4.up (by decide : 400 ≤ 419)).sub ((bs.mul ck'.ba).up (by decide))) (show w ≠ 0 by omega) (by rw [hL]; grind)
  have bo1 : Bi 420 o1 := Bi.of_dvd (n := 420) ((((bt.mul ck'.ba).neg).up (by decide : 303 ≤ 419)).sub (b3.up (by decide))) (show w ≠ 0 by omega) (by rw [hK]; grind)
  exact ⟨bo0, bo1, bs, bt⟩
theorem tab_M {a b c e p q a' w g e' x z o0 o1 s2 t2 : Int} (h : DeS a b c e p q a' w g e') (k : DTab a b c e p q a' w g x z o0 o1 s2 t2) : (tabM p q x z o0 o1 s2 t2).bi 530 := by
  obtain ⟨b0, b1, b2, b3⟩ := tab_bo h k
  obtain ⟨bz, bx⟩ := tab_bi h k
  have z0 : Bi 530 0 := Bi.of_abs 0 (by decide) (Nat.pow_pos (by decide))
  have z1 : Bi 530 1 := (Bi.of_abs 1 (by decide) (by decide) : Bi 1 1).up (by decide)
  have ng : ∀ {n : Nat} {i : Int}, Bi n i → Bi n (-i) := fun {n i} h => by unfold Bi at *; omega
  exact ⟨⟨z0, z1, b3.up (by decide), (ng b1).up (by decide)⟩, ⟨z0, z0, (ng b2).up (by decide), b0.up (by decide)⟩, ⟨h.bp.up (by decide), bx.up (by decide), ((ng b2).mul h.bp).up (by decide), (b0.mul h.bp).up (by decide)⟩, ⟨h.bq.up (by decide), bz.up (by decide), ((ng b2).mul h.bq).up (by decide), (b0.mul h.bq).up (by decide)⟩⟩
/-! ### owned rows, looked at deeply -/
theorem gNeE_res {n : Nat} {x y d : D} {M : Mem} {Q : DQ} (hx : resE M 4 x = d) (hy : resE M 4 y = d) (h : fine n d = true) (q : Q (.bl false) M) (hn : n ≤ 64 := by decide) : gNeE x y M Q := by
  unfold gNeE
  rw [hx, hy, eqB_self h hn]
  exact q
theorem gReprE_res {d x : D} {z : Str} {M : Mem} {Q : DQ} (hd : resE M 4 d = x) (hz : shwnZ x = some z) (q : Q (.str z) M) : gReprE [d] M Q := by
  unfold gReprE
  dsimp only
  rw [hd, hz]
  exact q
theorem gNeE_str {z : Str} {M : Mem} {Q : DQ} (q : Q (.bl false) M) : gNeE (.str z) (.str z) M Q := by
  have h := gNe_str_same (z := z) (M := M) (Q := Q) q
  unfold gNe at h
  unfold gNeE
  exact h
theorem turn_ofK {p q x z x' z' : Int} (q1 : 1 ≤ q) (cp : Int.gcd p q = 1) (h : p * z - q * x = 1) (h' : p * z' - q * x' = 1) : ∃ n, x' = x + n * p ∧ z' = z + n * q := by
  have e1 : p * (z' - z) = q * (x' - x) := by grind
  have d1 : q ∣ z' - z := by
    have h2 : q.natAbs ∣ (z' - z).natAbs * p.natAbs := by
      rw [← Int.natAbs_mul, Int.natAbs_dvd_natAbs]
      exact ⟨x' - x, by rw [Int.mul_comm]; exact e1⟩
    have h3 : Nat.Coprime q.natAbs p.natAbs := by
      have : Nat.gcd p.natAbs q.natAbs = 1 := cp
      rw [Nat.gcd_comm] at this
      exact this
    exact Int.natAbs_dvd_natAbs.mp (h3.dvd_of_dvd_mul_right h2)
  obtain ⟨n, hn⟩ := d1
  refine ⟨n, ?_, by rw [Int.mul_comm]; omega⟩
  have e2 : q * (x' - x) = q * (n * p) := by rw [← e1, hn]; grind
  have := Int.eq_of_mul_eq_mul_left (by omega) e2
  omega
theorem tab_uniqK {a b c e p q a' w g e' x z o0 o1 s2 t2 x' z' o0' o1' s2' t2' : Int} (h : DeS a b c e p q a' w g e') (k : DTab a b c e p q a' w g x z o0 o1 s2 t2) (k' : DTab a b c e p q a' w g x' z' o0' o1' s2' t2') : x' = x ∧ z' = z := by
  obtain ⟨cs', hm', g0⟩ := h.cs'
  have hp := (isDeed_parts h.deed).1
  obtain ⟨l1, l2, _⟩ := cut_parts cs'.cut
  obtain ⟨n, e1, e2⟩ := turn_ofK hp.q1 hp.cp k.pz k'.pz
  have s1 := sums_turn (n := n) g0 (by omega) h.dn k
  have s2 := sums_turn (n := 0) g0 (by omega) h.dn k'
  rw [← e1, ← e2] at s1
  rw [show x' + 0 * p = x' by grind, show z' + 0 * q = z' by grind] at s2
  have hd := s1.mp (s2.mpr (Int.dvd_zero _))
  have a1 := k.z0
  have a2 := k.z1
  have a3 := k'.z0
  have a4 := k'.z1
  generalize w / (Int.gcd w g : Int) = S at *
  obtain ⟨j, hj⟩ := hd
  have q1 := hp.q1
  have S0 : 0 < S := by
    rcases (by omega : 0 < S ∨ S ≤ 0) with r | r
    · exact r
    · have : q * S ≤ 0 := Int.mul_nonpos_of_nonneg_of_nonpos (by omega) r
      omega
  have hn0 : n = 0 := by
    have hz : z' - z = q * S * j := by rw [e2, hj]; grind
    rcases (by omega : j = 0 ∨ 1 ≤ j ∨ j ≤ -1) with r | r | r
    · rw [hj, r]; omega
    · have : q * S * 1 ≤ q * S * j := Int.mul_le_mul_of_nonneg_left r (by omega)
      omega
    · have : q * S * j ≤ q * S * (-1) := Int.mul_le_mul_of_nonneg_left r (by omega)
      omega
  subst hn0
  constructor <;> omega
theorem Gst.rtqK {k : Nat} {n : Int} {M M1 G : Mem} {Q : DQ} {d : D} (h : Gst k n M M1) (q : Q d M1) (hb : below M1.length d = true := by rfl) : Rtq M Q d (M1 ++ G) := by
  obtain ⟨M2, G2, e, h2⟩ := h.rtq q hb
  subst e
  exact ⟨M2, G2 ++ G, List.append_assoc _ _ _, h2⟩
theorem tabM_uniq {a b c e p q a' w g e' x z o0 o1 s2 t2 x' z' o0' o1' s2' t2' : Int} (h : DeS a b c e p q a' w g e') (k : DTab a b c e p q a' w g x z o0 o1 s2 t2) (k' : DTab a b c e p q a' w g x' z' o0' o1' s2' t2') : tabM p q x' z' o0' o1' s2' t2' = tabM p q x z o0 o1 s2 t2 := by
  obtain ⟨cs', hm', g0⟩ := h.cs'
  obtain ⟨l1, l2, _⟩ := cut_parts cs'.cut
  obtain ⟨ex, ez⟩ := tab_uniqK h k k'
  subst ex ez
  obtain ⟨_, a1, a2, a3, a4⟩ := k.sol g0 (by omega) h.dn
  obtain ⟨_, b1, b2, b3, b4⟩ := k'.sol g0 (by omega) h.dn
  have et : t2' = t2 := Int.eq_of_mul_eq_mul_right (show g ≠ 0 by omega) (by rw [← a1, ← b1])
  have es : s2' = s2 := Int.eq_of_mul_eq_mul_right (show g ≠ 0 by omega) (by omega)
  subst et es
  have eo : o1' = o1 := Int.eq_of_mul_eq_mul_right (show w ≠ 0 by omega) (by omega)
  have eo0 : o0' = o0 := Int.eq_of_mul_eq_mul_right (show w ≠ 0 by omega) (by omega)
  subst eo eo0
  rfl
theorem gSl_own {d : D} {l : List D} {lo hi : Option Int} {M : Mem} {Q : DQ} (h : res M d = .lst l) (q : Q (.lst (cutD l lo hi)) M) : gSl false d lo hi M Q := by
  rcases isL h with rfl | ⟨k, rfl, hk⟩
  · exact q
  · unfold gSl gSlL
    dsimp only
    simp only [h]
    exact q
theorem litK {n B : Nat} {i : Int} (h : Bi n i) (hn : n + 1 ≤ B := by decide) (h0 : 0 < n := by decide) : lit B (.int i) = true := decide_eq_true (Nat.lt_of_lt_of_le (Nat.lt_succ_of_le (Nat.le_of_lt (log2_of n h h0))) hn)
end DL
namespace DL
/-! MQ: shears between a deed and its back -/
def V4.neg (v : V4) : V4 := ⟨0 - v.a, 0 - v.b, 0 - v.c, 0 - v.d⟩
/-- sums of base paths -/
def V4.sum (v : V4) (x0 x1 x2 x3 : V4) : V4 := ⟨v.a * x0.a + v.b * x1.a + v.c * x2.a + v.d * x3.a, v.a * x0.b + v.b * x1.b + v.c * x2.b + v.d * x3.b, v.a * x0.c + v.b * x1.c + v.c * x2.c + v.d * x3.c, v.a * x0.d + v.b * x1.d + v.c * x2.d + v.d * x3.d⟩
theorem led_sum (A : M4) (v : V4) : A.led v = v.sum A.T.a A.T.b A.T.c A.T.d := by
  ext <;> simp only [M4.led, dot4, V4.sum, M4.T] <;> grind
/-! ### the whole round -/
def V4.add (u v : V4) : V4 := ⟨u.a + v.a, u.b + v.b, u.c + v.c, u.d + v.d⟩
def V4.sc (s : Int) (v : V4) : V4 := ⟨s * v.a, s * v.b, s * v.c, s * v.d⟩
theorem mul_led (A B : M4) (v : V4) : (A.mul B).led v = A.led (B.led v) := by
  ext <;> simp only [M4.mul, M4.T, M4.led, dot4] <;> grind
def M4.neg (A : M4) : M4 := ⟨A.a.neg, A.b.neg, A.c.neg, A.d.neg⟩
theorem led_base (A : M4) (i : Nat) : A.led (bse i) = A.T.get i := by
  match i with
  | 0 => ext <;> simp only [M4.led, dot4, M4.T, M4.get, bse] <;> grind
  | 1 => ext <;> simp only [M4.led, dot4, M4.T, M4.get, bse] <;> grind
  | 2 => ext <;> simp only [M4.led, dot4, M4.T, M4.get, bse] <;> grind
  | _ + 3 => ext <;> simp only [M4.led, dot4, M4.T, M4.get, bse] <;> grind
end DL
namespace DL
open PySem PySem.Spec PyProof.Rows L2
local macro_rules | `(tactic| walk_at "rd") => `(tactic| simp only [startD, List.map, List.replicate, List.length_cons, List.length_nil, List.append_eq, List.append_nil, List.nil_append, List.cons_append, Nat.reduceSub, Nat.reduceAdd, List.getElem?_cons_zero, List.getElem?_cons_succ, List.set_cons_zero, List.set_cons_succ,
  dC, dVar, dOp, dTru, gTru, tru, dChain, dAnd, dOr, dNot, dAndV, dOrV, dNotV, dIf, dNeg, gNeg, dNil, dCons, dTup, dLst, dOwn, gIx, rBin, gAdd, gCmpI, dCall, dCallK, dSeq, dNext, dDrop, dRet, dRetN, dIfS, dName, dGNil, dGCons, dGTup, dSub, gSetL, dAsg, dPar, dPar3, dAug, gIpI, dSeqI, gSeqI, dRngI, gRng1, gRng2, dCB, gAbs, gInt, gMax, gMin, gGcd, gLen, lenD, gIsi, tyM, tyD, dBits, gBits, dMet, gAppend, dPart, dNoPart, dSl, gSl_tup, gSl_lst, cut_1, dEnds, gIs, isB, dNever, dCallX, dRaise, dTry, dFld, dCallV, gLRng, gFrz, dFrz, dFor, dLc, wipeD, dYes,
  sizeLine_eq, Nat.reduceLeDiff, gEq_int, gNe_int, gEq_strs, gNe_strs, gIn_two, gRepr_bl, rs_lst, rs_tup, rs_scr, rs_int, atI_0, atI_1, atI_2, atI_3, atI_4, atI_5, ixN_30, ixN_31, ixN_32, gEq_bl, gNe_bl, decide_eq_true_eq, beq_iff_eq, Bool.not_eq_true', beq_eq_false_iff_ne, decide_eq_false_iff_not, Bool.not_true, Bool.not_false, if_true, if_false, Bool.false_eq_true, ite_true, ite_false, true_and, and_true, ne_eq, Bool.bne_false, Bool.bne_true, reduceCtorEq])
local macro_rules | `(tactic| walk_at "rh") => `(tactic| simp only [*, startD, List.map, List.replicate, List.length_cons, List.length_nil, List.append_eq, List.append_nil, List.nil_append, List.cons_append, Nat.reduceSub, Nat.reduceAdd, List.getElem?_cons_zero, List.getElem?_cons_succ, List.set_cons_zero, List.set_cons_succ,
  dC, dVar, dOp, dTru, gTru, tru, dChain, dAnd, dOr, dNot, dAndV, dOrV, dNotV, dIf, dNeg, gNeg, dNil, dCons, dTup, dLst, dOwn, gIx, rBin, gAdd, gCmpI, dCall, dCallK, dSeq, dNext, dDrop, dRet, dRetN, dIfS, dName, dGNil, dGCons, dGTup, dSub, gSetL, dAsg, dPar, dPar3, dAug, gIpI, dSeqI, gSeqI, dRngI, gRng1, gRng2, dCB, gAbs, gInt, gMax, gMin, gGcd, gLen, lenD, gIsi, tyM, tyD, dBits, gBits, dMet, gAppend, dPart, dNoPart, dSl, gSl_tup, gSl_lst, cut_1, dEnds, gIs, isB, dNever, dCallX, dRaise, dTry, dFld, dCallV, gLRng, gFrz, dFrz, dFor, dLc, wipeD, dYes,
  sizeLine_eq, Nat.reduceLeDiff, gEq_int, gNe_int, gEq_strs, gNe_strs, gIn_two, gRepr_bl, rs_lst, rs_tup, rs_scr, rs_int, atI_0, atI_1, atI_2, atI_3, atI_4, atI_5, ixN_30, ixN_31, ixN_32, gEq_bl, gNe_bl, decide_eq_true_eq, beq_iff_eq, Bool.not_eq_true', beq_eq_false_iff_ne, decide_eq_false_iff_not, Bool.not_true, Bool.not_false, if_true, if_false, Bool.false_eq_true, ite_true, ite_false, true_and, and_true, ne_eq, Bool.bne_false, Bool.bne_true, reduceCtorEq])
local macro_rules | `(tactic| walk_at "kb") => `(tactic| simp only [kb_NoneType_list, kb_bool_list, kb_int_list, kb_str_list, kb_tuple_list, kb_list_list, kb_dict_list, kb_NoneType_int, kb_bool_int, kb_int_int, kb_str_int, kb_tuple_int, kb_list_int, kb_dict_int, kb_NoneType_bool, kb_bool_bool, kb_int_bool, kb_str_bool, kb_tuple_bool, kb_list_bool, kb_dict_bool, kb_NoneType_tuple, kb_bool_tuple, kb_int_tuple, kb_str_tuple, kb_tuple_tuple, kb_list_tuple, kb_dict_tuple, if_true, if_false, Bool.false_eq_true, ite_true, ite_false, Bool.not_true, Bool.not_false])
/-! k46: shears between a deed and what leads back -/
/-! ### tables whose rows are owned, made new -/
def newT (A : M4) (M : Mem) (Q : DQ) : Prop := Q (.own (M.length + 4)) (M ++ cells5 M.length A)
theorem newT.rtq {A : M4} {M : Mem} {Q : DQ} (h : newT A M Q) : Rtq M Q (.own (M.length + 4)) (M ++ cells5 M.length A) := by
  have := tabOwn.rtq (G := []) (A := A) (M := M) (Q := Q) (by unfold tabOwn; rw [List.append_nil]; exact h) (fun c hc => by cases hc)
  rwa [List.append_nil] at this
/-! ### shears -/
/-! ### products -/
theorem mul_bi {A B : M4} {n m : Nat} (hA : A.bi n) (hB : B.bi m) : (A.mul B).bi (n + m + 2) := by
  have d : ∀ v w : V4, v.bi n → w.bi m → Bi (n + m + 2) (dot4 v w) := fun v w hv hw =>
    ((((hv.a.mul hw.a).up (by omega : n + m ≤ n + m)).add ((hv.b.mul hw.b).up (by omega))).up (by omega : n + m + 1 ≤ n + m + 1) |> fun h1 => by
      have h2 := ((hv.c.mul hw.c).up (by omega : n + m ≤ n + m)).add ((hv.d.mul hw.d).up (by omega : n + m ≤ n + m))
      have h3 := h1.add h2
      unfold dot4
      have e : v.a * w.a + v.b * w.b + v.c * w.c + v.d * w.d = v.a * w.a + v.b * w.b + (v.c * w.c + v.d * w.d) := by omega
      rw [e]; exact h3)
  have hT := hB.T
  exact ⟨⟨d _ _ hA.a hT.a, d _ _ hA.a hT.b, d _ _ hA.a hT.c, d _ _ hA.a hT.d⟩, ⟨d _ _ hA.b hT.a, d _ _ hA.b hT.b, d _ _ hA.b hT.c, d _ _ hA.b hT.d⟩, ⟨d _ _ hA.c hT.a, d _ _ hA.c hT.b, d _ _ hA.c hT.c, d _ _ hA.c hT.d⟩, ⟨d _ _ hA.d hT.a, d _ _ hA.d hT.b, d _ _ hA.d hT.c, d _ _ hA.d hT.d⟩⟩
/-! ### back -/
def sI : Nat → Int
  | 0 => 1 | 1 => -1 | 2 => 1 | _ => -1
/-! ### the number between -/
/-! ### the law's look at one cutting -/
theorem gEqE_int {i j : Int} {M : Mem} {Q : DQ} : gEqE (.int i) (.int j) M Q = Q (.bl (i == j)) M := rfl
theorem gNeE_int {i j : Int} {M : Mem} {Q : DQ} : gNeE (.int i) (.int j) M Q = Q (.bl (!(i == j))) M := rfl
/-! ### the law -/
end DL
namespace DL
/-! MR: tables of words -/
def bkM (A : M4) : M4 := ⟨⟨A.b.b, 0 - A.a.b, A.d.b, 0 - A.c.b⟩, ⟨0 - A.b.a, A.a.a, 0 - A.d.a, A.c.a⟩, ⟨A.b.d, 0 - A.a.d, A.d.d, 0 - A.c.d⟩, ⟨0 - A.b.c, A.a.c, 0 - A.d.c, A.c.c⟩⟩
theorem keeps_six {A : M4} (h : Keeps A) : crs A.T.a A.T.b = 1 ∧ crs A.T.c A.T.d = 1 ∧ crs A.T.a A.T.c = 0 ∧ crs A.T.a A.T.d = 0 ∧ crs A.T.b A.T.c = 0 ∧ crs A.T.b A.T.d = 0 :=
  ⟨h 0 (by decide) 1 (by decide), h 2 (by decide) 3 (by decide), h 0 (by decide) 2 (by decide), h 0 (by decide) 3 (by decide), h 1 (by decide) 2 (by decide), h 1 (by decide) 3 (by decide)⟩
/-- what leads back does so -/
theorem bk_mul {A : M4} (h : Keeps A) : (bkM A).mul A = M4.one := by
  obtain ⟨h1, h2, h3, h4, h5, h6⟩ := keeps_six h
  simp only [crs, M4.T] at h1 h2 h3 h4 h5 h6
  ext <;> simp only [M4.mul, M4.T, M4.led, dot4, bkM, M4.one, bse] <;> grind
theorem one_led (v : V4) : M4.one.led v = v := by
  ext <;> simp only [M4.led, dot4, M4.one, bse] <;> grind
theorem keeps_one : Keeps M4.one := by
  refine keeps_of ?_ ?_ ?_ ?_ ?_ ?_ <;> decide
/-- crossings of what is led -/
theorem crs_led {A : M4} (h : Keeps A) (v w : V4) : crs (A.led v) (A.led w) = crs v w := by
  obtain ⟨h1, h2, h3, h4, h5, h6⟩ := keeps_six h
  rw [led_sum, led_sum]
  generalize A.T.a = a at *
  generalize A.T.b = b at *
  generalize A.T.c = c at *
  generalize A.T.d = d at *
  have e : crs (v.sum a b c d) (w.sum a b c d) = crs a b * (v.a * w.b - v.b * w.a) + crs c d * (v.c * w.d - v.d * w.c) + crs a c * (v.a * w.c - v.c * w.a) + crs a d * (v.a * w.d - v.d * w.a) + crs b c * (v.b * w.c - v.c * w.b) + crs b d * (v.b * w.d - v.d * w.b) := by
    simp only [crs, V4.sum]; grind
  rw [e, h1, h2, h3, h4, h5, h6]
  simp only [crs]; grind
theorem keeps_mul {A B : M4} (hA : Keeps A) (hB : Keeps B) : Keeps (A.mul B) := by
  intro i hi j hj
  rw [← led_base, ← led_base, mul_led, mul_led, crs_led hA, crs_led hB]
theorem bk_of_mul (A B : M4) : bkM (A.mul B) = (bkM B).mul (bkM A) := by
  ext <;> simp only [bkM, M4.mul, M4.T, M4.led, dot4] <;> grind
/-- a table that keeps crossings, and so does the one that leads back -/
structure KK (A : M4) : Prop where
  k : Keeps A
  b : Keeps (bkM A)
theorem KK.one : KK M4.one := ⟨keeps_one, by refine keeps_of ?_ ?_ ?_ ?_ ?_ ?_ <;> decide⟩
theorem KK.mul {A B : M4} (hA : KK A) (hB : KK B) : KK (A.mul B) := ⟨keeps_mul hA.k hB.k, by rw [bk_of_mul]; exact keeps_mul hB.b hA.b⟩
end DL
namespace DL
open PySem PySem.Spec PyProof.Rows L2
local macro_rules | `(tactic| walk_at "rd") => `(tactic| simp only [startD, List.map, List.replicate, List.length_cons, List.length_nil, List.append_eq, List.append_nil, List.nil_append, List.cons_append, Nat.reduceSub, Nat.reduceAdd, List.getElem?_cons_zero, List.getElem?_cons_succ, List.set_cons_zero, List.set_cons_succ,
  dC, dVar, dOp, dTru, gTru, tru, dChain, dAnd, dOr, dNot, dAndV, dOrV, dNotV, dIf, dNeg, gNeg, dNil, dCons, dTup, dLst, dOwn, gIx, rBin, gAdd, gCmpI, dCall, dCallK, dSeq, dNext, dDrop, dRet, dRetN, dIfS, dName, dGNil, dGCons, dGTup, dSub, gSetL, dAsg, dPar, dPar3, dAug, gIpI, dSeqI, gSeqI, dRngI, gRng1, gRng2, dCB, gAbs, gInt, gMax, gMin, gGcd, gLen, lenD, gIsi, tyM, tyD, dBits, gBits, dMet, gAppend, dPart, dNoPart, dSl, gSl_tup, gSl_lst, cut_1, dEnds, gIs, isB, dNever, dCallX, dRaise, dTry, dFld, dCallV, gLRng, gFrz, dFrz, dFor, dLc, wipeD, dYes,
  sizeLine_eq, Nat.reduceLeDiff, gEq_int, gNe_int, gEq_strs, gNe_strs, gIn_two, gRepr_bl, rs_lst, rs_tup, rs_scr, rs_int, atI_0, atI_1, atI_2, atI_3, atI_4, atI_5, ixN_30, ixN_31, ixN_32, gEq_bl, gNe_bl, decide_eq_true_eq, beq_iff_eq, Bool.not_eq_true', beq_eq_false_iff_ne, decide_eq_false_iff_not, Bool.not_true, Bool.not_false, if_true, if_false, Bool.false_eq_true, ite_true, ite_false, true_and, and_true, ne_eq, Bool.bne_false, Bool.bne_true, reduceCtorEq])
local macro_rules | `(tactic| walk_at "rh") => `(tactic| simp only [*, startD, List.map, List.replicate, List.length_cons, List.length_nil, List.append_eq, List.append_nil, List.nil_append, List.cons_append, Nat.reduceSub, Nat.reduceAdd, List.getElem?_cons_zero, List.getElem?_cons_succ, List.set_cons_zero, List.set_cons_succ,
  dC, dVar, dOp, dTru, gTru, tru, dChain, dAnd, dOr, dNot, dAndV, dOrV, dNotV, dIf, dNeg, gNeg, dNil, dCons, dTup, dLst, dOwn, gIx, rBin, gAdd, gCmpI, dCall, dCallK, dSeq, dNext, dDrop, dRet, dRetN, dIfS, dName, dGNil, dGCons, dGTup, dSub, gSetL, dAsg, dPar, dPar3, dAug, gIpI, dSeqI, gSeqI, dRngI, gRng1, gRng2, dCB, gAbs, gInt, gMax, gMin, gGcd, gLen, lenD, gIsi, tyM, tyD, dBits, gBits, dMet, gAppend, dPart, dNoPart, dSl, gSl_tup, gSl_lst, cut_1, dEnds, gIs, isB, dNever, dCallX, dRaise, dTry, dFld, dCallV, gLRng, gFrz, dFrz, dFor, dLc, wipeD, dYes,
  sizeLine_eq, Nat.reduceLeDiff, gEq_int, gNe_int, gEq_strs, gNe_strs, gIn_two, gRepr_bl, rs_lst, rs_tup, rs_scr, rs_int, atI_0, atI_1, atI_2, atI_3, atI_4, atI_5, ixN_30, ixN_31, ixN_32, gEq_bl, gNe_bl, decide_eq_true_eq, beq_iff_eq, Bool.not_eq_true', beq_eq_false_iff_ne, decide_eq_false_iff_not, Bool.not_true, Bool.not_false, if_true, if_false, Bool.false_eq_true, ite_true, ite_false, true_and, and_true, ne_eq, Bool.bne_false, Bool.bne_true, reduceCtorEq])
local macro_rules | `(tactic| walk_at "kb") => `(tactic| simp only [kb_NoneType_list, kb_bool_list, kb_int_list, kb_str_list, kb_tuple_list, kb_list_list, kb_dict_list, kb_NoneType_int, kb_bool_int, kb_int_int, kb_str_int, kb_tuple_int, kb_list_int, kb_dict_int, kb_NoneType_bool, kb_bool_bool, kb_int_bool, kb_str_bool, kb_tuple_bool, kb_list_bool, kb_dict_bool, kb_NoneType_tuple, kb_bool_tuple, kb_int_tuple, kb_str_tuple, kb_tuple_tuple, kb_list_tuple, kb_dict_tuple, if_true, if_false, Bool.false_eq_true, ite_true, ite_false, Bool.not_true, Bool.not_false])
/-! k42: tables of words -/
/-! ### memory that has grown -/
def Grown (M MM : Mem) : Prop := ∃ Y, MM = M ++ Y ∧ ∀ c ∈ Y, belowO MM.length c = true
theorem Grown.refl (M : Mem) : Grown M M := ⟨[], (List.append_nil _).symm, fun c h => by cases h⟩
theorem Grown.len {M MM : Mem} (h : Grown M MM) : M.length ≤ MM.length := by
  obtain ⟨Y, rfl, _⟩ := h
  rw [List.length_append]; omega
theorem Grown.trans {M M1 M2 : Mem} (h : Grown M M1) (g : Grown M1 M2) : Grown M M2 := by
  have hl := g.len
  obtain ⟨Y, rfl, hY⟩ := h
  obtain ⟨Z, rfl, hZ⟩ := g
  refine ⟨Y ++ Z, List.append_assoc _ _ _, fun c hc => ?_⟩
  rcases List.mem_append.mp hc with r | r
  · exact belowO.mono hl (hY c r)
  · exact hZ c r
theorem Grown.rtq {M MM : Mem} {Q : DQ} {d : D} (h : Grown M MM) (q : Q d MM) (hb : below MM.length d = true) : Rtq M Q d MM := by
  obtain ⟨Y, rfl, hY⟩ := h
  exact rtqA q hb hY
/-- a table whose list and rows were made behind the first N cells -/
structure TabN (N : Nat) (M : Mem) (d : D) (A : M4) : Prop where
  ex : ∃ K k0 k1 k2 k3 : Nat, d = .own K ∧ N ≤ K ∧ K < M.length ∧ (N ≤ k0 ∧ N ≤ k1 ∧ N ≤ k2 ∧ N ≤ k3) ∧ res M d = .lst [.own k0, .own k1, .own k2, .own k3] ∧ M[k0]? = some A.a.O
  tab : TabR M d A
theorem TabN.mono {N N' : Nat} {M : Mem} {d : D} {A : M4} (h : TabN N M d A) (hn : N' ≤ N) : TabN N' M d A := by
  obtain ⟨⟨K, k0, k1, k2, k3, h1, h2, h3, h4, h5⟩, t⟩ := h
  exact ⟨⟨K, k0, k1, k2, k3, h1, by omega, h3, ⟨by omega, by omega, by omega, by omega⟩, h5⟩, t⟩
theorem TabN.below {N : Nat} {M : Mem} {d : D} {A : M4} (h : TabN N M d A) : below M.length d = true := by
  obtain ⟨⟨K, _, _, _, _, rfl, _, h3, _⟩, _⟩ := h
  exact decide_eq_true h3
theorem TabN.app {N : Nat} {M : Mem} {d : D} {A : M4} (h : TabN N M d A) (G : Mem) : TabN N (M ++ G) d A := by
  obtain ⟨⟨K, k0, k1, k2, k3, h1, h2, h3, h4, h5, h6⟩, t⟩ := h
  exact ⟨⟨K, k0, k1, k2, k3, h1, h2, by rw [List.length_append]; omega, h4, res_app h5, by rw [List.getElem?_append_left (List.getElem?_eq_some_iff.mp h6).1]; exact h6⟩, t.app G⟩
/-- a new table, in memory that has grown -/
def newG (A : M4) (M : Mem) (Q : DQ) : Prop := ∀ MM d, Grown M MM → TabN M.length MM d A → Q d MM
theorem newG.rtq {A : M4} {M : Mem} {Q : DQ} (h : newG A M Q) : newG A M (Rtq M Q) := fun MM d g t => g.rtq (h MM d g t) t.below
/-! ### products, with their own rows -/
/-! ### words -/
inductive WordT (a b c e : Int) : List (Int × Int) → M4 → Int → Int → Int → Int → Int → Prop
  | nil : WordT a b c e [] M4.one 0 a b c e
  | snoc {l : List (Int × Int)} {X : M4} {s a1 b1 c1 e1 p q a' w g e' x z o0 o1 s2 t2 : Int} : WordT a b c e l X s a1 b1 c1 e1 → DeS a1 b1 c1 e1 p q a' w g e' → DTab a1 b1 c1 e1 p q a' w g x z o0 o1 s2 t2 →
      WordT a b c e (l ++ [(p, q)]) (X.mul (tabM p q x z o0 o1 s2 t2)) (s + e1 + q * c1) a' w g e'
theorem WordT.cs {a b c e s A B C E : Int} {l : List (Int × Int)} {X : M4} (h : WordT a b c e l X s A B C E) (h0 : CS a b c e) : CS A B C E := by
  induction h with
  | nil => exact h0
  | snoc _ hd _ _ => exact hd.cs'.1
theorem WordT.bi {a b c e s A B C E : Int} {l : List (Int × Int)} {X : M4} (h : WordT a b c e l X s A B C E) : X.bi (532 * l.length + 2) := by
  induction h with
  | nil => exact ⟨bse_bi (by decide) 0, bse_bi (by decide) 1, bse_bi (by decide) 2, bse_bi (by decide) 3⟩
  | snoc _ hd ht ih =>
    refine (mul_bi ih (tab_M hd ht)).up ?_
    rw [List.length_append, List.length_singleton]
    omega
theorem WordT.uniq {a b c e s A B C E : Int} {l : List (Int × Int)} {X : M4} (h : WordT a b c e l X s A B C E) : ∀ {l' X' s' A' B' C' E'}, WordT a b c e l' X' s' A' B' C' E' → l' = l → X' = X ∧ s' = s ∧ A' = A ∧ B' = B ∧ C' = C ∧ E' = E := by
  induction h with
  | nil =>
    intro l' X' s' A' B' C' E' h' hl
    cases h' with
    | nil => exact ⟨rfl, rfl, rfl, rfl, rfl, rfl⟩
    | snoc _ _ _ => exact absurd (congrArg List.length hl) (by simp)
  | @snoc l X s a1 b1 c1 e1 p q a' w g e' x z o0 o1 s2 t2 h0 hd ht ih =>
    intro l' X' s' A' B' C' E' h' hl
    cases h' with
    | nil => exact absurd (congrArg List.length hl) (by simp)
    | snoc h2 hd2 ht2 =>
      obtain ⟨e1', e2'⟩ := List.append_inj' hl rfl
      simp only [List.cons.injEq, Prod.mk.injEq, and_true] at e2'
      obtain ⟨rfl, rfl⟩ := e2'
      obtain ⟨rfl, rfl, rfl, rfl, rfl, rfl⟩ := ih h2 e1'
      obtain ⟨rfl, rfl, rfl, rfl⟩ := hd.one hd2.dn
      exact ⟨by rw [tabM_uniq hd ht ht2], rfl, rfl, rfl, rfl, rfl⟩
theorem WordT.at {a b c e s A B C E : Int} {l : List (Int × Int)} {X : M4} (h : WordT a b c e l X s A B C E) : ∀ (i : Nat) (d : Int × Int), l[i]? = some d → ∃ Xi si Ai Bi' Ci Ei, WordT a b c e (l.take i) Xi si Ai Bi' Ci Ei ∧ ∃ a' w g e', DeS Ai Bi' Ci Ei d.1 d.2 a' w g e' := by
  induction h with
  | nil => intro i d hd; simp at hd
  | @snoc l X s a1 b1 c1 e1 p q a' w g e' x z o0 o1 s2 t2 h0 hd ht ih =>
    intro i d hi
    rcases Nat.lt_or_ge i l.length with r | r
    · rw [List.getElem?_append_left r] at hi
      rw [List.take_append_of_le_length (by omega)]
      exact ih i d hi
    · rw [List.getElem?_append_right r] at hi
      have hz : i - l.length = 0 := by
        have := (List.getElem?_eq_some_iff.mp hi).1
        simp at this
        omega
      rw [hz] at hi
      simp only [List.getElem?_cons_zero, Option.some.injEq] at hi
      subst hi
      have hil : i = l.length := by omega
      subst hil
      rw [List.take_left]
      exact ⟨_, _, _, _, _, _, h0, _, _, _, _, hd⟩
/-! ### words looked at -/
abbrev dD (d : Int × Int) : D := .tup [.int d.1, .int d.2]
def AllT4 (L : List D) : Prop := ∀ x ∈ L, ∃ a b c e : Int, x = T4 a b c e
theorem AllT4.below {L : List D} (h : AllT4 L) (n : Nat) : belowAll n L = true := by
  induction L with
  | nil => rfl
  | cons x L ih =>
    obtain ⟨a, b, c, e, rfl⟩ := h x (List.mem_cons_self ..)
    simp only [belowAll, Bool.and_eq_true]
    exact ⟨rfl, ih fun y hy => h y (List.mem_cons_of_mem _ hy)⟩
/-! ### the table of a word -/
/-! ### the generator, beside tables and words -/
theorem Gn.ltK {k : Nat} {n : Int} {M : Mem} (h : Gn k n M) : k < M.length := by
  obtain ⟨a, s, c, h1, _⟩ := h
  exact (List.getElem?_eq_some_iff.mp h1).1
theorem Gn.appK {k : Nat} {n : Int} {M G : Mem} (h : Gn k n M) : Gn k n (M ++ G) := by
  obtain ⟨a, s, c, h1, h2⟩ := h
  exact ⟨a, s, c, by rw [List.getElem?_append_left (List.getElem?_eq_some_iff.mp h1).1]; exact h1, h2⟩
/-- what stood behind stays behind -/
theorem Gst.cutK {k : Nat} {n : Int} {M G M' : Mem} (h : Gst k n (M ++ G) M') (hk : k < M.length) : ∃ M1 G', M' = M1 ++ G' ∧ Gst k n M M1 := by
  obtain ⟨h1, ⟨a, s, c, h2, h3⟩, h4⟩ := h
  have hl : M.length ≤ M'.length := by rw [h1, List.length_append]; omega
  refine ⟨M'.take M.length, M'.drop M.length, (List.take_append_drop _ _).symm, by rw [List.length_take]; omega, ⟨a, s, c, by rw [List.getElem?_take_of_lt hk]; exact h2, h3⟩, fun i hi => ?_⟩
  by_cases hl : i < M.length
  · rw [List.getElem?_take_of_lt hl, h4 i hi, List.getElem?_append_left hl]
  · rw [List.getElem?_eq_none (by rw [List.length_take]; omega), List.getElem?_eq_none (by omega)]
theorem TabN.gst {N k : Nat} {n : Int} {M M' : Mem} {d : D} {A : M4} (hk : k < N) (g : Gst k n M M') (t : TabN N M d A) : TabN N M' d A := by
  obtain ⟨⟨K, k0, k1, k2, k3, rfl, h2, h3, ⟨a0, a1, a2, a3⟩, h5, h6⟩, x0, x1, x2, x3, e, r0, r1, r2, r3⟩ := t
  have go := g.2.2
  have rs : ∀ j : Nat, N ≤ j → res M' (.own j) = res M (.own j) := fun j hj => by
    unfold res
    dsimp only
    rw [go j (by omega)]
  rw [h5] at e
  cases e
  exact ⟨⟨K, k0, k1, k2, k3, rfl, h2, by rw [g.1]; exact h3, ⟨a0, a1, a2, a3⟩, by rw [rs K h2]; exact h5, by rw [go k0 (by omega)]; exact h6⟩, _, _, _, _, by rw [rs K h2]; exact h5, by rw [rs k0 a0]; exact r0, by rw [rs k1 a1]; exact r1, by rw [rs k2 a2]; exact r2, by rw [rs k3 a3]; exact r3⟩
/-! ### back -/
/-! ### drawn words -/
/-! ### powers -/
/-! ### small tables -/
theorem WordT.small {a b c e s A B C E : Int} {l : List (Int × Int)} {X : M4} (h : WordT a b c e l X s A B C E) : ∀ d ∈ l, Bi 50 d.1 ∧ Bi 50 d.2 := by
  induction h with
  | nil => intro d hd; cases hd
  | snoc _ hd _ ih =>
    intro d hm
    rcases List.mem_append.mp hm with r | r
    · exact ih d r
    · simp only [List.mem_cons, List.not_mem_nil, or_false] at r
      subst r
      exact deed_48 hd.cs hd.deed
/-! ### the law's look at one word -/
structure Sta (k : Nat) (n : Int) (M : Mem) (W : Nat) (l : List (Int × Int)) (MM : Mem) : Prop where
  gs : ∃ M1 Y, MM = M1 ++ Y ∧ Gst k n M M1
  w : MM[W]? = some (.lst (l.map dD))
  wk : M.length ≤ W
  kl : k < M.length
theorem Sta.len {k : Nat} {n : Int} {M MM : Mem} {W : Nat} {l : List (Int × Int)} (h : Sta k n M W l MM) : M.length ≤ MM.length := by
  have := (List.getElem?_eq_some_iff.mp h.w).1
  have := h.wk
  omega
theorem Sta.le {k : Nat} {n n' : Int} {M MM : Mem} {W : Nat} {l : List (Int × Int)} (h : Sta k n M W l MM) (hn : n ≤ n') : Sta k n' M W l MM := by
  obtain ⟨⟨M1, Y, e, g⟩, h2, h3, h4⟩ := h
  exact ⟨⟨M1, Y, e, g.le hn⟩, h2, h3, h4⟩
theorem Sta.grown {k : Nat} {n : Int} {M MM MM' : Mem} {W : Nat} {l : List (Int × Int)} (h : Sta k n M W l MM) (g : Grown MM MM') : Sta k n M W l MM' := by
  obtain ⟨⟨M1, Y, rfl, gs⟩, h2, h3, h4⟩ := h
  obtain ⟨Z, rfl, _⟩ := g
  exact ⟨⟨M1, Y ++ Z, List.append_assoc _ _ _, gs⟩, by rw [List.getElem?_append_left (List.getElem?_eq_some_iff.mp h2).1]; exact h2, h3, h4⟩
theorem Sta.gn {k : Nat} {n : Int} {M MM : Mem} {W : Nat} {l : List (Int × Int)} (h : Sta k n M W l MM) : Gn k n MM := by
  obtain ⟨⟨M1, Y, rfl, gs⟩, _⟩ := h
  exact gs.2.1.appK
theorem Sta.gst {k : Nat} {n n' : Int} {M MM MM' : Mem} {W : Nat} {l : List (Int × Int)} (h : Sta k n M W l MM) (g : Gst k n' MM MM') : Sta k n' M W l MM' := by
  obtain ⟨⟨M1, Y, rfl, gs⟩, h2, h3, h4⟩ := h
  obtain ⟨M1', Y', e, g'⟩ := Gst.cutK g (by rw [gs.1]; exact h4)
  exact ⟨⟨M1', Y', e, gs.trans g'⟩, by rw [g.2.2 W (by omega)]; exact h2, h3, h4⟩
theorem Sta.set {k : Nat} {n : Int} {M MM : Mem} {W : Nat} {l : List (Int × Int)} (h : Sta k n M W l MM) {j : Nat} {c : Own} (hj : M.length ≤ j) (hw : j ≠ W) : Sta k n M W l (MM.set j c) := by
  obtain ⟨⟨M1, Y, rfl, gs⟩, h2, h3, h4⟩ := h
  refine ⟨⟨M1, Y.set (j - M1.length) c, ?_, gs⟩, by rw [List.getElem?_set_ne hw]; exact h2, h3, h4⟩
  rw [List.set_append_right _ _ (by rw [gs.1]; exact hj)]
theorem Sta.rtq {k : Nat} {n : Int} {M MM : Mem} {W : Nat} {l : List (Int × Int)} {Q : DQ} {d : D} (h : Sta k n M W l MM) (q : ∀ M', Q d M') (hb : ∀ n, below n d = true) : Rtq M Q d MM := by
  obtain ⟨⟨M1, Y, rfl, gs⟩, _⟩ := h
  exact gs.rtqK (q M1) (hb _)
theorem bk_bi {A : M4} {n : Nat} (h : A.bi n) : (bkM A).bi n := by
  have ng : ∀ {i : Int}, Bi n i → Bi n (0 - i) := fun {i} h => by unfold Bi at *; omega
  exact ⟨⟨h.b.b, ng h.a.b, h.d.b, ng h.c.b⟩, ⟨ng h.b.a, h.a.a, ng h.d.a, h.c.a⟩, ⟨h.b.d, ng h.a.d, h.d.d, ng h.c.d⟩, ⟨ng h.b.c, h.a.c, ng h.d.c, h.c.c⟩⟩
theorem sIx_nat {n d i : Nat} (h : i ≤ n) : HT.sIx n d (some (i : Int)) = i := by
  rw [HT.sIx_nat]
  omega
theorem cut_drop {l : List D} {i : Nat} (h : i ≤ l.length) : cutD l (some (i : Int)) none = l.drop i := by
  unfold cutD
  rw [sIx_nat h]
  show List.take (l.length - i) (List.drop i l) = _
  rw [List.take_of_length_le (by rw [List.length_drop]; omega)]
/-! ### fixed words -/
end DL
namespace DL
/-! MS: what keeps crossings by its columns does so by its rows -/
theorem rows_cross {A : M4} (h : Keeps A) : crs A.a A.b = 1 ∧ crs A.c A.d = 1 ∧ crs A.a A.c = 0 ∧ crs A.a A.d = 0 ∧ crs A.b A.c = 0 ∧ crs A.b A.d = 0 := by
  obtain ⟨h1, h2, h3, h4, h5, h6⟩ := keeps_six h
  have key : ∀ v w : V4, crs A.T.c A.T.d * (v.a * w.b - v.b * w.a) + crs A.T.a A.T.b * (v.c * w.d - v.d * w.c) - crs A.T.b A.T.d * (v.a * w.c - v.c * w.a) - crs A.T.a A.T.c * (v.b * w.d - v.d * w.b) + crs A.T.b A.T.c * (v.a * w.d - v.d * w.a) + crs A.T.a A.T.d * (v.b * w.c - v.c * w.b) = crs v w := by
    intro v w
    rw [h1, h2, h3, h4, h5, h6]
    simp only [crs]
    grind
  have pf : crs A.T.a A.T.b * crs A.T.c A.T.d - crs A.T.a A.T.c * crs A.T.b A.T.d + crs A.T.a A.T.d * crs A.T.b A.T.c = 1 := by
    rw [h1, h2, h3, h4, h5, h6]
    decide
  obtain ⟨⟨a0, a1, a2, a3⟩, ⟨b0, b1, b2, b3⟩, ⟨c0, c1, c2, c3⟩, ⟨d0, d1, d2, d3⟩⟩ := A
  refine ⟨?_, ?_, ?_, ?_, ?_, ?_⟩
  · rw [← pf, ← key]; simp only [crs, M4.T]; grind
  · rw [← pf, ← key]; simp only [crs, M4.T]; grind
  · rw [← key]; simp only [crs, M4.T]; grind
  · rw [← key]; simp only [crs, M4.T]; grind
  · rw [← key]; simp only [crs, M4.T]; grind
  · rw [← key]; simp only [crs, M4.T]; grind
theorem mul_bk {A : M4} (h : Keeps A) : A.mul (bkM A) = M4.one := by
  obtain ⟨h1, h2, h3, h4, h5, h6⟩ := rows_cross h
  simp only [crs] at h1 h2 h3 h4 h5 h6
  ext <;> simp only [M4.mul, M4.T, M4.led, dot4, bkM, M4.one, bse] <;> grind
end DL
namespace DL
open PySem PySem.Spec PyProof.Rows L2
local macro_rules | `(tactic| walk_at "rd") => `(tactic| simp only [startD, List.map, List.replicate, List.length_cons, List.length_nil, List.append_eq, List.append_nil, List.nil_append, List.cons_append, Nat.reduceSub, Nat.reduceAdd, List.getElem?_cons_zero, List.getElem?_cons_succ, List.set_cons_zero, List.set_cons_succ,
  dC, dVar, dOp, dTru, gTru, tru, dChain, dAnd, dOr, dNot, dAndV, dOrV, dNotV, dIf, dNeg, gNeg, dNil, dCons, dTup, dLst, dOwn, gIx, rBin, gAdd, gCmpI, dCall, dCallK, dSeq, dNext, dDrop, dRet, dRetN, dIfS, dName, dGNil, dGCons, dGTup, dSub, gSetL, dAsg, dPar, dPar3, dAug, gIpI, dSeqI, gSeqI, dRngI, gRng1, gRng2, dCB, gAbs, gInt, gMax, gMin, gGcd, gLen, lenD, gIsi, tyM, tyD, dBits, gBits, dMet, gAppend, dPart, dNoPart, dSl, gSl_tup, gSl_lst, cut_1, dEnds, gIs, isB, dNever, dCallX, dRaise, dTry, dFld, dCallV, gLRng, gFrz, dFrz, dFor, dLc, wipeD, dYes,
  sizeLine_eq, Nat.reduceLeDiff, gEq_int, gNe_int, gEq_strs, gNe_strs, gIn_two, gRepr_bl, rs_lst, rs_tup, rs_scr, rs_int, atI_0, atI_1, atI_2, atI_3, atI_4, atI_5, ixN_30, ixN_31, ixN_32, gEq_bl, gNe_bl, decide_eq_true_eq, beq_iff_eq, Bool.not_eq_true', beq_eq_false_iff_ne, decide_eq_false_iff_not, Bool.not_true, Bool.not_false, if_true, if_false, Bool.false_eq_true, ite_true, ite_false, true_and, and_true, ne_eq, Bool.bne_false, Bool.bne_true, reduceCtorEq])
local macro_rules | `(tactic| walk_at "rh") => `(tactic| simp only [*, startD, List.map, List.replicate, List.length_cons, List.length_nil, List.append_eq, List.append_nil, List.nil_append, List.cons_append, Nat.reduceSub, Nat.reduceAdd, List.getElem?_cons_zero, List.getElem?_cons_succ, List.set_cons_zero, List.set_cons_succ,
  dC, dVar, dOp, dTru, gTru, tru, dChain, dAnd, dOr, dNot, dAndV, dOrV, dNotV, dIf, dNeg, gNeg, dNil, dCons, dTup, dLst, dOwn, gIx, rBin, gAdd, gCmpI, dCall, dCallK, dSeq, dNext, dDrop, dRet, dRetN, dIfS, dName, dGNil, dGCons, dGTup, dSub, gSetL, dAsg, dPar, dPar3, dAug, gIpI, dSeqI, gSeqI, dRngI, gRng1, gRng2, dCB, gAbs, gInt, gMax, gMin, gGcd, gLen, lenD, gIsi, tyM, tyD, dBits, gBits, dMet, gAppend, dPart, dNoPart, dSl, gSl_tup, gSl_lst, cut_1, dEnds, gIs, isB, dNever, dCallX, dRaise, dTry, dFld, dCallV, gLRng, gFrz, dFrz, dFor, dLc, wipeD, dYes,
  sizeLine_eq, Nat.reduceLeDiff, gEq_int, gNe_int, gEq_strs, gNe_strs, gIn_two, gRepr_bl, rs_lst, rs_tup, rs_scr, rs_int, atI_0, atI_1, atI_2, atI_3, atI_4, atI_5, ixN_30, ixN_31, ixN_32, gEq_bl, gNe_bl, decide_eq_true_eq, beq_iff_eq, Bool.not_eq_true', beq_eq_false_iff_ne, decide_eq_false_iff_not, Bool.not_true, Bool.not_false, if_true, if_false, Bool.false_eq_true, ite_true, ite_false, true_and, and_true, ne_eq, Bool.bne_false, Bool.bne_true, reduceCtorEq])
local macro_rules | `(tactic| walk_at "kb") => `(tactic| simp only [kb_NoneType_list, kb_bool_list, kb_int_list, kb_str_list, kb_tuple_list, kb_list_list, kb_dict_list, kb_NoneType_int, kb_bool_int, kb_int_int, kb_str_int, kb_tuple_int, kb_list_int, kb_dict_int, kb_NoneType_bool, kb_bool_bool, kb_int_bool, kb_str_bool, kb_tuple_bool, kb_list_bool, kb_dict_bool, kb_NoneType_tuple, kb_bool_tuple, kb_int_tuple, kb_str_tuple, kb_tuple_tuple, kb_list_tuple, kb_dict_tuple, if_true, if_false, Bool.false_eq_true, ite_true, ite_false, Bool.not_true, Bool.not_false])
/-! k43: tables that keep crossings -/
/-- a new path -/
def newV (v : V4) (M : Mem) (Q : DQ) : Prop := ∀ MM K, Grown M MM → M.length ≤ K → MM[K]? = some v.O → Q (.own K) MM
theorem newV.rtq {v : V4} {M : Mem} {Q : DQ} (h : newV v M Q) : newV v M (Rtq M Q) := fun MM K g hk hc => g.rtq (h MM K g hk hc) (decide_eq_true (List.getElem?_eq_some_iff.mp hc).1)
theorem gEqE_strs {z : Str} {M : Mem} {Q : DQ} (q : Q (.bl true) M) : gEqE (.str z) (.str z) M Q := by
  have h := gNeE_str (z := z) (M := M) (Q := fun d _ => d = .bl false) rfl
  unfold gNeE at h
  unfold gEqE
  split at h
  · rename_i b hb
    cases b with
    | true => exact q
    | false => cases h
  · exact h.elim
/-! ### one table -/
theorem Grown.set {M MM : Mem} (h : Grown M MM) {j : Nat} {c : Own} (hj : M.length ≤ j) (hc : belowO 0 c = true) : Grown M (MM.set j c) := by
  obtain ⟨Y, rfl, hY⟩ := h
  refine ⟨Y.set (j - M.length) c, List.set_append_right _ _ hj, fun x hx => ?_⟩
  rw [List.length_set]
  rcases List.mem_or_eq_of_mem_set hx with h1 | rfl
  · exact hY x h1
  · exact belowO.mono (Nat.zero_le _) hc
/-! ### a step -/
/-- the generator has gone on, and cells were added -/
structure Std (k : Nat) (n : Int) (M MM : Mem) : Prop where
  gs : ∃ M1 Y, MM = M1 ++ Y ∧ Gst k n M M1
  kl : k < M.length
theorem Std.le {k : Nat} {n n' : Int} {M MM : Mem} (h : Std k n M MM) (hn : n ≤ n') : Std k n' M MM := by
  obtain ⟨⟨M1, Y, e, g⟩, h4⟩ := h
  exact ⟨⟨M1, Y, e, g.le hn⟩, h4⟩
theorem Std.len {k : Nat} {n : Int} {M MM : Mem} (h : Std k n M MM) : M.length ≤ MM.length := by
  obtain ⟨⟨M1, Y, rfl, g⟩, h4⟩ := h
  rw [List.length_append, g.1]
  omega
theorem Std.grown {k : Nat} {n : Int} {M MM MM' : Mem} (h : Std k n M MM) (g : Grown MM MM') : Std k n M MM' := by
  obtain ⟨⟨M1, Y, rfl, gs⟩, h4⟩ := h
  obtain ⟨Z, rfl, _⟩ := g
  exact ⟨⟨M1, Y ++ Z, List.append_assoc _ _ _, gs⟩, h4⟩
theorem Std.app {k : Nat} {n : Int} {M MM : Mem} (h : Std k n M MM) (Z : Mem) : Std k n M (MM ++ Z) := by
  obtain ⟨⟨M1, Y, rfl, gs⟩, h4⟩ := h
  exact ⟨⟨M1, Y ++ Z, List.append_assoc _ _ _, gs⟩, h4⟩
theorem Std.gn {k : Nat} {n : Int} {M MM : Mem} (h : Std k n M MM) : Gn k n MM := by
  obtain ⟨⟨M1, Y, rfl, gs⟩, _⟩ := h
  exact gs.2.1.appK
theorem Std.gst {k : Nat} {n n' : Int} {M MM MM' : Mem} (h : Std k n M MM) (g : Gst k n' MM MM') : Std k n' M MM' := by
  obtain ⟨⟨M1, Y, rfl, gs⟩, h4⟩ := h
  obtain ⟨M1', Y', e, g'⟩ := Gst.cutK g (by rw [gs.1]; exact h4)
  exact ⟨⟨M1', Y', e, gs.trans g'⟩, h4⟩
theorem Std.set {k : Nat} {n : Int} {M MM : Mem} (h : Std k n M MM) {j : Nat} {c : Own} (hj : M.length ≤ j) : Std k n M (MM.set j c) := by
  obtain ⟨⟨M1, Y, rfl, gs⟩, h4⟩ := h
  refine ⟨⟨M1, Y.set (j - M1.length) c, ?_, gs⟩, h4⟩
  rw [List.set_append_right _ _ (by rw [gs.1]; exact hj)]
theorem Std.rtq {k : Nat} {n : Int} {M MM : Mem} {Q : DQ} {d : D} (h : Std k n M MM) (q : ∀ M', Gst k n M M' → Q d M') (hb : ∀ n, below n d = true) : Rtq M Q d MM := by
  obtain ⟨⟨M1, Y, rfl, gs⟩, _⟩ := h
  exact gs.rtqK (q M1 gs) (hb _)
def V4.subT (v : V4) (t : Int) (w : V4) : V4 := ⟨v.a - t * w.a, v.b - t * w.b, v.c - t * w.c, v.d - t * w.d⟩
/-! ### the law's look at one seed -/
/-- five cells that hold a table with its own rows -/
structure CellT (N : Nat) (MM : Mem) (A : M4) : Prop where
  r : ∀ i, i < 4 → MM[N + i]? = some (A.get i).O
  t : MM[N + 4]? = some (.lst [.own N, .own (N + 1), .own (N + 2), .own (N + 3)])
theorem CellT.gst {N k : Nat} {n : Int} {MM M' : Mem} {A : M4} (h : CellT N MM A) (hk : k < N) (g : Gst k n MM M') : CellT N M' A :=
  ⟨fun i hi => by rw [g.2.2 _ (by omega)]; exact h.r i hi, by rw [g.2.2 _ (by omega)]; exact h.t⟩
def M4.setR (A : M4) (i : Nat) (v : V4) : M4 := match i with
  | 0 => { A with a := v }
  | 1 => { A with b := v }
  | 2 => { A with c := v }
  | _ => { A with d := v }
theorem M4.bi.setR {A : M4} {n : Nat} (h : A.bi n) {i : Nat} (hi : i < 4) {v : V4} (hv : v.bi n) : (A.setR i v).bi n := by
  rcases (by omega : i = 0 ∨ i = 1 ∨ i = 2 ∨ i = 3) with rfl | rfl | rfl | rfl
  · exact ⟨hv, h.b, h.c, h.d⟩
  · exact ⟨h.a, hv, h.c, h.d⟩
  · exact ⟨h.a, h.b, hv, h.d⟩
  · exact ⟨h.a, h.b, h.c, hv⟩
theorem M4.setR_get (A : M4) {i j : Nat} (hi : i < 4) (hj : j < 4) (v : V4) : (A.setR i v).get j = if j = i then v else A.get j := by
  rcases (by omega : i = 0 ∨ i = 1 ∨ i = 2 ∨ i = 3) with rfl | rfl | rfl | rfl <;> rcases (by omega : j = 0 ∨ j = 1 ∨ j = 2 ∨ j = 3) with rfl | rfl | rfl | rfl <;> rfl
theorem CellT.set {N : Nat} {MM : Mem} {A : M4} (h : CellT N MM A) {i : Nat} (hi : i < 4) (v : V4) : CellT N (MM.set (N + i) v.O) (A.setR i v) := by
  refine ⟨fun j hj => ?_, by rw [List.getElem?_set_ne (by omega)]; exact h.t⟩
  rw [M4.setR_get A hi hj]
  by_cases e : j = i
  · subst e
    rw [List.getElem?_set_self (List.getElem?_eq_some_iff.mp (h.r j hj)).1, if_pos rfl]
  · rw [List.getElem?_set_ne (by omega), if_neg e]
    exact h.r j hj
/-- the cells of a new table -/
theorem TabN.cells {N : Nat} {MM : Mem} {d : D} {A : M4} (h : TabN N MM d A) : ∃ K k0 k1 k2 k3 : Nat, d = .own K ∧ MM[K]? = some (.lst [.own k0, .own k1, .own k2, .own k3]) ∧ ∀ c ∈ [K, k0, k1, k2, k3], N ≤ c ∧ ∃ l, MM[c]? = some (.lst l) ∧ l.length ≤ 4 := by
  obtain ⟨⟨K, k0, k1, k2, k3, rfl, hK, _, ⟨n0, n1, n2, n3⟩, hr, _⟩, ⟨x0, x1, x2, x3, hx, h0, h1, h2, h3⟩⟩ := h
  rw [hr] at hx
  cases hx
  rcases isL hr with e | ⟨K', e, hc⟩
  · cases e
  cases e
  have one : ∀ {c : Nat} {v : V4}, DL.res MM (.own c) = v.D → ∃ l, MM[c]? = some (.lst l) ∧ l.length ≤ 4 := by
    intro c v h
    rcases isL h with e | ⟨c', e, hc⟩
    · cases e
    cases e
    exact ⟨_, hc, Nat.le_refl _⟩
  refine ⟨K, k0, k1, k2, k3, rfl, hc, fun c hcc => ?_⟩
  simp only [List.mem_cons, List.not_mem_nil, or_false] at hcc
  rcases hcc with rfl | rfl | rfl | rfl | rfl
  · exact ⟨hK, _, hc, Nat.le_refl _⟩
  · exact ⟨n0, one h0⟩
  · exact ⟨n1, one h1⟩
  · exact ⟨n2, one h2⟩
  · exact ⟨n3, one h3⟩
theorem Grown.get {M MM : Mem} (g : Grown M MM) {c : Nat} {x : Own} (h : M[c]? = some x) : MM[c]? = some x := by
  obtain ⟨Y, rfl, _⟩ := g
  rw [List.getElem?_append_left (List.getElem?_eq_some_iff.mp h).1]
  exact h
/-! ### the law -/
end DL
namespace DL
/-! MT: tables that go along with the root number: their two numbers, their powers -/
def M4.add (A B : M4) : M4 := ⟨A.a.add B.a, A.b.add B.b, A.c.add B.c, A.d.add B.d⟩
/-- W and O times the root number -/
def numM (a b c e W O : Int) : M4 := ⟨⟨W + O * e, 0, O * b, O * a⟩, ⟨0, W + O * e, 0, O * c⟩, ⟨O * c, 0 - O * a, W, 0⟩, ⟨0, O * b, 0, W⟩⟩
theorem numM_led (a b c e W O : Int) (v : V4) : (numM a b c e W O).led v = (v.sc W).add ((rtd a b c e v).sc O) := by
  ext <;> simp only [numM, M4.led, dot4, V4.sc, V4.add, rtd] <;> grind
def Along (a b c e : Int) (X : M4) : Prop := ∀ v, rtd a b c e (X.led v) = X.led (rtd a b c e v)
theorem Along.one (a b c e : Int) : Along a b c e M4.one := fun v => by rw [one_led, one_led]
theorem Along.mul {a b c e : Int} {X Y : M4} (hX : Along a b c e X) (hY : Along a b c e Y) : Along a b c e (X.mul Y) := fun v => by
  rw [mul_led, mul_led, hX, hY]
theorem Along.bk {a b c e : Int} {X : M4} (hk : KK X) (hX : Along a b c e X) : Along a b c e (bkM X) := fun v => by
  have h1 : X.led (rtd a b c e ((bkM X).led v)) = rtd a b c e v := by
    rw [← hX, ← mul_led, mul_bk hk.k, one_led]
  calc rtd a b c e ((bkM X).led v) = ((bkM X).mul X).led (rtd a b c e ((bkM X).led v)) := by rw [bk_mul hk.k, one_led]
    _ = (bkM X).led (X.led (rtd a b c e ((bkM X).led v))) := mul_led _ _ _
    _ = (bkM X).led (rtd a b c e v) := by rw [h1]
def powM (X : M4) : Nat → M4
  | 0 => M4.one
  | n + 1 => (powM X n).mul X
end DL
namespace DL
open PySem PySem.Spec PyProof.Rows L2
local macro_rules | `(tactic| walk_at "rd") => `(tactic| simp only [startD, List.map, List.replicate, List.length_cons, List.length_nil, List.append_eq, List.append_nil, List.nil_append, List.cons_append, Nat.reduceSub, Nat.reduceAdd, List.getElem?_cons_zero, List.getElem?_cons_succ, List.set_cons_zero, List.set_cons_succ,
  dC, dVar, dOp, dTru, gTru, tru, dChain, dAnd, dOr, dNot, dAndV, dOrV, dNotV, dIf, dNeg, gNeg, dNil, dCons, dTup, dLst, dOwn, gIx, rBin, gAdd, gCmpI, dCall, dCallK, dSeq, dNext, dDrop, dRet, dRetN, dIfS, dName, dGNil, dGCons, dGTup, dSub, gSetL, dAsg, dPar, dPar3, dAug, gIpI, dSeqI, gSeqI, dRngI, gRng1, gRng2, dCB, gAbs, gInt, gMax, gMin, gGcd, gLen, lenD, gIsi, tyM, tyD, dBits, gBits, dMet, gAppend, dPart, dNoPart, dSl, gSl_tup, gSl_lst, cut_1, dEnds, gIs, isB, dNever, dCallX, dRaise, dTry, dFld, dCallV, gLRng, gFrz, dFrz, dFor, dLc, wipeD, dYes,
  sizeLine_eq, Nat.reduceLeDiff, gEq_int, gNe_int, gEq_strs, gNe_strs, gIn_two, gRepr_bl, rs_lst, rs_tup, rs_scr, rs_int, atI_0, atI_1, atI_2, atI_3, atI_4, atI_5, ixN_30, ixN_31, ixN_32, gEq_bl, gNe_bl, decide_eq_true_eq, beq_iff_eq, Bool.not_eq_true', beq_eq_false_iff_ne, decide_eq_false_iff_not, Bool.not_true, Bool.not_false, if_true, if_false, Bool.false_eq_true, ite_true, ite_false, true_and, and_true, ne_eq, Bool.bne_false, Bool.bne_true, reduceCtorEq])
local macro_rules | `(tactic| walk_at "rh") => `(tactic| simp only [*, startD, List.map, List.replicate, List.length_cons, List.length_nil, List.append_eq, List.append_nil, List.nil_append, List.cons_append, Nat.reduceSub, Nat.reduceAdd, List.getElem?_cons_zero, List.getElem?_cons_succ, List.set_cons_zero, List.set_cons_succ,
  dC, dVar, dOp, dTru, gTru, tru, dChain, dAnd, dOr, dNot, dAndV, dOrV, dNotV, dIf, dNeg, gNeg, dNil, dCons, dTup, dLst, dOwn, gIx, rBin, gAdd, gCmpI, dCall, dCallK, dSeq, dNext, dDrop, dRet, dRetN, dIfS, dName, dGNil, dGCons, dGTup, dSub, gSetL, dAsg, dPar, dPar3, dAug, gIpI, dSeqI, gSeqI, dRngI, gRng1, gRng2, dCB, gAbs, gInt, gMax, gMin, gGcd, gLen, lenD, gIsi, tyM, tyD, dBits, gBits, dMet, gAppend, dPart, dNoPart, dSl, gSl_tup, gSl_lst, cut_1, dEnds, gIs, isB, dNever, dCallX, dRaise, dTry, dFld, dCallV, gLRng, gFrz, dFrz, dFor, dLc, wipeD, dYes,
  sizeLine_eq, Nat.reduceLeDiff, gEq_int, gNe_int, gEq_strs, gNe_strs, gIn_two, gRepr_bl, rs_lst, rs_tup, rs_scr, rs_int, atI_0, atI_1, atI_2, atI_3, atI_4, atI_5, ixN_30, ixN_31, ixN_32, gEq_bl, gNe_bl, decide_eq_true_eq, beq_iff_eq, Bool.not_eq_true', beq_eq_false_iff_ne, decide_eq_false_iff_not, Bool.not_true, Bool.not_false, if_true, if_false, Bool.false_eq_true, ite_true, ite_false, true_and, and_true, ne_eq, Bool.bne_false, Bool.bne_true, reduceCtorEq])
local macro_rules | `(tactic| walk_at "kb") => `(tactic| simp only [kb_NoneType_list, kb_bool_list, kb_int_list, kb_str_list, kb_tuple_list, kb_list_list, kb_dict_list, kb_NoneType_int, kb_bool_int, kb_int_int, kb_str_int, kb_tuple_int, kb_list_int, kb_dict_int, kb_NoneType_bool, kb_bool_bool, kb_int_bool, kb_str_bool, kb_tuple_bool, kb_list_bool, kb_dict_bool, kb_NoneType_tuple, kb_bool_tuple, kb_int_tuple, kb_str_tuple, kb_tuple_tuple, kb_list_tuple, kb_dict_tuple, if_true, if_false, Bool.false_eq_true, ite_true, ite_false, Bool.not_true, Bool.not_false])
/-! ### small measures: tables of 15 bits -/
/-! ### drawn cuttings, with the last number's lower bound -/
/-! ### small deeds -/
/-! ### words that come round -/
theorem dIfS_open {c : DTT} {t u : DTS} {E : DEnds} {r : Env} {M : Mem} (h : ∀ T : DTS, T = t → c r M fun b M1 => if b = true then T E r M1 else u E r M1) : dIfS c t u E r M := h t rfl
theorem T4_inj {a b c e A B C E : Int} : T4 a b c e = T4 A B C E ↔ a = A ∧ b = B ∧ c = C ∧ e = E := by
  constructor
  · intro h; cases h; exact ⟨rfl, rfl, rfl, rfl⟩
  · rintro ⟨rfl, rfl, rfl, rfl⟩; rfl
end DL
namespace DL
open PySem PySem.Spec PyProof.Rows L2
local macro_rules | `(tactic| walk_at "rd") => `(tactic| simp only [startD, List.map, List.replicate, List.length_cons, List.length_nil, List.append_eq, List.append_nil, List.nil_append, List.cons_append, Nat.reduceSub, Nat.reduceAdd, List.getElem?_cons_zero, List.getElem?_cons_succ, List.set_cons_zero, List.set_cons_succ,
  dC, dVar, dOp, dTru, gTru, tru, dChain, dAnd, dOr, dNot, dAndV, dOrV, dNotV, dIf, dNeg, gNeg, dNil, dCons, dTup, dLst, dOwn, gIx, rBin, gAdd, gCmpI, dCall, dCallK, dSeq, dNext, dDrop, dRet, dRetN, dIfS, dName, dGNil, dGCons, dGTup, dSub, gSetL, dAsg, dPar, dPar3, dAug, gIpI, dSeqI, gSeqI, dRngI, gRng1, gRng2, dCB, gAbs, gInt, gMax, gMin, gGcd, gLen, lenD, gIsi, tyM, tyD, dBits, gBits, dMet, gAppend, dPart, dNoPart, dSl, gSl_tup, gSl_lst, cut_1, dEnds, gIs, isB, dNever, dCallX, dRaise, dTry, dFld, dCallV, gLRng, gFrz, dFrz, dFor, dLc, wipeD, dYes,
  sizeLine_eq, Nat.reduceLeDiff, gEq_int, gNe_int, gEq_strs, gNe_strs, gIn_two, gRepr_bl, rs_lst, rs_tup, rs_scr, rs_int, atI_0, atI_1, atI_2, atI_3, atI_4, atI_5, ixN_30, ixN_31, ixN_32, gEq_bl, gNe_bl, decide_eq_true_eq, beq_iff_eq, Bool.not_eq_true', beq_eq_false_iff_ne, decide_eq_false_iff_not, Bool.not_true, Bool.not_false, if_true, if_false, Bool.false_eq_true, ite_true, ite_false, true_and, and_true, ne_eq, Bool.bne_false, Bool.bne_true, reduceCtorEq])
local macro_rules | `(tactic| walk_at "rh") => `(tactic| simp only [*, startD, List.map, List.replicate, List.length_cons, List.length_nil, List.append_eq, List.append_nil, List.nil_append, List.cons_append, Nat.reduceSub, Nat.reduceAdd, List.getElem?_cons_zero, List.getElem?_cons_succ, List.set_cons_zero, List.set_cons_succ,
  dC, dVar, dOp, dTru, gTru, tru, dChain, dAnd, dOr, dNot, dAndV, dOrV, dNotV, dIf, dNeg, gNeg, dNil, dCons, dTup, dLst, dOwn, gIx, rBin, gAdd, gCmpI, dCall, dCallK, dSeq, dNext, dDrop, dRet, dRetN, dIfS, dName, dGNil, dGCons, dGTup, dSub, gSetL, dAsg, dPar, dPar3, dAug, gIpI, dSeqI, gSeqI, dRngI, gRng1, gRng2, dCB, gAbs, gInt, gMax, gMin, gGcd, gLen, lenD, gIsi, tyM, tyD, dBits, gBits, dMet, gAppend, dPart, dNoPart, dSl, gSl_tup, gSl_lst, cut_1, dEnds, gIs, isB, dNever, dCallX, dRaise, dTry, dFld, dCallV, gLRng, gFrz, dFrz, dFor, dLc, wipeD, dYes,
  sizeLine_eq, Nat.reduceLeDiff, gEq_int, gNe_int, gEq_strs, gNe_strs, gIn_two, gRepr_bl, rs_lst, rs_tup, rs_scr, rs_int, atI_0, atI_1, atI_2, atI_3, atI_4, atI_5, ixN_30, ixN_31, ixN_32, gEq_bl, gNe_bl, decide_eq_true_eq, beq_iff_eq, Bool.not_eq_true', beq_eq_false_iff_ne, decide_eq_false_iff_not, Bool.not_true, Bool.not_false, if_true, if_false, Bool.false_eq_true, ite_true, ite_false, true_and, and_true, ne_eq, Bool.bne_false, Bool.bne_true, reduceCtorEq])
local macro_rules | `(tactic| walk_at "kb") => `(tactic| simp only [kb_NoneType_list, kb_bool_list, kb_int_list, kb_str_list, kb_tuple_list, kb_list_list, kb_dict_list, kb_NoneType_int, kb_bool_int, kb_int_int, kb_str_int, kb_tuple_int, kb_list_int, kb_dict_int, kb_NoneType_bool, kb_bool_bool, kb_int_bool, kb_str_bool, kb_tuple_bool, kb_list_bool, kb_dict_bool, kb_NoneType_tuple, kb_bool_tuple, kb_int_tuple, kb_str_tuple, kb_tuple_tuple, kb_list_tuple, kb_dict_tuple, if_true, if_false, Bool.false_eq_true, ite_true, ite_false, Bool.not_true, Bool.not_false])
/-! ### the two numbers -/
/-- a table with its two numbers -/
structure Nums (a b c e W O : Int) (X : M4) : Prop where
  ck : CK a b c e
  kk : KK X
  al : Along a b c e X
  nm : X.add (bkM X) = numM a b c e W O
theorem Nums.vals {a b c e W O : Int} {X : M4} (h : Nums a b c e W O X) : O * c = X.c.a + (bkM X).c.a ∧ W + O * e = X.a.a + (bkM X).a.a := by
  have := h.nm
  simp only [M4.add, V4.add, numM, M4.mk.injEq, V4.mk.injEq] at this
  obtain ⟨⟨h1, _⟩, _, ⟨h2, _⟩, _⟩ := this
  exact ⟨h2.symm, h1.symm⟩
theorem Nums.bi {a b c e W O : Int} {X : M4} {n : Nat} (h : Nums a b c e W O X) (hX : X.bi n) : Bi (n + 1) O ∧ Bi (n + 102) W := by
  obtain ⟨k1, k2, _⟩ := cut_parts h.ck.cut
  obtain ⟨v1, v2⟩ := h.vals
  have b1 : Bi (n + 1) (O * c) := by rw [v1]; exact hX.c.a.add (bk_bi hX).c.a
  have bO : Bi (n + 1) O := Bi.of_dvd b1 (show c ≠ 0 by omega) (by rw [Int.mul_comm])
  have b2 : Bi (n + 1) (W + O * e) := by rw [v2]; exact hX.a.a.add (bk_bi hX).a.a
  have b3 : Bi (n + 1 + 100) (O * e) := bO.mul h.ck.be
  have e3 : W = (W + O * e) - O * e := by omega
  refine ⟨bO, ?_⟩
  rw [e3]
  exact (b2.up (by omega : n + 1 ≤ n + 101)).sub (b3.up (by omega))
/-! ### the law's way -/
theorem Nums.all {a b c e W O : Int} {X : M4} (h : Nums a b c e W O X) (i : Nat) : (X.add (bkM X)).led (bse i) = ((bse i).sc W).add ((rtd a b c e (bse i)).sc O) := by
  rw [h.nm, numM_led]
/-! ### words that come round, looked at -/
/-! ### signs and kinds -/
/-! ### powers -/
/-- the order of X, None if there is none to 12 -/
def OrdR (X : M4) (d : D) : Prop := (∃ n : Nat, 1 ≤ n ∧ n ≤ 12 ∧ powM X n = M4.one ∧ (∀ j, 1 ≤ j → j < n → powM X j ≠ M4.one) ∧ d = .int n) ∨ (d = .non ∧ ∀ j, 1 ≤ j → j ≤ 12 → powM X j ≠ M4.one)
theorem OrdR.uniq {X : M4} {d d' : D} (h : OrdR X d) (h' : OrdR X d') : d = d' := by
  rcases h with ⟨n, n1, n2, e, f, rfl⟩ | ⟨rfl, f⟩ <;> rcases h' with ⟨m, m1, m2, e', f', rfl⟩ | ⟨rfl, f'⟩
  · rcases (by omega : n = m ∨ n < m ∨ m < n) with r | r | r
    · rw [r]
    · exact absurd e (f' n n1 r)
    · exact absurd e' (f m m1 r)
  · exact absurd e (f' n n1 n2)
  · exact absurd e' (f m m1 m2)
  · rfl
theorem OrdR.below {X : M4} {d : D} (h : OrdR X d) (n : Nat) : below n d = true := by
  rcases h with ⟨n, _, _, _, _, rfl⟩ | ⟨rfl, _⟩ <;> rfl
/-! ### the next power -/
/-! ### powers -/
end DL
namespace DL
open PySem PySem.Spec PyProof.Rows L2
local macro_rules | `(tactic| walk_at "rd") => `(tactic| simp only [startD, List.map, List.replicate, List.length_cons, List.length_nil, List.append_eq, List.append_nil, List.nil_append, List.cons_append, Nat.reduceSub, Nat.reduceAdd, List.getElem?_cons_zero, List.getElem?_cons_succ, List.set_cons_zero, List.set_cons_succ,
  dC, dVar, dOp, dTru, gTru, tru, dChain, dAnd, dOr, dNot, dAndV, dOrV, dNotV, dIf, dNeg, gNeg, dNil, dCons, dTup, dLst, dOwn, gIx, rBin, gAdd, gCmpI, dCall, dCallK, dSeq, dNext, dDrop, dRet, dRetN, dIfS, dName, dGNil, dGCons, dGTup, dSub, gSetL, dAsg, dPar, dPar3, dAug, gIpI, dSeqI, gSeqI, dRngI, gRng1, gRng2, dCB, gAbs, gInt, gMax, gMin, gGcd, gLen, lenD, gIsi, tyM, tyD, dBits, gBits, dMet, gAppend, dPart, dNoPart, dSl, gSl_tup, gSl_lst, cut_1, dEnds, gIs, isB, dNever, dCallX, dRaise, dTry, dFld, dCallV, gLRng, gFrz, dFrz, dFor, dLc, wipeD, dYes,
  sizeLine_eq, Nat.reduceLeDiff, gEq_int, gNe_int, gEq_strs, gNe_strs, gIn_two, gRepr_bl, rs_lst, rs_tup, rs_scr, rs_int, atI_0, atI_1, atI_2, atI_3, atI_4, atI_5, ixN_30, ixN_31, ixN_32, gEq_bl, gNe_bl, decide_eq_true_eq, beq_iff_eq, Bool.not_eq_true', beq_eq_false_iff_ne, decide_eq_false_iff_not, Bool.not_true, Bool.not_false, if_true, if_false, Bool.false_eq_true, ite_true, ite_false, true_and, and_true, ne_eq, Bool.bne_false, Bool.bne_true, reduceCtorEq])
local macro_rules | `(tactic| walk_at "rh") => `(tactic| simp only [*, startD, List.map, List.replicate, List.length_cons, List.length_nil, List.append_eq, List.append_nil, List.nil_append, List.cons_append, Nat.reduceSub, Nat.reduceAdd, List.getElem?_cons_zero, List.getElem?_cons_succ, List.set_cons_zero, List.set_cons_succ,
  dC, dVar, dOp, dTru, gTru, tru, dChain, dAnd, dOr, dNot, dAndV, dOrV, dNotV, dIf, dNeg, gNeg, dNil, dCons, dTup, dLst, dOwn, gIx, rBin, gAdd, gCmpI, dCall, dCallK, dSeq, dNext, dDrop, dRet, dRetN, dIfS, dName, dGNil, dGCons, dGTup, dSub, gSetL, dAsg, dPar, dPar3, dAug, gIpI, dSeqI, gSeqI, dRngI, gRng1, gRng2, dCB, gAbs, gInt, gMax, gMin, gGcd, gLen, lenD, gIsi, tyM, tyD, dBits, gBits, dMet, gAppend, dPart, dNoPart, dSl, gSl_tup, gSl_lst, cut_1, dEnds, gIs, isB, dNever, dCallX, dRaise, dTry, dFld, dCallV, gLRng, gFrz, dFrz, dFor, dLc, wipeD, dYes,
  sizeLine_eq, Nat.reduceLeDiff, gEq_int, gNe_int, gEq_strs, gNe_strs, gIn_two, gRepr_bl, rs_lst, rs_tup, rs_scr, rs_int, atI_0, atI_1, atI_2, atI_3, atI_4, atI_5, ixN_30, ixN_31, ixN_32, gEq_bl, gNe_bl, decide_eq_true_eq, beq_iff_eq, Bool.not_eq_true', beq_eq_false_iff_ne, decide_eq_false_iff_not, Bool.not_true, Bool.not_false, if_true, if_false, Bool.false_eq_true, ite_true, ite_false, true_and, and_true, ne_eq, Bool.bne_false, Bool.bne_true, reduceCtorEq])
local macro_rules | `(tactic| walk_at "kb") => `(tactic| simp only [kb_NoneType_list, kb_bool_list, kb_int_list, kb_str_list, kb_tuple_list, kb_list_list, kb_dict_list, kb_NoneType_int, kb_bool_int, kb_int_int, kb_str_int, kb_tuple_int, kb_list_int, kb_dict_int, kb_NoneType_bool, kb_bool_bool, kb_int_bool, kb_str_bool, kb_tuple_bool, kb_list_bool, kb_dict_bool, kb_NoneType_tuple, kb_bool_tuple, kb_int_tuple, kb_str_tuple, kb_tuple_tuple, kb_list_tuple, kb_dict_tuple, if_true, if_false, Bool.false_eq_true, ite_true, ite_false, Bool.not_true, Bool.not_false])
/-! ### what is shown -/
/-! ### the law's look at one word -/
structure St2 (k : Nat) (n : Int) (M MM : Mem) : Prop where
  gs : ∃ M1 Y, MM = M1 ++ Y ∧ Gst k n M M1
  kl : k < M.length
theorem St2.le {k : Nat} {n n' : Int} {M MM : Mem} (h : St2 k n M MM) (hn : n ≤ n') : St2 k n' M MM := by
  obtain ⟨⟨M1, Y, e, g⟩, h4⟩ := h
  exact ⟨⟨M1, Y, e, g.le hn⟩, h4⟩
theorem St2.grown {k : Nat} {n : Int} {M MM MM' : Mem} (h : St2 k n M MM) (g : Grown MM MM') : St2 k n M MM' := by
  obtain ⟨⟨M1, Y, rfl, gs⟩, h4⟩ := h
  obtain ⟨Z, rfl, _⟩ := g
  exact ⟨⟨M1, Y ++ Z, List.append_assoc _ _ _, gs⟩, h4⟩
theorem St2.gn {k : Nat} {n : Int} {M MM : Mem} (h : St2 k n M MM) : Gn k n MM := by
  obtain ⟨⟨M1, Y, rfl, gs⟩, _⟩ := h
  exact gs.2.1.appK
theorem St2.len {k : Nat} {n : Int} {M MM : Mem} (h : St2 k n M MM) : M.length ≤ MM.length := by
  obtain ⟨⟨M1, Y, rfl, gs⟩, _⟩ := h
  rw [List.length_append, gs.1]
  omega
theorem St2.gst {k : Nat} {n n' : Int} {M MM MM' : Mem} (h : St2 k n M MM) (g : Gst k n' MM MM') : St2 k n' M MM' := by
  obtain ⟨⟨M1, Y, rfl, gs⟩, h4⟩ := h
  obtain ⟨M1', Y', e, g'⟩ := Gst.cutK g (by rw [gs.1]; exact h4)
  exact ⟨⟨M1', Y', e, gs.trans g'⟩, h4⟩
theorem St2.set {k : Nat} {n : Int} {M MM : Mem} (h : St2 k n M MM) {j : Nat} {c : Own} (hj : M.length ≤ j) : St2 k n M (MM.set j c) := by
  obtain ⟨⟨M1, Y, rfl, gs⟩, h4⟩ := h
  refine ⟨⟨M1, Y.set (j - M1.length) c, ?_, gs⟩, h4⟩
  rw [List.set_append_right _ _ (by rw [gs.1]; exact hj)]
theorem St2.rtq {k : Nat} {n : Int} {M MM : Mem} {Q : DQ} {d : D} (h : St2 k n M MM) (q : ∀ M', Gst k n M M' → Q d M') (hb : ∀ n, below n d = true) : Rtq M Q d MM := by
  obtain ⟨⟨M1, Y, rfl, gs⟩, _⟩ := h
  exact gs.rtqK (q M1 gs) (hb _)
/-! ### powers by squares -/
/-! ### the law's look at two words -/
/-! ### a deed and what is back -/
/-! ### the law -/
end DL
namespace DL
open PySem PySem.Spec PyProof.Rows L2
local macro_rules | `(tactic| walk_at "rd") => `(tactic| simp only [startD, List.map, List.replicate, List.length_cons, List.length_nil, List.append_eq, List.append_nil, List.nil_append, List.cons_append, Nat.reduceSub, Nat.reduceAdd, List.getElem?_cons_zero, List.getElem?_cons_succ, List.set_cons_zero, List.set_cons_succ,
  dC, dVar, dOp, dTru, gTru, tru, dChain, dAnd, dOr, dNot, dAndV, dOrV, dNotV, dIf, dNeg, gNeg, dNil, dCons, dTup, dLst, dOwn, gIx, rBin, gAdd, gCmpI, dCall, dCallK, dSeq, dNext, dDrop, dRet, dRetN, dIfS, dName, dGNil, dGCons, dGTup, dSub, gSetL, dAsg, dPar, dPar3, dAug, gIpI, dSeqI, gSeqI, dRngI, gRng1, gRng2, dCB, gAbs, gInt, gMax, gMin, gGcd, gLen, lenD, gIsi, tyM, tyD, dBits, gBits, dMet, gAppend, dPart, dNoPart, dSl, gSl_tup, gSl_lst, cut_1, dEnds, gIs, isB, dNever, dCallX, dRaise, dTry, dFld, dCallV, gLRng, gFrz, dFrz, dFor, dLc, wipeD, dYes,
  sizeLine_eq, Nat.reduceLeDiff, gEq_int, gNe_int, gEq_strs, gNe_strs, gIn_two, gRepr_bl, rs_lst, rs_tup, rs_scr, rs_int, atI_0, atI_1, atI_2, atI_3, atI_4, atI_5, ixN_30, ixN_31, ixN_32, gEq_bl, gNe_bl, decide_eq_true_eq, beq_iff_eq, Bool.not_eq_true', beq_eq_false_iff_ne, decide_eq_false_iff_not, Bool.not_true, Bool.not_false, if_true, if_false, Bool.false_eq_true, ite_true, ite_false, true_and, and_true, ne_eq, Bool.bne_false, Bool.bne_true, reduceCtorEq])
local macro_rules | `(tactic| walk_at "rh") => `(tactic| simp only [*, startD, List.map, List.replicate, List.length_cons, List.length_nil, List.append_eq, List.append_nil, List.nil_append, List.cons_append, Nat.reduceSub, Nat.reduceAdd, List.getElem?_cons_zero, List.getElem?_cons_succ, List.set_cons_zero, List.set_cons_succ,
  dC, dVar, dOp, dTru, gTru, tru, dChain, dAnd, dOr, dNot, dAndV, dOrV, dNotV, dIf, dNeg, gNeg, dNil, dCons, dTup, dLst, dOwn, gIx, rBin, gAdd, gCmpI, dCall, dCallK, dSeq, dNext, dDrop, dRet, dRetN, dIfS, dName, dGNil, dGCons, dGTup, dSub, gSetL, dAsg, dPar, dPar3, dAug, gIpI, dSeqI, gSeqI, dRngI, gRng1, gRng2, dCB, gAbs, gInt, gMax, gMin, gGcd, gLen, lenD, gIsi, tyM, tyD, dBits, gBits, dMet, gAppend, dPart, dNoPart, dSl, gSl_tup, gSl_lst, cut_1, dEnds, gIs, isB, dNever, dCallX, dRaise, dTry, dFld, dCallV, gLRng, gFrz, dFrz, dFor, dLc, wipeD, dYes,
  sizeLine_eq, Nat.reduceLeDiff, gEq_int, gNe_int, gEq_strs, gNe_strs, gIn_two, gRepr_bl, rs_lst, rs_tup, rs_scr, rs_int, atI_0, atI_1, atI_2, atI_3, atI_4, atI_5, ixN_30, ixN_31, ixN_32, gEq_bl, gNe_bl, decide_eq_true_eq, beq_iff_eq, Bool.not_eq_true', beq_eq_false_iff_ne, decide_eq_false_iff_not, Bool.not_true, Bool.not_false, if_true, if_false, Bool.false_eq_true, ite_true, ite_false, true_and, and_true, ne_eq, Bool.bne_false, Bool.bne_true, reduceCtorEq])
local macro_rules | `(tactic| walk_at "kb") => `(tactic| simp only [kb_NoneType_list, kb_bool_list, kb_int_list, kb_str_list, kb_tuple_list, kb_list_list, kb_dict_list, kb_NoneType_int, kb_bool_int, kb_int_int, kb_str_int, kb_tuple_int, kb_list_int, kb_dict_int, kb_NoneType_bool, kb_bool_bool, kb_int_bool, kb_str_bool, kb_tuple_bool, kb_list_bool, kb_dict_bool, kb_NoneType_tuple, kb_bool_tuple, kb_int_tuple, kb_str_tuple, kb_tuple_tuple, kb_list_tuple, kb_dict_tuple, if_true, if_false, Bool.false_eq_true, ite_true, ite_false, Bool.not_true, Bool.not_false])
/-! ### the law's own lots -/
def rowD30 (m : Int) (l : List Int) : D := .lst (l.map fun x => T4 0 ((m - x * x) / 4) 1 x)
theorem below_row (m : Int) (n : Nat) (l : List Int) : below n (rowD30 m l) = true := by
  show belowAll n (l.map fun x => T4 0 ((m - x * x) / 4) 1 x) = true
  induction l with
  | nil => rfl
  | cons i l ih => simp only [List.map_cons, belowAll, ih, Bool.and_true]; rfl
theorem below_rows (m : Int) (n : Nat) (ls : List (List Int)) : belowAll n (ls.map (rowD30 m)) = true := by
  induction ls with
  | nil => rfl
  | cons l ls ih => simp only [List.map_cons, belowAll, below_row, ih, Bool.and_self]
def spLLots : DSp := fun ds M Q _ => ∃ m : Int, ds = [.int m] ∧ isMeas (.int m) = true ∧ m ≤ 50000 ∧ hMany m ≤ 100 ∧ ∀ ls : List (List Int), LotsR m (heart0 m) ls → ls.length ≤ 101 → (∀ l ∈ ls, l.length ≤ 101 ∧ InR l) → Q (.lst (ls.map (rowD30 m))) M
theorem heart_InR {m : Int} (h : isMeas (.int m) = true) (hm : m ≤ 50000) (hn : hMany m ≤ 100) : InR (heart0 m) := fun x hx => by
  have lb := low_bd (m := m) (by have := meas_ge h; omega) (by omega)
  have hh := hHigh_eq m
  have := evens_mem.mp hx
  unfold hMany at this hn
  omega
theorem rd_l_lots_1d9e : ∀ ds M Q, ds.length = 1 → spLLots ds M Q DX0 → t_l_lots_1d9e sp_lheart sp_stepP sp_lmade (dEnds M Q) (startD 7 ds) M := by
  rintro _ M Q - ⟨m, rfl, hm, hm5, hmn, q⟩
  have hev := heart_InR hm hm5 hmn
  have hel : (heart0 m).length ≤ 100 := by
    unfold heart0
    rw [evens_len]
    omega
  unfold t_l_lots_1d9e
  refine dSeq_open fun B hB => ?_
  walk_at "rd"
  refine ⟨m, rfl, hm, hm5, ?_⟩
  rw [show heartI m = heart0 m from rfl]
  try dsimp only
  rw [← hB]
  clear hB B
  generalize heart0 m = left0 at *
  have mK : ∀ x : Own, (M ++ [x])[M.length]? = some x := fun x => by rw [List.getElem?_append_right (Nat.le_refl _), Nat.sub_self]; rfl
  have hdead : ∀ l : List D, List.set (M ++ [Own.lst l]) M.length Own.dead = M ++ [Own.dead] := fun l => by
    rw [List.set_append_right _ _ (Nat.le_refl _), Nat.sub_self]
    rfl
  have fin : ∀ ls : List (List Int), LotsR m left0 ls → ls.length ≤ 101 → (∀ l ∈ ls, l.length ≤ 101 ∧ InR l) → Rtq M Q (.lst (ls.map (rowD30 m))) (M ++ [Own.dead]) := fun ls h1 h2 h3 => rtqG (q ls h1 h2 h3) (by simp only [below, below_rows])
  refine dSeq_open fun B hB => ?_
  walk_at "rd"
  rw [List.length_map]
  obtain ⟨W, hW⟩ : ∃ W : Nat → Env → Mem → Prop, W = fun i r M' => ∃ (left : List Int) (ls : List (List Int)) (t3 t4 t5 : Option D), r = [some (.int m), some (.lst (left.map D.int)), some (.own M.length), t3, t4, t5, none] ∧
    M' = M ++ [.lst (ls.map (rowD30 m))] ∧ InR left ∧ (∀ l ∈ ls, l.length ≤ 101 ∧ InR l) ∧ ls.length = i ∧ left.length + i ≤ left0.length ∧ (∀ rest, LotsR m left rest → LotsR m left0 (ls ++ rest)) := ⟨_, rfl⟩
  refine ⟨by unfold Rg; omega, W, by rw [hW]; exact ⟨left0, [], none, none, none, rfl, rfl, hev, fun l h => (by cases h), rfl, by omega, fun rest h => h⟩, ?_⟩
  intro i r M' h0
  rw [hW] at h0
  obtain ⟨left, ls, t3, t4, t5, rfl, rfl, hl, hls, hli, hlen, hR⟩ := h0
  refine ⟨trivial, fun hle => ?_, fun d hd => ?_⟩
  · have h12 : left0.length ≤ i := by simpa [rng_len] using hle
    obtain rfl : left = [] := List.length_eq_zero_iff.mp (by omega)
    try dsimp only
    rw [← hB]
    clear hB B
    walk_at "rd"
    rw [mK]
    dsimp only
    rw [hdead]
    exact fin ls (by have := hR [] .nil; rwa [List.append_nil] at this) (by omega) hls
  · clear hB
    refine dSeq_open fun B hB => ?_
    walk_at "rd"
    refine gEq_nil' (n := 1) (fineA_ints left) ?_
    cases left with
    | nil =>
      dsimp only
      rw [if_pos (by rfl), mK]
      dsimp only
      rw [hdead]
      exact fin ls (by have := hR [] .nil; rwa [List.append_nil] at this) (by omega) hls
    | cons x left =>
      dsimp only
      rw [if_neg (by exact fun h => by cases h), ← hB]
      clear hB B
      refine dSeq_open fun B hB => ?_
      walk_at "rd"
      rw [← hB]
      clear hB B
      refine dSeq_open fun B hB => ?_
      refine dwhile_of (fun n r M' => M' = M ++ [.lst (ls.map (rowD30 m))] ∧ ∃ (lot : List Int) (at' : Nat), r = [some (.int m), some (.lst ((x :: left).map D.int)), some (.own M.length), some d, some (.lst (lot.map D.int)), some (.int (at' : Int)), none] ∧
        InR lot ∧ lot.length + ((x :: left).filter fun y => !(lot.contains y)).length ≤ 101 ∧ at' ≤ lot.length ∧ x ∈ lot ∧ (∀ lot', GrowR m (x :: left) lot at' lot' → GrowR m (x :: left) [x] 0 lot') ∧
        n = ((x :: left).filter fun y => !(lot.contains y)).length + lot.length - at' + 1) _ ⟨rfl, [x], 0, rfl, fun y hy => hl y (by simp at hy; subst hy; exact List.mem_cons_self), ?_, Nat.zero_le _, List.mem_cons_self, fun lot' h => h, rfl⟩ ?_
      · have := List.length_filter_le (fun y => !([x].contains y)) (x :: left)
        simp only [List.length_cons, List.length_nil] at this hlen ⊢
        omega
      rintro _ r M' ⟨rfl, lot, at', rfl, hlo, hsz, hat, hx, hG, rfl⟩
      walk_at "rd"
      rw [List.length_map]
      by_cases hlt : at' < lot.length
      · rw [if_pos (by omega)]
        obtain ⟨e, he⟩ : ∃ e, lot[at']? = some e := ⟨lot[at'], List.getElem?_eq_getElem hlt⟩
        have hei : atI (lot.map D.int) (at' : Int) = some (.int e) := by
          rw [atI_of _ (by rw [List.length_map]; exact hlt), List.getElem?_map, he]
          rfl
        have be : Bi 400 e := Bi.of_abs (10 ^ 16) (by have := hlo e (List.mem_of_getElem? he); omega) (by decide +kernel)
        show lcW false (List.map D.int (x :: left)) _ _ _ _ _ _ _
        refine lcW_pure (fun d => match d with | .int y => if (!(lot.contains y) && stepP m e y) = true then some (.int y) else none | _ => none) trivial (by rw [List.length_map, sizeLine_eq]; have := hlen; simp only [List.length_cons] at this ⊢; omega) (fun d hd Y N' hy => ?_) ?_
        · obtain ⟨y, hyl, rfl⟩ := List.mem_map.mp hd
          walk_at "rd"
          refine gIn_ints ?_
          dsimp only at hy ⊢
          cases hc : lot.contains y with
          | true =>
            rw [hc, Bool.not_true, Bool.false_and, if_neg Bool.false_ne_true] at hy
            rw [if_neg (by decide)]
            exact hy
          | false =>
            rw [hc, Bool.not_false, Bool.true_and] at hy
            rw [if_pos (by decide), hei]
            dsimp only
            refine ⟨m, e, y, rfl, be, ?_⟩
            dsimp only
            cases hst : stepP m e y with
            | true =>
              rw [hst, if_pos rfl] at hy
              rw [if_pos rfl]
              exact hy
            | false =>
              rw [hst, if_neg Bool.false_ne_true] at hy
              rw [if_neg (by decide)]
              exact hy
        rw [filterMap_int (p := fun y => !(lot.contains y) && stepP m e y) (f := fun d => match d with | .int y => if (!(lot.contains y) && stepP m e y) = true then some (.int y) else none | _ => none) (fun i => rfl)]
        dsimp only
        have hF : ((x :: left).filter fun y => !((lot ++ newIn m (x :: left) lot e).contains y)) = ((x :: left).filter fun y => !(lot.contains y)).filter fun y => !(stepP m e y) := by
          rw [List.filter_filter]
          refine List.filter_congr fun y hy => ?_
          rw [Bool.eq_iff_iff]
          simp only [Bool.not_eq_true', Bool.and_eq_true, Bool.eq_false_iff, ne_eq, List.contains_iff_mem, List.mem_append, newIn, List.mem_filter, not_or, not_and]
          constructor
          · rintro ⟨h1, h2⟩
            exact ⟨h2 hy (by simpa using h1), h1⟩
          · rintro ⟨h1, h2⟩
            exact ⟨h2, fun _ _ => h1⟩
        have hN : newIn m (x :: left) lot e = ((x :: left).filter fun y => !(lot.contains y)).filter fun y => stepP m e y := by
          unfold newIn
          rw [List.filter_filter]
          exact List.filter_congr fun y hy => Bool.and_comm _ _
        have hcs := count_split ((x :: left).filter fun y => !(lot.contains y)) fun y => stepP m e y
        rw [← hN, ← hF] at hcs
        refine ⟨by rw [List.length_map, List.length_map]; have : (newIn m (x :: left) lot e).length ≤ 101 := by omega
                   show lot.length + (newIn m (x :: left) lot e).length ≤ 16777216
                   omega, ?_⟩
        refine ⟨((x :: left).filter fun y => !((lot ++ newIn m (x :: left) lot e).contains y)).length + (lot ++ newIn m (x :: left) lot e).length - (at' + 1) + 1, by rw [List.length_append]; omega, rfl, lot ++ newIn m (x :: left) lot e, at' + 1, by rw [List.map_append]; rfl, ?_, by rw [List.length_append]; omega, by rw [List.length_append]; omega, List.mem_append_left _ hx, fun lot' h => hG lot' (.step he h), rfl⟩
        intro y hy
        rcases List.mem_append.mp hy with h | h
        · exact hlo y h
        · exact hl y (List.mem_filter.mp h).1
      · rw [if_neg (by omega), ← hB]
        clear hB B
        have hdone := hG lot (.done (by omega))
        refine dSeq_open fun B hB => ?_
        walk_at "rd"
        show lcW false (List.map D.int (x :: left)) _ _ _ _ _ _ _
        refine lcW_pure (fun d => match d with | .int y => if (!(lot.contains y)) = true then some (.int y) else none | _ => none) trivial (by rw [List.length_map, sizeLine_eq]; have := hlen; simp only [List.length_cons] at this ⊢; omega) (fun d hd Y N' hy => ?_) ?_
        · obtain ⟨y, hyl, rfl⟩ := List.mem_map.mp hd
          walk_at "rd"
          refine gIn_ints ?_
          dsimp only at hy ⊢
          cases hc : lot.contains y with
          | true =>
            rw [hc, Bool.not_true, if_neg Bool.false_ne_true] at hy
            rw [if_neg (by decide)]
            exact hy
          | false =>
            rw [hc, Bool.not_false, if_pos rfl] at hy
            rw [if_pos (by decide)]
            exact hy
        rw [filterMap_int (p := fun y => !(lot.contains y)) (f := fun d => match d with | .int y => if (!(lot.contains y)) = true then some (.int y) else none | _ => none) (fun i => rfl)]
        try dsimp only
        rw [← hB]
        clear hB B
        walk_at "rd"
        refine ⟨⟨_, _, rfl, mK _⟩, .inl ⟨lot, rfl, fun srt pm sd => ?_⟩⟩
        unfold ownOr
        rw [if_neg (by decide)]
        have hls2 : srt.length ≤ 101 := by rw [pm.length_eq]; omega
        refine lcW_pure (fun d => match d with | .int x => some (T4 0 ((m - x * x) / 4) 1 x) | _ => none) trivial (by rw [List.length_map, sizeLine_eq]; omega) (fun d hd Y N' hy => ?_) ?_
        · obtain ⟨y, hyl, rfl⟩ := List.mem_map.mp hd
          walk_at "rd"
          refine ⟨m, y, rfl, Bi.of_abs (10 ^ 16) (by have := hlo y (pm.mem_iff.mp hyl); omega) (by decide +kernel), hy⟩
        have hfm : (srt.map D.int).filterMap (fun d => match d with | .int x => some (T4 0 ((m - x * x) / 4) 1 x) | _ => none) = srt.map fun x => T4 0 ((m - x * x) / 4) 1 x := by
          rw [List.filterMap_map, ← List.filterMap_eq_map]
          rfl
        rw [hfm]
        try dsimp only
        rw [mK]
        try dsimp only
        have hfl : ((x :: left).filter fun y => !(lot.contains y)).length ≤ left.length := by
          rw [List.filter_cons, if_neg (by simp [hx])]
          exact List.length_filter_le _ _
        simp only [List.length_cons] at hlen
        refine ⟨by rw [List.length_map]; omega, ?_⟩
        rw [hW]
        refine ⟨(x :: left).filter fun y => !(lot.contains y), ls ++ [srt], _, _, _, rfl, ?_, fun y hy => hl y (List.mem_filter.mp hy).1, fun l hlm => ?_, by rw [List.length_append]; simp [hli], by omega, fun rest h => ?_⟩
        · rw [List.set_append_right _ _ (Nat.le_refl _), Nat.sub_self, List.map_append]
          rfl
        · rcases List.mem_append.mp hlm with h | h
          · exact hls l h
          · cases List.mem_singleton.mp h
            exact ⟨hls2, fun y hy => hlo y (pm.mem_iff.mp hy)⟩
        · rw [List.append_assoc]
          exact hR _ (.cons hdone pm sd h)
/-! ### the told lots: lists that belong to the caller -/
def rowO30 (m : Int) (l : List Int) : Own := .lst (l.map fun x => T4 0 ((m - x * x) / 4) 1 x)
def idx30 (N k : Nat) : List D := (List.range k).map fun i => .own (N + i)
def lotsM (m : Int) (ls : List (List Int)) (M : Mem) : Mem := M ++ ls.map (rowO30 m) ++ [.lst (idx30 M.length ls.length)]
theorem below_idx {N k n : Nat} (h : N + k ≤ n) : belowAll n (idx30 N k) = true := by
  unfold idx30
  induction k with
  | zero => rfl
  | succ k ih =>
    rw [List.range_succ, List.map_append]
    have : ∀ (l1 l2 : List D), belowAll n l1 = true → belowAll n l2 = true → belowAll n (l1 ++ l2) = true := fun l1 l2 h1 h2 => by
      induction l1 with
      | nil => exact h2
      | cons d l ihl =>
        rw [List.cons_append]
        simp only [belowAll, Bool.and_eq_true] at h1 ⊢
        exact ⟨h1.1, ihl h1.2⟩
    refine this _ _ (ih (by omega)) ?_
    simp only [List.map_cons, List.map_nil, belowAll, below, Bool.and_true, decide_eq_true_eq]
    omega
theorem lotsM_len (m : Int) (ls : List (List Int)) (M : Mem) : (lotsM m ls M).length = M.length + ls.length + 1 := by
  unfold lotsM
  simp
  omega
theorem lotsM_grown (m : Int) (ls : List (List Int)) (M : Mem) : Grown M (lotsM m ls M) := by
  refine ⟨ls.map (rowO30 m) ++ [.lst (idx30 M.length ls.length)], by unfold lotsM; rw [List.append_assoc], fun c hc => ?_⟩
  rw [lotsM_len]
  rcases List.mem_append.mp hc with r | r
  · obtain ⟨l, _, rfl⟩ := List.mem_map.mp r
    exact below_row m _ l
  · simp only [List.mem_cons, List.not_mem_nil, or_false] at r
    subst r
    exact below_idx (by omega)
def sp_hlotsO_x : DSp := fun ds M Q E => ∃ m : Int, ds = [.int m] ∧ isMeas (.int m) = true ∧ m ≤ 10 ^ 30 ∧ (100 < hMany m → E "TooMany" (.int (hMany m)) M) ∧
  (hMany m ≤ 100 → ∀ ls : List (List Int), LotsR m (heart0 m) ls → ls.length ≤ 101 → (∀ l ∈ ls, l.length ≤ 101 ∧ InR l) → Q (.own (M.length + ls.length)) (lotsM m ls M))
theorem rd_heart_lots_o_x : ∀ ds M Q E, ds.length = 1 → belowAll M.length ds = true → sp_hlotsO_x ds M Q E → t_heart_lots_o_x sp_check_measure_x sp_bounds_by spLotsBy sp_heart_by (dOut M E) (dEnds M Q) (startD 5 ds) M := by
  rintro _ M Q E - hb ⟨m, rfl, h, hm30, q1, q2⟩
  unfold t_heart_lots_o_x
  refine dSeq_open fun B hB => ?_
  walk_at "rd"
  refine ⟨.int m, "int", rfl, rfl, fun _ => ?_, fun h' => by rw [h] at h'; cases h'⟩
  have m5 := meas_ge h
  have bm : Bi 300 m := Bi.of_abs (10 ^ 30) (by omega) (by decide +kernel)
  have hbig := fit_big bm m5
  rw [← hB]
  clear hB B
  refine dSeq_open fun B hB => ?_
  walk_at "rd"
  refine ⟨m, rfl, hbig.1, hbig.2, ?_⟩
  walk_at "rd"
  rw [← hB]
  clear hB B
  refine dSeq_open fun B hB => ?_
  walk_at "rd"
  rw [fdiv_pos (show (0 : Int) < 2 by decide)]
  refine ⟨⟨by decide, by decide⟩, ?_⟩
  rw [show (hHigh m - hLow m) / 2 + 1 = hMany m from rfl]
  by_cases hN : 100 < hMany m
  · rw [if_pos hN]
    exact ⟨⟨by decide, by decide⟩, _, rfl, rtx rfl (q1 hN)⟩
  rw [if_neg hN, ← hB]
  clear hB B
  walk_at "rd"
  refine ⟨m, rfl, h, hm30, by omega, fun ls hls hn hl => ?_⟩
  dsimp only
  have q2 := q2 (by omega) ls hls hn hl
  refine ⟨fun i acc M' => i ≤ ls.length ∧ acc = idx30 M.length i ∧ M' = M ++ (ls.take i).map (rowO30 m), ⟨Nat.zero_le _, rfl, by simp⟩, ?_⟩
  rintro i acc M' ⟨hi, rfl, rfl⟩
  refine ⟨trivial, fun hle => ?_, fun d hd => ?_⟩
  · have : i = ls.length := by rw [List.length_map] at hle; omega
    subst this
    rw [if_pos rfl, List.take_length]
    have e1 : (M ++ ls.map (rowO30 m)).length = M.length + ls.length := by simp
    rw [e1]
    exact (lotsM_grown m ls M).rtq q2 (by rw [lotsM_len]; exact decide_eq_true (by omega))
  · have hi2 : i < ls.length := by
      have := (List.getElem?_eq_some_iff.mp hd).1
      rwa [List.length_map] at this
    obtain ⟨l, hl2⟩ : ∃ l, ls[i]? = some l := ⟨_, List.getElem?_eq_getElem hi2⟩
    have hd' : d = LI l := by
      rw [List.getElem?_map, hl2] at hd
      exact (Option.some.inj hd).symm
    subst hd'
    have hb2 := hl l (List.mem_of_getElem? hl2)
    have e1 : (M ++ (ls.take i).map (rowO30 m)).length = M.length + i := by
      rw [List.length_append, List.length_map, List.length_take]; omega
    unfold LI
    walk_at "rd"
    refine lcW_pureO (fun d => match d with | .int x => some (T4 0 ((m - x * x) / 4) 1 x) | _ => none) trivial (by rw [List.length_map, sizeLine_eq]; omega) (fun d hd Y N' hy => ?_) ?_
    · obtain ⟨y, hyl, rfl⟩ := List.mem_map.mp hd
      walk_at "rd"
      exact ⟨m, y, rfl, Bi.of_abs (10 ^ 16) (by have := hb2.2 y hyl; omega) (by decide +kernel), hy⟩
    · have hfm : (l.map D.int).filterMap (fun d => match d with | .int x => some (T4 0 ((m - x * x) / 4) 1 x) | _ => none) = l.map fun x => T4 0 ((m - x * x) / 4) 1 x := by
        rw [List.filterMap_map, ← List.filterMap_eq_map]
        rfl
      rw [hfm, e1]
      try dsimp only
      refine ⟨by unfold idx30; rw [List.length_map, List.length_range]; omega, by omega, ?_, ?_⟩
      · unfold idx30
        rw [List.range_succ, List.map_append]
        rfl
      · rw [List.take_add_one, hl2, List.map_append, ← List.append_assoc]
        rfl
def sp_hlotsO : DSp := fun ds M Q _ => ∃ m : Int, ds = [.int m] ∧ isMeas (.int m) = true ∧ m ≤ 10 ^ 30 ∧ hMany m ≤ 100 ∧
  ∀ ls : List (List Int), LotsR m (heart0 m) ls → ls.length ≤ 101 → (∀ l ∈ ls, l.length ≤ 101 ∧ InR l) → Q (.own (M.length + ls.length)) (lotsM m ls M)
theorem wk_heart_lots_o : ∀ ds M Q E, sp_hlotsO ds M Q E → sp_hlotsO_x ds M Q DX0 := by
  rintro _ M Q E ⟨m, rfl, hm, hb, hn, q⟩
  exact ⟨m, rfl, hm, hb, fun h => by omega, fun _ => q⟩
/-- how many, or how many too many -/
def sp_lmany : DSp := fun ds M Q _ => ∃ m : Int, ds = [.int m] ∧ isMeas (.int m) = true ∧ m ≤ 10 ^ 30 ∧ 100 < hMany m ∧ Q (.int (hMany m)) M
theorem rd_l_many_e760 : ∀ ds M Q, ds.length = 1 → sp_lmany ds M Q DX0 → t_l_many_e760 sp_hlotsO_x (dEnds M Q) (startD 3 ds) M := by
  rintro _ M Q - ⟨m, rfl, hm, hb, hn, q⟩
  unfold t_l_many_e760
  refine dSeq_open fun B hB => ?_
  walk_at "rd"
  rw [← hB]
  clear hB B
  refine dSeq_open fun B hB => ?_
  walk_at "rd"
  refine ⟨m, rfl, hm, hb, fun _ => ?_, fun h => by omega⟩
  refine ⟨by decide, ?_⟩
  rw [← hB]
  clear hB B
  walk_at "rd"
  exact rtq q
/-! ### the lots are the same for all -/
theorem GrowR.uniq {m : Int} {left lot lot1 : List Int} {at' : Nat} (h : GrowR m left lot at' lot1) : ∀ {lot2}, GrowR m left lot at' lot2 → lot1 = lot2 := by
  induction h with
  | @done lot at' hl =>
    intro lot2 h2
    cases h2 with
    | done _ => rfl
    | step he _ => rw [List.getElem?_eq_none hl] at he; cases he
  | @step lot lot' at' e he hg ih =>
    intro lot2 h2
    cases h2 with
    | done hl => rw [List.getElem?_eq_none hl] at he; cases he
    | step he2 hg2 =>
      rw [he] at he2
      cases he2
      exact ih hg2
theorem sorted_ints : ∀ {l1 l2 : List Int}, l1.Perm l2 → l1.Pairwise (· ≤ ·) → l2.Pairwise (· ≤ ·) → l1 = l2 := fun hp h1 h2 => hp.eq_of_pairwise (fun a b _ _ h h' => Int.le_antisymm h h') h1 h2
theorem LotsR.uniq {m : Int} {left : List Int} {ls : List (List Int)} (h : LotsR m left ls) : ∀ {ls2}, LotsR m left ls2 → ls = ls2 := by
  induction h with
  | nil => intro ls2 h2; cases h2; rfl
  | @cons x left lot srt ls hg hp hs hr ih =>
    intro ls2 h2
    cases h2 with
    | @cons _ _ lot2 srt2 ls3 hg2 hp2 hs2 hr2 =>
      obtain rfl := hg.uniq hg2
      obtain rfl := sorted_ints (hp.trans hp2.symm) hs hs2
      rw [ih hr2]
theorem LotsR.mem {m : Int} {left : List Int} {ls : List (List Int)} (h : LotsR m left ls) : ∀ s ∈ ls, ∀ y ∈ s, y ∈ left := by
  induction h with
  | nil => intro s hs; cases hs
  | @cons x left lot srt ls hg hp hs hr ih =>
    intro s hs' y hy
    rcases List.mem_cons.mp hs' with rfl | r
    · exact grow_prop hg (fun y => y ∈ x :: left) (fun _ _ _ hy _ => hy) (fun y hy => by simp at hy; subst hy; exact List.mem_cons_self) y (hp.mem_iff.mp hy)
    · exact (List.mem_filter.mp (ih s r y hy)).1
theorem LotsR.nodup {m : Int} {left : List Int} {ls : List (List Int)} (h : LotsR m left ls) : ls.Nodup := by
  induction h with
  | nil => exact List.nodup_nil
  | @cons x left lot srt ls hg hp hs hr ih =>
    refine List.nodup_cons.mpr ⟨fun hin => ?_, ih⟩
    have hx : x ∈ srt := hp.mem_iff.mpr (grow_has hg x List.mem_cons_self)
    have := hr.mem srt hin x hx
    have h2 := (List.mem_filter.mp this).2
    have h3 := grow_has hg x List.mem_cons_self
    simp [h3] at h2
/-! ### places and shown lists -/
theorem toPyAll_get : ∀ {l : List D} {ps : List PyData} {i : Nat}, toPyAll l = some ps → (∀ d, l[i]? = some d → ∃ p, ps[i]? = some p ∧ toPy d = some p) ∧ ∀ p, ps[i]? = some p → ∃ d, l[i]? = some d ∧ toPy d = some p
  | [], ps, i, h => by
    simp only [toPyAll] at h
    cases h
    exact ⟨fun d hd => by simp at hd, fun p hp => by simp at hp⟩
  | d :: l, ps, i, h => by
    simp only [toPyAll] at h
    split at h
    · rename_i p ps' e1 e2
      cases h
      cases i with
      | zero => exact ⟨fun d' hd => ⟨p, rfl, by cases hd; exact e1⟩, fun p' hp => ⟨d, rfl, by cases hp; exact e1⟩⟩
      | succ i => exact toPyAll_get (l := l) (i := i) e2
    · cases h
theorem gIndexE_of {o y d : D} {l : List D} {j n : Nat} {M : Mem} {Q : DQ} (ho : resE M 4 o = .lst l) (hy : resE M 4 y = d) (hj : l[j]? = some d) (hno : ∀ m, m < j → l[m]? ≠ some d) (hf : fineAll n l = true) (hfd : fine n d = true) (nl : nbDAll l = true) (nd : nbD d = true) (dl : dpDAll l = true) (dd : dpD d = true)
    (q : Q (.int (j : Nat)) M) (hn : n ≤ 60 := by decide) : gIndexE o [y] M Q := by
  have fl : fine (n + 1) (.lst l) = true := by simp only [fine]; exact hf
  obtain ⟨p, hp, cp⟩ := cmpd_fine hfd (by omega)
  obtain ⟨pl, hpl, cpl⟩ := cmpd_fine fl (by omega)
  simp only [toPy] at hpl
  split at hpl
  · rename_i ps eps
    cases hpl
    obtain ⟨z, hz, hzp⟩ := (toPyAll_get (i := j) eps).1 d hj
    rw [hp] at hzp
    cases hzp
    have nbp := nb_py d p nd hp
    refine ⟨l, ps, p, j, p, ho, dl, by rw [hy]; exact dd, cpl, by rw [hy]; exact cp, hz, (eqv_iff p p nbp nbp).mpr rfl, fun m z' hm hz' => ?_, q⟩
    obtain ⟨d', hd', hpd'⟩ := (toPyAll_get (i := m) eps).2 z' hz'
    have nbz := nb_py d' z' (nbDAll_iff.mp nl d' (List.mem_of_getElem? hd')) hpd'
    cases hb : PyData.eqv z' p with
    | false => rfl
    | true =>
      have e := (eqv_iff z' p nbz nbp).mp hb
      subst e
      exact absurd (by rw [hd', toPy_inj d' d z' hpd' hp]) (hno m hm)
  · cases hpl
def lotsD (m : Int) (ls : List (List Int)) : D := .lst (ls.map (rowD30 m))
theorem rows_fine (m : Int) (ls : List (List Int)) : fine 5 (lotsD m ls) = true := by
  show fineAll 4 (ls.map (rowD30 m)) = true
  induction ls with
  | nil => rfl
  | cons l ls ih =>
    rw [List.map_cons]
    simp only [fineAll, Bool.and_eq_true]
    refine ⟨?_, ih⟩
    show fineAll 3 (l.map fun x => T4 0 ((m - x * x) / 4) 1 x) = true
    clear ih
    induction l with
    | nil => rfl
    | cons x l ih =>
      rw [List.map_cons]
      simp only [fineAll, Bool.and_eq_true]
      exact ⟨rfl, ih⟩
/-! ### long lists shown -/
mutual
def bk : D → Nat
  | .str x => x.cps.size
  | .tup l => bkAll l
  | .lst l => bkAll l
  | _ => 0
def bkAll : List D → Nat
  | [] => 0
  | d :: ds => bk d + 1 + bkAll ds
end
mutual
theorem bulk_py : ∀ (n : Nat) (d : D) (p : PyData), fine n d = true → toPy d = some p → p.bulk ≤ bk d
  | n, .non, p, _, e => by cases e; simp only [PyData.bulk]; omega
  | n, .bl b, p, _, e => by cases e; simp only [PyData.bulk]; omega
  | n, .int i, p, _, e => by cases e; simp only [PyData.bulk]; omega
  | n, .str x, p, _, e => by cases e; simp only [PyData.bulk, bk]; omega
  | 0, .tup l, p, h, _ => by simp [fine] at h
  | 0, .lst l, p, h, _ => by simp [fine] at h
  | n + 1, .tup l, p, h, e => by
    obtain ⟨ps, e1, _⟩ := fine_pyAll n l (by simpa only [fine] using h)
    have e' : p = .tuple ps := by simp only [toPy, e1] at e; exact (Option.some.inj e).symm
    subst e'
    have := bulk_pyAll n l ps (by simpa only [fine] using h) e1
    simpa only [PyData.bulk, bk] using this
  | n + 1, .lst l, p, h, e => by
    obtain ⟨ps, e1, _⟩ := fine_pyAll n l (by simpa only [fine] using h)
    have e' : p = .list ps := by simp only [toPy, e1] at e; exact (Option.some.inj e).symm
    subst e'
    have := bulk_pyAll n l ps (by simpa only [fine] using h) e1
    simpa only [PyData.bulk, bk] using this
  | n, .dct0, _, h, _ => by simp [fine] at h
  | n, .scr _, _, h, _ => by simp [fine] at h
  | n, .own _, _, h, _ => by simp [fine] at h
  | n, .exc _ _, _, h, _ => by simp [fine] at h
  | n, .glb _, _, h, _ => by simp [fine] at h
  | n, .val _, _, h, _ => by simp [fine] at h
theorem bulk_pyAll : ∀ (n : Nat) (ds : List D) (ps : List PyData), fineAll n ds = true → toPyAll ds = some ps → PyData.bulkAll ps ≤ bkAll ds
  | n, [], ps, _, e => by cases e; simp only [PyData.bulkAll, bkAll]; omega
  | n, d :: ds, ps, h, e => by
    have h' : fine n d = true ∧ fineAll n ds = true := by simpa only [fineAll, Bool.and_eq_true] using h
    obtain ⟨p, a1, _, _⟩ := fine_py n d h'.1
    obtain ⟨qs, b1, _, _, _⟩ := fine_pyAll n ds h'.2
    have e' : ps = p :: qs := by simp only [toPyAll, a1, b1] at e; exact (Option.some.inj e).symm
    subst e'
    have c1 := bulk_py n d p h'.1 a1
    have c2 := bulk_pyAll n ds qs h'.2 b1
    simp only [PyData.bulkAll, bkAll]
    omega
end
theorem shw_bulk (B n : Nat) {d : D} (h : fine n d = true) (hl : lit B d = true) (hw : (B + 10) * bk d + B + 8 ≤ 16777216) (hB : B ≤ 1919 := by decide) (hn : n ≤ 64 := by decide) : ∃ z, shwn d = some z := by
  obtain ⟨p, e1, e2, e3⟩ := fine_py n d h
  obtain ⟨a, b, c⟩ := lit_py B hB n d p h hl e1
  have h1 := PyData.shown_le_bulk (B + 8) (by omega) p b
  have h2 : (B + 8 + 2) * p.bulk ≤ (B + 10) * bk d := Nat.mul_le_mul (by omega) (bulk_py n d p h e1)
  refine ⟨p.shown, ?_⟩
  unfold shwn
  rw [e1]
  dsimp only
  rw [if_pos ⟨a, by omega, by rw [sizeLine_eq]; omega, PyData.hasDict_of_canLay p e2⟩]
theorem rows_shown {m : Int} (m0 : 0 ≤ m) (hm : m ≤ 50000) {ls : List (List Int)} (hl : ls.length ≤ 101) (h : ∀ l ∈ ls, l.length ≤ 101 ∧ ∀ x ∈ l, -1000 ≤ x ∧ x ≤ 1000) : ∃ z, shwnZ (lotsD m ls) = some z := by
  have row : ∀ l : List Int, (∀ x ∈ l, -1000 ≤ x ∧ x ≤ 1000) → litAll 60 (l.map fun x => T4 0 ((m - x * x) / 4) 1 x) = true ∧ bkAll (l.map fun x => T4 0 ((m - x * x) / 4) 1 x) = 5 * l.length := by
    intro l
    induction l with
    | nil => intro _; exact ⟨rfl, rfl⟩
    | cons x l ih =>
      intro hx
      obtain ⟨h1, h2⟩ := ih fun y hy => hx y (List.mem_cons_of_mem _ hy)
      have hx := hx x List.mem_cons_self
      have q0 := sq_nn x
      have q1 : x * x ≤ 1000 * 1000 := by
        rcases (by omega : 0 ≤ x ∨ x ≤ 0) with h | h
        · exact Int.mul_le_mul (by omega) (by omega) h (by omega)
        · have : x * x = (0 - x) * (0 - x) := by grind
          rw [this]
          exact Int.mul_le_mul (by omega) (by omega) (by omega) (by omega)
      have bx : Bi 50 x := Bi.of_abs 1000 (by omega) (by decide)
      have by' : Bi 50 ((m - x * x) / 4) := Bi.of_abs 1000000 (by omega) (by decide)
      have b0 : Bi 50 0 := Bi.of_abs 0 (by decide) (by decide)
      have b1 : Bi 50 1 := Bi.of_abs 1 (by decide) (by decide)
      refine ⟨lit_cons (lit_cons (litK b0) (lit_cons (litK by') (lit_cons (litK b1) (lit_cons (litK bx) rfl)))) h1, ?_⟩
      rw [List.map_cons]
      simp only [bkAll, bk, h2, List.length_cons]
      omega
  have all : litAll 60 (ls.map (rowD30 m)) = true ∧ bkAll (ls.map (rowD30 m)) ≤ 506 * ls.length := by
    clear hl
    induction ls with
    | nil => exact ⟨rfl, Nat.le_refl _⟩
    | cons l ls ih =>
      obtain ⟨h1, h2⟩ := ih fun l hl => h l (List.mem_cons_of_mem _ hl)
      obtain ⟨h3, h4⟩ := h l List.mem_cons_self
      obtain ⟨r1, r2⟩ := row l h4
      refine ⟨lit_cons r1 h1, ?_⟩
      rw [List.map_cons]
      simp only [bkAll, List.length_cons]
      have : bk (rowD30 m l) = 5 * l.length := r2
      omega
  obtain ⟨z, hz⟩ := shw_bulk 60 5 (d := lotsD m ls) (rows_fine m ls) all.1 (by
    have : bk (lotsD m ls) ≤ 506 * ls.length := all.2
    have h2 : (60 + 10) * bk (lotsD m ls) ≤ 70 * (506 * 101) := Nat.mul_le_mul_left _ (by omega)
    omega)
  exact ⟨z, shwnZ_of hz⟩
/-! ### the law's look at one measure -/
def rowAt (m : Int) (ls : List (List Int)) (j i : Nat) : List D := match ls[i]? with
  | some l => (l.map fun x => T4 0 ((m - x * x) / 4) 1 x) ++ if i < j then [.non] else []
  | none => []
def lotsMj (m : Int) (ls : List (List Int)) (M : Mem) (j : Nat) : Mem := M ++ (List.range ls.length).map (fun i => Own.lst (rowAt m ls j i)) ++ [.lst (idx30 M.length ls.length)]
theorem lotsMj_0 (m : Int) (ls : List (List Int)) (M : Mem) : lotsM m ls M = lotsMj m ls M 0 := by
  unfold lotsM lotsMj
  congr 2
  refine List.ext_getElem? fun i => ?_
  rw [List.getElem?_map, List.getElem?_map]
  by_cases hi : i < ls.length
  · rw [List.getElem?_range hi, List.getElem?_eq_getElem hi]
    show some (Own.lst _) = some (Own.lst _)
    unfold rowAt
    rw [List.getElem?_eq_getElem hi]
    dsimp only
    rw [if_neg (by omega), List.append_nil]
  · rw [List.getElem?_eq_none (by omega), List.getElem?_eq_none (by rw [List.length_range]; omega)]
    rfl
theorem lotsMj_row {m : Int} {ls : List (List Int)} {M : Mem} {j i : Nat} (hi : i < ls.length) : (lotsMj m ls M j)[M.length + i]? = some (.lst (rowAt m ls j i)) := by
  unfold lotsMj
  rw [List.append_assoc, List.getElem?_append_right (by omega), Nat.add_sub_cancel_left, List.getElem?_append_left (by simp; omega), List.getElem?_map, List.getElem?_range hi]
  rfl
theorem lotsMj_top {m : Int} {ls : List (List Int)} {M : Mem} {j : Nat} : (lotsMj m ls M j)[M.length + ls.length]? = some (.lst (idx30 M.length ls.length)) := by
  unfold lotsMj
  rw [List.getElem?_append_right (by simp), List.length_append, List.length_map, List.length_range, Nat.sub_self]
  rfl
theorem lotsMj_len {m : Int} {ls : List (List Int)} {M : Mem} {j : Nat} : (lotsMj m ls M j).length = M.length + ls.length + 1 := by
  unfold lotsMj
  simp
  omega
theorem lotsMj_set {m : Int} {ls : List (List Int)} {M : Mem} {j : Nat} (hj : j < ls.length) : (lotsMj m ls M j).set (M.length + j) (.lst (rowAt m ls j j ++ [.non])) = lotsMj m ls M (j + 1) := by
  refine List.ext_getElem? fun k => ?_
  by_cases hk : k = M.length + j
  · subst hk
    rw [List.getElem?_set_self (by rw [lotsMj_len]; omega), lotsMj_row hj]
    unfold rowAt
    have : ls[j]? = some ls[j] := List.getElem?_eq_getElem hj
    rw [this]
    dsimp only
    rw [if_neg (by omega), if_pos (by omega), List.append_nil]
  · rw [List.getElem?_set_ne (by omega)]
    unfold lotsMj
    rcases Nat.lt_or_ge k (M.length + ls.length) with r | r
    · rcases Nat.lt_or_ge k M.length with t | t
      · rw [List.append_assoc, List.append_assoc, List.getElem?_append_left t, List.getElem?_append_left t]
      · rw [List.append_assoc, List.append_assoc, List.getElem?_append_right t, List.getElem?_append_right t, List.getElem?_append_left (by simp; omega), List.getElem?_append_left (by simp; omega), List.getElem?_map, List.getElem?_map, List.getElem?_range (by omega)]
        have e : rowAt m ls j (k - M.length) = rowAt m ls (j + 1) (k - M.length) := by
          unfold rowAt
          split
          · by_cases z : k - M.length < j
            · rw [if_pos z, if_pos (by omega)]
            · rw [if_neg z, if_neg (by omega)]
          · rfl
        show some (Own.lst _) = some (Own.lst _)
        rw [e]
    · rw [List.getElem?_append_right (by simp; omega), List.getElem?_append_right (by simp; omega)]
      simp
def rowsL (m : Int) (ls : List (List Int)) (j : Nat) : List D := (List.range ls.length).map fun i => .lst (rowAt m ls j i)
theorem rowAt_cases {m : Int} {ls : List (List Int)} {j i : Nat} {d : D} (h : d ∈ rowAt m ls j i) : (∃ a b c e, d = T4 a b c e) ∨ d = .non := by
  unfold rowAt at h
  split at h
  · rcases List.mem_append.mp h with r | r
    · obtain ⟨x, _, rfl⟩ := List.mem_map.mp r
      exact .inl ⟨_, _, _, _, rfl⟩
    · split at r
      · simp only [List.mem_cons, List.not_mem_nil, or_false] at r
        exact .inr r
      · cases r
  · cases h
theorem resE_row {m : Int} {ls : List (List Int)} {j i : Nat} (MM : Mem) : (rowAt m ls j i).map (resE MM 2) = rowAt m ls j i := by
  have : ∀ l : List D, (∀ d ∈ l, (∃ a b c e, d = T4 a b c e) ∨ d = .non) → l.map (resE MM 2) = l := fun l hl => by
    induction l with
    | nil => rfl
    | cons d l ih =>
      rw [List.map_cons, ih fun x hx => hl x (List.mem_cons_of_mem _ hx)]
      rcases hl d List.mem_cons_self with ⟨a, b, c, e, rfl⟩ | rfl <;> rfl
  exact this _ fun d hd => rowAt_cases hd
theorem resE_own {m : Int} {ls : List (List Int)} {M Y : Mem} {j i : Nat} (hi : i < ls.length) (n : Nat) (hn : n = 3 ∨ n = 4) : resE (lotsMj m ls M j ++ Y) n (.own (M.length + i)) = .lst (rowAt m ls j i) := by
  have hc : (lotsMj m ls M j ++ Y)[M.length + i]? = some (.lst (rowAt m ls j i)) := by
    rw [List.getElem?_append_left (by rw [lotsMj_len]; omega)]
    exact lotsMj_row hi
  have h3 : ∀ MM : Mem, (rowAt m ls j i).map (resE MM 3) = rowAt m ls j i := fun MM => by
    have : ∀ l : List D, (∀ d ∈ l, (∃ a b c e, d = T4 a b c e) ∨ d = .non) → l.map (resE MM 3) = l := fun l hl => by
      induction l with
      | nil => rfl
      | cons d l ih =>
        rw [List.map_cons, ih fun x hx => hl x (List.mem_cons_of_mem _ hx)]
        rcases hl d List.mem_cons_self with ⟨a, b, c, e, rfl⟩ | rfl <;> rfl
    exact this _ fun d hd => rowAt_cases hd
  rcases hn with rfl | rfl
  · unfold resE cellL
    rw [hc]
    show D.lst _ = _
    rw [resE_row]
  · unfold resE cellL
    rw [hc]
    show D.lst _ = _
    rw [h3]
theorem resE_told {m : Int} {ls : List (List Int)} {M Y : Mem} {j : Nat} : resE (lotsMj m ls M j ++ Y) 4 (.own (M.length + ls.length)) = .lst (rowsL m ls j) := by
  have hc : (lotsMj m ls M j ++ Y)[M.length + ls.length]? = some (.lst (idx30 M.length ls.length)) := by
    rw [List.getElem?_append_left (by rw [lotsMj_len]; omega)]
    exact lotsMj_top
  unfold resE cellL
  rw [hc]
  show D.lst ((idx30 M.length ls.length).map _) = _
  unfold idx30 rowsL
  rw [List.map_map]
  congr 1
  refine List.map_congr_left fun i hi => ?_
  exact resE_own (List.mem_range.mp hi) 3 (.inl rfl)
theorem rowsL_0 (m : Int) (ls : List (List Int)) : rowsL m ls 0 = ls.map (rowD30 m) := by
  unfold rowsL
  refine List.ext_getElem? fun i => ?_
  rw [List.getElem?_map, List.getElem?_map]
  by_cases hi : i < ls.length
  · have e : rowAt m ls 0 i = ls[i].map fun x => T4 0 ((m - x * x) / 4) 1 x := by
      unfold rowAt
      rw [List.getElem?_eq_getElem hi]
      dsimp only
      rw [if_neg (by omega), List.append_nil]
    rw [List.getElem?_range hi, List.getElem?_eq_getElem hi]
    show some (D.lst (rowAt m ls 0 i)) = _
    rw [e]
    rfl
  · rw [List.getElem?_eq_none (by rw [List.length_range]; omega), List.getElem?_eq_none (by omega)]
    rfl
theorem rowsL_at {m : Int} {ls : List (List Int)} {j i : Nat} (hi : i < ls.length) : (rowsL m ls j)[i]? = some (.lst (rowAt m ls j i)) := by
  unfold rowsL
  rw [List.getElem?_map, List.getElem?_range hi]
  rfl
theorem row_ne {m : Int} {ls : List (List Int)} (hN : ls.Nodup) {j k i : Nat} (hk : k < i) (hi : i < ls.length) (hj : j = i ∨ j = i + 1) : rowAt m ls j k ≠ rowAt m ls j i := by
  have e1 : ls[k]? = some ls[k] := List.getElem?_eq_getElem (by omega)
  have e2 : ls[i]? = some ls[i] := List.getElem?_eq_getElem hi
  have inj : ∀ l l' : List Int, (l.map fun x => T4 0 ((m - x * x) / 4) 1 x) = (l'.map fun x => T4 0 ((m - x * x) / 4) 1 x) → l = l' := by
    intro l
    induction l with
    | nil => intro l' h; cases l' with | nil => rfl | cons _ _ => cases h
    | cons x l ih =>
      intro l' h
      cases l' with
      | nil => cases h
      | cons y l' =>
        rw [List.map_cons, List.map_cons] at h
        injection h with h1 h2
        have := (T4_inj.mp h1).2.2.2
        rw [this, ih l' h2]
  have hne : ls[k] ≠ ls[i] := (List.pairwise_iff_getElem.mp hN) k i (by omega) hi hk
  unfold rowAt
  rw [e1, e2]
  dsimp only
  rw [if_pos (by omega)]
  intro h
  by_cases hij : i < j
  · rw [if_pos hij] at h
    exact hne (inj _ _ (List.append_inj_left' h rfl))
  · rw [if_neg hij, List.append_nil] at h
    have hm : D.non ∈ (ls[i].map fun x => T4 0 ((m - x * x) / 4) 1 x) := by rw [← h]; simp
    obtain ⟨x, _, hx⟩ := List.mem_map.mp hm
    cases hx
theorem row_good {m : Int} {ls : List (List Int)} {j i : Nat} : fine 3 (.lst (rowAt m ls j i)) = true ∧ nbD (.lst (rowAt m ls j i)) = true ∧ dpD (.lst (rowAt m ls j i)) = true := by
  have : ∀ l : List D, (∀ d ∈ l, (∃ a b c e, d = T4 a b c e) ∨ d = .non) → fineAll 2 l = true ∧ nbDAll l = true ∧ dpDAll l = true := fun l hl => by
    induction l with
    | nil => exact ⟨rfl, rfl, rfl⟩
    | cons d l ih =>
      obtain ⟨h1, h2, h3⟩ := ih fun x hx => hl x (List.mem_cons_of_mem _ hx)
      rcases hl d List.mem_cons_self with ⟨a, b, c, e, rfl⟩ | rfl
      · simp only [fineAll, nbDAll, dpDAll, h1, h2, h3, Bool.and_true]
        exact ⟨rfl, rfl, rfl⟩
      · simp only [fineAll, nbDAll, dpDAll, h1, h2, h3, Bool.and_true]
        exact ⟨rfl, rfl, rfl⟩
  have h := this (rowAt m ls j i) fun d hd => rowAt_cases hd
  simp only [fine, nbD, dpD]
  exact h
theorem rows_good {m : Int} {ls : List (List Int)} {j : Nat} : fineAll 3 (rowsL m ls j) = true ∧ nbDAll (rowsL m ls j) = true ∧ dpDAll (rowsL m ls j) = true := by
  unfold rowsL
  generalize List.range ls.length = L
  induction L with
  | nil => exact ⟨rfl, rfl, rfl⟩
  | cons k L ih =>
    obtain ⟨h1, h2, h3⟩ := ih
    obtain ⟨g1, g2, g3⟩ := row_good (m := m) (ls := ls) (j := j) (i := k)
    rw [List.map_cons]
    simp only [fineAll, nbDAll, dpDAll, h1, h2, h3, g1, g2, g3, Bool.and_self]
    exact ⟨trivial, trivial, trivial⟩
theorem index30 {m : Int} {ls : List (List Int)} (hN : ls.Nodup) {M Y : Mem} {j i : Nat} {Q : DQ} (hi : i < ls.length) (hj : j = i ∨ j = i + 1) (q : Q (.int (i : Nat)) (lotsMj m ls M j ++ Y)) : gIndexE (.own (M.length + ls.length)) [.own (M.length + i)] (lotsMj m ls M j ++ Y) Q := by
  obtain ⟨h1, h2, h3⟩ := rows_good (m := m) (ls := ls) (j := j)
  obtain ⟨g1, g2, g3⟩ := row_good (m := m) (ls := ls) (j := j) (i := i)
  refine gIndexE_of (n := 3) resE_told (resE_own hi 4 (.inr rfl)) (rowsL_at hi) (fun k hk e => ?_) h1 g1 h2 g2 h3 g3 q
  rw [rowsL_at (by omega)] at e
  exact row_ne hN hk hi hj (by simpa using e)
theorem drop30 {m : Int} {ls : List (List Int)} {M Y : Mem} {j i : Nat} (hj : j ≤ i + 1) : resE (lotsMj m ls M j ++ Y) 4 (.lst ((idx30 M.length ls.length).drop (i + 1))) = lotsD m (ls.drop (i + 1)) := by
  unfold resE lotsD
  congr 1
  rw [List.map_drop, List.map_drop]
  refine List.ext_getElem? fun k => ?_
  rw [List.getElem?_drop, List.getElem?_drop, List.getElem?_map, List.getElem?_map]
  by_cases hk : i + 1 + k < ls.length
  · have e : rowAt m ls j (i + 1 + k) = ls[i + 1 + k].map fun x => T4 0 ((m - x * x) / 4) 1 x := by
      unfold rowAt
      rw [List.getElem?_eq_getElem hk]
      dsimp only
      rw [if_neg (by omega), List.append_nil]
    unfold idx30
    rw [List.getElem?_map, List.getElem?_range hk, List.getElem?_eq_getElem hk]
    show some (resE _ 3 (.own (M.length + (i + 1 + k)))) = _
    rw [resE_own hk 3 (.inl rfl), e]
    rfl
  · unfold idx30
    rw [List.getElem?_map, List.getElem?_eq_none (l := List.range ls.length) (by rw [List.length_range]; omega), List.getElem?_eq_none (l := ls) (by omega)]
    rfl
def sp_oner30 : DSp := fun ds M Q _ => ∃ m : Int, ds = [.int m] ∧ isMeas (.int m) = true ∧ m ≤ 50000 ∧ hMany m ≤ 100 ∧ Q (.bl true) M
theorem rd_l_one_right_1c8f : ∀ ds M Q, ds.length = 1 → sp_oner30 ds M Q DX0 → t_l_one_right_1c8f spLLots sp_hlotsO (dEnds M Q) (startD 6 ds) M := by
  rintro _ M Q - ⟨m, rfl, hm, hm5, hmn, q⟩
  unfold t_l_one_right_1c8f
  refine dSeq_open fun B hB => ?_
  walk_at "rd"
  refine ⟨m, rfl, hm, hm5, hmn, fun ls hL hll hlr => ?_⟩
  try dsimp only
  refine ⟨m, rfl, hm, by omega, hmn, fun ls2 hL2 _ _ => ?_⟩
  obtain rfl := hL.uniq hL2
  have hN := hL.nodup
  have g0 := lotsM_grown m ls M
  rw [lotsMj_0] at g0 ⊢
  rw [← hB]
  clear hB B
  have hsm : ∀ l ∈ ls, ∀ x ∈ l, -1000 ≤ x ∧ x ≤ 1000 := fun l hl x hx => by
    have := hL.mem l hl x hx
    have hi := evens_mem.mp this
    have hh := hHigh_eq m
    unfold hMany at hi hmn
    omega
  have m0 : 0 ≤ m := by have := meas_ge hm; omega
  obtain ⟨z, hz⟩ := rows_shown m0 hm5 hll fun l hl => ⟨(hlr l hl).1, hsm l hl⟩
  refine dSeq_open fun B hB => ?_
  walk_at "rd"
  have hD : .lst (rowsL m ls 0) = lotsD m ls := by rw [rowsL_0]; rfl
  have hdue : ∀ MM : Mem, resE MM 4 (.lst (ls.map (rowD30 m))) = lotsD m ls := fun MM => by
    unfold resE lotsD
    rw [List.map_map]
    congr 1
    refine List.map_congr_left fun l _ => ?_
    show D.lst ((l.map fun x => T4 0 ((m - x * x) / 4) 1 x).map (resE MM 2)) = _
    unfold rowD30
    rw [List.map_map]
    rfl
  have htold : ∀ (j : Nat) (Y : Mem), resE (lotsMj m ls M j ++ Y) 4 (.own (M.length + ls.length)) = .lst (rowsL m ls j) := fun j Y => resE_told
  have e0 : lotsMj m ls M 0 = lotsMj m ls M 0 ++ [] := (List.append_nil _).symm
  have ht0 := htold 0 []
  rw [List.append_nil, hD] at ht0
  refine gReprE_res ht0 hz (gReprE_res (hdue _) hz (gNeE_str ?_))
  dsimp only
  rw [if_neg (by decide)]
  refine ⟨rfl, m, rfl, hm, by omega, hmn, fun ls2 hL2 _ _ => ?_⟩
  obtain rfl := hL.uniq hL2
  have g1 := lotsM_grown m ls (lotsMj m ls M 0)
  have ht2 : resE (lotsM m ls (lotsMj m ls M 0)) 4 (.own ((lotsMj m ls M 0).length + ls.length)) = lotsD m ls := by
    rw [lotsMj_0]
    have := resE_told (m := m) (ls := ls) (M := lotsMj m ls M 0) (Y := []) (j := 0)
    rw [List.append_nil, hD] at this
    exact this
  refine gNeE_res (d := lotsD m ls) (n := 5) ht2 (hdue _) (rows_fine m ls) ?_
  clear ht2 ht0 e0
  obtain ⟨Y, hY, _⟩ := g1
  rw [hY]
  dsimp only
  rw [if_neg (by decide), ← hB]
  clear hB B
  refine dSeq_open fun B hB => ?_
  have hok : (m ≠ 9 ∧ m ≠ 49 ∧ m ≠ 73 ∧ m ≠ 121 ∧ m ≠ 169) → LotsOK m ls := fun h => lots_ok hm (by omega) h hL
  refine dIfS_open fun T hT => ?_
  have go : B [some (.int m), some (.lst (ls.map (rowD30 m))), some (.own (M.length + ls.length)), none, none, none] (lotsMj m ls M 0 ++ Y) := by
    rw [← hB]
    clear hB B hok
    refine dSeq_open fun B hB => ?_
    have htop : ∀ j : Nat, (lotsMj m ls M j ++ Y)[M.length + ls.length]? = some (.lst (idx30 M.length ls.length)) := fun j => by
      rw [List.getElem?_append_left (by rw [lotsMj_len]; omega)]
      exact lotsMj_top
    walk_at "rd"
    rw [htop]
    dsimp only
    refine ⟨fun i r M' => i ≤ ls.length ∧ M' = lotsMj m ls M i ++ Y ∧ ∃ u3 u5 : Option D, r = [some (.int m), some (.lst (ls.map (rowD30 m))), some (.own (M.length + ls.length)), u3, none, u5], ⟨Nat.zero_le _, rfl, none, none, rfl⟩, ?_⟩
    rintro i r M' ⟨hi, rfl, u3, u5, rfl⟩
    refine ⟨htop i, fun hle => ?_, fun d hd => ?_⟩
    · have : i = ls.length := by unfold idx30 at hle; rw [List.length_map, List.length_range] at hle; omega
      subst this
      try dsimp only
      rw [← hB]
      clear hB B
      refine dSeq_open fun B hB => ?_
      walk_at "rd"
      refine ⟨⟨_, _, rfl, htop _⟩, ?_⟩
      rw [htop]
      refine ⟨by unfold idx30; rw [List.length_map, List.length_range]; omega, ?_⟩
      obtain ⟨G, hG⟩ : ∃ G, List.set (lotsMj m ls M ls.length ++ Y) (M.length + ls.length) (.lst (idx30 M.length ls.length ++ [.non])) = M ++ G := by
        unfold lotsMj
        rw [List.append_assoc, List.append_assoc, List.set_append_right _ _ (by omega)]
        exact ⟨_, rfl⟩
      rw [hG, ← hB]
      clear hB B hG
      walk_at "rd"
      refine ⟨m, rfl, hm, by omega, hmn, fun ls3 hL3 _ _ => ?_⟩
      obtain rfl := hL.uniq hL3
      have ht3 : resE (lotsM m ls (M ++ G)) 4 (.own ((M ++ G).length + ls.length)) = lotsD m ls := by
        rw [lotsMj_0]
        have := resE_told (m := m) (ls := ls) (M := M ++ G) (Y := []) (j := 0)
        rw [List.append_nil, hD] at this
        exact this
      refine gReprE_res ht3 hz (gReprE_res (hdue _) hz (gEqE_strs ?_))
      rw [show lotsM m ls (M ++ G) = M ++ (G ++ ls.map (rowO30 m) ++ [.lst (idx30 (M ++ G).length ls.length)]) from by unfold lotsM; simp]
      exact rtqG q rfl
    · clear hB
      obtain ⟨hi2, rfl⟩ : i < ls.length ∧ d = .own (M.length + i) := by
        unfold idx30 at hd
        rw [List.getElem?_map] at hd
        obtain ⟨k, hk, rfl⟩ := Option.map_eq_some_iff.mp hd
        have h1 := (List.getElem?_eq_some_iff.mp hk).1
        rw [List.length_range] at h1
        rw [List.getElem?_range h1] at hk
        cases hk
        exact ⟨h1, rfl⟩
      refine dSeq_open fun B hB => ?_
      walk_at "rd"
      have hres : ∀ j, res (lotsMj m ls M j ++ Y) (.own (M.length + ls.length)) = .lst (idx30 M.length ls.length) := fun j => by unfold res; dsimp only; rw [htop j]
      have hcut : cutD (idx30 M.length ls.length) (some ((i : Int) + 1)) none = (idx30 M.length ls.length).drop (i + 1) := by
        rw [show (i : Int) + 1 = ((i + 1 : Nat) : Int) by omega]
        exact cut_drop (by unfold idx30; rw [List.length_map, List.length_range]; omega)
      obtain ⟨zi, hzi⟩ := rows_shown (ls := ls.drop (i + 1)) m0 hm5 (by rw [List.length_drop]; omega) fun l hl => ⟨(hlr l (List.mem_of_mem_drop hl)).1, hsm l (List.mem_of_mem_drop hl)⟩
      refine ⟨⟨_, hres i⟩, ?_⟩
      walk_at "rd"
      refine index30 hN hi2 (.inl rfl) ?_
      dsimp only
      refine gSl_own (hres i) ?_
      rw [hcut]
      refine gReprE_res (drop30 (by omega)) hzi ?_
      rw [← hB]
      clear hB B
      refine dSeq_open fun B hB => ?_
      walk_at "rd"
      have hrow : (lotsMj m ls M i ++ Y)[M.length + i]? = some (.lst (rowAt m ls i i)) := by
        rw [List.getElem?_append_left (by rw [lotsMj_len]; omega)]
        exact lotsMj_row hi2
      rw [hrow]
      have hlen : (rowAt m ls i i).length ≤ 102 := by
        unfold rowAt
        rw [List.getElem?_eq_getElem hi2]
        dsimp only
        rw [if_neg (by omega), List.append_nil, List.length_map]
        have := (hlr ls[i] (List.getElem_mem hi2)).1
        omega
      refine ⟨⟨_, _, rfl, hrow⟩, by omega, ?_⟩
      have hset : List.set (lotsMj m ls M i ++ Y) (M.length + i) (.lst (rowAt m ls i i ++ [.non])) = lotsMj m ls M (i + 1) ++ Y := by
        rw [List.set_append_left _ _ (by rw [lotsMj_len]; omega), lotsMj_set hi2]
      rw [hset, ← hB]
      clear hB B
      walk_at "rd"
      refine ⟨⟨_, hres (i + 1)⟩, ?_⟩
      walk_at "rd"
      refine index30 hN hi2 (.inr rfl) ?_
      dsimp only
      refine gSl_own (hres (i + 1)) ?_
      rw [hcut]
      refine gReprE_res (drop30 (by omega)) hzi (gNeE_str ?_)
      dsimp only
      rw [if_neg (by decide)]
      exact ⟨by omega, rfl, _, _, rfl⟩
  have yes : LotsOK m ls → T { nx := B, rt := Rtq M Q } [some (.int m), some (.lst (ls.map (rowD30 m))), some (.own (M.length + ls.length)), none, none, none] (lotsMj m ls M 0 ++ Y) := by
    rintro ⟨k1, k2⟩
    rw [hT]
    clear hT T
    walk_at "rd"
    have c8 : CMod m 8 := by show (8 : Int) ≠ 0; decide
    have f8 : m.fmod 8 = m % 8 := fmod_pos (by decide)
    refine ⟨c8, ?_⟩
    rw [f8, gEqE_int]
    dsimp only
    rw [gNeE_int]
    have e1 : ((ls.map (rowD30 m)).length : Int) = 1 + (if (m % 8 == 1) = true then 1 else 0) := by
      rw [List.length_map, k1]
      by_cases h8 : m % 8 = 1
      · rw [if_pos h8, h8]; rfl
      · rw [if_neg h8, if_neg (by simpa using h8)]; rfl
    rw [e1]
    dsimp only
    rw [if_neg (by simp)]
    refine lcW_pure (fun _ => none) trivial (by rw [List.length_map, sizeLine_eq]; omega) (fun d hd Y' N' hy => ?_) ?_
    · obtain ⟨l, hl, rfl⟩ := List.mem_map.mp hd
      unfold rowD30
      walk_at "rd"
      refine ⟨c8, ?_⟩
      rw [f8, gEqE_int]
      dsimp only
      by_cases h8 : m % 8 = 1
      · rw [if_pos (by simpa using h8)]
        obtain ⟨hne, r, hr⟩ := k2 h8 l hl
        obtain ⟨x0, l', rfl⟩ := List.exists_cons_of_ne_nil hne
        refine lcW_pure (fun _ => none) trivial (by rw [List.length_map, sizeLine_eq]; have := (hlr _ hl).1; omega) (fun d hd Y2 N2 hy2 => ?_) ?_
        · obtain ⟨x, hx, rfl⟩ := List.mem_map.mp hd
          walk_at "rd"
          have c4 : CMod (x - x0) 4 := by show (4 : Int) ≠ 0; decide
          refine ⟨c4, ?_⟩
          have h1 := hr x hx
          have h2 := hr x0 List.mem_cons_self
          rw [show (x - x0).fmod 4 = 0 by rw [fmod_pos (by decide)]; omega, gNeE_int]
          dsimp only
          rw [if_neg (by decide)]
          exact hy2
        · rw [show List.filterMap (fun _ : D => (none : Option D)) ((x0 :: l').map fun x => T4 0 ((m - x * x) / 4) 1 x) = [] from by
            generalize (x0 :: l').map (fun x => T4 0 ((m - x * x) / 4) 1 x) = L
            induction L with
            | nil => rfl
            | cons a L ih => exact ih]
          refine gNeE_res (d := .lst []) (n := 2) rfl rfl rfl ?_
          dsimp only
          rw [if_neg (by decide)]
          exact hy
      · rw [if_neg (by simpa using h8)]
        exact hy
    · rw [show List.filterMap (fun _ : D => (none : Option D)) (ls.map (rowD30 m)) = [] from by
        generalize ls.map (rowD30 m) = L
        induction L with
        | nil => rfl
        | cons a L ih => exact ih]
      refine gNeE_res (d := .lst []) (n := 2) rfl rfl rfl ?_
      dsimp only
      rw [if_neg (by decide)]
      exact go
  clear hT
  walk_at "rd"
  refine gIn_ints (l := [9, 49, 73, 121, 169]) ?_
  dsimp only
  by_cases hin : [9, 49, 73, 121, 169].contains m = true
  · rw [if_neg (by rw [hin]; decide)]
    exact go
  · rw [if_pos (by simp only [Bool.not_eq_true] at hin; rw [hin]; decide)]
    refine yes (hok ?_)
    simp only [List.contains_iff_mem, List.mem_cons, List.not_mem_nil, or_false, not_or] at hin
    exact hin
/-! ### the law -/
theorem many_of {m r : Int} (hm : isMeas (.int m) = true) (h : r = isq (m - 1)) : hMany m = r - (r + m) % 2 := by
  obtain ⟨n, K, G⟩ := grf_of hm
  have m5 := meas_ge hm
  have r0 := isq_nn (m - 1)
  have r1 := isq_le (show 0 ≤ m - 1 by omega)
  have r2 := isq_lt (show 0 ≤ m - 1 by omega)
  rw [← h] at r0 r1 r2
  have em := G.em
  have k1 := G.k1
  have kn := G.kn
  rw [G.mn]
  have h1 : (n : Int) ≤ r := by
    rcases (by omega : (n : Int) ≤ r ∨ r + 1 ≤ n) with t | t
    · exact t
    · have : (r + 1) * (r + 1) ≤ (n : Int) * n := Int.mul_le_mul t t (by omega) (by omega)
      omega
  have h2 : r - 1 ≤ n := by
    rcases (by omega : r - 1 ≤ (n : Int) ∨ (n : Int) + 2 ≤ r) with t | t
    · exact t
    · have h3 : ((n : Int) + 2) * ((n : Int) + 2) ≤ r * r := Int.mul_le_mul t t (by omega) (by omega)
      have h4 : ((n : Int) + 2) * ((n : Int) + 2) = (n : Int) * n + 4 * n + 4 := by grind
      omega
  have p : ((n : Int) * n) % 2 = (n : Int) % 2 := by
    rcases (by omega : (n : Int) % 2 = 0 ∨ (n : Int) % 2 = 1) with r | r
    · obtain ⟨k, hk⟩ : ∃ k : Int, (n : Int) = 2 * k := ⟨n / 2, by omega⟩
      rw [hk, show 2 * k * (2 * k) = 2 * (2 * (k * k)) by grind]; omega
    · obtain ⟨k, hk⟩ : ∃ k : Int, (n : Int) = 2 * k + 1 := ⟨n / 2, by omega⟩
      rw [hk, show (2 * k + 1) * (2 * k + 1) = 2 * (2 * (k * k) + 2 * k) + 1 by grind]; omega
  omega
theorem many_100 {m : Int} (hm : isMeas (.int m) = true) (h : m ≤ 10200) : hMany m ≤ 100 := by
  obtain ⟨n, K, G⟩ := grf_of hm
  have em := G.em
  have k1 := G.k1
  rw [G.mn]
  rcases (by omega : (n : Int) ≤ 100 ∨ 101 ≤ (n : Int)) with t | t
  · exact t
  · have : (101 : Int) * 101 ≤ (n : Int) * n := Int.mul_le_mul t t (by decide) (by omega)
    omega
theorem many_101 {m : Int} (hm : isMeas (.int m) = true) (h : 10601 ≤ m) : 101 ≤ hMany m := by
  obtain ⟨n, K, G⟩ := grf_of hm
  have em := G.em
  have kn := G.kn
  rw [G.mn]
  rcases (by omega : (101 : Int) ≤ n ∨ (n : Int) ≤ 100) with t | t
  · exact t
  · have : (n : Int) * n ≤ 100 * 100 := Int.mul_le_mul t t (by omega) (by decide)
    omega
theorem rd_l_law_1f95 : ∀ ds M Q, ds.length = 1 → spLaw ds M Q DX0 → t_l_law_1f95 sp_generator sp_random sp_oner30 sp_lmeasure sp_isq sp_lmany sp_hlotsO sp_lheart (dEnds M Q) (startD 8 ds) M := by
  rintro _ _ Q - ⟨rfl, ⟨ns, rfl⟩, q⟩
  have fin : ∀ M2, Rtq [] Q (.bl true) M2 := fun M2 => ⟨[], M2, rfl, Nat.zero_le _, rfl, fun i c h => by simp at h, q⟩
  have p9 := p400_900
  have p29 := p400_ten (i := 29) (by decide)
  unfold t_l_law_1f95
  refine dSeq_open fun B hB => ?_
  walk_at "rd"
  refine ⟨ns, _, rfl, by omega, by unfold P31; omega, fun M0 hl0 hg hk => ?_⟩
  dsimp only
  rw [← hB]
  clear hB B
  obtain ⟨k, hk0⟩ : ∃ k, k = List.length ([] : Mem) := ⟨_, rfl⟩
  rw [← hk0] at hg ⊢
  refine dSeq_open fun B hB => ?_
  walk_at "rd"
  have st0 : St2 k 0 M0 M0 := ⟨⟨M0, [], (List.append_nil _).symm, (Gst.refl hg).le (by omega)⟩, hg.ltK⟩
  obtain ⟨W, hW⟩ : ∃ W : Nat → Env → Mem → Prop, W = fun (i : Nat) r M' => i ≤ 3 ∧ ∃ (u2 u3 : Option D), St2 k (300 * (i : Int)) M0 M' ∧ r = [some (.scr ns), some (.own k), u2, u3, none, none, none, none] := ⟨_, rfl⟩
  refine ⟨by unfold Rg; decide, W, by rw [hW]; exact ⟨by decide, none, none, st0.le (by omega), rfl⟩, ?_⟩
  clear st0
  intro i r M' h0
  rw [hW] at h0
  obtain ⟨hi, u2, u3, st, rfl⟩ := h0
  refine ⟨trivial, fun hle => ?_, fun d hd => ?_⟩
  case refine_2 =>
    clear hB
    obtain ⟨hi2, rfl⟩ := rng_get.mp hd
    have hi2 : i < 3 := hi2
    refine dSeq_open fun B hB => ?_
    walk_at "rd"
    refine ⟨k, 2, _, rfl, by decide, by omega, st.gn, by unfold P40; omega, fun v M1 v0 v1 g1 => ?_⟩
    replace st := st.gst g1
    clear g1
    dsimp only
    obtain ⟨t, et, t0, t1⟩ : ∃ t : Int, atI [D.int 300, D.int 10180] v = some (D.int t) ∧ 0 < t ∧ t ≤ 10180 := by
      rcases (by omega : v = 0 ∨ v = 1) with rfl | rfl
      · exact ⟨300, rfl, by decide, by decide⟩
      · exact ⟨10180, rfl, by decide, by decide⟩
    rw [et]
    dsimp only
    refine ⟨k, t, _, rfl, t0, by omega, st.gn, by unfold P40; omega, fun x M2 x0 x1 g2 => ?_⟩
    replace st := st.gst g2
    clear g2
    dsimp only
    rw [← hB]
    clear hB B
    refine dSeq_open fun B hB => ?_
    walk_at "rd"
    refine ⟨by show (4 : Int) ≠ 0; decide, k, 2, _, rfl, by decide, by omega, st.gn, by unfold P40; omega, fun y M3 y0 y1 g3 => ?_⟩
    replace st := st.gst g3
    clear g3
    dsimp only
    rw [fmod_pos (by decide)]
    obtain ⟨m, hme⟩ : ∃ m, m = (if 5 + x - (5 + x) % 4 + y > 5 then 5 + x - (5 + x) % 4 + y else 5) := ⟨_, rfl⟩
    rw [← hme]
    have hm1 : 5 ≤ m ∧ m ≤ 10186 ∧ (m % 4 = 0 ∨ m % 4 = 1) := by
      rw [hme]
      split <;> omega
    rw [← hB]
    clear hB B hme
    refine dSeq_open fun B hB => ?_
    have go : ∀ (m' nn : Int) (MM : Mem), 5 ≤ m' → m' ≤ 10200 → (m' % 4 = 0 ∨ m' % 4 = 1) → St2 k nn M0 MM → nn ≤ 300 * ((i + 1 : Nat) : Int) → B [some (.scr ns), some (.own k), some (.int (0 + (i : Int))), some (.int m'), none, none, none, none] MM := by
      intro m' nn MM h1 h2 h4 st hnn
      rw [← hB]
      clear hB B
      have hme : isMeas (.int m') = true := by simpa [isMeas] using ⟨h1, h4⟩
      walk_at "rd"
      refine ⟨m', rfl, hme, by omega, many_100 hme h2, ?_⟩
      dsimp only
      rw [if_neg (by decide), hW]
      exact ⟨by omega, _, _, st.le hnn, rfl⟩
    clear hB
    walk_at "rd"
    refine ⟨k, 3, _, rfl, by decide, by omega, st.gn, by unfold P40; omega, fun w M4 w0 w1 g4 => ?_⟩
    replace st := st.gst g4
    clear g4
    dsimp only
    rw [gEq_int]
    dsimp only
    by_cases hw : (w == 0) = true
    · rw [if_pos hw]
      refine ⟨by show (8 : Int) ≠ 0; decide, ?_⟩
      rw [fmod_pos (by decide)]
      exact go _ _ _ (by omega) (by omega) (by omega) st (by omega)
    · rw [if_neg hw]
      exact go _ _ _ (by omega) (by omega) hm1.2.2 st (by omega)
  case refine_1 =>
    have h3 : i = 3 := by have h2 : 3 ≤ i := by simpa [rng_len] using hle
                          omega
    subst h3
    try dsimp only
    rw [← hB]
    clear hB B hle hi hW W
    refine dSeq_open fun B hB => ?_
    walk_at "rd"
    refine ⟨k, 28, _, rfl, by decide, by decide, st.gn, by unfold P40; omega, fun m M1 hm hmb g1 => ?_⟩
    replace st := st.gst g1
    clear g1
    dsimp only
    rw [← hB]
    clear hB B
    have m5 := meas_ge hm
    have hmb2 : m ≤ 10 ^ 29 := hmb
    have bm : Bi 300 m := Bi.of_abs (10 ^ 30) (by omega) (by decide +kernel)
    have hbig := fit_big bm m5
    refine dSeq_open fun B hB => ?_
    walk_at "rd"
    refine ⟨m - 1, rfl, by omega, by omega, ?_⟩
    dsimp only
    rw [← hB]
    clear hB B
    refine dSeq_open fun B hB => ?_
    walk_at "rd"
    refine ⟨by show (2 : Int) ≠ 0; decide, ?_⟩
    rw [fmod_pos (by decide), ← many_of hm rfl, ← hB]
    clear hB B
    refine dSeq_open fun B hB => ?_
    have go : ∀ M2, St2 k 1060 M0 M2 → B [some (.scr ns), some (.own k), u2, some (.int m), some (.int (isq (m - 1))), some (.int (hMany m)), none, none] M2 := by
      clear st
      intro M2 st
      rw [← hB]
      clear hB B
      refine dSeq_open fun B hB => ?_
      refine dIfS_open fun T hT => ?_
      clear hT
      walk_at "rd"
      have h104 : hMany 10404 = 100 := by decide +kernel
      have h105 : hMany 10205 = 101 := by decide +kernel
      have h108 : hMany 10408 = 102 := by decide +kernel
      refine ⟨10404, rfl, by decide, by decide, by omega, fun ls hL hll hlr => ?_⟩
      obtain ⟨s0, rfl, hs0⟩ := lots_10404 hL
      replace st := st.grown (lotsM_grown 10404 [s0] M2)
      have htop : (lotsM 10404 [s0] M2)[M2.length + 1]? = some (.lst [.own M2.length]) := by
        rw [lotsMj_0]
        exact lotsMj_top (ls := [s0])
      have hrow : (lotsM 10404 [s0] M2)[M2.length]? = some (.lst (rowAt 10404 [s0] 0 0)) := by
        rw [lotsMj_0]
        exact lotsMj_row (ls := [s0]) (i := 0) (by simp)
      have hrl : (rowAt 10404 [s0] 0 0).length = 100 := by
        show ((s0.map fun x => T4 0 ((10404 - x * x) / 4) 1 x) ++ []).length = 100
        rw [List.append_nil, List.length_map, hs0]
      generalize lotsM 10404 [s0] M2 = M3 at *
      show (match M3[M2.length + 1]? with | some (Own.lst ds) => lcW false ds (fun M' => M'[M2.length + 1]? = some (.lst ds)) (dName 6) dYes (dCB gLen (dCons (dVar 6) dNil)) [some (D.scr ns), some (D.own k), u2, some (D.int m), some (D.int (isq (m - 1))), some (D.int (hMany m)), none, none] M3 _ | _ => False)
      rw [htop]
      dsimp only
      refine lcW_idx (ys := [.int 100]) (by rfl) htop (by rw [sizeLine_eq]; simp) (fun j d w hd hw Z N' hz => ?_) ?_
      · have hj : j < 1 := (List.getElem?_eq_some_iff.mp hw).1
        obtain rfl : j = 0 := by omega
        cases hd
        cases hw
        walk_at "rd"
        rw [hrow]
        dsimp only
        rw [hrl]
        exact hz
      · refine gNe_iff (n := 2) rfl rfl rfl rfl fun t ht => ?_
        rw [ht.mpr rfl]
        dsimp only
        rw [if_neg (by decide)]
        refine ⟨10205, rfl, by decide, by decide, by omega, ?_⟩
        rw [h105]
        dsimp only
        rw [gNe_int]
        dsimp only
        rw [if_neg (by decide)]
        refine ⟨10408, rfl, by decide, by decide, by omega, ?_⟩
        rw [h108]
        dsimp only
        rw [gNe_int]
        dsimp only
        rw [if_neg (by decide), ← hB]
        clear hB B T ht t htop hrow
        have s4 : Sm 4 := Sm.of 4 (by decide)
        refine dSeq_open fun B hB => ?_
        walk_at "rd"
        refine ⟨k, 100, _, rfl, by decide, by decide, st.gn, by unfold P40; omega, fun v M4 v0 v1 g4 => ?_⟩
        dsimp only
        refine ⟨⟨s4, (Bi.of_abs (n := 10) 100 (by omega) (by decide)).sm⟩, ?_⟩
        rw [← hB]
        clear hB B
        obtain ⟨gm, hgm⟩ : ∃ gm, gm = 10600 + 4 * v + 1 := ⟨_, rfl⟩
        rw [← hgm]
        have hgM : isMeas (.int gm) = true := by simp [isMeas]; omega
        have hg1 := many_101 hgM (by omega)
        refine dSeq_open fun B hB => ?_
        refine dIfS_open fun T hT => ?_
        clear hT
        walk_at "rd"
        refine ⟨gm, rfl, hgM, by omega, by omega, ?_⟩
        dsimp only
        refine ⟨gm, rfl, hgM, by omega, ?_⟩
        dsimp only
        rw [List.length_map, show heartI gm = evens (hLow gm) (hMany gm).toNat from rfl, evens_len, gNe_int]
        dsimp only
        rw [if_neg (by simp; omega)]
        refine ⟨gm, rfl, hgM, by omega, by omega, ?_⟩
        dsimp only
        rw [if_neg (by simp; omega), ← hB]
        clear hB B T
        walk_at "rd"
        refine ⟨fun i acc _ => i ≤ 8 ∧ acc = [D.int 1, .int 1, .int 1, .int 2, .int 3, .int 3, .int 3, .int 3].take i, ⟨by decide, rfl⟩, ?_⟩
        rintro i acc M5 ⟨hi, rfl⟩
        refine ⟨trivial, fun hle => ?_, fun d hd => ?_⟩
        · have h8 : i = 8 := by simp only [List.length_cons, List.length_nil] at hle; omega
          subst h8
          rw [if_neg (by decide)]
          refine gEq_iff (n := 2) rfl rfl rfl rfl fun t ht => ?_
          rw [ht.mpr rfl]
          exact fin _
        · have hi8 : i < 8 := by
            have := (List.getElem?_eq_some_iff.mp hd).1
            simpa using this
          have key : ∀ (mm : Int) (kk : Nat) (Z : D → Mem → Prop), isMeas (.int mm) = true → mm ≤ 10000 → (∀ ls : List (List Int), LotsR mm (heart0 mm) ls → ls.length = kk) → (∀ M', Z (.int (kk : Nat)) M') → dCB gLen (dCons (dCall 1 sp_hlotsO [] DX0 (dCons (dVar 3) dNil)) dNil) [some (D.scr ns), some (D.own k), u2, some (.int mm), some (D.int (isq (m - 1))), some (D.int (hMany m)), none, some (.int gm)] M5 Z := by
            intro mm kk Z hmm hmb hls hZ
            walk_at "rd"
            refine ⟨mm, rfl, hmm, by omega, many_100 hmm (by omega), fun ls hL _ _ => ?_⟩
            have htop : (lotsM mm ls M5)[M5.length + ls.length]? = some (.lst (idx30 M5.length ls.length)) := by
              rw [lotsMj_0]
              exact lotsMj_top
            dsimp only
            rw [htop]
            dsimp only
            rw [show (idx30 M5.length ls.length).length = kk from by unfold idx30; rw [List.length_map, List.length_range, hls ls hL]]
            exact hZ _
          have la := @len_all
          rcases (by omega : i = 0 ∨ i = 1 ∨ i = 2 ∨ i = 3 ∨ i = 4 ∨ i = 5 ∨ i = 6 ∨ i = 7) with rfl | rfl | rfl | rfl | rfl | rfl | rfl | rfl <;> cases hd
          · exact key 5 1 _ (by decide) (by decide) (fun ls => la.1) fun M' => ⟨by decide, by decide, rfl⟩
          · exact key 8 1 _ (by decide) (by decide) (fun ls => la.2.1) fun M' => ⟨by decide, by decide, rfl⟩
          · exact key 9 1 _ (by decide) (by decide) (fun ls => la.2.2.1) fun M' => ⟨by decide, by decide, rfl⟩
          · exact key 17 2 _ (by decide) (by decide) (fun ls => la.2.2.2.1) fun M' => ⟨by decide, by decide, rfl⟩
          · exact key 49 3 _ (by decide) (by decide) (fun ls => la.2.2.2.2.1) fun M' => ⟨by decide, by decide, rfl⟩
          · exact key 73 3 _ (by decide) (by decide) (fun ls => la.2.2.2.2.2.1) fun M' => ⟨by decide, by decide, rfl⟩
          · exact key 121 3 _ (by decide) (by decide) (fun ls => la.2.2.2.2.2.2.1) fun M' => ⟨by decide, by decide, rfl⟩
          · exact key 169 3 _ (by decide) (by decide) (fun ls => la.2.2.2.2.2.2.2) fun M' => ⟨by decide, by decide, rfl⟩
    clear hB
    walk_at "rd"
    by_cases hN : 100 < hMany m
    · rw [if_pos hN]
      refine ⟨m, rfl, hm, by omega, hN, ?_⟩
      dsimp only
      rw [gNe_int]
      dsimp only
      rw [if_neg (by simp)]
      exact go _ (st.le (by omega))
    · rw [if_neg hN]
      exact go _ (st.le (by omega))
end DL
namespace C_k30
open PySem PySem.Spec PyProof.Rows L2 DL
theorem law_ok {P : Program} {w : World} {K : PySem.W.Frag} {mg : Str → Option Value} {base : Heap} (T : Txt P K mg base) : Def P w K mg base CX0 7 "law" s_l_law_1f95 ["_law_script"] spLaw := by
  have D_l_cell_cf3b := ok_l_cell_cf3b (P := P) (w := w) T  rd_l_cell_cf3b
  have D_l_generator_b324 := ok_l_generator_b324 (P := P) (w := w) T D_l_cell_cf3b rd_l_generator_b324
  have D_l_hash_9cde := ok_l_hash_9cde (P := P) (w := w) T  rd_l_hash_9cde
  have D_l_random_7821 := ok_l_random_7821 (P := P) (w := w) T D_l_hash_9cde rd_l_random_7821
  have D_l_root_d754 := ok_l_root_d754 (P := P) (w := w) T  rd_l_root_d754
  have D_l_heart_e005 := ok_l_heart_e005 (P := P) (w := w) T D_l_root_d754 rd_l_heart_e005
  have D_l_common_6be5 := ok_l_common_6be5 (P := P) (w := w) T  rd_l_common_6be5
  have D_l_steps_3e4d := ok_l_steps_3e4d (P := P) (w := w) T D_l_common_6be5 rd_l_steps_3e4d
  have D_l_made_4c69 := ok_l_made_4c69 (P := P) (w := w) T  rd_l_made_4c69
  have D_l_lots_1d9e := ok_l_lots_1d9e (P := P) (w := w) T D_l_heart_e005 D_l_steps_3e4d D_l_made_4c69 rd_l_lots_1d9e
  have D_is_whole := ok_is_whole (P := P) (w := w) T  rd_is_whole
  have D_is_between := ok_is_between (P := P) (w := w) T D_is_whole rd_is_between
  have D_is_measure_by := ok_is_measure_by (P := P) (w := w) T D_is_between rd_is_measure_by
  have D_check_measure_x := ok_check_measure_x (P := P) (w := w) T D_is_measure_by rd_check_measure_x
  have D_root_floor_by := ok_root_floor_by (P := P) (w := w) T  rd_root_floor_by
  have D_bounds_by := ok_bounds_by (P := P) (w := w) T D_root_floor_by rd_bounds_by
  have D_common_by := ok_common_by (P := P) (w := w) T  rd_common_by
  have D_is_step_by := ok_is_step_by (P := P) (w := w) T D_common_by rd_is_step_by
  have D_lots_by := ok_lots_by (P := P) (w := w) T D_bounds_by D_is_step_by rd_lots_by
  have D_heart_by := ok_heart_by (P := P) (w := w) T  rd_heart_by
  have D_heart_lots_o_x := ok_heart_lots_o_x (P := P) (w := w) T D_check_measure_x D_bounds_by D_lots_by D_heart_by rd_heart_lots_o_x
  have D_heart_lots_o := D_heart_lots_o_x.weak wk_heart_lots_o
  have D_l_one_right_1c8f := ok_l_one_right_1c8f (P := P) (w := w) T D_l_lots_1d9e D_heart_lots_o rd_l_one_right_1c8f
  have D_l_measure_0db7 := ok_l_measure_0db7 (P := P) (w := w) T D_l_random_7821 D_l_root_d754 rd_l_measure_0db7
  have D_l_many_e760 := ok_l_many_e760 (P := P) (w := w) T D_heart_lots_o_x rd_l_many_e760
  exact ok_l_law_1f95 T D_l_generator_b324 D_l_random_7821 D_l_one_right_1c8f D_l_measure_0db7 D_l_root_d754 D_l_many_e760 D_heart_lots_o D_l_heart_e005 rd_l_law_1f95
end C_k30
/-! XH: what super().__init__ means, from the class's own line -/
namespace XA
open PySem PySem.W PySem.Calls PyProof.Rows PySem.HandSPX
theorem sup_of {K : Frag} {x : Str} {C S N : Addr} {q : Str} {bs : List Value} {sn : List Str} {sub : List Value} {ab : Bool} {col : Option Bool} {dd : Option Addr} {k0 k1 k2 k3 k5 : Option Value} {n : String}
    (lk : K.lookup C = some (excClassObj x q C N bs [.ref S, .type "ValueError", .type "Exception", .type "BaseException", .type "object"] true sn sub ab col dd k0 k1 k2 k3 k5 n))
    (sp : ks_superIn K C C "__init__" = some (some (.builtin "ValueError.__init__"))) : alongIn K "__init__" [.ref S, .type "ValueError", .type "Exception", .type "BaseException", .type "object"] = some (some (.builtin "ValueError.__init__")) := by
  have h1 : ∃ cd, PySem.W.clsIn K C = some cd ∧ cd.mro = .ref C :: [.ref S, .type "ValueError", .type "Exception", .type "BaseException", .type "object"] := ⟨_, by unfold PySem.W.clsIn; rw [lk], rfl⟩
  obtain ⟨cd, h1, h2⟩ := h1
  unfold ks_superIn at sp
  rw [h1, Option.bind_some, h2] at sp
  simpa using sp
end XA
namespace C_k30
open PySem PySem.Spec PyProof.Rows L2 DL
theorem all_mk {K : PySem.W.Frag} {h : Heap} {mg : Str → Option Value} (X : K.In h) (G : h.Ns mainGlobals mg)
    (n_abs : PySem.W.nsIn K mainGlobals "abs" = some none)
    (n_bool : PySem.W.nsIn K mainGlobals "bool" = some none)
    (n_int : PySem.W.nsIn K mainGlobals "int" = some none)
    (n_isinstance : PySem.W.nsIn K mainGlobals "isinstance" = some none)
    (n_len : PySem.W.nsIn K mainGlobals "len" = some none)
    (n_list : PySem.W.nsIn K mainGlobals "list" = some none)
    (n_max : PySem.W.nsIn K mainGlobals "max" = some none)
    (n_range : PySem.W.nsIn K mainGlobals "range" = some none)
    (n_repr : PySem.W.nsIn K mainGlobals "repr" = some none)
    (n_sorted : PySem.W.nsIn K mainGlobals "sorted" = some none)
    (n_sum : PySem.W.nsIn K mainGlobals "sum" = some none)
    {tk_LEAST : Tok} (c_LEAST : PySem.W.nsIn K mainGlobals "LEAST" = some (some (.int 5 tk_LEAST)))
    {cS nS : Addr} {qS : Str} {bS : List Value} {snS : List Str} {suS : List Value} {abS : Bool} {coS : Option Bool} {ddS : Option Addr} {k0S k1S k2S k3S k5S : Option Value}
    (ns_S : PySem.W.nsIn K mainGlobals "SheetError" = some (some (.ref cS))) (lk_S : K.lookup cS = some (excClassObj "SheetError" qS cS nS bS [.type "ValueError", .type "Exception", .type "BaseException", .type "object"] true snS suS abS coS ddS k0S k1S k2S k3S k5S "ValueError.__new__"))
    (gs_S : PySem.W.specialIn K (.builtin "object.__class__") "__get__" = some (some (.builtin "getset_descriptor.__get__"))) (tk_S : PySem.W.takesIn K (.builtin "object.__class__") = some true)
    (any_S : PySem.W.nsIn K PySem.cStatics "thirdparty.any" = some none) (msup_S : PySem.W.nsIn K mainGlobals "super" = some none)
    {c_InvalidMeasure f_InvalidMeasure n_InvalidMeasure cda_InvalidMeasure cc_InvalidMeasure td_InvalidMeasure : Addr} {q_InvalidMeasure : Str} {b_InvalidMeasure : List Value} {sn_InvalidMeasure : List Str} {su_InvalidMeasure : List Value} {ab_InvalidMeasure : Bool} {co_InvalidMeasure : Option Bool} {dd_InvalidMeasure : Option Addr} {k0_InvalidMeasure k1_InvalidMeasure k2_InvalidMeasure k3_InvalidMeasure k5_InvalidMeasure : Option Value} {od_InvalidMeasure an_InvalidMeasure : Option Addr} {kV_InvalidMeasure dc_InvalidMeasure pm_InvalidMeasure ct_InvalidMeasure : Value} {osl_InvalidMeasure : Array (Option Value)} {c1_InvalidMeasure c2_InvalidMeasure c3_InvalidMeasure : Value} {d1_InvalidMeasure d2_InvalidMeasure d3_InvalidMeasure : Option Addr} {sl1_InvalidMeasure sl2_InvalidMeasure sl3_InvalidMeasure : Array (Option Value)} {tn_InvalidMeasure : Nat} {vs_InvalidMeasure : Array Value} {fi_InvalidMeasure : Str} {tf_InvalidMeasure : Tok}
    (ns_InvalidMeasure : PySem.W.nsIn K mainGlobals "InvalidMeasure" = some (some (.ref c_InvalidMeasure))) (lk_InvalidMeasure : K.lookup c_InvalidMeasure = some (excClassObj "InvalidMeasure" q_InvalidMeasure c_InvalidMeasure n_InvalidMeasure b_InvalidMeasure [.ref cS, .type "ValueError", .type "Exception", .type "BaseException", .type "object"] true sn_InvalidMeasure su_InvalidMeasure ab_InvalidMeasure co_InvalidMeasure dd_InvalidMeasure k0_InvalidMeasure k1_InvalidMeasure k2_InvalidMeasure k3_InvalidMeasure k5_InvalidMeasure "ValueError.__new__"))
    (sa_InvalidMeasure : PySem.W.findIn K (.ref c_InvalidMeasure) "__setattr__" = some (some (.builtin "object.__setattr__"))) (ga_InvalidMeasure : PySem.W.findIn K (.ref c_InvalidMeasure) "__getattribute__" = some (some (.builtin "BaseException.__getattribute__"))) (gg_InvalidMeasure : PySem.W.findIn K (.ref c_InvalidMeasure) "__getattr__" = some none)
    (nv_InvalidMeasure : PySem.W.findIn K (.ref c_InvalidMeasure) "value" = some none) (kp_InvalidMeasure : PySem.W.keepIn K (.ref c_InvalidMeasure) = true) (hc_InvalidMeasure : PySem.W.findIn K (.ref c_InvalidMeasure) "__class__" = some (some (.builtin "object.__class__"))) (iC_InvalidMeasure : PySem.W.findIn K (.ref c_InvalidMeasure) "__init__" = some (some (.ref f_InvalidMeasure))) (sp_InvalidMeasure : PySem.W.ks_superIn K c_InvalidMeasure c_InvalidMeasure "__init__" = some (some (.builtin "ValueError.__init__")))
    (lf_InvalidMeasure : K.lookup f_InvalidMeasure = some ⟨.type "function", od_InvalidMeasure, .func (PySem.W.fnX "__init__" "InvalidMeasure.__init__" (defArgs k_InvalidMeasure) (defBody k_InvalidMeasure) (defScope k_InvalidMeasure) [("__class__", cc_InvalidMeasure)] (.ref td_InvalidMeasure) kV_InvalidMeasure dc_InvalidMeasure pm_InvalidMeasure an_InvalidMeasure (.ref cda_InvalidMeasure) ct_InvalidMeasure), osl_InvalidMeasure⟩) (cd_InvalidMeasure : PySem.W.codeIn K (.ref cda_InvalidMeasure) "InvalidMeasure.__init__" = true)
    (lc_InvalidMeasure : K.lookup cc_InvalidMeasure = some ⟨c1_InvalidMeasure, d1_InvalidMeasure, .cell (some (.ref c_InvalidMeasure)), sl1_InvalidMeasure⟩) (lt_InvalidMeasure : K.lookup td_InvalidMeasure = some ⟨c2_InvalidMeasure, d2_InvalidMeasure, .seq #[.none] tn_InvalidMeasure, sl2_InvalidMeasure⟩) (lv_InvalidMeasure : K.lookup cda_InvalidMeasure = some ⟨c3_InvalidMeasure, d3_InvalidMeasure, .fields vs_InvalidMeasure, sl3_InvalidMeasure⟩) (hv_InvalidMeasure : vs_InvalidMeasure[2]? = some (.str fi_InvalidMeasure tf_InvalidMeasure)) (hf_InvalidMeasure : (((PySem.Challenge.pw_slitsheets_k30_whole_lots_of_the_heart : Program).main.file : Str) == fi_InvalidMeasure) = true)
    {c_TooMany f_TooMany n_TooMany cda_TooMany cc_TooMany td_TooMany : Addr} {q_TooMany : Str} {b_TooMany : List Value} {sn_TooMany : List Str} {su_TooMany : List Value} {ab_TooMany : Bool} {co_TooMany : Option Bool} {dd_TooMany : Option Addr} {k0_TooMany k1_TooMany k2_TooMany k3_TooMany k5_TooMany : Option Value} {od_TooMany an_TooMany : Option Addr} {kV_TooMany dc_TooMany pm_TooMany ct_TooMany : Value} {osl_TooMany : Array (Option Value)} {c1_TooMany c2_TooMany c3_TooMany : Value} {d1_TooMany d2_TooMany d3_TooMany : Option Addr} {sl1_TooMany sl2_TooMany sl3_TooMany : Array (Option Value)} {tn_TooMany : Nat} {vs_TooMany : Array Value} {fi_TooMany : Str} {tf_TooMany : Tok}
    (ns_TooMany : PySem.W.nsIn K mainGlobals "TooMany" = some (some (.ref c_TooMany))) (lk_TooMany : K.lookup c_TooMany = some (excClassObj "TooMany" q_TooMany c_TooMany n_TooMany b_TooMany [.ref cS, .type "ValueError", .type "Exception", .type "BaseException", .type "object"] true sn_TooMany su_TooMany ab_TooMany co_TooMany dd_TooMany k0_TooMany k1_TooMany k2_TooMany k3_TooMany k5_TooMany "ValueError.__new__"))
    (sa_TooMany : PySem.W.findIn K (.ref c_TooMany) "__setattr__" = some (some (.builtin "object.__setattr__"))) (ga_TooMany : PySem.W.findIn K (.ref c_TooMany) "__getattribute__" = some (some (.builtin "BaseException.__getattribute__"))) (gg_TooMany : PySem.W.findIn K (.ref c_TooMany) "__getattr__" = some none)
    (nv_TooMany : PySem.W.findIn K (.ref c_TooMany) "value" = some none) (kp_TooMany : PySem.W.keepIn K (.ref c_TooMany) = true) (hc_TooMany : PySem.W.findIn K (.ref c_TooMany) "__class__" = some (some (.builtin "object.__class__"))) (iC_TooMany : PySem.W.findIn K (.ref c_TooMany) "__init__" = some (some (.ref f_TooMany))) (sp_TooMany : PySem.W.ks_superIn K c_TooMany c_TooMany "__init__" = some (some (.builtin "ValueError.__init__")))
    (lf_TooMany : K.lookup f_TooMany = some ⟨.type "function", od_TooMany, .func (PySem.W.fnX "__init__" "TooMany.__init__" (defArgs k_TooMany) (defBody k_TooMany) (defScope k_TooMany) [("__class__", cc_TooMany)] (.ref td_TooMany) kV_TooMany dc_TooMany pm_TooMany an_TooMany (.ref cda_TooMany) ct_TooMany), osl_TooMany⟩) (cd_TooMany : PySem.W.codeIn K (.ref cda_TooMany) "TooMany.__init__" = true)
    (lc_TooMany : K.lookup cc_TooMany = some ⟨c1_TooMany, d1_TooMany, .cell (some (.ref c_TooMany)), sl1_TooMany⟩) (lt_TooMany : K.lookup td_TooMany = some ⟨c2_TooMany, d2_TooMany, .seq #[.none] tn_TooMany, sl2_TooMany⟩) (lv_TooMany : K.lookup cda_TooMany = some ⟨c3_TooMany, d3_TooMany, .fields vs_TooMany, sl3_TooMany⟩) (hv_TooMany : vs_TooMany[2]? = some (.str fi_TooMany tf_TooMany)) (hf_TooMany : (((PySem.Challenge.pw_slitsheets_k30_whole_lots_of_the_heart : Program).main.file : Str) == fi_TooMany) = true)
    {f_l_cell_cf3b : Addr} {oc_l_cell_cf3b kV_l_cell_cf3b dc_l_cell_cf3b pm_l_cell_cf3b cd_l_cell_cf3b ct_l_cell_cf3b : Value} {od_l_cell_cf3b an_l_cell_cf3b : Option Addr} {sl_l_cell_cf3b : Array (Option Value)}
    (a_l_cell_cf3b : PySem.W.nsIn K mainGlobals "_law_cell" = some (some (.ref f_l_cell_cf3b))) (l_l_cell_cf3b : K.lookup f_l_cell_cf3b = some ⟨oc_l_cell_cf3b, od_l_cell_cf3b, .func (PySem.W.fnOf "_law_cell" "_law_cell" (defArgs s_l_cell_cf3b) (defBody s_l_cell_cf3b) (defScope s_l_cell_cf3b) .none kV_l_cell_cf3b dc_l_cell_cf3b pm_l_cell_cf3b an_l_cell_cf3b cd_l_cell_cf3b ct_l_cell_cf3b), sl_l_cell_cf3b⟩) (e_l_cell_cf3b : PySem.W.codeIn K cd_l_cell_cf3b "_law_cell" = true) (k_l_cell_cf3b : PySem.W.keepIn K (.ref f_l_cell_cf3b) = true)
    {f_l_generator_b324 : Addr} {oc_l_generator_b324 kV_l_generator_b324 dc_l_generator_b324 pm_l_generator_b324 cd_l_generator_b324 ct_l_generator_b324 : Value} {od_l_generator_b324 an_l_generator_b324 : Option Addr} {sl_l_generator_b324 : Array (Option Value)}
    (a_l_generator_b324 : PySem.W.nsIn K mainGlobals "_law_generator" = some (some (.ref f_l_generator_b324))) (l_l_generator_b324 : K.lookup f_l_generator_b324 = some ⟨oc_l_generator_b324, od_l_generator_b324, .func (PySem.W.fnOf "_law_generator" "_law_generator" (defArgs s_l_generator_b324) (defBody s_l_generator_b324) (defScope s_l_generator_b324) .none kV_l_generator_b324 dc_l_generator_b324 pm_l_generator_b324 an_l_generator_b324 cd_l_generator_b324 ct_l_generator_b324), sl_l_generator_b324⟩) (e_l_generator_b324 : PySem.W.codeIn K cd_l_generator_b324 "_law_generator" = true) (k_l_generator_b324 : PySem.W.keepIn K (.ref f_l_generator_b324) = true)
    {f_l_hash_9cde : Addr} {oc_l_hash_9cde kV_l_hash_9cde dc_l_hash_9cde pm_l_hash_9cde cd_l_hash_9cde ct_l_hash_9cde : Value} {od_l_hash_9cde an_l_hash_9cde : Option Addr} {sl_l_hash_9cde : Array (Option Value)}
    (a_l_hash_9cde : PySem.W.nsIn K mainGlobals "_law_hash" = some (some (.ref f_l_hash_9cde))) (l_l_hash_9cde : K.lookup f_l_hash_9cde = some ⟨oc_l_hash_9cde, od_l_hash_9cde, .func (PySem.W.fnOf "_law_hash" "_law_hash" (defArgs s_l_hash_9cde) (defBody s_l_hash_9cde) (defScope s_l_hash_9cde) .none kV_l_hash_9cde dc_l_hash_9cde pm_l_hash_9cde an_l_hash_9cde cd_l_hash_9cde ct_l_hash_9cde), sl_l_hash_9cde⟩) (e_l_hash_9cde : PySem.W.codeIn K cd_l_hash_9cde "_law_hash" = true) (k_l_hash_9cde : PySem.W.keepIn K (.ref f_l_hash_9cde) = true)
    {f_l_random_7821 : Addr} {oc_l_random_7821 kV_l_random_7821 dc_l_random_7821 pm_l_random_7821 cd_l_random_7821 ct_l_random_7821 : Value} {od_l_random_7821 an_l_random_7821 : Option Addr} {sl_l_random_7821 : Array (Option Value)}
    (a_l_random_7821 : PySem.W.nsIn K mainGlobals "_law_random" = some (some (.ref f_l_random_7821))) (l_l_random_7821 : K.lookup f_l_random_7821 = some ⟨oc_l_random_7821, od_l_random_7821, .func (PySem.W.fnOf "_law_random" "_law_random" (defArgs s_l_random_7821) (defBody s_l_random_7821) (defScope s_l_random_7821) .none kV_l_random_7821 dc_l_random_7821 pm_l_random_7821 an_l_random_7821 cd_l_random_7821 ct_l_random_7821), sl_l_random_7821⟩) (e_l_random_7821 : PySem.W.codeIn K cd_l_random_7821 "_law_random" = true) (k_l_random_7821 : PySem.W.keepIn K (.ref f_l_random_7821) = true)
    {f_l_root_d754 : Addr} {oc_l_root_d754 kV_l_root_d754 dc_l_root_d754 pm_l_root_d754 cd_l_root_d754 ct_l_root_d754 : Value} {od_l_root_d754 an_l_root_d754 : Option Addr} {sl_l_root_d754 : Array (Option Value)}
    (a_l_root_d754 : PySem.W.nsIn K mainGlobals "_law_root" = some (some (.ref f_l_root_d754))) (l_l_root_d754 : K.lookup f_l_root_d754 = some ⟨oc_l_root_d754, od_l_root_d754, .func (PySem.W.fnOf "_law_root" "_law_root" (defArgs s_l_root_d754) (defBody s_l_root_d754) (defScope s_l_root_d754) .none kV_l_root_d754 dc_l_root_d754 pm_l_root_d754 an_l_root_d754 cd_l_root_d754 ct_l_root_d754), sl_l_root_d754⟩) (e_l_root_d754 : PySem.W.codeIn K cd_l_root_d754 "_law_root" = true) (k_l_root_d754 : PySem.W.keepIn K (.ref f_l_root_d754) = true)
    {f_l_heart_e005 : Addr} {oc_l_heart_e005 kV_l_heart_e005 dc_l_heart_e005 pm_l_heart_e005 cd_l_heart_e005 ct_l_heart_e005 : Value} {od_l_heart_e005 an_l_heart_e005 : Option Addr} {sl_l_heart_e005 : Array (Option Value)}
    (a_l_heart_e005 : PySem.W.nsIn K mainGlobals "_law_heart" = some (some (.ref f_l_heart_e005))) (l_l_heart_e005 : K.lookup f_l_heart_e005 = some ⟨oc_l_heart_e005, od_l_heart_e005, .func (PySem.W.fnOf "_law_heart" "_law_heart" (defArgs s_l_heart_e005) (defBody s_l_heart_e005) (defScope s_l_heart_e005) .none kV_l_heart_e005 dc_l_heart_e005 pm_l_heart_e005 an_l_heart_e005 cd_l_heart_e005 ct_l_heart_e005), sl_l_heart_e005⟩) (e_l_heart_e005 : PySem.W.codeIn K cd_l_heart_e005 "_law_heart" = true) (k_l_heart_e005 : PySem.W.keepIn K (.ref f_l_heart_e005) = true)
    {f_l_common_6be5 : Addr} {oc_l_common_6be5 kV_l_common_6be5 dc_l_common_6be5 pm_l_common_6be5 cd_l_common_6be5 ct_l_common_6be5 : Value} {od_l_common_6be5 an_l_common_6be5 : Option Addr} {sl_l_common_6be5 : Array (Option Value)}
    (a_l_common_6be5 : PySem.W.nsIn K mainGlobals "_law_common" = some (some (.ref f_l_common_6be5))) (l_l_common_6be5 : K.lookup f_l_common_6be5 = some ⟨oc_l_common_6be5, od_l_common_6be5, .func (PySem.W.fnOf "_law_common" "_law_common" (defArgs s_l_common_6be5) (defBody s_l_common_6be5) (defScope s_l_common_6be5) .none kV_l_common_6be5 dc_l_common_6be5 pm_l_common_6be5 an_l_common_6be5 cd_l_common_6be5 ct_l_common_6be5), sl_l_common_6be5⟩) (e_l_common_6be5 : PySem.W.codeIn K cd_l_common_6be5 "_law_common" = true) (k_l_common_6be5 : PySem.W.keepIn K (.ref f_l_common_6be5) = true)
    {f_l_steps_3e4d : Addr} {oc_l_steps_3e4d kV_l_steps_3e4d dc_l_steps_3e4d pm_l_steps_3e4d cd_l_steps_3e4d ct_l_steps_3e4d : Value} {od_l_steps_3e4d an_l_steps_3e4d : Option Addr} {sl_l_steps_3e4d : Array (Option Value)}
    (a_l_steps_3e4d : PySem.W.nsIn K mainGlobals "_law_steps" = some (some (.ref f_l_steps_3e4d))) (l_l_steps_3e4d : K.lookup f_l_steps_3e4d = some ⟨oc_l_steps_3e4d, od_l_steps_3e4d, .func (PySem.W.fnOf "_law_steps" "_law_steps" (defArgs s_l_steps_3e4d) (defBody s_l_steps_3e4d) (defScope s_l_steps_3e4d) .none kV_l_steps_3e4d dc_l_steps_3e4d pm_l_steps_3e4d an_l_steps_3e4d cd_l_steps_3e4d ct_l_steps_3e4d), sl_l_steps_3e4d⟩) (e_l_steps_3e4d : PySem.W.codeIn K cd_l_steps_3e4d "_law_steps" = true) (k_l_steps_3e4d : PySem.W.keepIn K (.ref f_l_steps_3e4d) = true)
    {f_l_made_4c69 : Addr} {oc_l_made_4c69 kV_l_made_4c69 dc_l_made_4c69 pm_l_made_4c69 cd_l_made_4c69 ct_l_made_4c69 : Value} {od_l_made_4c69 an_l_made_4c69 : Option Addr} {sl_l_made_4c69 : Array (Option Value)}
    (a_l_made_4c69 : PySem.W.nsIn K mainGlobals "_law_made" = some (some (.ref f_l_made_4c69))) (l_l_made_4c69 : K.lookup f_l_made_4c69 = some ⟨oc_l_made_4c69, od_l_made_4c69, .func (PySem.W.fnOf "_law_made" "_law_made" (defArgs s_l_made_4c69) (defBody s_l_made_4c69) (defScope s_l_made_4c69) .none kV_l_made_4c69 dc_l_made_4c69 pm_l_made_4c69 an_l_made_4c69 cd_l_made_4c69 ct_l_made_4c69), sl_l_made_4c69⟩) (e_l_made_4c69 : PySem.W.codeIn K cd_l_made_4c69 "_law_made" = true) (k_l_made_4c69 : PySem.W.keepIn K (.ref f_l_made_4c69) = true)
    {f_l_lots_1d9e : Addr} {oc_l_lots_1d9e kV_l_lots_1d9e dc_l_lots_1d9e pm_l_lots_1d9e cd_l_lots_1d9e ct_l_lots_1d9e : Value} {od_l_lots_1d9e an_l_lots_1d9e : Option Addr} {sl_l_lots_1d9e : Array (Option Value)}
    (a_l_lots_1d9e : PySem.W.nsIn K mainGlobals "_law_lots" = some (some (.ref f_l_lots_1d9e))) (l_l_lots_1d9e : K.lookup f_l_lots_1d9e = some ⟨oc_l_lots_1d9e, od_l_lots_1d9e, .func (PySem.W.fnOf "_law_lots" "_law_lots" (defArgs s_l_lots_1d9e) (defBody s_l_lots_1d9e) (defScope s_l_lots_1d9e) .none kV_l_lots_1d9e dc_l_lots_1d9e pm_l_lots_1d9e an_l_lots_1d9e cd_l_lots_1d9e ct_l_lots_1d9e), sl_l_lots_1d9e⟩) (e_l_lots_1d9e : PySem.W.codeIn K cd_l_lots_1d9e "_law_lots" = true) (k_l_lots_1d9e : PySem.W.keepIn K (.ref f_l_lots_1d9e) = true)
    {f_is_whole : Addr} {oc_is_whole kV_is_whole dc_is_whole pm_is_whole cd_is_whole ct_is_whole : Value} {od_is_whole an_is_whole : Option Addr} {sl_is_whole : Array (Option Value)}
    (a_is_whole : PySem.W.nsIn K mainGlobals "is_whole" = some (some (.ref f_is_whole))) (l_is_whole : K.lookup f_is_whole = some ⟨oc_is_whole, od_is_whole, .func (PySem.W.fnOf "is_whole" "is_whole" (defArgs s_is_whole) (defBody s_is_whole) (defScope s_is_whole) .none kV_is_whole dc_is_whole pm_is_whole an_is_whole cd_is_whole ct_is_whole), sl_is_whole⟩) (e_is_whole : PySem.W.codeIn K cd_is_whole "is_whole" = true) (k_is_whole : PySem.W.keepIn K (.ref f_is_whole) = true)
    {f_is_between : Addr} {oc_is_between kV_is_between dc_is_between pm_is_between cd_is_between ct_is_between : Value} {od_is_between an_is_between : Option Addr} {sl_is_between : Array (Option Value)}
    (a_is_between : PySem.W.nsIn K mainGlobals "is_between" = some (some (.ref f_is_between))) (l_is_between : K.lookup f_is_between = some ⟨oc_is_between, od_is_between, .func (PySem.W.fnOf "is_between" "is_between" (defArgs s_is_between) (defBody s_is_between) (defScope s_is_between) .none kV_is_between dc_is_between pm_is_between an_is_between cd_is_between ct_is_between), sl_is_between⟩) (e_is_between : PySem.W.codeIn K cd_is_between "is_between" = true) (k_is_between : PySem.W.keepIn K (.ref f_is_between) = true)
    {f_is_measure_by : Addr} {oc_is_measure_by kV_is_measure_by dc_is_measure_by pm_is_measure_by cd_is_measure_by ct_is_measure_by : Value} {od_is_measure_by an_is_measure_by : Option Addr} {sl_is_measure_by : Array (Option Value)}
    (a_is_measure_by : PySem.W.nsIn K mainGlobals "is_measure_by" = some (some (.ref f_is_measure_by))) (l_is_measure_by : K.lookup f_is_measure_by = some ⟨oc_is_measure_by, od_is_measure_by, .func (PySem.W.fnOf "is_measure_by" "is_measure_by" (defArgs s_is_measure_by) (defBody s_is_measure_by) (defScope s_is_measure_by) .none kV_is_measure_by dc_is_measure_by pm_is_measure_by an_is_measure_by cd_is_measure_by ct_is_measure_by), sl_is_measure_by⟩) (e_is_measure_by : PySem.W.codeIn K cd_is_measure_by "is_measure_by" = true) (k_is_measure_by : PySem.W.keepIn K (.ref f_is_measure_by) = true)
    {f_check_measure_x : Addr} {oc_check_measure_x kV_check_measure_x dc_check_measure_x pm_check_measure_x cd_check_measure_x ct_check_measure_x : Value} {od_check_measure_x an_check_measure_x : Option Addr} {sl_check_measure_x : Array (Option Value)}
    (a_check_measure_x : PySem.W.nsIn K mainGlobals "check_measure" = some (some (.ref f_check_measure_x))) (l_check_measure_x : K.lookup f_check_measure_x = some ⟨oc_check_measure_x, od_check_measure_x, .func (PySem.W.fnOf "check_measure" "check_measure" (defArgs s_check_measure_x) (defBody s_check_measure_x) (defScope s_check_measure_x) .none kV_check_measure_x dc_check_measure_x pm_check_measure_x an_check_measure_x cd_check_measure_x ct_check_measure_x), sl_check_measure_x⟩) (e_check_measure_x : PySem.W.codeIn K cd_check_measure_x "check_measure" = true) (k_check_measure_x : PySem.W.keepIn K (.ref f_check_measure_x) = true)
    {f_root_floor_by : Addr} {oc_root_floor_by kV_root_floor_by dc_root_floor_by pm_root_floor_by cd_root_floor_by ct_root_floor_by : Value} {od_root_floor_by an_root_floor_by : Option Addr} {sl_root_floor_by : Array (Option Value)}
    (a_root_floor_by : PySem.W.nsIn K mainGlobals "root_floor_by" = some (some (.ref f_root_floor_by))) (l_root_floor_by : K.lookup f_root_floor_by = some ⟨oc_root_floor_by, od_root_floor_by, .func (PySem.W.fnOf "root_floor_by" "root_floor_by" (defArgs s_root_floor_by) (defBody s_root_floor_by) (defScope s_root_floor_by) .none kV_root_floor_by dc_root_floor_by pm_root_floor_by an_root_floor_by cd_root_floor_by ct_root_floor_by), sl_root_floor_by⟩) (e_root_floor_by : PySem.W.codeIn K cd_root_floor_by "root_floor_by" = true) (k_root_floor_by : PySem.W.keepIn K (.ref f_root_floor_by) = true)
    {f_bounds_by : Addr} {oc_bounds_by kV_bounds_by dc_bounds_by pm_bounds_by cd_bounds_by ct_bounds_by : Value} {od_bounds_by an_bounds_by : Option Addr} {sl_bounds_by : Array (Option Value)}
    (a_bounds_by : PySem.W.nsIn K mainGlobals "bounds_by" = some (some (.ref f_bounds_by))) (l_bounds_by : K.lookup f_bounds_by = some ⟨oc_bounds_by, od_bounds_by, .func (PySem.W.fnOf "bounds_by" "bounds_by" (defArgs s_bounds_by) (defBody s_bounds_by) (defScope s_bounds_by) .none kV_bounds_by dc_bounds_by pm_bounds_by an_bounds_by cd_bounds_by ct_bounds_by), sl_bounds_by⟩) (e_bounds_by : PySem.W.codeIn K cd_bounds_by "bounds_by" = true) (k_bounds_by : PySem.W.keepIn K (.ref f_bounds_by) = true)
    {f_common_by : Addr} {oc_common_by kV_common_by dc_common_by pm_common_by cd_common_by ct_common_by : Value} {od_common_by an_common_by : Option Addr} {sl_common_by : Array (Option Value)}
    (a_common_by : PySem.W.nsIn K mainGlobals "common_by" = some (some (.ref f_common_by))) (l_common_by : K.lookup f_common_by = some ⟨oc_common_by, od_common_by, .func (PySem.W.fnOf "common_by" "common_by" (defArgs s_common_by) (defBody s_common_by) (defScope s_common_by) .none kV_common_by dc_common_by pm_common_by an_common_by cd_common_by ct_common_by), sl_common_by⟩) (e_common_by : PySem.W.codeIn K cd_common_by "common_by" = true) (k_common_by : PySem.W.keepIn K (.ref f_common_by) = true)
    {f_is_step_by : Addr} {oc_is_step_by kV_is_step_by dc_is_step_by pm_is_step_by cd_is_step_by ct_is_step_by : Value} {od_is_step_by an_is_step_by : Option Addr} {sl_is_step_by : Array (Option Value)}
    (a_is_step_by : PySem.W.nsIn K mainGlobals "is_step_by" = some (some (.ref f_is_step_by))) (l_is_step_by : K.lookup f_is_step_by = some ⟨oc_is_step_by, od_is_step_by, .func (PySem.W.fnOf "is_step_by" "is_step_by" (defArgs s_is_step_by) (defBody s_is_step_by) (defScope s_is_step_by) .none kV_is_step_by dc_is_step_by pm_is_step_by an_is_step_by cd_is_step_by ct_is_step_by), sl_is_step_by⟩) (e_is_step_by : PySem.W.codeIn K cd_is_step_by "is_step_by" = true) (k_is_step_by : PySem.W.keepIn K (.ref f_is_step_by) = true)
    {f_lots_by : Addr} {oc_lots_by kV_lots_by dc_lots_by pm_lots_by cd_lots_by ct_lots_by : Value} {od_lots_by an_lots_by : Option Addr} {sl_lots_by : Array (Option Value)}
    (a_lots_by : PySem.W.nsIn K mainGlobals "lots_by" = some (some (.ref f_lots_by))) (l_lots_by : K.lookup f_lots_by = some ⟨oc_lots_by, od_lots_by, .func (PySem.W.fnOf "lots_by" "lots_by" (defArgs s_lots_by) (defBody s_lots_by) (defScope s_lots_by) .none kV_lots_by dc_lots_by pm_lots_by an_lots_by cd_lots_by ct_lots_by), sl_lots_by⟩) (e_lots_by : PySem.W.codeIn K cd_lots_by "lots_by" = true) (k_lots_by : PySem.W.keepIn K (.ref f_lots_by) = true)
    {f_heart_by : Addr} {oc_heart_by kV_heart_by dc_heart_by pm_heart_by cd_heart_by ct_heart_by : Value} {od_heart_by an_heart_by : Option Addr} {sl_heart_by : Array (Option Value)}
    (a_heart_by : PySem.W.nsIn K mainGlobals "heart_by" = some (some (.ref f_heart_by))) (l_heart_by : K.lookup f_heart_by = some ⟨oc_heart_by, od_heart_by, .func (PySem.W.fnOf "heart_by" "heart_by" (defArgs s_heart_by) (defBody s_heart_by) (defScope s_heart_by) .none kV_heart_by dc_heart_by pm_heart_by an_heart_by cd_heart_by ct_heart_by), sl_heart_by⟩) (e_heart_by : PySem.W.codeIn K cd_heart_by "heart_by" = true) (k_heart_by : PySem.W.keepIn K (.ref f_heart_by) = true)
    {f_heart_lots_o_x : Addr} {oc_heart_lots_o_x kV_heart_lots_o_x dc_heart_lots_o_x pm_heart_lots_o_x cd_heart_lots_o_x ct_heart_lots_o_x : Value} {od_heart_lots_o_x an_heart_lots_o_x : Option Addr} {sl_heart_lots_o_x : Array (Option Value)}
    (a_heart_lots_o_x : PySem.W.nsIn K mainGlobals "heart_lots" = some (some (.ref f_heart_lots_o_x))) (l_heart_lots_o_x : K.lookup f_heart_lots_o_x = some ⟨oc_heart_lots_o_x, od_heart_lots_o_x, .func (PySem.W.fnOf "heart_lots" "heart_lots" (defArgs s_heart_lots_o_x) (defBody s_heart_lots_o_x) (defScope s_heart_lots_o_x) .none kV_heart_lots_o_x dc_heart_lots_o_x pm_heart_lots_o_x an_heart_lots_o_x cd_heart_lots_o_x ct_heart_lots_o_x), sl_heart_lots_o_x⟩) (e_heart_lots_o_x : PySem.W.codeIn K cd_heart_lots_o_x "heart_lots" = true) (k_heart_lots_o_x : PySem.W.keepIn K (.ref f_heart_lots_o_x) = true)
    {f_l_one_right_1c8f : Addr} {oc_l_one_right_1c8f kV_l_one_right_1c8f dc_l_one_right_1c8f pm_l_one_right_1c8f cd_l_one_right_1c8f ct_l_one_right_1c8f : Value} {od_l_one_right_1c8f an_l_one_right_1c8f : Option Addr} {sl_l_one_right_1c8f : Array (Option Value)}
    (a_l_one_right_1c8f : PySem.W.nsIn K mainGlobals "_law_one_right" = some (some (.ref f_l_one_right_1c8f))) (l_l_one_right_1c8f : K.lookup f_l_one_right_1c8f = some ⟨oc_l_one_right_1c8f, od_l_one_right_1c8f, .func (PySem.W.fnOf "_law_one_right" "_law_one_right" (defArgs s_l_one_right_1c8f) (defBody s_l_one_right_1c8f) (defScope s_l_one_right_1c8f) .none kV_l_one_right_1c8f dc_l_one_right_1c8f pm_l_one_right_1c8f an_l_one_right_1c8f cd_l_one_right_1c8f ct_l_one_right_1c8f), sl_l_one_right_1c8f⟩) (e_l_one_right_1c8f : PySem.W.codeIn K cd_l_one_right_1c8f "_law_one_right" = true) (k_l_one_right_1c8f : PySem.W.keepIn K (.ref f_l_one_right_1c8f) = true)
    {f_l_measure_0db7 : Addr} {oc_l_measure_0db7 kV_l_measure_0db7 dc_l_measure_0db7 pm_l_measure_0db7 cd_l_measure_0db7 ct_l_measure_0db7 : Value} {od_l_measure_0db7 an_l_measure_0db7 : Option Addr} {sl_l_measure_0db7 : Array (Option Value)}
    (a_l_measure_0db7 : PySem.W.nsIn K mainGlobals "_law_measure" = some (some (.ref f_l_measure_0db7))) (l_l_measure_0db7 : K.lookup f_l_measure_0db7 = some ⟨oc_l_measure_0db7, od_l_measure_0db7, .func (PySem.W.fnOf "_law_measure" "_law_measure" (defArgs s_l_measure_0db7) (defBody s_l_measure_0db7) (defScope s_l_measure_0db7) .none kV_l_measure_0db7 dc_l_measure_0db7 pm_l_measure_0db7 an_l_measure_0db7 cd_l_measure_0db7 ct_l_measure_0db7), sl_l_measure_0db7⟩) (e_l_measure_0db7 : PySem.W.codeIn K cd_l_measure_0db7 "_law_measure" = true) (k_l_measure_0db7 : PySem.W.keepIn K (.ref f_l_measure_0db7) = true)
    {f_l_many_e760 : Addr} {oc_l_many_e760 kV_l_many_e760 dc_l_many_e760 pm_l_many_e760 cd_l_many_e760 ct_l_many_e760 : Value} {od_l_many_e760 an_l_many_e760 : Option Addr} {sl_l_many_e760 : Array (Option Value)}
    (a_l_many_e760 : PySem.W.nsIn K mainGlobals "_law_many" = some (some (.ref f_l_many_e760))) (l_l_many_e760 : K.lookup f_l_many_e760 = some ⟨oc_l_many_e760, od_l_many_e760, .func (PySem.W.fnOf "_law_many" "_law_many" (defArgs s_l_many_e760) (defBody s_l_many_e760) (defScope s_l_many_e760) .none kV_l_many_e760 dc_l_many_e760 pm_l_many_e760 an_l_many_e760 cd_l_many_e760 ct_l_many_e760), sl_l_many_e760⟩) (e_l_many_e760 : PySem.W.codeIn K cd_l_many_e760 "_law_many" = true) (k_l_many_e760 : PySem.W.keepIn K (.ref f_l_many_e760) = true)
    {f_l_law_1f95 : Addr} {oc_l_law_1f95 kV_l_law_1f95 dc_l_law_1f95 pm_l_law_1f95 cd_l_law_1f95 ct_l_law_1f95 : Value} {od_l_law_1f95 an_l_law_1f95 : Option Addr} {sl_l_law_1f95 : Array (Option Value)}
    (a_l_law_1f95 : PySem.W.nsIn K mainGlobals "law" = some (some (.ref f_l_law_1f95))) (l_l_law_1f95 : K.lookup f_l_law_1f95 = some ⟨oc_l_law_1f95, od_l_law_1f95, .func (PySem.W.fnOf "law" "law" (defArgs s_l_law_1f95) (defBody s_l_law_1f95) (defScope s_l_law_1f95) .none kV_l_law_1f95 dc_l_law_1f95 pm_l_law_1f95 an_l_law_1f95 cd_l_law_1f95 ct_l_law_1f95), sl_l_law_1f95⟩) (e_l_law_1f95 : PySem.W.codeIn K cd_l_law_1f95 "law" = true) (k_l_law_1f95 : PySem.W.keepIn K (.ref f_l_law_1f95) = true)
    (base : Heap) (Xb : K.In base) : Txt PySem.Challenge.pw_slitsheets_k30_whole_lots_of_the_heart K mg base where
  s_SheetError := ⟨_, XA.shC_mk ns_S lk_S, PySem.W.mg_of X G ns_S⟩
  e_InvalidMeasure := XA.erM_mk X G (XA.shC_mk ns_S lk_S) it_InvalidMeasure (by decide) ns_InvalidMeasure lk_InvalidMeasure sa_InvalidMeasure ga_InvalidMeasure gg_InvalidMeasure nv_InvalidMeasure kp_InvalidMeasure hc_InvalidMeasure gs_S tk_S iC_InvalidMeasure (XA.sup_of lk_InvalidMeasure sp_InvalidMeasure) any_S msup_S lf_InvalidMeasure cd_InvalidMeasure lc_InvalidMeasure lt_InvalidMeasure lv_InvalidMeasure hv_InvalidMeasure hf_InvalidMeasure (by decide +kernel)
  e_TooMany := XA.erM_mk X G (XA.shC_mk ns_S lk_S) it_TooMany (by decide) ns_TooMany lk_TooMany sa_TooMany ga_TooMany gg_TooMany nv_TooMany kp_TooMany hc_TooMany gs_S tk_S iC_TooMany (XA.sup_of lk_TooMany sp_TooMany) any_S msup_S lf_TooMany cd_TooMany lc_TooMany lt_TooMany lv_TooMany hv_TooMany hf_TooMany (by decide +kernel)
  n_abs := PySem.W.mg_none_of X G n_abs
  n_bool := PySem.W.mg_none_of X G n_bool
  n_int := PySem.W.mg_none_of X G n_int
  n_isinstance := PySem.W.mg_none_of X G n_isinstance
  n_len := PySem.W.mg_none_of X G n_len
  n_list := PySem.W.mg_none_of X G n_list
  n_max := PySem.W.mg_none_of X G n_max
  n_range := PySem.W.mg_none_of X G n_range
  n_repr := PySem.W.mg_none_of X G n_repr
  n_sorted := PySem.W.mg_none_of X G n_sorted
  n_sum := PySem.W.mg_none_of X G n_sum
  c_LEAST := ⟨_, PySem.W.mg_of X G c_LEAST⟩
  h_l_cell_cf3b := here_of (st := s_l_cell_cf3b) X G a_l_cell_cf3b l_l_cell_cf3b e_l_cell_cf3b k_l_cell_cf3b fun _ _ _ _ _ _ us hl => match us, hl with | [_, _], _ => rfl
  h_l_generator_b324 := here_of (st := s_l_generator_b324) X G a_l_generator_b324 l_l_generator_b324 e_l_generator_b324 k_l_generator_b324 fun _ _ _ _ _ _ us hl => match us, hl with | [_, _], _ => rfl
  h_l_hash_9cde := here_of (st := s_l_hash_9cde) X G a_l_hash_9cde l_l_hash_9cde e_l_hash_9cde k_l_hash_9cde fun _ _ _ _ _ _ us hl => match us, hl with | [_, _], _ => rfl
  h_l_random_7821 := here_of (st := s_l_random_7821) X G a_l_random_7821 l_l_random_7821 e_l_random_7821 k_l_random_7821 fun _ _ _ _ _ _ us hl => match us, hl with | [_, _], _ => rfl
  h_l_root_d754 := here_of (st := s_l_root_d754) X G a_l_root_d754 l_l_root_d754 e_l_root_d754 k_l_root_d754 fun _ _ _ _ _ _ us hl => match us, hl with | [_], _ => rfl
  h_l_heart_e005 := here_of (st := s_l_heart_e005) X G a_l_heart_e005 l_l_heart_e005 e_l_heart_e005 k_l_heart_e005 fun _ _ _ _ _ _ us hl => match us, hl with | [_], _ => rfl
  h_l_common_6be5 := here_of (st := s_l_common_6be5) X G a_l_common_6be5 l_l_common_6be5 e_l_common_6be5 k_l_common_6be5 fun _ _ _ _ _ _ us hl => match us, hl with | [_, _], _ => rfl
  h_l_steps_3e4d := here_of (st := s_l_steps_3e4d) X G a_l_steps_3e4d l_l_steps_3e4d e_l_steps_3e4d k_l_steps_3e4d fun _ _ _ _ _ _ us hl => match us, hl with | [_, _, _], _ => rfl
  h_l_made_4c69 := here_of (st := s_l_made_4c69) X G a_l_made_4c69 l_l_made_4c69 e_l_made_4c69 k_l_made_4c69 fun _ _ _ _ _ _ us hl => match us, hl with | [_, _], _ => rfl
  h_l_lots_1d9e := here_of (st := s_l_lots_1d9e) X G a_l_lots_1d9e l_l_lots_1d9e e_l_lots_1d9e k_l_lots_1d9e fun _ _ _ _ _ _ us hl => match us, hl with | [_], _ => rfl
  h_is_whole := here_of (st := s_is_whole) X G a_is_whole l_is_whole e_is_whole k_is_whole fun _ _ _ _ _ _ us hl => match us, hl with | [_], _ => rfl
  h_is_between := here_of (st := s_is_between) X G a_is_between l_is_between e_is_between k_is_between fun _ _ _ _ _ _ us hl => match us, hl with | [_, _, _], _ => rfl
  h_is_measure_by := here_of (st := s_is_measure_by) X G a_is_measure_by l_is_measure_by e_is_measure_by k_is_measure_by fun _ _ _ _ _ _ us hl => match us, hl with | [_], _ => rfl
  h_check_measure_x := here_of (st := s_check_measure_x) X G a_check_measure_x l_check_measure_x e_check_measure_x k_check_measure_x fun _ _ _ _ _ _ us hl => match us, hl with | [_], _ => rfl
  h_root_floor_by := here_of (st := s_root_floor_by) X G a_root_floor_by l_root_floor_by e_root_floor_by k_root_floor_by fun _ _ _ _ _ _ us hl => match us, hl with | [_], _ => rfl
  h_bounds_by := here_of (st := s_bounds_by) X G a_bounds_by l_bounds_by e_bounds_by k_bounds_by fun _ _ _ _ _ _ us hl => match us, hl with | [_], _ => rfl
  h_common_by := here_of (st := s_common_by) X G a_common_by l_common_by e_common_by k_common_by fun _ _ _ _ _ _ us hl => match us, hl with | [_, _], _ => rfl
  h_is_step_by := here_of (st := s_is_step_by) X G a_is_step_by l_is_step_by e_is_step_by k_is_step_by fun _ _ _ _ _ _ us hl => match us, hl with | [_, _, _], _ => rfl
  h_lots_by := here_of (st := s_lots_by) X G a_lots_by l_lots_by e_lots_by k_lots_by fun _ _ _ _ _ _ us hl => match us, hl with | [_], _ => rfl
  h_heart_by := here_of (st := s_heart_by) X G a_heart_by l_heart_by e_heart_by k_heart_by fun _ _ _ _ _ _ us hl => match us, hl with | [_, _], _ => rfl
  h_heart_lots_o_x := here_of (st := s_heart_lots_o_x) X G a_heart_lots_o_x l_heart_lots_o_x e_heart_lots_o_x k_heart_lots_o_x fun _ _ _ _ _ _ us hl => match us, hl with | [_], _ => rfl
  h_l_one_right_1c8f := here_of (st := s_l_one_right_1c8f) X G a_l_one_right_1c8f l_l_one_right_1c8f e_l_one_right_1c8f k_l_one_right_1c8f fun _ _ _ _ _ _ us hl => match us, hl with | [_], _ => rfl
  h_l_measure_0db7 := here_of (st := s_l_measure_0db7) X G a_l_measure_0db7 l_l_measure_0db7 e_l_measure_0db7 k_l_measure_0db7 fun _ _ _ _ _ _ us hl => match us, hl with | [_, _], _ => rfl
  h_l_many_e760 := here_of (st := s_l_many_e760) X G a_l_many_e760 l_l_many_e760 e_l_many_e760 k_l_many_e760 fun _ _ _ _ _ _ us hl => match us, hl with | [_], _ => rfl
  h_l_law_1f95 := here_of (st := s_l_law_1f95) X G a_l_law_1f95 l_l_law_1f95 e_l_law_1f95 k_l_law_1f95 fun _ _ _ _ _ _ us hl => match us, hl with | [_], _ => rfl
end C_k30
open PySem PySem.W PyProof.Rows
set_option maxHeartbeats 0 in
theorem PySem.Challenge.cw_slitsheets_k30_whole_lots_of_the_heart_holds : PySem.Challenge.rw_slitsheets_k30_whole_lots_of_the_heart.Holds := by
  w_on; o_law; k_head; (case hw => w_witness2)
  k_fill
  refine DL.walkD (l := PySem.Challenge.rw_slitsheets_k30_whole_lots_of_the_heart) (n := 63) (k := 7) (x := "_law_script") (st := C_k30.s_l_law_1f95) rfl (by decide) rfl ⟨rfl, by decide, by decide⟩ (fun w h Y => PySem.W.kIn_of Y) ?F (fun _ _ _ _ _ _ _ => rfl)
  case F =>
    intro w mg h KX G base Xb Gb
    refine' C_k30.law_ok (C_k30.all_mk KX G ?n_abs ?n_bool ?n_int ?n_isinstance ?n_len ?n_list ?n_max ?n_range ?n_repr ?n_sorted ?n_sum ?c_LEAST ?ns_S ?lk_S ?gs_S ?tk_S ?any_S ?msup_S ?ns_InvalidMeasure ?lk_InvalidMeasure ?sa_InvalidMeasure ?ga_InvalidMeasure ?gg_InvalidMeasure ?nv_InvalidMeasure ?kp_InvalidMeasure ?hc_InvalidMeasure ?iC_InvalidMeasure ?sp_InvalidMeasure ?lf_InvalidMeasure ?cd_InvalidMeasure ?lc_InvalidMeasure ?lt_InvalidMeasure ?lv_InvalidMeasure ?hv_InvalidMeasure ?hf_InvalidMeasure ?ns_TooMany ?lk_TooMany ?sa_TooMany ?ga_TooMany ?gg_TooMany ?nv_TooMany ?kp_TooMany ?hc_TooMany ?iC_TooMany ?sp_TooMany ?lf_TooMany ?cd_TooMany ?lc_TooMany ?lt_TooMany ?lv_TooMany ?hv_TooMany ?hf_TooMany ?a_l_cell_cf3b ?l_l_cell_cf3b ?e_l_cell_cf3b ?k_l_cell_cf3b ?a_l_generator_b324 ?l_l_generator_b324 ?e_l_generator_b324 ?k_l_generator_b324 ?a_l_hash_9cde ?l_l_hash_9cde ?e_l_hash_9cde ?k_l_hash_9cde ?a_l_random_7821 ?l_l_random_7821 ?e_l_random_7821 ?k_l_random_7821 ?a_l_root_d754 ?l_l_root_d754 ?e_l_root_d754 ?k_l_root_d754 ?a_l_heart_e005 ?l_l_heart_e005 ?e_l_heart_e005 ?k_l_heart_e005 ?a_l_common_6be5 ?l_l_common_6be5 ?e_l_common_6be5 ?k_l_common_6be5 ?a_l_steps_3e4d ?l_l_steps_3e4d ?e_l_steps_3e4d ?k_l_steps_3e4d ?a_l_made_4c69 ?l_l_made_4c69 ?e_l_made_4c69 ?k_l_made_4c69 ?a_l_lots_1d9e ?l_l_lots_1d9e ?e_l_lots_1d9e ?k_l_lots_1d9e ?a_is_whole ?l_is_whole ?e_is_whole ?k_is_whole ?a_is_between ?l_is_between ?e_is_between ?k_is_between ?a_is_measure_by ?l_is_measure_by ?e_is_measure_by ?k_is_measure_by ?a_check_measure_x ?l_check_measure_x ?e_check_measure_x ?k_check_measure_x ?a_root_floor_by ?l_root_floor_by ?e_root_floor_by ?k_root_floor_by ?a_bounds_by ?l_bounds_by ?e_bounds_by ?k_bounds_by ?a_common_by ?l_common_by ?e_common_by ?k_common_by ?a_is_step_by ?l_is_step_by ?e_is_step_by ?k_is_step_by ?a_lots_by ?l_lots_by ?e_lots_by ?k_lots_by ?a_heart_by ?l_heart_by ?e_heart_by ?k_heart_by ?a_heart_lots_o_x ?l_heart_lots_o_x ?e_heart_lots_o_x ?k_heart_lots_o_x ?a_l_one_right_1c8f ?l_l_one_right_1c8f ?e_l_one_right_1c8f ?k_l_one_right_1c8f ?a_l_measure_0db7 ?l_l_measure_0db7 ?e_l_measure_0db7 ?k_l_measure_0db7 ?a_l_many_e760 ?l_l_many_e760 ?e_l_many_e760 ?k_l_many_e760 ?a_l_law_1f95 ?l_l_law_1f95 ?e_l_law_1f95 ?k_l_law_1f95 base Xb)
    (case c_LEAST => k_is)
    (case n_abs => k_is)
    (case n_bool => k_is)
    (case n_int => k_is)
    (case n_isinstance => k_is)
    (case n_len => k_is)
    (case n_list => k_is)
    (case n_max => k_is)
    (case n_range => k_is)
    (case n_repr => k_is)
    (case n_sorted => k_is)
    (case n_sum => k_is)
    (case ns_S => k_is)
    (case lk_S => k_is)
    (case gs_S => k_is)
    (case tk_S => k_is)
    (case any_S => k_is)
    (case msup_S => k_is)
    (case ns_InvalidMeasure => k_is)
    (case lk_InvalidMeasure => k_is)
    (case sa_InvalidMeasure => k_is)
    (case ga_InvalidMeasure => k_is)
    (case gg_InvalidMeasure => k_is)
    (case nv_InvalidMeasure => k_is)
    (case kp_InvalidMeasure => k_is)
    (case hc_InvalidMeasure => k_is)
    (case iC_InvalidMeasure => k_is)
    (case sp_InvalidMeasure => ks_is)
    (case lf_InvalidMeasure => k_is)
    (case cd_InvalidMeasure => k_is)
    (case lc_InvalidMeasure => k_is)
    (case lt_InvalidMeasure => k_is)
    (case lv_InvalidMeasure => k_is)
    (case hv_InvalidMeasure => first | rfl | decide +kernel)
    (case hf_InvalidMeasure => first | rfl | decide +kernel)
    (case ns_TooMany => k_is)
    (case lk_TooMany => k_is)
    (case sa_TooMany => k_is)
    (case ga_TooMany => k_is)
    (case gg_TooMany => k_is)
    (case nv_TooMany => k_is)
    (case kp_TooMany => k_is)
    (case hc_TooMany => k_is)
    (case iC_TooMany => k_is)
    (case sp_TooMany => ks_is)
    (case lf_TooMany => k_is)
    (case cd_TooMany => k_is)
    (case lc_TooMany => k_is)
    (case lt_TooMany => k_is)
    (case lv_TooMany => k_is)
    (case hv_TooMany => first | rfl | decide +kernel)
    (case hf_TooMany => first | rfl | decide +kernel)
    (case a_l_cell_cf3b => k_is)
    (case l_l_cell_cf3b => k_is)
    (case e_l_cell_cf3b => k_is)
    (case k_l_cell_cf3b => k_is)
    (case a_l_generator_b324 => k_is)
    (case l_l_generator_b324 => k_is)
    (case e_l_generator_b324 => k_is)
    (case k_l_generator_b324 => k_is)
    (case a_l_hash_9cde => k_is)
    (case l_l_hash_9cde => k_is)
    (case e_l_hash_9cde => k_is)
    (case k_l_hash_9cde => k_is)
    (case a_l_random_7821 => k_is)
    (case l_l_random_7821 => k_is)
    (case e_l_random_7821 => k_is)
    (case k_l_random_7821 => k_is)
    (case a_l_root_d754 => k_is)
    (case l_l_root_d754 => k_is)
    (case e_l_root_d754 => k_is)
    (case k_l_root_d754 => k_is)
    (case a_l_heart_e005 => k_is)
    (case l_l_heart_e005 => k_is)
    (case e_l_heart_e005 => k_is)
    (case k_l_heart_e005 => k_is)
    (case a_l_common_6be5 => k_is)
    (case l_l_common_6be5 => k_is)
    (case e_l_common_6be5 => k_is)
    (case k_l_common_6be5 => k_is)
    (case a_l_steps_3e4d => k_is)
    (case l_l_steps_3e4d => k_is)
    (case e_l_steps_3e4d => k_is)
    (case k_l_steps_3e4d => k_is)
    (case a_l_made_4c69 => k_is)
    (case l_l_made_4c69 => k_is)
    (case e_l_made_4c69 => k_is)
    (case k_l_made_4c69 => k_is)
    (case a_l_lots_1d9e => k_is)
    (case l_l_lots_1d9e => k_is)
    (case e_l_lots_1d9e => k_is)
    (case k_l_lots_1d9e => k_is)
    (case a_is_whole => k_is)
    (case l_is_whole => k_is)
    (case e_is_whole => k_is)
    (case k_is_whole => k_is)
    (case a_is_between => k_is)
    (case l_is_between => k_is)
    (case e_is_between => k_is)
    (case k_is_between => k_is)
    (case a_is_measure_by => k_is)
    (case l_is_measure_by => k_is)
    (case e_is_measure_by => k_is)
    (case k_is_measure_by => k_is)
    (case a_check_measure_x => k_is)
    (case l_check_measure_x => k_is)
    (case e_check_measure_x => k_is)
    (case k_check_measure_x => k_is)
    (case a_root_floor_by => k_is)
    (case l_root_floor_by => k_is)
    (case e_root_floor_by => k_is)
    (case k_root_floor_by => k_is)
    (case a_bounds_by => k_is)
    (case l_bounds_by => k_is)
    (case e_bounds_by => k_is)
    (case k_bounds_by => k_is)
    (case a_common_by => k_is)
    (case l_common_by => k_is)
    (case e_common_by => k_is)
    (case k_common_by => k_is)
    (case a_is_step_by => k_is)
    (case l_is_step_by => k_is)
    (case e_is_step_by => k_is)
    (case k_is_step_by => k_is)
    (case a_lots_by => k_is)
    (case l_lots_by => k_is)
    (case e_lots_by => k_is)
    (case k_lots_by => k_is)
    (case a_heart_by => k_is)
    (case l_heart_by => k_is)
    (case e_heart_by => k_is)
    (case k_heart_by => k_is)
    (case a_heart_lots_o_x => k_is)
    (case l_heart_lots_o_x => k_is)
    (case e_heart_lots_o_x => k_is)
    (case k_heart_lots_o_x => k_is)
    (case a_l_one_right_1c8f => k_is)
    (case l_l_one_right_1c8f => k_is)
    (case e_l_one_right_1c8f => k_is)
    (case k_l_one_right_1c8f => k_is)
    (case a_l_measure_0db7 => k_is)
    (case l_l_measure_0db7 => k_is)
    (case e_l_measure_0db7 => k_is)
    (case k_l_measure_0db7 => k_is)
    (case a_l_many_e760 => k_is)
    (case l_l_many_e760 => k_is)
    (case e_l_many_e760 => k_is)
    (case k_l_many_e760 => k_is)
    (case a_l_law_1f95 => k_is)
    (case l_l_law_1f95 => k_is)
    (case e_l_law_1f95 => k_is)
    (case k_l_law_1f95 => k_is)
