import PyProof.Rows.All
import Wide.All
import OpenK.AllK
import Wide.FinOn
import HandS.ForMost
import HandS.Exc
import HandS.ExcInit
import HandS.ExcField
import HandS.ExcIs
import KE.KExcSuper
import KE.KSuper
import HandS.ExcValue
import HandS.Wide
import HandS.Flow
import HandS.Style
import HandS.Deep
import HandS.TupAny
import HandS.NoneIn
import HandS.IsInst
import HandS.WideBits
import HandS.Gcd
import HandS.Conv
import HandS.Zip
import HandS.SortRule
import HandS.SortInts
import KE.KSortTupAny
import HandS.TupSets
import KE.KSetDisp
import HandS.SetIn
import KE.KExcIs
import HandS.Iter
import KE.DataFind
import PyProof.ReprRoads
import PyProof.NeKinds
import PyProof.FactsAll.dict_2
import PyProof.FactsAll.subtypes_1
import HandS.Star
import KE.GoesEnumKw
import PyProof.TwoTypesSub
import PyProof.FactsAll.bool_3
import PyProof.FactsAll.int_5
import HandS.WordsDict
import HandS.TupLen
import HandS.More
import PyProof.StrOps2
import KE.RegKSuper
import PySem.Challenge.RW_slitsheets_k65_errors_by_their_classes
set_option Elab.async false
set_option linter.all false
set_option maxRecDepth 100000
set_option maxHeartbeats 4000000
/-! XA: the package's own errors: their classes, and how one is made -/
namespace XA
open PySem PySem.W PySem.Calls PyProof.Rows PySem.HandSPX
/-- the __init__ that stands in a class -/
def initOf : Stmt → Stmt
  | .ClassDef _ _ _ (f :: _) _ _ _ _ _ _ _ => f
  | s => s
/-- the text of __init__(self, value=None): super().__init__(); self.value = value -/
structure InitTxt (A : Arguments) (B : List Stmt) (S : Scope) : Prop where
  ar : ∃ p1 p2 c, A = { posonlyargs := [], args := [{ arg := "self", annotation := none, pos := p1 }, { arg := "value", annotation := none, pos := p2 }], vararg := none, kwonlyargs := [], kw_defaults := [], kwarg := none, defaults := [c] }
  bd : ∃ p0 p1 p2 p3 p4 q1 q2 q3 q4, B = [.Expr (.Call (.Attribute (.Call (.Name "super" p0) [] [] p1) "__init__" p2) [] [] p3) p4, .Assign [.Attribute (.Name "self" q1) "value" q2] (.Name "value" q3) q4] ∧
    (∃ pl : Sem Bool, ∀ env : Env, eval (.Call (.Attribute (.Call (.Name "super" p0) [] [] p1) "__init__" p2) [] [] p3) env = (do
      let ov ← attributeBase (.Call (.Name "super" p0) [] [] p1) "__init__" env (eval (.Call (.Name "super" p0) [] [] p1) env)
      standAt p2.atName
      let (f, first) ← holding [ov] (getMethod ov "__init__" pl)
      callWith p3 f first (backTo p3 (starEach [] env)) [])) ∧
    ∀ env : Env, swapsWith (.Call (.Attribute (.Call (.Name "super" p0) [] [] p1) "__init__" p2) [] [] p3) none p4.line env = pure false
  sc : S = { kind := .function, names := [(PySem.Str.ofString "self", .local), (PySem.Str.ofString "value", .local), (PySem.Str.ofString "__class__", .free), (PySem.Str.ofString "super", .globalImplicit)], isGenerator := false, isCoroutine := false, more := [] }
def sheetTail : List Value := [.type "ValueError", .type "Exception", .type "BaseException", .type "object"]
def errTail (S : Addr) : List Value := .ref S :: sheetTail
/-- the common class of the errors stands at S -/
structure ShC (K : Frag) (S : Addr) : Prop where
  ns : nsIn K mainGlobals "SheetError" = some (some (.ref S))
  cls : ∃ q N bs sn sub ab col dd k0 k1 k2 k3 k5, K.lookup S = some (excClassObj "SheetError" q S N bs sheetTail true sn sub ab col dd k0 k1 k2 k3 k5 "ValueError.__new__")
/-- the error class x stands at C -/
structure ErC (K : Frag) (x : Str) (C S : Addr) : Prop where
  ns : nsIn K mainGlobals x = some (some (.ref C))
  sh : ShC K S
  ne : x ≠ "SheetError"
  cls : ∃ q N bs sn sub ab col dd k0 k1 k2 k3 k5, K.lookup C = some (excClassObj x q C N bs (errTail S) true sn sub ab col dd k0 k1 k2 k3 k5 "ValueError.__new__")
  sa : findIn K (.ref C) "__setattr__" = some (some (.builtin "object.__setattr__"))
  ga : findIn K (.ref C) "__getattribute__" = some (some (.builtin "BaseException.__getattribute__"))
  gg : findIn K (.ref C) "__getattr__" = some none
  nv : findIn K (.ref C) "value" = some none
  kp : keepIn K (.ref C) = true
  hc : findIn K (.ref C) "__class__" = some (some (.builtin "object.__class__"))
  gs : specialIn K (.builtin "object.__class__") "__get__" = some (some (.builtin "getset_descriptor.__get__"))
  tk : takesIn K (.builtin "object.__class__") = some true
/-- .. and may be raised: its __init__ -/
structure ErM (P : Program) (K : Frag) (mg : Str → Option Value) (x : Str) (C S fI : Addr) : Prop where
  er : ErC K x C S
  gC : mg x = some (.ref C)
  iC : findIn K (.ref C) "__init__" = some (some (.ref fI))
  sup : alongIn K "__init__" (errTail S) = some (some (.builtin "ValueError.__init__"))
  any : nsIn K cStatics "thirdparty.any" = some none
  msup : mg "super" = none
  fn : ∃ (oc : Value) (od : Option Addr) (A : Arguments) (B : List Stmt) (Sc : Scope) (q : Str) (dV kV doc pm : Value) (an : Option Addr) (cda cc : Addr) (ct : Value) (osl : Array (Option Value)), InitTxt A B Sc ∧ oc = .type "function" ∧
    K.lookup fI = some ⟨oc, od, .func (fnX "__init__" q A B Sc [("__class__", cc)] dV kV doc pm an (.ref cda) ct), osl⟩ ∧ codeIn K (.ref cda) q = true ∧
    (∃ c d sl, K.lookup cc = some ⟨c, d, .cell (some (.ref C)), sl⟩) ∧ (∃ td c d n sl, dV = .ref td ∧ K.lookup td = some ⟨c, d, .seq #[.none] n, sl⟩) ∧ (∃ c d vs sl file tf, K.lookup cda = some ⟨c, d, .fields vs, sl⟩ ∧ vs[2]? = some (.str file tf) ∧ ((P.main.file : Str) == file) = true)
  top : (P.main.scope.names.lookup ("super" : Str)).isSome = false
theorem refs_err (S : Addr) : refsVE (errTail S) = true := by show refsVE sheetTail = true; decide
section
variable {K : Frag} {x y : Str} {C D S S' : Addr}
theorem ErC.clsIn (T : ErC K x C S) : ∃ cd, PySem.W.clsIn K C = some cd ∧ cd.mro = .ref C :: errTail S ∧ cd.hasDict = true ∧ cd.name = x := by
  obtain ⟨q, N, bs, sn, sub, ab, col, dd, k0, k1, k2, k3, k5, h⟩ := T.cls
  exact ⟨_, by unfold PySem.W.clsIn; rw [h], rfl, rfl, rfl⟩
theorem ShC.clsIn (T : ShC K S) : ∃ cd, PySem.W.clsIn K S = some cd ∧ cd.mro = .ref S :: sheetTail ∧ cd.name = "SheetError" := by
  obtain ⟨q, N, bs, sn, sub, ab, col, dd, k0, k1, k2, k3, k5, h⟩ := T.cls
  exact ⟨_, by unfold PySem.W.clsIn; rw [h], rfl, rfl⟩
theorem ErC.ty (T : ErC K x C S) : typeIn K (.ref C) = some (.type "type") := by
  obtain ⟨q, N, bs, sn, sub, ab, col, dd, k0, k1, k2, k3, k5, h⟩ := T.cls
  show (K.lookup C).map (·.cls) = _
  rw [h]; rfl
theorem ShC.ty (T : ShC K S) : typeIn K (.ref S) = some (.type "type") := by
  obtain ⟨q, N, bs, sn, sub, ab, col, dd, k0, k1, k2, k3, k5, h⟩ := T.cls
  show (K.lookup S).map (·.cls) = _
  rw [h]; rfl
theorem ErC.sub (T : ErC K x C S) (b : Value) : subIn K (.ref C) b = some ((Value.ref C :: errTail S).contains b) := by
  obtain ⟨cd, h, hm, _⟩ := T.clsIn
  show mroIn K C b = _
  unfold mroIn
  rw [h, Option.bind_some, hm]; rfl
theorem ShC.sub (T : ShC K S) (b : Value) : subIn K (.ref S) b = some ((Value.ref S :: sheetTail).contains b) := by
  obtain ⟨cd, h, hm, _⟩ := T.clsIn
  show mroIn K S b = _
  unfold mroIn
  rw [h, Option.bind_some, hm]; rfl
theorem ErC.subT (T : ErC K x C S) (n : String) (h : sheetTail.contains (.type n) = true) : subIn K (.ref C) (.type n) = some true := by
  rw [T.sub]; show some (Value.type n == Value.ref C || (Value.type n == Value.ref S || sheetTail.contains (.type n))) = _
  rw [h, Bool.or_true, Bool.or_true]
theorem ErC.uniq (T : ErC K x C S) (T' : ErC K x D S') : C = D := by
  have := T.ns.symm.trans T'.ns
  exact Value.ref.inj (Option.some.inj (Option.some.inj this))
theorem ShC.uniq (T : ShC K S) (T' : ShC K S') : S = S' := by
  have := T.ns.symm.trans T'.ns
  exact Value.ref.inj (Option.some.inj (Option.some.inj this))
theorem ErC.apart (T : ErC K x C S) (T' : ErC K y D S') (h : x ≠ y) : C ≠ D := fun e => by
  obtain ⟨cd, h1, _, _, h2⟩ := T.clsIn
  obtain ⟨cd', h1', _, _, h2'⟩ := T'.clsIn
  rw [e, h1'] at h1
  cases h1
  exact h (h2.symm.trans h2')
theorem ErC.notS (T : ErC K x C S) : C ≠ S := fun e => by
  obtain ⟨cd, h1, _, _, h2⟩ := T.clsIn
  obtain ⟨cd', h1', _, h2'⟩ := T.sh.clsIn
  rw [e, h1'] at h1
  cases h1
  exact T.ne (h2.symm.trans h2')
/-- is an error of the class x one of the class y -/
def under (x y : Str) : Bool := x == y || y == "SheetError"
theorem ErC.subE (T : ErC K x C S) (T' : ErC K y D S') : subIn K (.ref C) (.ref D) = some (under x y) := by
  have eS := T.sh.uniq T'.sh
  subst eS
  rw [T.sub]
  show some (Value.ref D == Value.ref C || (Value.ref D == Value.ref S || sheetTail.contains (.ref D))) = _
  have h3 : sheetTail.contains (Value.ref D) = false := by simp [sheetTail]
  have h2 : (Value.ref D == Value.ref S) = false := by simp [T'.notS]
  have hy : (y == ("SheetError" : Str)) = false := by simp [T'.ne]
  unfold under
  rw [h3, h2, hy, Bool.or_false, Bool.or_false, Bool.or_false]
  by_cases h : x = y
  · subst h
    have := T.uniq T'
    subst this
    simp
  · have := T.apart T' h
    rw [beq_eq_false_iff_ne.mpr h, beq_eq_false_iff_ne.mpr fun z => this (Value.ref.inj z).symm]
theorem ErC.subS (T : ErC K x C S) (T' : ShC K S') : subIn K (.ref C) (.ref S') = some true := by
  have eS := T.sh.uniq T'
  subst eS
  rw [T.sub]
  show some (Value.ref S == Value.ref C || (Value.ref S == Value.ref S || sheetTail.contains (.ref S))) = _
  simp
/-- a class of errors, with its name: one of them, or their common one -/
def AnyC (K : Frag) (y : Str) (D : Addr) : Prop := (∃ S, ErC K y D S) ∨ (y = "SheetError" ∧ ShC K D)
theorem ErC.subA (T : ErC K x C S) (A : AnyC K y D) : subIn K (.ref C) (.ref D) = some (under x y) := by
  rcases A with ⟨S', T'⟩ | ⟨rfl, T'⟩
  · exact T.subE T'
  · rw [T.subS T']; simp [under]
theorem AnyC.ns (A : AnyC K y D) : nsIn K mainGlobals y = some (some (.ref D)) := by
  rcases A with ⟨S', T'⟩ | ⟨rfl, T'⟩
  · exact T'.ns
  · exact T'.ns
theorem AnyC.ty (A : AnyC K y D) : typeIn K (.ref D) = some (.type "type") := by
  rcases A with ⟨S', T'⟩ | ⟨rfl, T'⟩
  · exact T'.ty
  · exact T'.ty
theorem AnyC.isC (A : AnyC K y D) : (PySem.W.clsIn K D).isSome = true := by
  rcases A with ⟨S', T'⟩ | ⟨rfl, T'⟩
  · obtain ⟨cd, h, _⟩ := T'.clsIn; rw [h]; rfl
  · obtain ⟨cd, h, _⟩ := T'.clsIn; rw [h]; rfl
theorem AnyC.base (A : AnyC K y D) : subIn K (.ref D) (.type "BaseException") = some true := by
  rcases A with ⟨S', T'⟩ | ⟨rfl, T'⟩
  · exact T'.subT "BaseException" (by decide)
  · rw [T'.sub]; show some (Value.type "BaseException" == Value.ref D || sheetTail.contains (.type "BaseException")) = _
    rw [show sheetTail.contains (.type "BaseException") = true by decide, Bool.or_true]
theorem ErC.kit (T : ErC K x C S) (A : AnyC K y D) : kitOne K (.ref C) (.ref D) = some (under x y) := by
  unfold kitOne
  split
  · rename_i h
    have : C = D := Value.ref.inj (beq_iff_eq.mp h)
    subst this
    rcases A with ⟨S', T'⟩ | ⟨rfl, T'⟩
    · have : x = y := Classical.byContradiction fun n => T.apart T' n rfl
      rw [this]; simp [under]
    · simp [under]
  · unfold kitCls
    dsimp only
    rw [if_pos (by rw [A.isC, A.ty]; rfl)]
    exact T.subA A
theorem ErC.kitV (T : ErC K x C S) : kitOne K (.ref C) (.type "ValueError") = some true := by
  unfold kitOne
  rw [if_neg (by simp)]
  unfold kitCls
  dsimp only
  rw [if_pos (by decide +kernel)]
  exact T.subT _ (by decide)
theorem ErC.excC (T : ErC K x C S) : L2.ExcC K C := ⟨T.ga, T.gg, T.subT _ (by decide), by obtain ⟨cd, h, _, hd, _⟩ := T.clsIn; unfold hasDictIn; rw [h]; exact hd, T.hc, T.gs, T.tk, by
  have := T.subT "object" (by decide)
  exact this⟩
theorem ErC.xfC (T : ErC K x C S) : L2.XfC K C := ⟨T.ga, T.gg, T.subT _ (by decide), T.excC.hd⟩
end
/-! ### an error is made -/
/-- what __init__ leaves of a fresh error at x -/
structure InitEnd (h h' : Heap) (x C dx t1 : Addr) (v : Value) : Prop where
  keep : ∀ b o, b ≠ x → h.get? b = some o → h'.get? b = some o
  obj : h'.get? x = some (excO C t1 |> fun o => { o with dict := some dx })
  dbig : h.objs.size ≤ dx
  dne : dx ≠ x
  ns : h'.Ns1 dx (fun y => if y = "value" then some v else none)
/-- a made error -/
structure Made (h h' : Heap) (e C d : Addr) (v : Value) : Prop where
  keep : ∀ b o, h.get? b = some o → h'.get? b = some o
  new : h.objs.size ≤ e
  obj : ∃ oe vs, h'.get? e = some oe ∧ oe.cls = .ref C ∧ oe.dict = some d ∧ oe.data = .fields vs ∧ vs[1]? = some .none
  dbig : h.objs.size ≤ d
  dne : d ≠ e
  ns : h'.Ns1 d (fun y => if y = "value" then some v else none)
section
variable {prog : Program} {w : World} {A : Around} {E : Value → Shared → Prop} {K : Frag} {mg mb : Str → Option Value} {C S fI : Addr} {x : Str}
theorem init_walk (T : ErM prog K mg x C S fI) {R : Result → Shared → Prop} {s : Shared} {e t0 : Addr} {v : Value} (X : K.In s.heap) (hlim : s.heap.NoLimit) (hg : s.heap.Ns mainGlobals mg) (hb : s.heap.Ns builtinsNs mb) (hbb : ∀ y : Str, y ≠ "__name__" → mb y = bootBuiltins y)
    (hx : s.heap.get? e = some (excO C t0)) (hnx : K.lookup e = none) (hroom : A.depth < recursionLimit)
    (hq : ∀ h' tk dx t1, InitEnd s.heap h' e C dx t1 v → R (.ok (.ret .none)) { s with heap := h', toks := tk }) :
    codeAny (model prog w) A (.call (.ref fI) ⟨[.ref e, v], []⟩) R s := by
  obtain ⟨oc, od, Ar, Bd, Sc, q, dV, kV, doc, pm, an, cda, cc, ct, osl, IT, hoc, ho, hcd, ⟨cl, cld, csl, hcell⟩, ⟨td, tc, tdd, tn, tsl, rfl, htd⟩, ⟨c1, d1, vs1, sl1, file, tf, hcode, hvs, hfile⟩⟩ := T.fn
  obtain ⟨⟨p1, p2, dd0, rfl⟩, ⟨b0, b1, b2, b3, b4, b5, b6, b7, b8, rfl, ⟨pl, hev⟩, hsw⟩, rfl⟩ := IT
  have hcl := T.er.clsIn
  obtain ⟨cd, hcd1, hmro, hhd, _⟩ := hcl
  have hb5 : ∀ x ∈ ([(PySem.Str.ofString "self", NameKind.local), (PySem.Str.ofString "value", .local), (PySem.Str.ofString "__class__", .free), (PySem.Str.ofString "super", .globalImplicit)] : List (Str × NameKind)), x.2 ≠ .cell := by decide
  refine ks_codeAny_call_defAt (binds := [("self", .ref e), ("value", v)]) hroom (X _ _ ho) rfl hlim (codeRec_of X hcd) rfl (BindsTo.of_defaults (T := td) rfl (X _ _ htd) rfl (by first | rfl | with_unfolding_all rfl) (by first | rfl | with_unfolding_all rfl)) hb5 (locs rfl) (fun h₁ hn k => ?_)
  have X₁ : K.In h₁ := X.keeps k
  have hx₁ := k _ _ hx
  have hxL : s.heap.objs.size ≠ e := Nat.ne_of_gt (Heap.lt_size hx)
  show _root_.PySem.wpAt _ (A.deeper (ksEnv q { kind := .function, names := [(PySem.Str.ofString "self", .local), (PySem.Str.ofString "value", .local), (PySem.Str.ofString "__class__", .free), (PySem.Str.ofString "super", .globalImplicit)], isGenerator := false, isCoroutine := false, more := [] } s.heap.objs.size fI (.ref cda) cc)) (.func _ (ksEnv q { kind := .function, names := [(PySem.Str.ofString "self", .local), (PySem.Str.ofString "value", .local), (PySem.Str.ofString "__class__", .free), (PySem.Str.ofString "super", .globalImplicit)], isGenerator := false, isCoroutine := false, more := [] } s.heap.objs.size fI (.ref cda) cc)) (execs _ (ksEnv q { kind := .function, names := [(PySem.Str.ofString "self", .local), (PySem.Str.ofString "value", .local), (PySem.Str.ofString "__class__", .free), (PySem.Str.ofString "super", .globalImplicit)], isGenerator := false, isCoroutine := false, more := [] } s.heap.objs.size fI (.ref cda) cc)) _ _ _
  refine ks_wpAt_execs_cons (ks_wpAt_Expr_any (ks_wpAt_MethodCall (pl := pl) ?_ (hev _)) rfl (hsw _))
  refine ks_wpAt_super_base (f := fI) (cc := cda) (by first | rfl | with_unfolding_all rfl) (by first | rfl | with_unfolding_all rfl) (by decide) rfl (X₁ _ _ ho) rfl rfl rfl (X₁ _ _ hcode) rfl hvs hfile T.top ?_
  refine ks_loadName_global rfl (by first | rfl | with_unfolding_all rfl) (loadGlobal_builtin (hg.keeps k) T.msup (hb.keeps k) ((hbb _ (by decide +kernel)).trans PyProof.Rows.Boot.«super») ⟨rfl, ?_⟩)
  refine wpAny_loadName_free rfl (by first | rfl | with_unfolding_all rfl) rfl ⟨_, X₁ _ _ hcell, rfl⟩ ?_
  refine wpAny_loadName_local rfl (by first | rfl | with_unfolding_all rfl) hn (v := .ref e) (by first | rfl | with_unfolding_all rfl | kernel_rfl) ?_
  obtain ⟨oC, hoC, hoC2⟩ : ∃ oC, h₁.get? C = some oC ∧ oC.data = .cls cd := by
    unfold PySem.W.clsIn at hcd1
    split at hcd1
    · rename_i ho'
      cases hcd1
      exact ⟨_, X₁ _ _ ho', rfl⟩
    · cases hcd1
  have hCe : e ≠ C := fun z => by
    rw [z, hoC] at hx₁
    cases hx₁
    cases hoC2
  have hsubC : mroIn K C (.ref C) = some true := by
    have := T.er.sub (.ref C)
    rw [show (Value.ref C :: errTail S).contains (.ref C) = true by simp] at this
    exact this
  refine ks_wpAny_isType_cls hoC hoC2 ⟨rfl, ?_⟩
  refine ks_wpAny_call_super hoC hoC2 hx₁ rfl (fun c z => by cases z) (looks_mroIn X₁ hsubC) (fun h2 hso k2 => ?_)
  have X₂ : K.In h2 := X₁.keeps k2
  have hx₂ := k2 _ _ hx₁
  have hI : Looks (model prog w) h2 (isInstance (.ref e) (.type "ValueError")) true := by
    have I : InstAt h2 e (excO C t0) C none := ⟨hx₂, rfl, rfl, trivial⟩
    exact I.type.andThen (looks_subIn X₂ (T.er.subT "ValueError" (by decide)))
  refine kxs_getMethod kxs_ValueError hso (looks_opaque X₂ T.any) (l₀ := cd.mro) (fun A Q E s k q => wpAny_bind ((looks_clsIn X₂ hcd1) A _ E s k (wpAny_pure q))) rfl X₂ (by rw [hmro]; simpa using T.sup) hI hCe (by decide) ?_
  refine kxs_callWith (i := "ValueError.__init__") (x := e) rfl (evalArgs_empty ⟨Heap.get?_push_at rfl rfl, ?_⟩)
  have hu : (h2.push (kxs_mw "ValueError.__init__" e)).get? h2.objs.size = some (kxs_mw "ValueError.__init__" e) := Heap.get?_push_at rfl rfl
  have k3 : ∀ b o, h2.get? b = some o → (h2.push (kxs_mw "ValueError.__init__" e)).get? b = some o := fun b o z => Heap.get?_push_of_some _ z
  obtain ⟨qn, N, bs, sn, sub, ab, col, dd, m0, m1, m2, m3, m5, hCl⟩ := T.er.cls
  refine wpAny_call (codeAny_of_tree ?_)
  show wpAny _ _ (callAny (.ref h2.objs.size) ⟨[], []⟩) _ _ _
  simp only [callAny]
  refine wpAny_bind (wpAny_load hu ?_)
  refine KFB.if_so (by simp only [kxs_mw]; decide) ?_
  simp only [kxs_mw]
  refine wpAny_bind (check_bound_init F.excBase_ValueError.toExcCallFacts (k3 _ _ (X₂ _ _ hCl)) (k3 _ _ hx₂) rfl ?_)
  refine wpAny_bind (wpAny_pure (wpAny_pure ?_))
  refine ⟨plainId_quiet F.excBase_ValueError.init.plain _, codeAny_builtin F.excBase_ValueError.initEntry ?_⟩
  refine exc_init_tree (cls := .ref C) (t0 := t0) (dv := none) (c2 := .none) (c3 := .none) (b4 := .bool false) (k3 _ _ hx₂) (by rw [sizeLine_eq]; decide) (fun h4 k4 hx4 htup => ?_)
  show _root_.PySem.wpAt _ _ _ (execs _ _) _ _ _
  have kk : ∀ b o, b ≠ e → s.heap.get? b = some o → h4.get? b = some o := fun b o hb z => k4 b o hb (k3 _ _ (k2 _ _ (k _ _ z)))
  have X4 : K.In h4 := fun a o z => kk a o (fun y => by rw [y, hnx] at z; cases z) (X a o z)
  have hn4 : h4.Ns s.heap.objs.size (fun y => ([("self", Value.ref e), ("value", v)] : List (Str × Value)).reverse.lookup y) := by
    obtain ⟨oL, es, ep, z, r⟩ := hn
    exact ⟨oL, es, ep, k4 _ _ hxL (k3 _ _ (k2 _ _ z)), r⟩
  have hz4 : s.heap.objs.size ≤ h4.objs.size := Nat.le_of_lt hn4.lt
  refine wpAt_of_wpAny (wpAny_execs_cons (plainObj_wpAny_Assign_Attribute ?_))
  refine wpAny_Name (wpAny_loadName_local rfl (by first | rfl | with_unfolding_all rfl) hn4 (v := v) rfl ?_) (by decide)
  refine wpAny_Name (wpAny_loadName_local rfl (by first | rfl | with_unfolding_all rfl) hn4 (v := .ref e) rfl ?_) (by decide)
  refine set_plain X4 (od := none) ⟨hx4, rfl, rfl, trivial⟩ T.er.sa ?_
  refine exc_osa X4 hx4 hcd1 (by rw [hmro]; exact refs_err S) hhd T.er.nv (fun h5 tk5 dx k5 dn dne hx5 hn5 => ?_)
  refine wpAny_execs_nil ?_
  exact hq h5 tk5 dx _ ⟨fun b o hb z => k5 b o hb (kk b o hb z), hx5, Nat.le_trans hz4 dn, dne, hn5⟩
end
end XA
/-! XB: errors over the hand layer: one is made and raised; a try whose error stays known behind it -/
namespace XA
open PySem PySem.W PySem.Calls PyProof.Rows PySem.HandSPX
section
variable {prog : Program} {w : World} {A : Around} {E : Value → Shared → Prop} {K : Frag} {mg mb : Str → Option Value} {C S fI : Addr} {x : Str}
theorem err_made (T : ErM prog K mg x C S fI) {R : Result → Shared → Prop} {s : Shared} {v : Value} (tI : typeIn K (.ref fI) = some (.type "function")) (X : K.In s.heap) (hlim : s.heap.NoLimit) (hg : s.heap.Ns mainGlobals mg) (hb : s.heap.Ns builtinsNs mb) (hbb : ∀ y : Str, y ≠ "__name__" → mb y = bootBuiltins y)
    (hroom : A.depth + 1 < recursionLimit) (hq : ∀ h' tk e d, Made s.heap h' e C d v → R (.ok (.ret (.ref e))) { s with heap := h', toks := tk }) :
    codeAny (model prog w) A (.call (.ref C) ⟨[v], []⟩) R s := by
  obtain ⟨qn, N, bs, sn, sub, ab, col, dd, m0, m1, m2, m3, m5, hCl⟩ := T.er.cls
  obtain ⟨hp, g, dr, tk, os⟩ := s
  have hz1 : [v].length ≤ sizeLine := by rw [sizeLine_eq]; exact (by decide : 1 ≤ 16777216)
  have k : ∀ b o, hp.get? b = some o → ((hp.push (kdv_tup [v])).push (excO C hp.objs.size)).get? b = some o := fun b o z => Heap.get?_push_of_some _ (Heap.get?_push_of_some _ z)
  have hget : ((hp.push (kdv_tup [v])).push (excO C hp.objs.size)).get? (hp.objs.size + 1) = some (excO C hp.objs.size) := by heap_get
  have hnx : K.lookup (hp.objs.size + 1) = none := by
    cases z : K.lookup (hp.objs.size + 1) with
    | none => rfl
    | some o =>
      have y : hp.get? (hp.objs.size + 1) = some o := X _ _ z
      exact absurd (Nat.lt_of_succ_lt (Heap.lt_size y)) (Nat.lt_irrefl _)
  refine call_own F.excBase_ValueError (fun Y => refsVE_contains Y (errTail S) (refs_err S)) (X _ _ hCl) (looks_findIn X T.iC) (fun self => bind_fn X self tI) hz1 ?_
  refine init_walk (s := ⟨(hp.push (kdv_tup [v])).push (excO C hp.objs.size), g, dr, tk, os⟩) T (X.keeps k) (hlim.keeps k) (hg.keeps k) (hb.keeps k) hbb hget hnx hroom fun h' tk' dx t1 ⟨k', hx, dn, dne, hns⟩ => ?_
  have old : ∀ b o, hp.get? b = some o → h'.get? b = some o := fun b o z => k' b o (Nat.ne_of_lt (Nat.lt_succ_of_lt (Heap.lt_size z))) (k b o z)
  have z : hp.objs.size + 1 + 1 ≤ dx := by
    have q := dn
    rw [Heap.size_push, Heap.size_push] at q
    exact q
  exact ⟨rfl, hq h' tk' (hp.objs.size + 1) dx ⟨old, Nat.le_succ _, ⟨_, _, hx, rfl, rfl, rfl, rfl⟩, Nat.le_trans (Nat.le_trans (Nat.le_succ _) (Nat.le_succ _)) z, dne, hns⟩⟩
end
theorem fnTy {P : Program} {K : Frag} {mg : Str → Option Value} {x : Str} {C S fI : Addr} (T : ErM P K mg x C S fI) : typeIn K (.ref fI) = some (.type "function") := by
  obtain ⟨oc, od, Ar, Bd, Sc, q, dV, kV, doc, pm, an, cda, cc, ct, osl, IT, hoc, ho, _⟩ := T.fn
  show (K.lookup fI).map (·.cls) = _
  rw [ho, hoc]; rfl
end XA
namespace L2
open PySem PySem.Spec PyProof.Rows XA
theorem relO_one {f0 : Str} {v : V} {u : Value} (r : RelV v u) (f : Str) : RelO (List.lookup f [(f0, v)]) (if f = f0 then some u else none) := by
  by_cases hw : f = f0
  · subst hw
    rw [if_pos rfl, show List.lookup f [(f, v)] = some v by simp [List.lookup]]
    exact r
  · rw [if_neg hw, show List.lookup f [(f0, v)] = none by simp [List.lookup, beq_eq_false_iff_ne.mpr hw]]
    trivial
/-! ### try: the error is tracked from the suite on -/
/-- at a: an error of the class at C with its own dict at dd -/
def ErAt (a C dd : Addr) (h : Heap) : Prop := ∃ vs sl, h.get? a = some { cls := .ref C, dict := some dd, data := .fields vs, slots := sl }
def erO (a C dd : Addr) : HO := .ext (ErAt a C dd)
end L2
namespace XA
open PySem PySem.W PySem.Calls PyProof.Rows PySem.HandSPX
/-- the common class -/
theorem shC_mk {K : Frag} {S N : Addr} {q : Str} {bs : List Value} {sn : List Str} {sub : List Value} {ab : Bool} {col : Option Bool} {dd : Option Addr} {k0 k1 k2 k3 k5 : Option Value} (ns : nsIn K mainGlobals "SheetError" = some (some (.ref S)))
    (lk : K.lookup S = some (excClassObj "SheetError" q S N bs [.type "ValueError", .type "Exception", .type "BaseException", .type "object"] true sn sub ab col dd k0 k1 k2 k3 k5 "ValueError.__new__")) : ShC K S :=
  ⟨ns, ⟨q, N, bs, sn, sub, ab, col, dd, k0, k1, k2, k3, k5, lk⟩⟩
/-- an error's class, from what the top has left -/
theorem erM_mk {P : Program} {K : Frag} {h : Heap} {mg : Str → Option Value} {x : Str} {C S fI N cda cc td : Addr} {q qf : Str} {bs : List Value} {sn : List Str} {sub : List Value} {ab : Bool} {col : Option Bool} {dd : Option Addr} {k0 k1 k2 k3 k5 : Option Value}
    {A : Arguments} {B : List Stmt} {Sc : Scope} {od an : Option Addr} {kV doc pm ct : Value} {osl : Array (Option Value)} {c1 c2 c3 : Value} {d1 d2 d3 : Option Addr} {sl1 sl2 sl3 : Array (Option Value)} {n : Nat} {vs : Array Value} {file : Str} {tf : Tok}
    (X : K.In h) (G : h.Ns mainGlobals mg) (sh : ShC K S) (it : InitTxt A B Sc) (ne : x ≠ "SheetError")
    (ns : nsIn K mainGlobals x = some (some (.ref C)))
    (lk : K.lookup C = some (excClassObj x q C N bs [.ref S, .type "ValueError", .type "Exception", .type "BaseException", .type "object"] true sn sub ab col dd k0 k1 k2 k3 k5 "ValueError.__new__"))
    (sa : findIn K (.ref C) "__setattr__" = some (some (.builtin "object.__setattr__"))) (ga : findIn K (.ref C) "__getattribute__" = some (some (.builtin "BaseException.__getattribute__"))) (gg : findIn K (.ref C) "__getattr__" = some none)
    (nv : findIn K (.ref C) "value" = some none) (kp : keepIn K (.ref C) = true) (hc : findIn K (.ref C) "__class__" = some (some (.builtin "object.__class__")))
    (gs : specialIn K (.builtin "object.__class__") "__get__" = some (some (.builtin "getset_descriptor.__get__"))) (tk : takesIn K (.builtin "object.__class__") = some true)
    (iC : findIn K (.ref C) "__init__" = some (some (.ref fI))) (sup : alongIn K "__init__" [.ref S, .type "ValueError", .type "Exception", .type "BaseException", .type "object"] = some (some (.builtin "ValueError.__init__")))
    (any : nsIn K cStatics "thirdparty.any" = some none) (msup : nsIn K mainGlobals "super" = some none)
    (lf : K.lookup fI = some ⟨.type "function", od, .func (fnX "__init__" qf A B Sc [("__class__", cc)] (.ref td) kV doc pm an (.ref cda) ct), osl⟩) (cd : codeIn K (.ref cda) qf = true)
    (lc : K.lookup cc = some ⟨c1, d1, .cell (some (.ref C)), sl1⟩) (lt : K.lookup td = some ⟨c2, d2, .seq #[.none] n, sl2⟩) (lv : K.lookup cda = some ⟨c3, d3, .fields vs, sl3⟩) (hv : vs[2]? = some (.str file tf)) (hf : ((P.main.file : Str) == file) = true)
    (top : (P.main.scope.names.lookup ("super" : Str)).isSome = false) : ∃ C S fI, ErM P K mg x C S fI :=
  ⟨C, S, fI, ⟨⟨ns, sh, ne, ⟨q, N, bs, sn, sub, ab, col, dd, k0, k1, k2, k3, k5, lk⟩, sa, ga, gg, nv, kp, hc, gs, tk⟩, mg_of X G ns, iC, sup, any, mg_none_of X G msup,
    ⟨_, od, A, B, Sc, qf, _, kV, doc, pm, an, cda, cc, ct, osl, it, rfl, lf, cd, ⟨c1, d1, sl1, lc⟩, ⟨td, c2, d2, n, sl2, rfl, lt⟩, ⟨c3, d3, vs, sl3, file, tf, lv, hv, hf⟩⟩, top⟩⟩
end XA
/-! XG: errors as values: made with one value, none, a named one; the common class's own -/
namespace XA
open PySem PySem.W PySem.Calls PyProof.Rows PySem.HandSPX
section
variable {prog : Program} {w : World} {A : Around} {E : Value → Shared → Prop} {K : Frag} {mg mb : Str → Option Value} {C S fI : Addr} {x : Str}
theorem init_walk0 (T : ErM prog K mg x C S fI) {R : Result → Shared → Prop} {s : Shared} {e t0 : Addr} (X : K.In s.heap) (hlim : s.heap.NoLimit) (hg : s.heap.Ns mainGlobals mg) (hb : s.heap.Ns builtinsNs mb) (hbb : ∀ y : Str, y ≠ "__name__" → mb y = bootBuiltins y)
    (hx : s.heap.get? e = some (excO C t0)) (hnx : K.lookup e = none) (hroom : A.depth < recursionLimit)
    (hq : ∀ h' tk dx t1, InitEnd s.heap h' e C dx t1 .none → R (.ok (.ret .none)) { s with heap := h', toks := tk }) :
    codeAny (model prog w) A (.call (.ref fI) ⟨[.ref e], []⟩) R s := by
  obtain ⟨oc, od, Ar, Bd, Sc, q, dV, kV, doc, pm, an, cda, cc, ct, osl, IT, hoc, ho, hcd, ⟨cl, cld, csl, hcell⟩, ⟨td, tc, tdd, tn, tsl, rfl, htd⟩, ⟨c1, d1, vs1, sl1, file, tf, hcode, hvs, hfile⟩⟩ := T.fn
  obtain ⟨⟨p1, p2, dd0, rfl⟩, ⟨b0, b1, b2, b3, b4, b5, b6, b7, b8, rfl, ⟨pl, hev⟩, hsw⟩, rfl⟩ := IT
  have hcl := T.er.clsIn
  obtain ⟨cd, hcd1, hmro, hhd, _⟩ := hcl
  have hb5 : ∀ x ∈ ([(PySem.Str.ofString "self", NameKind.local), (PySem.Str.ofString "value", .local), (PySem.Str.ofString "__class__", .free), (PySem.Str.ofString "super", .globalImplicit)] : List (Str × NameKind)), x.2 ≠ .cell := by decide
  refine ks_codeAny_call_defAt (binds := [("self", .ref e), ("value", Value.none)]) hroom (X _ _ ho) rfl hlim (codeRec_of X hcd) rfl (BindsTo.of_defaults (T := td) rfl (X _ _ htd) rfl (by first | rfl | with_unfolding_all rfl) (by first | rfl | with_unfolding_all rfl)) hb5 (locs rfl) (fun h₁ hn k => ?_)
  have X₁ : K.In h₁ := X.keeps k
  have hx₁ := k _ _ hx
  have hxL : s.heap.objs.size ≠ e := Nat.ne_of_gt (Heap.lt_size hx)
  show _root_.PySem.wpAt _ (A.deeper (ksEnv q { kind := .function, names := [(PySem.Str.ofString "self", .local), (PySem.Str.ofString "value", .local), (PySem.Str.ofString "__class__", .free), (PySem.Str.ofString "super", .globalImplicit)], isGenerator := false, isCoroutine := false, more := [] } s.heap.objs.size fI (.ref cda) cc)) (.func _ (ksEnv q { kind := .function, names := [(PySem.Str.ofString "self", .local), (PySem.Str.ofString "value", .local), (PySem.Str.ofString "__class__", .free), (PySem.Str.ofString "super", .globalImplicit)], isGenerator := false, isCoroutine := false, more := [] } s.heap.objs.size fI (.ref cda) cc)) (execs _ (ksEnv q { kind := .function, names := [(PySem.Str.ofString "self", .local), (PySem.Str.ofString "value", .local), (PySem.Str.ofString "__class__", .free), (PySem.Str.ofString "super", .globalImplicit)], isGenerator := false, isCoroutine := false, more := [] } s.heap.objs.size fI (.ref cda) cc)) _ _ _
  refine ks_wpAt_execs_cons (ks_wpAt_Expr_any (ks_wpAt_MethodCall (pl := pl) ?_ (hev _)) rfl (hsw _))
  refine ks_wpAt_super_base (f := fI) (cc := cda) (by first | rfl | with_unfolding_all rfl) (by first | rfl | with_unfolding_all rfl) (by decide) rfl (X₁ _ _ ho) rfl rfl rfl (X₁ _ _ hcode) rfl hvs hfile T.top ?_
  refine ks_loadName_global rfl (by first | rfl | with_unfolding_all rfl) (loadGlobal_builtin (hg.keeps k) T.msup (hb.keeps k) ((hbb _ (by decide +kernel)).trans PyProof.Rows.Boot.«super») ⟨rfl, ?_⟩)
  refine wpAny_loadName_free rfl (by first | rfl | with_unfolding_all rfl) rfl ⟨_, X₁ _ _ hcell, rfl⟩ ?_
  refine wpAny_loadName_local rfl (by first | rfl | with_unfolding_all rfl) hn (v := .ref e) (by first | rfl | with_unfolding_all rfl | kernel_rfl) ?_
  obtain ⟨oC, hoC, hoC2⟩ : ∃ oC, h₁.get? C = some oC ∧ oC.data = .cls cd := by
    unfold PySem.W.clsIn at hcd1
    split at hcd1
    · rename_i ho'
      cases hcd1
      exact ⟨_, X₁ _ _ ho', rfl⟩
    · cases hcd1
  have hCe : e ≠ C := fun z => by
    rw [z, hoC] at hx₁
    cases hx₁
    cases hoC2
  have hsubC : mroIn K C (.ref C) = some true := by
    have := T.er.sub (.ref C)
    rw [show (Value.ref C :: errTail S).contains (.ref C) = true by simp] at this
    exact this
  refine ks_wpAny_isType_cls hoC hoC2 ⟨rfl, ?_⟩
  refine ks_wpAny_call_super hoC hoC2 hx₁ rfl (fun c z => by cases z) (looks_mroIn X₁ hsubC) (fun h2 hso k2 => ?_)
  have X₂ : K.In h2 := X₁.keeps k2
  have hx₂ := k2 _ _ hx₁
  have hI : Looks (model prog w) h2 (isInstance (.ref e) (.type "ValueError")) true := by
    have I : InstAt h2 e (excO C t0) C none := ⟨hx₂, rfl, rfl, trivial⟩
    exact I.type.andThen (looks_subIn X₂ (T.er.subT "ValueError" (by decide)))
  refine kxs_getMethod kxs_ValueError hso (looks_opaque X₂ T.any) (l₀ := cd.mro) (fun A Q E s k q => wpAny_bind ((looks_clsIn X₂ hcd1) A _ E s k (wpAny_pure q))) rfl X₂ (by rw [hmro]; simpa using T.sup) hI hCe (by decide) ?_
  refine kxs_callWith (i := "ValueError.__init__") (x := e) rfl (evalArgs_empty ⟨Heap.get?_push_at rfl rfl, ?_⟩)
  have hu : (h2.push (kxs_mw "ValueError.__init__" e)).get? h2.objs.size = some (kxs_mw "ValueError.__init__" e) := Heap.get?_push_at rfl rfl
  have k3 : ∀ b o, h2.get? b = some o → (h2.push (kxs_mw "ValueError.__init__" e)).get? b = some o := fun b o z => Heap.get?_push_of_some _ z
  obtain ⟨qn, N, bs, sn, sub, ab, col, dd, m0, m1, m2, m3, m5, hCl⟩ := T.er.cls
  refine wpAny_call (codeAny_of_tree ?_)
  show wpAny _ _ (callAny (.ref h2.objs.size) ⟨[], []⟩) _ _ _
  simp only [callAny]
  refine wpAny_bind (wpAny_load hu ?_)
  refine KFB.if_so (by simp only [kxs_mw]; decide) ?_
  simp only [kxs_mw]
  refine wpAny_bind (check_bound_init F.excBase_ValueError.toExcCallFacts (k3 _ _ (X₂ _ _ hCl)) (k3 _ _ hx₂) rfl ?_)
  refine wpAny_bind (wpAny_pure (wpAny_pure ?_))
  refine ⟨plainId_quiet F.excBase_ValueError.init.plain _, codeAny_builtin F.excBase_ValueError.initEntry ?_⟩
  refine exc_init_tree (cls := .ref C) (t0 := t0) (dv := none) (c2 := .none) (c3 := .none) (b4 := .bool false) (k3 _ _ hx₂) (by rw [sizeLine_eq]; decide) (fun h4 k4 hx4 htup => ?_)
  show _root_.PySem.wpAt _ _ _ (execs _ _) _ _ _
  have kk : ∀ b o, b ≠ e → s.heap.get? b = some o → h4.get? b = some o := fun b o hb z => k4 b o hb (k3 _ _ (k2 _ _ (k _ _ z)))
  have X4 : K.In h4 := fun a o z => kk a o (fun y => by rw [y, hnx] at z; cases z) (X a o z)
  have hn4 : h4.Ns s.heap.objs.size (fun y => ([("self", Value.ref e), ("value", Value.none)] : List (Str × Value)).reverse.lookup y) := by
    obtain ⟨oL, es, ep, z, r⟩ := hn
    exact ⟨oL, es, ep, k4 _ _ hxL (k3 _ _ (k2 _ _ z)), r⟩
  have hz4 : s.heap.objs.size ≤ h4.objs.size := Nat.le_of_lt hn4.lt
  refine wpAt_of_wpAny (wpAny_execs_cons (plainObj_wpAny_Assign_Attribute ?_))
  refine wpAny_Name (wpAny_loadName_local rfl (by first | rfl | with_unfolding_all rfl) hn4 (v := Value.none) rfl ?_) (by decide)
  refine wpAny_Name (wpAny_loadName_local rfl (by first | rfl | with_unfolding_all rfl) hn4 (v := .ref e) rfl ?_) (by decide)
  refine set_plain X4 (od := none) ⟨hx4, rfl, rfl, trivial⟩ T.er.sa ?_
  refine exc_osa X4 hx4 hcd1 (by rw [hmro]; exact refs_err S) hhd T.er.nv (fun h5 tk5 dx k5 dn dne hx5 hn5 => ?_)
  refine wpAny_execs_nil ?_
  exact hq h5 tk5 dx _ ⟨fun b o hb z => k5 b o hb (kk b o hb z), hx5, Nat.le_trans hz4 dn, dne, hn5⟩
theorem init_walkK (T : ErM prog K mg x C S fI) {R : Result → Shared → Prop} {s : Shared} {e t0 : Addr} {v : Value} (X : K.In s.heap) (hlim : s.heap.NoLimit) (hg : s.heap.Ns mainGlobals mg) (hb : s.heap.Ns builtinsNs mb) (hbb : ∀ y : Str, y ≠ "__name__" → mb y = bootBuiltins y)
    (hx : s.heap.get? e = some (excO C t0)) (hnx : K.lookup e = none) (hroom : A.depth < recursionLimit)
    (hq : ∀ h' tk dx t1, InitEnd s.heap h' e C dx t1 v → R (.ok (.ret .none)) { s with heap := h', toks := tk }) :
    codeAny (model prog w) A (.call (.ref fI) ⟨[.ref e], [("value", v)]⟩) R s := by
  obtain ⟨oc, od, Ar, Bd, Sc, q, dV, kV, doc, pm, an, cda, cc, ct, osl, IT, hoc, ho, hcd, ⟨cl, cld, csl, hcell⟩, ⟨td, tc, tdd, tn, tsl, rfl, htd⟩, ⟨c1, d1, vs1, sl1, file, tf, hcode, hvs, hfile⟩⟩ := T.fn
  obtain ⟨⟨p1, p2, dd0, rfl⟩, ⟨b0, b1, b2, b3, b4, b5, b6, b7, b8, rfl, ⟨pl, hev⟩, hsw⟩, rfl⟩ := IT
  have hcl := T.er.clsIn
  obtain ⟨cd, hcd1, hmro, hhd, _⟩ := hcl
  have hb5 : ∀ x ∈ ([(PySem.Str.ofString "self", NameKind.local), (PySem.Str.ofString "value", .local), (PySem.Str.ofString "__class__", .free), (PySem.Str.ofString "super", .globalImplicit)] : List (Str × NameKind)), x.2 ≠ .cell := by decide
  refine ks_codeAny_call_defAt (binds := [("self", .ref e), ("value", v)]) hroom (X _ _ ho) rfl hlim (codeRec_of X hcd) rfl (BindsTo.of_defaults (T := td) rfl (X _ _ htd) rfl (by first | rfl | with_unfolding_all rfl) (by first | rfl | with_unfolding_all rfl)) hb5 (locs rfl) (fun h₁ hn k => ?_)
  have X₁ : K.In h₁ := X.keeps k
  have hx₁ := k _ _ hx
  have hxL : s.heap.objs.size ≠ e := Nat.ne_of_gt (Heap.lt_size hx)
  show _root_.PySem.wpAt _ (A.deeper (ksEnv q { kind := .function, names := [(PySem.Str.ofString "self", .local), (PySem.Str.ofString "value", .local), (PySem.Str.ofString "__class__", .free), (PySem.Str.ofString "super", .globalImplicit)], isGenerator := false, isCoroutine := false, more := [] } s.heap.objs.size fI (.ref cda) cc)) (.func _ (ksEnv q { kind := .function, names := [(PySem.Str.ofString "self", .local), (PySem.Str.ofString "value", .local), (PySem.Str.ofString "__class__", .free), (PySem.Str.ofString "super", .globalImplicit)], isGenerator := false, isCoroutine := false, more := [] } s.heap.objs.size fI (.ref cda) cc)) (execs _ (ksEnv q { kind := .function, names := [(PySem.Str.ofString "self", .local), (PySem.Str.ofString "value", .local), (PySem.Str.ofString "__class__", .free), (PySem.Str.ofString "super", .globalImplicit)], isGenerator := false, isCoroutine := false, more := [] } s.heap.objs.size fI (.ref cda) cc)) _ _ _
  refine ks_wpAt_execs_cons (ks_wpAt_Expr_any (ks_wpAt_MethodCall (pl := pl) ?_ (hev _)) rfl (hsw _))
  refine ks_wpAt_super_base (f := fI) (cc := cda) (by first | rfl | with_unfolding_all rfl) (by first | rfl | with_unfolding_all rfl) (by decide) rfl (X₁ _ _ ho) rfl rfl rfl (X₁ _ _ hcode) rfl hvs hfile T.top ?_
  refine ks_loadName_global rfl (by first | rfl | with_unfolding_all rfl) (loadGlobal_builtin (hg.keeps k) T.msup (hb.keeps k) ((hbb _ (by decide +kernel)).trans PyProof.Rows.Boot.«super») ⟨rfl, ?_⟩)
  refine wpAny_loadName_free rfl (by first | rfl | with_unfolding_all rfl) rfl ⟨_, X₁ _ _ hcell, rfl⟩ ?_
  refine wpAny_loadName_local rfl (by first | rfl | with_unfolding_all rfl) hn (v := .ref e) (by first | rfl | with_unfolding_all rfl | kernel_rfl) ?_
  obtain ⟨oC, hoC, hoC2⟩ : ∃ oC, h₁.get? C = some oC ∧ oC.data = .cls cd := by
    unfold PySem.W.clsIn at hcd1
    split at hcd1
    · rename_i ho'
      cases hcd1
      exact ⟨_, X₁ _ _ ho', rfl⟩
    · cases hcd1
  have hCe : e ≠ C := fun z => by
    rw [z, hoC] at hx₁
    cases hx₁
    cases hoC2
  have hsubC : mroIn K C (.ref C) = some true := by
    have := T.er.sub (.ref C)
    rw [show (Value.ref C :: errTail S).contains (.ref C) = true by simp] at this
    exact this
  refine ks_wpAny_isType_cls hoC hoC2 ⟨rfl, ?_⟩
  refine ks_wpAny_call_super hoC hoC2 hx₁ rfl (fun c z => by cases z) (looks_mroIn X₁ hsubC) (fun h2 hso k2 => ?_)
  have X₂ : K.In h2 := X₁.keeps k2
  have hx₂ := k2 _ _ hx₁
  have hI : Looks (model prog w) h2 (isInstance (.ref e) (.type "ValueError")) true := by
    have I : InstAt h2 e (excO C t0) C none := ⟨hx₂, rfl, rfl, trivial⟩
    exact I.type.andThen (looks_subIn X₂ (T.er.subT "ValueError" (by decide)))
  refine kxs_getMethod kxs_ValueError hso (looks_opaque X₂ T.any) (l₀ := cd.mro) (fun A Q E s k q => wpAny_bind ((looks_clsIn X₂ hcd1) A _ E s k (wpAny_pure q))) rfl X₂ (by rw [hmro]; simpa using T.sup) hI hCe (by decide) ?_
  refine kxs_callWith (i := "ValueError.__init__") (x := e) rfl (evalArgs_empty ⟨Heap.get?_push_at rfl rfl, ?_⟩)
  have hu : (h2.push (kxs_mw "ValueError.__init__" e)).get? h2.objs.size = some (kxs_mw "ValueError.__init__" e) := Heap.get?_push_at rfl rfl
  have k3 : ∀ b o, h2.get? b = some o → (h2.push (kxs_mw "ValueError.__init__" e)).get? b = some o := fun b o z => Heap.get?_push_of_some _ z
  obtain ⟨qn, N, bs, sn, sub, ab, col, dd, m0, m1, m2, m3, m5, hCl⟩ := T.er.cls
  refine wpAny_call (codeAny_of_tree ?_)
  show wpAny _ _ (callAny (.ref h2.objs.size) ⟨[], []⟩) _ _ _
  simp only [callAny]
  refine wpAny_bind (wpAny_load hu ?_)
  refine KFB.if_so (by simp only [kxs_mw]; decide) ?_
  simp only [kxs_mw]
  refine wpAny_bind (check_bound_init F.excBase_ValueError.toExcCallFacts (k3 _ _ (X₂ _ _ hCl)) (k3 _ _ hx₂) rfl ?_)
  refine wpAny_bind (wpAny_pure (wpAny_pure ?_))
  refine ⟨plainId_quiet F.excBase_ValueError.init.plain _, codeAny_builtin F.excBase_ValueError.initEntry ?_⟩
  refine exc_init_tree (cls := .ref C) (t0 := t0) (dv := none) (c2 := .none) (c3 := .none) (b4 := .bool false) (k3 _ _ hx₂) (by rw [sizeLine_eq]; decide) (fun h4 k4 hx4 htup => ?_)
  show _root_.PySem.wpAt _ _ _ (execs _ _) _ _ _
  have kk : ∀ b o, b ≠ e → s.heap.get? b = some o → h4.get? b = some o := fun b o hb z => k4 b o hb (k3 _ _ (k2 _ _ (k _ _ z)))
  have X4 : K.In h4 := fun a o z => kk a o (fun y => by rw [y, hnx] at z; cases z) (X a o z)
  have hn4 : h4.Ns s.heap.objs.size (fun y => ([("self", Value.ref e), ("value", v)] : List (Str × Value)).reverse.lookup y) := by
    obtain ⟨oL, es, ep, z, r⟩ := hn
    exact ⟨oL, es, ep, k4 _ _ hxL (k3 _ _ (k2 _ _ z)), r⟩
  have hz4 : s.heap.objs.size ≤ h4.objs.size := Nat.le_of_lt hn4.lt
  refine wpAt_of_wpAny (wpAny_execs_cons (plainObj_wpAny_Assign_Attribute ?_))
  refine wpAny_Name (wpAny_loadName_local rfl (by first | rfl | with_unfolding_all rfl) hn4 (v := v) rfl ?_) (by decide)
  refine wpAny_Name (wpAny_loadName_local rfl (by first | rfl | with_unfolding_all rfl) hn4 (v := .ref e) rfl ?_) (by decide)
  refine set_plain X4 (od := none) ⟨hx4, rfl, rfl, trivial⟩ T.er.sa ?_
  refine exc_osa X4 hx4 hcd1 (by rw [hmro]; exact refs_err S) hhd T.er.nv (fun h5 tk5 dx k5 dn dne hx5 hn5 => ?_)
  refine wpAny_execs_nil ?_
  exact hq h5 tk5 dx _ ⟨fun b o hb z => k5 b o hb (kk b o hb z), hx5, Nat.le_trans hz4 dn, dne, hn5⟩
end
/-! ### type.__call__ with a named value -/
section
variable {M : Model} {A : Around} {E : Value → Shared → Prop} {hp : Heap} {gs : Array GenState} {dw : Drawn} {tk : Nat} {ost : OsState}
variable {nm qn : Str} {C N : Addr} {bs mr mrB : List Value} {hd : Bool} {sn : List Str} {sub : List Value} {ab : Bool} {col : Option Bool} {dd : Option Addr} {m0 m1 m2 m3 m5 : Option Value} {B nId iId : String}
theorem kw_check (F : ExcBaseFacts B nId iId mrB) (hT : ∀ Y : String, mr.contains (.type Y) = mrB.contains (.type Y)) {kws : List (Str × Value)} {Q : Unit → Shared → Prop}
    (hCl : hp.get? C = some (excClassObj nm qn C N bs mr hd sn sub ab col dd m0 m1 m2 m3 m5 nId)) (hn : Q () ⟨hp, gs, dw, tk, ost⟩) : wpAny M A (checkBuiltinCall nId ⟨[.ref C], kws⟩) Q E ⟨hp, gs, dw, tk, ost⟩ := by
  have inB : (Value.ref C :: mr).contains (.type B) = true := by rw [List.contains_cons, hT, F.hasB, Bool.or_true]
  have st := F.noStar
  simp only [checkBuiltinCall, F.newKind, F.newSplit, F.newRow]
  repeat (first
    | refine wpAny_loadPart_at hCl ?_
    | (refine wpAny_isSubtype_exc hCl ?_; rw [inB])
    | refine wpAny_staticBase_exc hCl ?_
    | refine wpAny_madeBy_exc hCl ?_
    | simp only [bne_self_eq_false, Bool.false_eq_true, if_false]
    | wp_step)
  exact hn
end
section
variable {prog : Program} {w : World} {A : Around} {E : Value → Shared → Prop} {R : Result → Shared → Prop} {hp : Heap} {gs : Array GenState} {dw : Drawn} {tk : Nat} {ost : OsState}
variable {nm qn : Str} {C N : Addr} {bs mr mrB : List Value} {hd : Bool} {sn : List Str} {sub : List Value} {ab : Bool} {col : Option Bool} {dd : Option Addr} {m0 m1 m2 m3 m5 : Option Value} {B nId iId : String}
abbrev kwNew (hp : Heap) (C : Addr) : Heap := (hp.push (W.kdv_tup [])).push (excO C hp.objs.size)
theorem kw_new (F : ExcBaseFacts B nId iId mrB) (hT : ∀ Y : String, mr.contains (.type Y) = mrB.contains (.type Y)) {kws : List (Str × Value)}
    (hCl : hp.get? C = some (excClassObj nm qn C N bs mr hd sn sub ab col dd m0 m1 m2 m3 m5 nId)) (hn : R (.ok (.ret (.ref (hp.objs.size + 1)))) ⟨kwNew hp C, gs, dw, tk, ost⟩) :
    codeAny (model prog w) A (.builtin nId ⟨[.ref C], kws⟩) R ⟨hp, gs, dw, tk, ost⟩ := by
  have en := F.ends
  have inB : (Value.ref C :: mr).contains (.type B) = true := by rw [List.contains_cons, hT, F.hasB, Bool.or_true]
  have inA : (Value.ref C :: mr).contains (.type "AttributeError") = false := by rw [List.contains_cons, hT, F.noAttr]; rfl
  have inN : (Value.ref C :: mr).contains (.type "NameError") = false := by rw [List.contains_cons, hT, F.noName]; rfl
  have sz : ([] : List Value).length ≤ sizeLine := Nat.zero_le _
  refine codeAny_builtinAt F.entry ?_
  unfold Builtin.«BaseException.__new__»
  refine _root_.PySem.wpAt_bind ?_
  show _root_.PySem.wpAt _ _ _ (stack >>= _) _ _ _
  refine _root_.PySem.wpAt_bind (_root_.PySem.wpAt_stack fun pp bb => wpAt_of_wpAny ?_)
  wp_walk
  refine wpAt_of_wpAny ?_
  rw [F.owner]
  repeat (first
    | with_reducible refine wpAny_madeHere_exc F.canon hCl ?_
    | with_reducible refine wpAny_loadPart_at hCl ?_
    | (with_reducible refine wpAny_isSubtype_exc hCl ?_; first | rw [inB] | rw [inA] | rw [inN])
    | wp_step)
  show R _ _
  rw [Heap.size_push]
  exact hn
theorem kw_type (F : ExcBaseFacts B nId iId mrB) (hT : ∀ Y : String, mr.contains (.type Y) = mrB.contains (.type Y)) {kws : List (Str × Value)} {fI : Addr} {Q : Fin → Shared → Prop}
    (hCl : hp.get? C = some (excClassObj nm qn C N bs mr hd sn sub ab col dd m0 m1 m2 m3 m5 nId)) (hi : W.Looks (model prog w) hp (typeLookup (.ref C) "__init__") (some (.ref fI)))
    (hb : ∀ self, W.Looks (model prog w) hp (bindSpecial (.ref fI) self) (.ref fI, [self]))
    (hn : codeAny (model prog w) A (.call (.ref fI) ⟨[.ref (hp.objs.size + 1)], kws⟩) (fun r s' => match r with | .ok (.ret v) => v = .none ∧ Q (.done (.ret (.ref (hp.objs.size + 1)))) s' | .ok _ => False | .error e => E e s') ⟨kwNew hp C, gs, dw, tk, ost⟩) :
    wpAny (model prog w) A (Builtin.«type.__call__» ⟨[.ref C], kws⟩) Q E ⟨hp, gs, dw, tk, ost⟩ := by
  repeat (first | with_reducible refine wpAny_loadPart_at hCl ?_ | with_reducible refine wpAny_madeBy_exc hCl ?_ | wp_step)
  refine codeAny_call_builtin_code (Code.quiet_builtin _ F.quiet) (kw_check F hT hCl ?_)
  refine kw_new F hT hCl ?_
  show wpAny _ _ _ _ _ _
  have kp : ∀ b o, hp.get? b = some o → (kwNew hp C).get? b = some o := fun b o z => Heap.get?_push_of_some _ (Heap.get?_push_of_some _ z)
  have hC2 := kp _ _ hCl
  have hg2 : (kwNew hp C).get? (hp.objs.size + 1) = some (excO C hp.objs.size) := by heap_get
  have inC : (Value.ref C :: mr).contains (.ref C) = true := by simp
  have i2 := hi.keeps kp
  have b2 := (hb (.ref (hp.objs.size + 1))).keeps kp
  unfold isInstance
  repeat (first | with_reducible refine wpAny_loadPart_at hg2 ?_ | (with_reducible refine wpAny_isSubtype_exc hC2 ?_; rw [inC]) | wp_step)
  show wpAny _ _ (typeLookup (.ref C) _) _ _ _
  refine i2.at ?_
  refine wpAny_holding (wpAny_bind (b2.at ?_))
  refine wpAny_bind (wpAny_call (codeAny_mono hn fun r s' z => ?_))
  rcases r with e | (v | _ | _ | _) <;> first | exact z | exact z.elim | skip
  obtain ⟨rfl, z⟩ := z
  first
    | exact wpAny_pure (wpAny_pure z)
    | (wp_walk; exact z)
theorem kw_call (F : ExcBaseFacts B nId iId mrB) (hT : ∀ Y : String, mr.contains (.type Y) = mrB.contains (.type Y)) {kws : List (Str × Value)} {fI : Addr}
    (hCl : hp.get? C = some (excClassObj nm qn C N bs mr hd sn sub ab col dd m0 m1 m2 m3 m5 nId)) (hi : W.Looks (model prog w) hp (typeLookup (.ref C) "__init__") (some (.ref fI)))
    (hb : ∀ self, W.Looks (model prog w) hp (bindSpecial (.ref fI) self) (.ref fI, [self]))
    (hn : codeAny (model prog w) (A.under (.builtin "type.__call__" ⟨[.ref C], kws⟩)) (.call (.ref fI) ⟨[.ref (hp.objs.size + 1)], kws⟩) (W.InitBack (hp.objs.size + 1) R) ⟨kwNew hp C, gs, dw, tk, ost⟩) :
    codeAny (model prog w) A (.call (.ref C) ⟨[], kws⟩) R ⟨hp, gs, dw, tk, ost⟩ := by
  have f1 := tc_lookup
  have f2 := tc_bind (.ref C)
  have hTy : (⟨hp, gs, dw, tk, ost⟩ : Shared).TypeIs (.ref C) "type" := ⟨_, hCl, rfl⟩
  refine codeAny_of_tree ?_
  show wpAny _ _ (callAny (.ref C) _) _ _ _
  repeat (any_goals (first | assumption | with_reducible refine wpAny_loadPart_at hCl ?_ | wp_step))
  refine ⟨rfl, ?_⟩
  refine codeAny_call_builtin_at (Code.quiet_builtin _ (by decide +kernel)) entry_typeCall (wpAny_check_type_call_sub hCl (kw_type F hT hCl hi hb ?_))
  refine codeAny_mono hn fun r s' z => ?_
  rcases r with e | (v | _ | _ | _) <;> exact z
end
section
variable {prog : Program} {w : World} {A : Around} {E : Value → Shared → Prop} {K : Frag} {mg mb : Str → Option Value} {C S fI : Addr} {x : Str}
theorem err_made0 (T : ErM prog K mg x C S fI) {R : Result → Shared → Prop} {s : Shared} (tI : typeIn K (.ref fI) = some (.type "function")) (X : K.In s.heap) (hlim : s.heap.NoLimit) (hg : s.heap.Ns mainGlobals mg) (hb : s.heap.Ns builtinsNs mb) (hbb : ∀ y : Str, y ≠ "__name__" → mb y = bootBuiltins y)
    (hroom : A.depth + 1 < recursionLimit) (hq : ∀ h' tk e d, Made s.heap h' e C d .none → R (.ok (.ret (.ref e))) { s with heap := h', toks := tk }) :
    codeAny (model prog w) A (.call (.ref C) ⟨[], []⟩) R s := by
  obtain ⟨qn, N, bs, sn, sub, ab, col, dd, m0, m1, m2, m3, m5, hCl⟩ := T.er.cls
  obtain ⟨hp, g, dr, tk, os⟩ := s
  have k : ∀ b o, hp.get? b = some o → ((hp.push (kdv_tup [])).push (excO C hp.objs.size)).get? b = some o := fun b o z => Heap.get?_push_of_some _ (Heap.get?_push_of_some _ z)
  have hget : ((hp.push (kdv_tup [])).push (excO C hp.objs.size)).get? (hp.objs.size + 1) = some (excO C hp.objs.size) := by heap_get
  have hnx : K.lookup (hp.objs.size + 1) = none := by
    cases z : K.lookup (hp.objs.size + 1) with
    | none => rfl
    | some o =>
      have y : hp.get? (hp.objs.size + 1) = some o := X _ _ z
      exact absurd (Nat.lt_of_succ_lt (Heap.lt_size y)) (Nat.lt_irrefl _)
  refine kw_call F.excBase_ValueError (fun Y => refsVE_contains Y (errTail S) (refs_err S)) (X _ _ hCl) (looks_findIn X T.iC) (fun self => bind_fn X self tI) ?_
  refine init_walk0 (s := ⟨(hp.push (kdv_tup [])).push (excO C hp.objs.size), g, dr, tk, os⟩) T (X.keeps k) (hlim.keeps k) (hg.keeps k) (hb.keeps k) hbb hget hnx hroom fun h' tk' dx t1 ⟨k', hx, dn, dne, hns⟩ => ?_
  have old : ∀ b o, hp.get? b = some o → h'.get? b = some o := fun b o z => k' b o (Nat.ne_of_lt (Nat.lt_succ_of_lt (Heap.lt_size z))) (k b o z)
  have z : hp.objs.size + 1 + 1 ≤ dx := by
    have q := dn
    rw [Heap.size_push, Heap.size_push] at q
    exact q
  exact ⟨rfl, hq h' tk' (hp.objs.size + 1) dx ⟨old, Nat.le_succ _, ⟨_, _, hx, rfl, rfl, rfl, rfl⟩, Nat.le_trans (Nat.le_trans (Nat.le_succ _) (Nat.le_succ _)) z, dne, hns⟩⟩
theorem err_madeK (T : ErM prog K mg x C S fI) {R : Result → Shared → Prop} {s : Shared} {v : Value} (tI : typeIn K (.ref fI) = some (.type "function")) (X : K.In s.heap) (hlim : s.heap.NoLimit) (hg : s.heap.Ns mainGlobals mg) (hb : s.heap.Ns builtinsNs mb) (hbb : ∀ y : Str, y ≠ "__name__" → mb y = bootBuiltins y)
    (hroom : A.depth + 1 < recursionLimit) (hq : ∀ h' tk e d, Made s.heap h' e C d v → R (.ok (.ret (.ref e))) { s with heap := h', toks := tk }) :
    codeAny (model prog w) A (.call (.ref C) ⟨[], [("value", v)]⟩) R s := by
  obtain ⟨qn, N, bs, sn, sub, ab, col, dd, m0, m1, m2, m3, m5, hCl⟩ := T.er.cls
  obtain ⟨hp, g, dr, tk, os⟩ := s
  have k : ∀ b o, hp.get? b = some o → ((hp.push (kdv_tup [])).push (excO C hp.objs.size)).get? b = some o := fun b o z => Heap.get?_push_of_some _ (Heap.get?_push_of_some _ z)
  have hget : ((hp.push (kdv_tup [])).push (excO C hp.objs.size)).get? (hp.objs.size + 1) = some (excO C hp.objs.size) := by heap_get
  have hnx : K.lookup (hp.objs.size + 1) = none := by
    cases z : K.lookup (hp.objs.size + 1) with
    | none => rfl
    | some o =>
      have y : hp.get? (hp.objs.size + 1) = some o := X _ _ z
      exact absurd (Nat.lt_of_succ_lt (Heap.lt_size y)) (Nat.lt_irrefl _)
  refine kw_call F.excBase_ValueError (fun Y => refsVE_contains Y (errTail S) (refs_err S)) (X _ _ hCl) (looks_findIn X T.iC) (fun self => bind_fn X self tI) ?_
  refine init_walkK (s := ⟨(hp.push (kdv_tup [])).push (excO C hp.objs.size), g, dr, tk, os⟩) T (X.keeps k) (hlim.keeps k) (hg.keeps k) (hb.keeps k) hbb hget hnx hroom fun h' tk' dx t1 ⟨k', hx, dn, dne, hns⟩ => ?_
  have old : ∀ b o, hp.get? b = some o → h'.get? b = some o := fun b o z => k' b o (Nat.ne_of_lt (Nat.lt_succ_of_lt (Heap.lt_size z))) (k b o z)
  have z : hp.objs.size + 1 + 1 ≤ dx := by
    have q := dn
    rw [Heap.size_push, Heap.size_push] at q
    exact q
  exact ⟨rfl, hq h' tk' (hp.objs.size + 1) dx ⟨old, Nat.le_succ _, ⟨_, _, hx, rfl, rfl, rfl, rfl⟩, Nat.le_trans (Nat.le_trans (Nat.le_succ _) (Nat.le_succ _)) z, dne, hns⟩⟩
end
end XA
namespace L2
open PySem PySem.Spec PyProof.Rows XA
section
variable {X : Cx} {pins : List (Addr × Obj)} {σ : St} {H : Hp} {x : Str} {C S fI : Addr}
/-- a made error is tracked -/
theorem made_inv {hp : Heap} {g : Array GenState} {dr : Drawn} {tk tk' : Nat} {os : OsState} {h' : Heap} {e d : Addr} {v : V} {u : Value} (I : Inv X pins σ H ⟨hp, g, dr, tk, os⟩) (M : XA.Made hp h' e C d u) (rv : RelV v u) :
    H d = none ∧ upd H d (.xd [(("value" : Str), v)]) e = none ∧ Inv X pins σ (upd (upd H d (.xd [(("value" : Str), v)])) e (erO e C d)) ⟨h', g, dr, tk', os⟩ := by
  obtain ⟨oe, fv, hoe, hc, hd, hdat, h1⟩ := M.obj
  have hns := M.ns
  obtain ⟨G', g1, g2⟩ := restrict h' fun b => decide (b ≠ e)
  have gk : ∀ b, b ≠ e → G'.get? b = h'.get? b := fun b hb => g1 b (decide_eq_true hb)
  have ge : G'.get? e = none := g2 e (by simp)
  have old : ∀ b o, hp.get? b = some o → G'.get? b = some o := fun b o q => (gk b (Nat.ne_of_lt (Nat.lt_of_lt_of_le (Heap.lt_size q) M.new))).trans (M.keep b o q)
  have ob : ObjOk X.prog X.w (upd H d (.xd [(("value" : Str), v)])) G' d (.xd [(("value" : Str), v)]) :=
    ⟨_, hns.at (fun o q => (gk d M.dne).trans q), fun f => relO_one rv f⟩
  have J : Inv X pins σ (upd H d (.xd [(("value" : Str), v)])) ⟨G', g, dr, tk', os⟩ := I.laid (t' := tk') old M.dbig ob
  have hd0 : H d = none := I.hok.fresh M.dbig
  have he0 : upd H d (.xd [(("value" : Str), v)]) e = none := by
    rw [upd_ne (Ne.symm M.dne)]
    exact I.hok.fresh M.new
  refine ⟨hd0, he0, J.laidN (t' := tk') (h' := h') (fun b o q => ?_) ge he0 ?_⟩
  · by_cases hb : b = e
    · have q' : G'.get? b = some o := q
      rw [hb, ge] at q'; cases q'
    · exact (gk b hb).symm.trans q
  · obtain ⟨a1, a2, a3, a4⟩ := oe
    dsimp only at hc hd hdat
    subst hc hd hdat
    exact ⟨⟨_, _, hoe⟩, ⟨_, hoe⟩, fun h1 h2 z kk => by
      obtain ⟨vs', sl', z'⟩ := z
      exact ⟨vs', sl', kk _ z'⟩⟩
/-- x(a) as a value -/
theorem pe_err {a : Expr} {ta : TA} {p pos : Pos} {k : Nat} (T : XA.ErM X.prog X.K X.mg x C S fI) (hr : Room k X.A) (ha : PA X [a] ta) (hg : Gl X x)
    (he : starEach (a :: []) X.env = (false, eval a X.env) :: starEach [] X.env := by rfl) (hpl : (backTo pos (starEach [] X.env)).any (·.1) = false := by rfl) (hdb : (x == ("__debug__" : Str)) = false := by decide) :
    PE X (.Call (.Name x p) [a] [] pos) (fun σ H Q => ta σ H fun vs H1 => ∃ v, vs = [v] ∧ ∀ d e, H1 d = none → upd H1 d (.xd [(("value" : Str), v)]) e = none → Q (.ref e) (upd (upd H1 d (.xd [(("value" : Str), v)])) e (erO e C d))) := by
  refine ⟨fun pins s σ H Q I h => ?_⟩
  refine wpAny_Call_Name_kw (ld_glob I hg T.gC ?_ hdb)
  refine PySem.W.callWith_K (h₀ := X.base) I.ok.mod.kin T.er.kp (thn (ha.run pos pins s σ H _ I h) fun us s1 ⟨vs, H1, I1, r1, v, ev, q1⟩ => ?_) he hpl
  subst ev
  refine ⟨I1.kIn, ?_⟩
  cases r1 with
  | @cons _ v' _ us' rv rn =>
    cases rn
    show wpAny _ _ (call (.ref C) [v']) _ _ _
    have hlim := I1.nolimit
    obtain ⟨mb, hb1, hb2⟩ := I1.mod.blt
    have hgl := I1.mod.glob.keeps I1.bk
    have hbl := hb1.keeps I1.bk
    obtain ⟨hp, g, dr, tk, os⟩ := s1
    refine wpAny_call (err_made T (fnTy T) I1.kIn hlim hgl hbl hb2 (by have := hr.dp; omega) fun h' tk' e d M => ?_)
    obtain ⟨k1, k2, J⟩ := made_inv (tk' := tk') I1 M rv
    exact ⟨.ref e, _, J, rfl, q1 d e k1 k2⟩
/-- x() as a value -/
theorem pe_err0 {p pos : Pos} {k : Nat} (T : XA.ErM X.prog X.K X.mg x C S fI) (hr : Room k X.A) (hg : Gl X x) (hdb : (x == ("__debug__" : Str)) = false := by decide) :
    PE X (.Call (.Name x p) [] [] pos) (fun σ H Q => ∀ d e, H d = none → upd H d (.xd [(("value" : Str), .non)]) e = none → Q (.ref e) (upd (upd H d (.xd [(("value" : Str), .non)])) e (erO e C d))) := by
  refine ⟨fun pins s σ H Q I h => ?_⟩
  refine wpAny_Call_Name_kw (ld_glob I hg T.gC ?_ hdb)
  refine PySem.W.callWith_KW0 (h₀ := X.base) (kws := []) I.ok.mod.kin T.er.kp rfl (wpAny_evalAll_nil ⟨I.kIn, ?_⟩) rfl
  show wpAny _ _ (call (.ref C) [] []) _ _ _
  have hlim := I.nolimit
  obtain ⟨mb, hb1, hb2⟩ := I.mod.blt
  have hgl := I.mod.glob.keeps I.bk
  have hbl := hb1.keeps I.bk
  obtain ⟨hp, g, dr, tk, os⟩ := s
  refine wpAny_call (err_made0 T (fnTy T) I.kIn hlim hgl hbl hb2 (by have := hr.dp; omega) fun h' tk' e d M => ?_)
  obtain ⟨k1, k2, J⟩ := made_inv (v := .non) (tk' := tk') I M rfl
  exact ⟨.ref e, _, J, rfl, h d e k1 k2⟩
/-- x(value=a) as a value -/
theorem pe_errK {a : Expr} {ta : TA} {p pos kpos : Pos} {k : Nat} (T : XA.ErM X.prog X.K X.mg x C S fI) (hr : Room k X.A) (ha : PK X [⟨some "value", a, kpos⟩] ta) (hg : Gl X x)
    (hdb : (x == ("__debug__" : Str)) = false := by decide) :
    PE X (.Call (.Name x p) [] [⟨some "value", a, kpos⟩] pos) (fun σ H Q => ta σ H fun vs H1 => ∃ v, vs = [v] ∧ ∀ d e, H1 d = none → upd H1 d (.xd [(("value" : Str), v)]) e = none → Q (.ref e) (upd (upd H1 d (.xd [(("value" : Str), v)])) e (erO e C d))) := by
  refine ⟨fun pins s σ H Q I h => ?_⟩
  refine wpAny_Call_Name_kw (ld_glob I hg T.gC ?_ hdb)
  refine PySem.W.callWith_KW0 (h₀ := X.base) I.ok.mod.kin T.er.kp rfl (thn (ha.run pos pins s σ H _ I h) fun us s1 ⟨vs, H1, I1, r1, v, ev, q1⟩ => ⟨I1.kIn, ?_⟩) rfl
  subst ev
  cases r1 with
  | @cons _ v' _ us' rv rn =>
    cases rn
    show wpAny _ _ (call (.ref C) [] [(("value" : Str), v')]) _ _ _
    have hlim := I1.nolimit
    obtain ⟨mb, hb1, hb2⟩ := I1.mod.blt
    have hgl := I1.mod.glob.keeps I1.bk
    have hbl := hb1.keeps I1.bk
    obtain ⟨hp, g, dr, tk, os⟩ := s1
    refine wpAny_call (err_madeK T (fnTy T) I1.kIn hlim hgl hbl hb2 (by have := hr.dp; omega) fun h' tk' e d M => ?_)
    obtain ⟨k1, k2, J⟩ := made_inv (tk' := tk') I1 M rv
    exact ⟨.ref e, _, J, rfl, q1 d e k1 k2⟩
end
end L2
namespace XA
open PySem PySem.W PySem.Calls PyProof.Rows PySem.HandSPX
/-- the common class, of which an error may be made, too -/
structure ShX (K : Frag) (S : Addr) : Prop where
  sh : ShC K S
  kp : keepIn K (.ref S) = true
  ex : excIn K S sheetTail "ValueError.__new__" = true
  ga : findIn K (.ref S) "__getattribute__" = some (some (.builtin "BaseException.__getattribute__"))
  gg : findIn K (.ref S) "__getattr__" = some none
  hc : findIn K (.ref S) "__class__" = some (some (.builtin "object.__class__"))
  gs : specialIn K (.builtin "object.__class__") "__get__" = some (some (.builtin "getset_descriptor.__get__"))
  tk : takesIn K (.builtin "object.__class__") = some true
end XA
namespace L2
open PySem PySem.Spec PyProof.Rows XA
section
variable {X : Cx} {S : Addr}
/-- the common class's own error, without a value -/
theorem pe_sheet {p pos : Pos} (T : XA.ShX X.K S) (gC : X.mg "SheetError" = some (.ref S)) (hg : Gl X "SheetError") :
    PE X (.Call (.Name "SheetError" p) [] [] pos) (fun σ H Q => ∀ a, H a = none → Q (.ref a) (upd H a (ExO (.ref S) a))) := by
  refine ⟨fun pins s σ H Q I h => ?_⟩
  refine wpAny_Call_Name_kw (ld_glob I hg gC ?_ (by decide))
  refine PySem.W.callWith_KW0 (h₀ := X.base) (kws := []) I.ok.mod.kin T.kp rfl (wpAny_evalAll_nil ⟨I.kIn, ?_⟩) rfl
  show wpAny _ _ (call (.ref S) [] []) _ _ _
  obtain ⟨bm, N, nm, qn, bs, hdct, sn, sub, ab, col, dd, k0, k1, k2, k3, k5, mN, hC, hN, hni, TT⟩ := exc_obj I.kIn T.ex
  refine wpAny_call_exc_subT F.excBase_ValueError TT hC hN hni (fun h' a hm => ?_) (Nat.zero_le _)
  have hn : H a = none := I.hok.gone hm.new
  obtain ⟨t, ht, _, _⟩ := hm.there
  exact ⟨.ref a, upd H a (ExO (.ref S) a), I.laidN hm.keeps hm.new hn (exO_ok ht ⟨rfl, rfl⟩ rfl rfl rfl (show 4 < 6 by decide)), rfl, h a hn⟩
end
end L2
/-! DL1: data D, what represents it, the state of a def as plain data, the judgements -/
namespace DL
open PySem PySem.Spec PyProof.Rows L2
inductive D where
  | non
  | bl (b : Bool)
  | int (i : Int)
  | str (x : Str)
  | tup (l : List D)
  | lst (l : List D)
  | dct0
  | scr (ns : List Int)
  | own (k : Nat)
  | exc (x : Str) (d : D)
  | errS
  | glb (x : Str)
  | val (v : V)
abbrev St := L2.St
abbrev Env := List (Option D)
/-- a cell that is owned no more; a dict whose keys are tuples; one whose keys are ints and texts -/
inductive Oth where
  | dead
  | dT (kvs : List (List Key × D))
  | dK (kvs : List (Key × D))
inductive Own where
  | lst (ds : List D)
  | oth (o : Oth)
abbrev Own.dead : Own := .oth .dead
abbrev Own.dT (kvs : List (List Key × D)) : Own := .oth (.dT kvs)
abbrev Own.dK (kvs : List (Key × D)) : Own := .oth (.dK kvs)
def Own.live : Own → Bool
  | .lst _ => true
  | .oth .dead => false
  | .oth (.dT _) => true
  | .oth (.dK _) => true
abbrev Mem := List Own
/-- where the owned cells stand; the lists that are being made out of sight -/
structure Ph where
  cells : List Addr
  hid : List (Addr × HO)
abbrev Ph.add (ph : Ph) (p : Addr) : Ph := { ph with cells := ph.cells ++ [p] }
abbrev Ph.cut (ph : Ph) (n : Nat) : Ph := { ph with cells := ph.cells.take n }
abbrev fVal : Str := "value"
/-- items that a tuple of the module may have (no key of a dict of ours is like that) -/
def vZ : V → Bool
  | .int i => i == 0
  | _ => false
def vRf : V → Bool
  | .ref _ => true
  | _ => false
def kconst (xs : List V) : Bool := xs.length == 3 || decide (3 ≤ (xs.filter vZ).length) || xs.any vRf
/-- a tuple that stands still: one that was made, or one of the module's -/
def TupK (K : PySem.W.Frag) (S : Hp) (a : Addr) (xs : List V) : Prop := S a = some (.tup xs) ∨
  ∃ (o : Obj) (its : Array Value) (n : Nat), K.lookup a = some o ∧ o.cls = .type "tuple" ∧ o.data = .seq its n ∧ its.size ≤ sizeLine ∧ Vals xs its.toList ∧ kconst xs = true
theorem TupK.ext {K : PySem.W.Frag} {S S' : Hp} {a : Addr} {xs : List V} (h : TupK K S a xs) (s : Same S S') : TupK K S' a xs := h.imp (fun z => s _ _ z) fun z => z
theorem TupK.sq {K : PySem.W.Frag} {S H : Hp} {a : Addr} {xs : List V} (h : TupK K S a xs) (s : Same S H) : SqT K H a xs := h.elim (fun z => SqT.of (s _ _ z)) fun ⟨o, its, n, e1, e2, e3, e4, e5, _⟩ => .inr ⟨o, its, n, e1, e2, e3, e4, e5⟩
mutual
inductive Rep (K : PySem.W.Frag) (ph : Ph) (S : Hp) : V → D → Prop
  | non : Rep K ph S .non .non
  | bl (b : Bool) : Rep K ph S (.bl b) (.bl b)
  | int (i : Int) : Rep K ph S (.int i) (.int i)
  | str (x : Str) : Rep K ph S (.str x) (.str x)
  | tup {a : Addr} {xs : List V} {ds : List D} : TupK K S a xs → RepAll K ph S xs ds → Rep K ph S (.ref a) (.tup ds)
  | lst {a : Addr} {xs : List V} {ds : List D} : S a = some (.lst xs) → RepAll K ph S xs ds → Rep K ph S (.ref a) (.lst ds)
  | scr {a : Addr} {ns : List Int} : SqL K S a (ns.map V.int) → Rep K ph S (.ref a) (.scr ns)
  | dct0 {a : Addr} : S a = some (.dK []) → Rep K ph S (.ref a) .dct0
  | own {a : Addr} {k : Nat} : ph.cells[k]? = some a → Rep K ph S (.ref a) (.own k)
  | exc {a C T dd : Addr} {x : Str} {v : V} {d : D} : XA.ErC K x C T → S a = some (erO a C dd) → S dd = some (.xd [(fVal, v)]) → Rep K ph S v d → Rep K ph S (.ref a) (.exc x d)
  | errS {a C : Addr} : XA.ShX K C → S a = some (ExO (.ref C) a) → Rep K ph S (.ref a) .errS
  | glb {a : Addr} {x : Str} : PySem.W.nsIn K mainGlobals x = some (some (.ref a)) → Rep K ph S (.ref a) (.glb x)
  | val (v : V) : Rep K ph S v (.val v)
inductive RepAll (K : PySem.W.Frag) (ph : Ph) (S : Hp) : List V → List D → Prop
  | nil : RepAll K ph S [] []
  | cons {v : V} {vs : List V} {d : D} {ds : List D} : Rep K ph S v d → RepAll K ph S vs ds → RepAll K ph S (v :: vs) (d :: ds)
end
structure Ext (ph : Ph) (S : Hp) (ph' : Ph) (S' : Hp) : Prop where
  pre : ∀ (k : Nat) (a : Addr), ph.cells[k]? = some a → ph'.cells[k]? = some a
  same : Same S S'
  hid : ph'.hid = ph.hid
theorem Ext.refl {ph : Ph} {S : Hp} : Ext ph S ph S := ⟨fun _ _ h => h, fun _ _ h => h, rfl⟩
theorem Ext.trans {ph ph1 ph2 : Ph} {S S1 S2 : Hp} (a : Ext ph S ph1 S1) (b : Ext ph1 S1 ph2 S2) : Ext ph S ph2 S2 :=
  ⟨fun k x h => b.pre k x (a.pre k x h), a.same.trans b.same, b.hid.trans a.hid⟩
section
variable {K : PySem.W.Frag} {ph ph' : Ph} {S S' : Hp}
mutual
theorem Rep.ext (x : Ext ph S ph' S') : ∀ (d : D) (v : V), Rep K ph S v d → Rep K ph' S' v d
  | .non, _, h => by cases h; exact .non
  | .bl _, _, h => by cases h; exact .bl _
  | .int _, _, h => by cases h; exact .int _
  | .str _, _, h => by cases h; exact .str _
  | .tup ds, _, h => by
    cases h with
    | tup h1 h2 => exact .tup (h1.ext x.same) (RepAll.ext x ds _ h2)
  | .lst ds, _, h => by
    cases h with
    | lst h1 h2 => exact .lst (x.same _ _ h1) (RepAll.ext x ds _ h2)
  | .dct0, _, h => by
    cases h with
    | dct0 h1 => exact .dct0 (x.same _ _ h1)
  | .scr ns, _, h => by
    cases h with
    | scr h1 => exact .scr (x.same.seq h1)
  | .own k, _, h => by
    cases h with
    | own h1 => exact .own (x.pre _ _ h1)
  | .errS, _, h => by
    cases h with
    | errS h0 h1 => exact .errS h0 (x.same _ _ h1)
  | .glb _, _, h => by
    cases h with
    | glb h1 => exact .glb h1
  | .exc C d, _, h => by
    cases h with
    | exc h0 h1 h2 h3 => exact .exc h0 (x.same _ _ h1) (x.same _ _ h2) (Rep.ext x d _ h3)
  | .val v, _, h => by cases h; exact .val _
theorem RepAll.ext (x : Ext ph S ph' S') : ∀ (ds : List D) (vs : List V), RepAll K ph S vs ds → RepAll K ph' S' vs ds
  | [], _, h => by cases h; exact .nil
  | d :: ds, _, h => by
    cases h with
    | cons h1 h2 => exact .cons (Rep.ext x d _ h1) (RepAll.ext x ds _ h2)
end
theorem Rep.up {d : D} {v : V} (h : Rep K ph S v d) (x : Ext ph S ph' S') : Rep K ph' S' v d := Rep.ext x d v h
theorem RepAll.up {ds : List D} {vs : List V} (h : RepAll K ph S vs ds) (x : Ext ph S ph' S') : RepAll K ph' S' vs ds := RepAll.ext x ds vs h
theorem RepAll.len : ∀ {vs : List V} {ds : List D}, RepAll K ph S vs ds → vs.length = ds.length
  | _, _, .nil => rfl
  | _, _, .cons _ t => by rw [List.length_cons, List.length_cons, RepAll.len t]
theorem RepAll.get : ∀ {vs : List V} {ds : List D} {i : Nat} {d : D}, RepAll K ph S vs ds → ds[i]? = some d → ∃ v, vs[i]? = some v ∧ Rep K ph S v d
  | _, _, _, _, .nil, e => by simp at e
  | _, _, 0, _, .cons r _, e => by simp at e; subst e; exact ⟨_, rfl, r⟩
  | _, _, i + 1, _, .cons _ t, e => by
    obtain ⟨v, e1, r⟩ := RepAll.get (i := i) t (by simpa using e)
    exact ⟨v, by simpa using e1, r⟩
theorem RepAll.app : ∀ {vs ws : List V} {ds es : List D}, RepAll K ph S vs ds → RepAll K ph S ws es → RepAll K ph S (vs ++ ws) (ds ++ es)
  | _, _, _, _, .nil, q => q
  | _, _, _, _, .cons r t, q => .cons r (RepAll.app t q)
theorem RepAll.take : ∀ {vs : List V} {ds : List D} (n : Nat), RepAll K ph S vs ds → RepAll K ph S (vs.take n) (ds.take n)
  | _, _, 0, _ => .nil
  | _, _, _ + 1, .nil => .nil
  | _, _, n + 1, .cons r t => .cons r (RepAll.take n t)
theorem RepAll.drop : ∀ {vs : List V} {ds : List D} (n : Nat), RepAll K ph S vs ds → RepAll K ph S (vs.drop n) (ds.drop n)
  | _, _, 0, r => r
  | _, _, _ + 1, .nil => .nil
  | _, _, n + 1, .cons r t => RepAll.drop n t
theorem RepAll.set {v : V} {d : D} (r : Rep K ph S v d) : ∀ {vs : List V} {ds : List D} (i : Nat), RepAll K ph S vs ds → RepAll K ph S (vs.set i v) (ds.set i d)
  | _, _, _, .nil => .nil
  | _, _, 0, .cons _ t => .cons r t
  | _, _, i + 1, .cons q t => .cons q (RepAll.set r i t)
theorem RepAll.rep {v : V} {d : D} (r : Rep K ph S v d) : ∀ n : Nat, RepAll K ph S (List.replicate n v) (List.replicate n d)
  | 0 => .nil
  | n + 1 => .cons r (RepAll.rep r n)
theorem RepAll.ints : ∀ ns : List Int, RepAll K ph S (ns.map V.int) (ns.map D.int)
  | [] => .nil
  | n :: ns => .cons (.int n) (RepAll.ints ns)
end
/-- what an owned cell holds -/
def OwnR (K : PySem.W.Frag) (ph : Ph) (S : Hp) : Own → HO → Prop
  | .lst ds, o => ∃ xs, o = .lst xs ∧ RepAll K ph S xs ds
  | .oth (.dT kvs), o => ∃ ys : List (List Key × V), o = .dT ys ∧ ys.map (·.1) = kvs.map (·.1) ∧ RepAll K ph S (ys.map (·.2)) (kvs.map (·.2))
  | .oth (.dK kvs), o => ∃ ys : List (Key × V), o = .dK ys ∧ ys.map (·.1) = kvs.map (·.1) ∧ RepAll K ph S (ys.map (·.2)) (kvs.map (·.2))
  | .oth .dead, _ => True
theorem OwnR.up {K : PySem.W.Frag} {ph ph' : Ph} {S S' : Hp} {w : Own} {o : HO} (h : OwnR K ph S w o) (x : Ext ph S ph' S') : OwnR K ph' S' w o := by
  rcases w with ds | _ | kvs | kvs
  · obtain ⟨xs, e, r⟩ := h; exact ⟨xs, e, r.up x⟩
  · trivial
  · obtain ⟨ys, e, r1, r2⟩ := h; exact ⟨ys, e, r1, r2.up x⟩
  · obtain ⟨ys, e, r1, r2⟩ := h; exact ⟨ys, e, r1, r2.up x⟩
/-- the state (σ, H) is told by the names' data ρ and the owned cells M -/
structure Sat (K : PySem.W.Frag) (ph : Ph) (S : Hp) (r : Env) (M : Mem) (σ : St) (H : Hp) : Prop where
  sub : Same S H
  len : ph.cells.length = M.length
  nd : ph.cells.Nodup
  trk : ∀ (k : Nat) (a : Addr), ph.cells[k]? = some a → ∃ o, H a = some o
  own : ∀ (k : Nat) (w : Own), M[k]? = some w → w.live = true → ∃ a o, ph.cells[k]? = some a ∧ S a = none ∧ H a = some o ∧ OwnR K ph S w o
  hid : ∀ p ∈ ph.hid, H p.1 = some p.2 ∧ S p.1 = none ∧ p.1 ∉ ph.cells
  hnd : (ph.hid.map (·.1)).Nodup
  el : r.length = σ.length
  env : ∀ (i : Nat) (d : D), r[i]? = some (some d) → ∃ v, σ[i]? = some (some v) ∧ Rep K ph S v d
theorem Sat.cell {K : PySem.W.Frag} {ph : Ph} {S : Hp} {r : Env} {M : Mem} {σ : St} {H : Hp} (h : Sat K ph S r M σ H) (k : Nat) (ds : List D) (e : M[k]? = some (.lst ds)) :
    ∃ a xs, ph.cells[k]? = some a ∧ S a = none ∧ H a = some (.lst xs) ∧ RepAll K ph S xs ds := by
  obtain ⟨a, o, h1, h2, h3, xs, rfl, h4⟩ := h.own k _ e rfl
  exact ⟨a, xs, h1, h2, h3, h4⟩
abbrev DQ := D → Mem → Prop
abbrev DTE := Env → Mem → DQ → Prop
abbrev DTT := Env → Mem → (Bool → Mem → Prop) → Prop
abbrev DTA := Env → Mem → (List D → Mem → Prop) → Prop
structure DEnds where
  nx : Env → Mem → Prop
  rt : DQ
  bk : Env → Mem → Prop := fun _ _ => False
  ct : Env → Mem → Prop := fun _ _ => False
abbrev DTS := DEnds → Env → Mem → Prop
/-- behind a piece, from (ph, S): the state as it is then, and what is wanted of it -/
def Aft (K : PySem.W.Frag) (ph : Ph) (S : Hp) (r : Env) (σ : St) (H : Hp) (Q : Ph → Hp → Mem → Prop) : Prop :=
  ∃ ph' S' M, Ext ph S ph' S' ∧ Sat K ph' S' r M σ H ∧ Q ph' S' M
def post (K : PySem.W.Frag) (ph : Ph) (S : Hp) (r : Env) (σ : St) (Q : DQ) : VK := fun v H => Aft K ph S r σ H fun ph' S' M => ∃ d, Rep K ph' S' v d ∧ Q d M
def postT (K : PySem.W.Frag) (ph : Ph) (S : Hp) (r : Env) (σ : St) (Q : Bool → Mem → Prop) : Bool → Hp → Prop := fun b H => Aft K ph S r σ H fun _ _ M => Q b M
def postA (K : PySem.W.Frag) (ph : Ph) (S : Hp) (r : Env) (σ : St) (Q : List D → Mem → Prop) : List V → Hp → Prop := fun vs H => Aft K ph S r σ H fun ph' S' M => ∃ ds, RepAll K ph' S' vs ds ∧ Q ds M
def postN (K : PySem.W.Frag) (ph : Ph) (S : Hp) (Q : Env → Mem → Prop) : St → Hp → Prop := fun σ H => ∃ r, Aft K ph S r σ H fun _ _ M => Q r M
/-- behind a return the names are gone -/
def postR (K : PySem.W.Frag) (ph : Ph) (S : Hp) (Q : DQ) : VK := fun v H => ∃ r σ, post K ph S r σ Q v H
def ends (K : PySem.W.Frag) (ph : Ph) (S : Hp) (E : DEnds) : Ends where
  nx := postN K ph S E.nx
  rt := postR K ph S E.rt
  bk := postN K ph S E.bk
  ct := postN K ph S E.ct
structure DE (X : Cx) (e : Expr) (t : DTE) : Prop where
  pe : PE X e (fun σ H Q => ∃ ph S r M Q0, Sat X.K ph S r M σ H ∧ t r M Q0 ∧ ∀ v H', post X.K ph S r σ Q0 v H' → Q v H')
structure DT (X : Cx) (e : Expr) (t : DTT) : Prop where
  pt : PT X e (fun σ H Q => ∃ ph S r M Q0, Sat X.K ph S r M σ H ∧ t r M Q0 ∧ ∀ b H', postT X.K ph S r σ Q0 b H' → Q b H')
structure DW (X : Cx) (e : Expr) (t : DTT) : Prop where
  pw : PW X e (fun σ H Q => ∃ ph S r M Q0, Sat X.K ph S r M σ H ∧ t r M Q0 ∧ ∀ b H', postT X.K ph S r σ Q0 b H' → Q b H')
structure DA (X : Cx) (es : List Expr) (t : DTA) : Prop where
  pa : PA X es (fun σ H Q => ∃ ph S r M Q0, Sat X.K ph S r M σ H ∧ t r M Q0 ∧ ∀ vs H', postA X.K ph S r σ Q0 vs H' → Q vs H')
def lfS (K : PySem.W.Frag) (t : DTS) : TS := fun E σ H => ∃ ph S r M E0, Sat K ph S r M σ H ∧ t E0 r M ∧ (∀ σ' H', postN K ph S E0.nx σ' H' → E.nx σ' H') ∧ (∀ v H', postR K ph S E0.rt v H' → E.rt v H') ∧ (∀ σ' H', postN K ph S E0.bk σ' H' → E.bk σ' H') ∧ (∀ σ' H', postN K ph S E0.ct σ' H' → E.ct σ' H')
structure DS (X : Cx) (st : Stmt) (t : DTS) : Prop where
  ps : PS X st (lfS X.K t)
structure DSs (X : Cx) (sts : List Stmt) (t : DTS) : Prop where
  pss : PSs X sts (lfS X.K t)
/-! ### weakening the hand layer's judgements -/
section
variable {X : Cx}
theorem PE.weak {e : Expr} {t t' : TE} (h : PE X e t) (w : ∀ σ H Q, t' σ H Q → t σ H Q) : PE X e t' := ⟨fun pins s σ H Q I q => h.run pins s σ H Q I (w _ _ _ q)⟩
theorem PT.weak {e : Expr} {t t' : TT} (h : PT X e t) (w : ∀ σ H Q, t' σ H Q → t σ H Q) : PT X e t' := ⟨fun pins s σ H Q I q => h.run pins s σ H Q I (w _ _ _ q)⟩
theorem PW.weak {e : Expr} {t t' : TT} (h : PW X e t) (w : ∀ σ H Q, t' σ H Q → t σ H Q) : PW X e t' := ⟨fun wh pins s σ H Q I q => h.run wh pins s σ H Q I (w _ _ _ q)⟩
theorem PA.weak {e : List Expr} {t t' : TA} (h : PA X e t) (w : ∀ σ H Q, t' σ H Q → t σ H Q) : PA X e t' := ⟨fun pos pins s σ H Q I q => h.run pos pins s σ H Q I (w _ _ _ q)⟩
theorem PS.weak {e : Stmt} {t t' : TS} (h : PS X e t) (w : ∀ E σ H, t' E σ H → t E σ H) : PS X e t' := ⟨fun pins s σ H Q I q => h.run pins s σ H Q I (w _ _ _ q)⟩
theorem PSs.weak {e : List Stmt} {t t' : TS} (h : PSs X e t) (w : ∀ E σ H, t' E σ H → t E σ H) : PSs X e t' := ⟨fun pins s σ H Q I q => h.run pins s σ H Q I (w _ _ _ q)⟩
/-- from a rule of the hand layer -/
theorem DE.of {e : Expr} {t' : TE} {t : DTE} (h : PE X e t') (w : ∀ ph S r M σ H Q, Sat X.K ph S r M σ H → t r M Q → ∀ Q', (∀ v H', post X.K ph S r σ Q v H' → Q' v H') → t' σ H Q') : DE X e t :=
  ⟨PE.weak h fun σ H Q ⟨ph, S, r, M, Q0, hs, ht, hq⟩ => w ph S r M σ H Q0 hs ht Q hq⟩
theorem DT.of {e : Expr} {t' : TT} {t : DTT} (h : PT X e t') (w : ∀ ph S r M σ H Q, Sat X.K ph S r M σ H → t r M Q → ∀ Q', (∀ v H', postT X.K ph S r σ Q v H' → Q' v H') → t' σ H Q') : DT X e t :=
  ⟨PT.weak h fun σ H Q ⟨ph, S, r, M, Q0, hs, ht, hq⟩ => w ph S r M σ H Q0 hs ht Q hq⟩
theorem DW.of {e : Expr} {t' : TT} {t : DTT} (h : PW X e t') (w : ∀ ph S r M σ H Q, Sat X.K ph S r M σ H → t r M Q → ∀ Q', (∀ v H', postT X.K ph S r σ Q v H' → Q' v H') → t' σ H Q') : DW X e t :=
  ⟨PW.weak h fun σ H Q ⟨ph, S, r, M, Q0, hs, ht, hq⟩ => w ph S r M σ H Q0 hs ht Q hq⟩
theorem DA.of {e : List Expr} {t' : TA} {t : DTA} (h : PA X e t') (w : ∀ ph S r M σ H Q, Sat X.K ph S r M σ H → t r M Q → ∀ Q', (∀ v H', postA X.K ph S r σ Q v H' → Q' v H') → t' σ H Q') : DA X e t :=
  ⟨PA.weak h fun σ H Q ⟨ph, S, r, M, Q0, hs, ht, hq⟩ => w ph S r M σ H Q0 hs ht Q hq⟩
/-- the end of a reading: this value, this state -/
theorem Aft.here {K : PySem.W.Frag} {ph : Ph} {S : Hp} {r : Env} {σ : St} {H : Hp} {M : Mem} {Q : Ph → Hp → Mem → Prop} (h : Sat K ph S r M σ H) (q : Q ph S M) : Aft K ph S r σ H Q := ⟨ph, S, M, .refl, h, q⟩
theorem Aft.up {K : PySem.W.Frag} {ph ph1 : Ph} {S S1 : Hp} {r : Env} {σ : St} {H : Hp} {Q : Ph → Hp → Mem → Prop} (x : Ext ph S ph1 S1) (h : Aft K ph1 S1 r σ H Q) : Aft K ph S r σ H Q :=
  let ⟨ph', S', M, x', hs, q⟩ := h
  ⟨ph', S', M, x.trans x', hs, q⟩
/-! ### the simplest expressions -/
def dC (d : D) : DTE := fun _ M Q => Q d M
theorem de_c {e : Expr} {v : V} {d : D} (h : PE X e (tC v)) (hr : ∀ ph S, Rep X.K ph S v d) : DE X e (dC d) :=
  DE.of h fun ph S r M σ H Q hs ht Q' hq => hq _ _ (Aft.here hs ⟨d, hr _ _, ht⟩)
theorem de_int {i j pos} : DE X (.Constant (.int i) j pos) (dC (.int i)) := de_c pe_int fun _ _ => .int _
theorem de_bl {b j pos} : DE X (.Constant (.bool b) j pos) (dC (.bl b)) := de_c pe_bl fun _ _ => .bl _
theorem de_non {j pos} : DE X (.Constant .none j pos) (dC .non) := de_c pe_non fun _ _ => .non
theorem de_str {x j pos} : DE X (.Constant (.str x) j pos) (dC (.str x)) := de_c pe_str fun _ _ => .str _
def dVar (i : Nat) : DTE := fun r M Q => match r[i]? with
  | some (some d) => Q d M
  | _ => False
theorem de_var {e : Expr} (i : Nat) (h : PE X e (tVar i)) : DE X e (dVar i) :=
  DE.of h fun ph S r M σ H Q hs ht Q' hq => by
    unfold dVar at ht
    split at ht
    · rename_i d e
      obtain ⟨v, e1, rv⟩ := hs.env i d e
      exact ⟨v, e1, hq _ _ (Aft.here hs ⟨d, rv, ht⟩)⟩
    · exact ht.elim
/-- the name in slot i -/
theorem dv (i : Nat) {x : Str} {pos : Pos} (hN : X.N[i]? = some x := by rfl) (hv : Vis X.env.scope x := by first | exact Or.inl rfl | exact Or.inr (Or.inl rfl) | exact Or.inr (Or.inr rfl)) (hd : (x == ("__debug__" : Str)) = false := by decide)
    (hcd : (x == ("__classdict__" : Str)) = false := by decide) : DE X (.Name x pos) (dVar i) := de_var i (pe_var hN hv hd hcd)
end
end DL
/-! DL2: heaps that change; data as PyData; operators -/
namespace DL
open PySem PySem.Spec PyProof.Rows L2
mutual
def toPy : D → Option PyData
  | .non => some .none
  | .bl b => some (.bool b)
  | .int i => some (.int i)
  | .str x => some (.str x)
  | .tup l => match toPyAll l with
    | some ps => some (.tuple ps)
    | none => none
  | .lst l => match toPyAll l with
    | some ps => some (.list ps)
    | none => none
  | .dct0 => some (.dict [])
  | .scr _ => none
  | .own _ => none
  | .exc _ _ => none
  | .errS => none
  | .glb _ => none
  | .val _ => none
def toPyAll : List D → Option (List PyData)
  | [] => some []
  | d :: ds => match toPy d, toPyAll ds with
    | some p, some ps => some (p :: ps)
    | _, _ => none
end
section
variable {K : PySem.W.Frag} {ph ph' : Ph} {S S' : Hp} {r : Env} {M : Mem} {σ : St} {H : Hp} {p : Addr}
mutual
theorem Rep.hidP {c : List Addr} {l l' : List (Addr × HO)} : ∀ (d : D) (v : V), Rep K ⟨c, l⟩ S v d → Rep K ⟨c, l'⟩ S v d
  | .non, _, h => by cases h; exact .non
  | .bl _, _, h => by cases h; exact .bl _
  | .int _, _, h => by cases h; exact .int _
  | .str _, _, h => by cases h; exact .str _
  | .tup ds, _, h => by
    cases h with
    | tup h1 h2 => exact .tup h1 (RepAll.hidP ds _ h2)
  | .lst ds, _, h => by
    cases h with
    | lst h1 h2 => exact .lst h1 (RepAll.hidP ds _ h2)
  | .dct0, _, h => by
    cases h with
    | dct0 h1 => exact .dct0 h1
  | .scr ns, _, h => by
    cases h with
    | scr h1 => exact .scr h1
  | .own k, _, h => by
    cases h with
    | own h1 => exact .own h1
  | .errS, _, h => by
    cases h with
    | errS h0 h1 => exact .errS h0 h1
  | .glb _, _, h => by
    cases h with
    | glb h1 => exact .glb h1
  | .exc C d, _, h => by
    cases h with
    | exc h0 h1 h2 h3 => exact .exc h0 h1 h2 (Rep.hidP d _ h3)
  | .val v, _, h => by cases h; exact .val _
theorem RepAll.hidP {c : List Addr} {l l' : List (Addr × HO)} : ∀ (ds : List D) (vs : List V), RepAll K ⟨c, l⟩ S vs ds → RepAll K ⟨c, l'⟩ S vs ds
  | [], _, h => by cases h; exact .nil
  | d :: ds, _, h => by
    cases h with
    | cons h1 h2 => exact .cons (Rep.hidP d _ h1) (RepAll.hidP ds _ h2)
end
theorem Rep.hid {c : List Addr} {l l' : List (Addr × HO)} {d : D} {v : V} (h : Rep K ⟨c, l⟩ S v d) : Rep K ⟨c, l'⟩ S v d := Rep.hidP d v h
theorem RepAll.hid {c : List Addr} {l l' : List (Addr × HO)} {d : List D} {v : List V} (h : RepAll K ⟨c, l⟩ S v d) : RepAll K ⟨c, l'⟩ S v d := RepAll.hidP d v h
theorem OwnR.hid {c : List Addr} {l l' : List (Addr × HO)} {w : Own} {o : HO} (h : OwnR K ⟨c, l⟩ S w o) : OwnR K ⟨c, l'⟩ S w o := by
  rcases w with ds | _ | kvs | kvs
  · obtain ⟨xs, e, r⟩ := h; exact ⟨xs, e, RepAll.hid r⟩
  · trivial
  · obtain ⟨ys, e, r1, r2⟩ := h; exact ⟨ys, e, r1, RepAll.hid r2⟩
  · obtain ⟨ys, e, r1, r2⟩ := h; exact ⟨ys, e, r1, RepAll.hid r2⟩
theorem Sat.read {d : D} {v : V} (h : Sat K ph S r M σ H) (q : Rep K ph S v d) : Rep K ph H v d := q.up ⟨fun _ _ e => e, h.sub, rfl⟩
theorem Sat.readAll {d : List D} {v : List V} (h : Sat K ph S r M σ H) (q : RepAll K ph S v d) : RepAll K ph H v d := q.up ⟨fun _ _ e => e, h.sub, rfl⟩
theorem Sat.noS (h : Sat K ph S r M σ H) (hp : H p = none) : S p = none := h.sub.free hp
theorem Sat.notin (h : Sat K ph S r M σ H) (hp : H p = none) : ∀ (k : Nat), ph.cells[k]? ≠ some p := fun k e => by
  obtain ⟨o, ho⟩ := h.trk k p e
  rw [hp] at ho; cases ho
theorem sameUpd {p : Addr} {o : HO} (h : H p = none) : Same H (upd H p o) := fun b x e => by
  rw [upd_ne (ne_of_none e h)]
  exact e
/-- a new object that is only read -/
theorem Sat.frz (h : Sat K ph S r M σ H) (hp : H p = none) (o : HO) : Ext ph S ph (upd S p o) ∧ Sat K ph (upd S p o) r M σ (upd H p o) := by
  have x : Ext ph S ph (upd S p o) := ⟨fun _ _ e => e, sameUpd (h.noS hp), rfl⟩
  refine ⟨x, fun b y e => ?_, h.len, h.nd, fun k a e => ?_, fun k ds e hl => ?_, fun q hq => ?_, h.hnd, h.el, fun i d e => ?_⟩
  · by_cases hb : b = p
    · rw [hb, upd_same] at e ⊢
      exact e
    · rw [upd_ne hb] at e ⊢
      exact h.sub b y e
  · obtain ⟨u, hu⟩ := h.trk k a e
    exact ⟨u, sameUpd hp _ _ hu⟩
  · obtain ⟨a, xs, h1, h2, h3, h4⟩ := h.own k ds e hl
    have ne : a ≠ p := fun z => by rw [z, hp] at h3; cases h3
    refine ⟨a, xs, h1, ?_, ?_, h4.up x⟩
    · rw [upd_ne ne]; exact h2
    · rw [upd_ne ne]; exact h3
  · obtain ⟨h1, h2, h3⟩ := h.hid q hq
    have ne : q.1 ≠ p := fun z => by rw [z, hp] at h1; cases h1
    exact ⟨by rw [upd_ne ne]; exact h1, by rw [upd_ne ne]; exact h2, h3⟩
  · obtain ⟨v, e1, q⟩ := h.env i d e
    exact ⟨v, e1, q.up x⟩
/-- a new list that may be changed -/
theorem Sat.newO (h : Sat K ph S r M σ H) (hp : H p = none) {o : HO} {w : Own} (hr : OwnR K ph S w o) :
    Ext ph S (ph.add p) S ∧ Sat K (ph.add p) S r (M ++ [w]) σ (upd H p o) ∧ (ph.add p).cells[M.length]? = some p := by
  have x : Ext ph S (ph.add p) S := ⟨fun k a e => by
    rw [List.getElem?_append_left (List.getElem?_eq_some_iff.mp e).1]; exact e, fun _ _ e => e, rfl⟩
  have here : (ph.add p).cells[M.length]? = some p := by
    rw [← h.len, List.getElem?_append_right (Nat.le_refl _), Nat.sub_self]; rfl
  have old : ∀ (k : Nat) (a : Addr), (ph.add p).cells[k]? = some a → ph.cells[k]? = some a ∨ (k = ph.cells.length ∧ a = p) := fun k a e => by
    by_cases hk : k < ph.cells.length
    · rw [List.getElem?_append_left hk] at e
      exact .inl e
    · rw [List.getElem?_append_right (by omega)] at e
      cases hk' : k - ph.cells.length with
      | zero =>
        rw [hk'] at e
        exact .inr ⟨by omega, (Option.some.inj e).symm⟩
      | succ n => rw [hk'] at e; simp at e
  refine ⟨x, ⟨fun b y e => sameUpd hp _ _ (h.sub b y e), by rw [List.length_append, List.length_append, h.len]; rfl, ?_, fun k a e => ?_, fun k es e hl => ?_, fun q hq => ?_, h.hnd, h.el, fun i d e => ?_⟩, here⟩
  · rw [List.nodup_append]
    refine ⟨h.nd, by simp, fun a ha b hb z => ?_⟩
    have hb' : b = p := by simpa using hb
    obtain ⟨k, hk⟩ := List.mem_iff_getElem?.mp ha
    exact h.notin hp k (by rw [hk, z, hb'])
  · rcases old k a e with q | ⟨_, q⟩
    · obtain ⟨u, hu⟩ := h.trk k a q
      exact ⟨u, sameUpd hp _ _ hu⟩
    · exact ⟨_, by rw [q, upd_same]⟩
  · by_cases hk : k < M.length
    · rw [List.getElem?_append_left hk] at e
      obtain ⟨a, ys, h1, h2, h3, h4⟩ := h.own k es e hl
      exact ⟨a, ys, x.pre _ _ h1, h2, sameUpd hp _ _ h3, h4.up x⟩
    · rw [List.getElem?_append_right (by omega)] at e
      cases hk' : k - M.length with
      | succ n => rw [hk'] at e; simp at e
      | zero =>
        rw [hk'] at e
        have e' : w = es := by simpa using e
        have k' : k = M.length := by omega
        subst e'
        subst k'
        exact ⟨p, o, here, h.noS hp, upd_same, hr.up x⟩
  · obtain ⟨h1, h2, h3⟩ := h.hid q hq
    have ne : q.1 ≠ p := fun z => by rw [z, hp] at h1; cases h1
    exact ⟨by rw [upd_ne ne]; exact h1, h2, fun z => (List.mem_append.mp z).elim h3 fun z => ne (by simpa using z)⟩
  · obtain ⟨v, e1, q⟩ := h.env i d e
    exact ⟨v, e1, q.up x⟩
theorem Sat.new (h : Sat K ph S r M σ H) (hp : H p = none) {xs : List V} {ds : List D} (hr : RepAll K ph S xs ds) :
    Ext ph S (ph.add p) S ∧ Sat K (ph.add p) S r (M ++ [.lst ds]) σ (upd H p (.lst xs)) ∧ (ph.add p).cells[M.length]? = some p := h.newO hp ⟨xs, rfl, hr⟩
theorem nd_ix {l : List Addr} (hN : l.Nodup) {i j : Nat} {x : Addr} (a : l[i]? = some x) (b : l[j]? = some x) : i = j := by
  obtain ⟨h1, e1⟩ := List.getElem?_eq_some_iff.mp a
  obtain ⟨h2, e2⟩ := List.getElem?_eq_some_iff.mp b
  exact (List.getElem_inj hN).mp (e1.trans e2.symm)
/-- an owned list is changed -/
theorem Sat.putO (h : Sat K ph S r M σ H) {k : Nat} {w w2 : Own} {o : HO} (hk : M[k]? = some w) (hw : w.live = true) {a : Addr} (ha : ph.cells[k]? = some a) (hr : OwnR K ph S w2 o) :
    Sat K ph S r (M.set k w2) σ (upd H a o) := by
  obtain ⟨a', ys, h1, h2, h3, h4⟩ := h.own k w hk hw
  rw [ha] at h1
  cases h1
  have kl : k < M.length := (List.getElem?_eq_some_iff.mp hk).1
  refine ⟨fun b y e => ?_, by rw [List.length_set]; exact h.len, h.nd, fun j b e => ?_, fun j fs e hl => ?_, fun q hq => ?_, h.hnd, h.el, h.env⟩
  · rw [upd_ne (fun z => by rw [z, h2] at e; cases e)]
    exact h.sub b y e
  · by_cases hb : b = a
    · exact ⟨_, by rw [hb, upd_same]⟩
    · rw [upd_ne hb]; exact h.trk j b e
  · by_cases hj : j = k
    · subst hj
      rw [List.getElem?_set_self kl] at e
      cases e
      exact ⟨a, o, ha, h2, upd_same, hr⟩
    · rw [List.getElem?_set_ne (Ne.symm hj)] at e
      obtain ⟨b, zs, q1, q2, q3, q4⟩ := h.own j fs e hl
      have nb : b ≠ a := fun z => by rw [z] at q1; exact hj (nd_ix h.nd q1 ha)
      exact ⟨b, zs, q1, q2, by rw [upd_ne nb]; exact q3, q4⟩
  · obtain ⟨h1, h2, h3⟩ := h.hid q hq
    have ne : q.1 ≠ a := fun z => h3 (by rw [z]; exact List.mem_of_getElem? ha)
    exact ⟨by rw [upd_ne ne]; exact h1, h2, h3⟩
theorem Sat.put (h : Sat K ph S r M σ H) {k : Nat} {ds es : List D} {xs : List V} (hk : M[k]? = some (.lst ds)) {a : Addr} (ha : ph.cells[k]? = some a) (hr : RepAll K ph S xs es) :
    Sat K ph S r (M.set k (.lst es)) σ (upd H a (.lst xs)) := h.putO hk rfl ha ⟨xs, rfl, hr⟩
/-- the names change -/
theorem Sat.setN (h : Sat K ph S r M σ H) {i : Nat} {d : D} {v : V} (q : Rep K ph S v d) : Sat K ph S (r.set i (some d)) M (σ.set i (some v)) H := by
  refine ⟨h.sub, h.len, h.nd, h.trk, h.own, h.hid, h.hnd, by rw [List.length_set, List.length_set]; exact h.el, fun j e hj => ?_⟩
  by_cases hi : j = i
  · subst hi
    have jl : j < r.length := by
      have := (List.getElem?_eq_some_iff.mp hj).1
      rwa [List.length_set] at this
    rw [List.getElem?_set_self jl] at hj
    cases hj
    exact ⟨v, by rw [List.getElem?_set_self (by rw [← h.el]; exact jl)], q⟩
  · rw [List.getElem?_set_ne (Ne.symm hi)] at hj
    rw [List.getElem?_set_ne (Ne.symm hi)]
    exact h.env j e hj
/-- a new list, out of sight while it is made -/
theorem Sat.hide (h : Sat K ph S r M σ H) (hp : H p = none) (o : HO) : Sat K { ph with hid := (p, o) :: ph.hid } S r M σ (upd H p o) := by
  refine ⟨fun b y e => sameUpd hp _ _ (h.sub b y e), h.len, h.nd, fun k a e => ?_, fun k ds e hl => ?_, fun q hq => ?_, ?_, h.el, fun i d e => ?_⟩
  · obtain ⟨u, hu⟩ := h.trk k a e
    exact ⟨u, sameUpd hp _ _ hu⟩
  · obtain ⟨a, xs, h1, h2, h3, h4⟩ := h.own k ds e hl
    exact ⟨a, xs, h1, h2, sameUpd hp _ _ h3, OwnR.hid h4⟩
  · rcases List.mem_cons.mp hq with e | hq
    · rw [e]
      exact ⟨upd_same, h.noS hp, fun z => by
        obtain ⟨k, hk⟩ := List.mem_iff_getElem?.mp z
        exact h.notin hp k hk⟩
    · obtain ⟨h1, h2, h3⟩ := h.hid q hq
      exact ⟨sameUpd hp _ _ h1, h2, h3⟩
  · refine List.nodup_cons.mpr ⟨fun z => ?_, h.hnd⟩
    obtain ⟨q, hq, e⟩ := List.mem_map.mp z
    obtain ⟨h1, _, _⟩ := h.hid q hq
    have e' : q.1 = p := e
    rw [e', hp] at h1; cases h1
  · obtain ⟨v, e1, q⟩ := h.env i d e
    exact ⟨v, e1, Rep.hid q⟩
theorem hid_ne {p : Addr} {o : HO} {l : List (Addr × HO)} (h : ((p, o) :: l).map (·.1) |>.Nodup) : ∀ q ∈ l, q.1 ≠ p := fun q hq e =>
  (List.nodup_cons.mp h).1 (List.mem_map.mpr ⟨q, hq, e⟩)
/-- the hidden list changes -/
theorem Sat.hset {o o' : HO} {l : List (Addr × HO)} {c : List Addr} (h : Sat K ⟨c, (p, o) :: l⟩ S r M σ H) : Sat K ⟨c, (p, o') :: l⟩ S r M σ (upd H p o') := by
  obtain ⟨g1, g2, g3⟩ := h.hid _ List.mem_cons_self
  have nS : ∀ b y, S b = some y → b ≠ p := fun b y e z => by rw [z, g2] at e; cases e
  have nc : ∀ (k : Nat) (a : Addr), c[k]? = some a → a ≠ p := fun k a e z => g3 (by rw [← z]; exact List.mem_of_getElem? e)
  refine ⟨fun b y e => by rw [upd_ne (nS b y e)]; exact h.sub b y e, h.len, h.nd, fun k a e => ?_, fun k ds e hl => ?_, fun q hq => ?_, h.hnd, h.el, fun i d e => ?_⟩
  · obtain ⟨u, hu⟩ := h.trk k a e
    exact ⟨u, by rw [upd_ne (nc k a e)]; exact hu⟩
  · obtain ⟨a, xs, h1, h2, h3, h4⟩ := h.own k ds e hl
    exact ⟨a, xs, h1, h2, by rw [upd_ne (nc k a h1)]; exact h3, OwnR.hid h4⟩
  · rcases List.mem_cons.mp hq with e | hq
    · rw [e]
      exact ⟨upd_same, g2, g3⟩
    · obtain ⟨h1, h2, h3⟩ := h.hid q (List.mem_cons_of_mem _ hq)
      exact ⟨by rw [upd_ne (hid_ne h.hnd q hq)]; exact h1, h2, h3⟩
  · obtain ⟨v, e1, q⟩ := h.env i d e
    exact ⟨v, e1, Rep.hid q⟩
/-- the hidden list is done: it is only read from now on -/
theorem Sat.hfrz {o : HO} {l : List (Addr × HO)} {c : List Addr} (h : Sat K ⟨c, (p, o) :: l⟩ S r M σ H) : Ext ⟨c, l⟩ S ⟨c, l⟩ (upd S p o) ∧ Sat K ⟨c, l⟩ (upd S p o) r M σ H := by
  obtain ⟨g1, g2, g3⟩ := h.hid _ List.mem_cons_self
  have x : Ext ⟨c, l⟩ S ⟨c, l⟩ (upd S p o) := ⟨fun _ _ e => e, sameUpd g2, rfl⟩
  refine ⟨x, fun b y e => ?_, h.len, h.nd, h.trk, fun k ds e hl => ?_, fun q hq => ?_, (List.nodup_cons.mp h.hnd).2, h.el, fun i d e => ?_⟩
  · by_cases hb : b = p
    · rw [hb, upd_same] at e
      rw [hb, ← e]; exact g1
    · rw [upd_ne hb] at e
      exact h.sub b y e
  · obtain ⟨a, xs, h1, h2, h3, h4⟩ := h.own k ds e hl
    have ne : a ≠ p := fun z => g3 (by rw [← z]; exact List.mem_of_getElem? h1)
    exact ⟨a, xs, h1, by rw [upd_ne ne]; exact h2, h3, (OwnR.hid h4).up x⟩
  · obtain ⟨h1, h2, h3⟩ := h.hid q (List.mem_cons_of_mem _ hq)
    exact ⟨h1, by rw [upd_ne (hid_ne h.hnd q hq)]; exact h2, h3⟩
  · obtain ⟨v, e1, q⟩ := h.env i d e
    exact ⟨v, e1, (Rep.hid q).up x⟩
/-- .. or it is owned from now on -/
theorem Sat.hownO {o : HO} {w : Own} {l : List (Addr × HO)} {c : List Addr} (h : Sat K ⟨c, (p, o) :: l⟩ S r M σ H) (q : OwnR K ⟨c, l⟩ S w o) :
    Ext ⟨c, l⟩ S ⟨c ++ [p], l⟩ S ∧ Sat K ⟨c ++ [p], l⟩ S r (M ++ [w]) σ H ∧ (c ++ [p])[M.length]? = some p := by
  obtain ⟨g1, g2, g3⟩ := h.hid _ List.mem_cons_self
  have hl : c.length = M.length := h.len
  have x : Ext ⟨c, l⟩ S ⟨c ++ [p], l⟩ S := ⟨fun k a e => by
    show (c ++ [p])[k]? = _
    rw [List.getElem?_append_left (List.getElem?_eq_some_iff.mp e).1]; exact e, fun _ _ e => e, rfl⟩
  have here : (c ++ [p])[M.length]? = some p := by rw [← hl, List.getElem?_append_right (Nat.le_refl _), Nat.sub_self]; rfl
  have old : ∀ (k : Nat) (a : Addr), (c ++ [p])[k]? = some a → c[k]? = some a ∨ a = p := fun k a e => by
    by_cases hk : k < c.length
    · rw [List.getElem?_append_left hk] at e
      exact .inl e
    · rw [List.getElem?_append_right (by omega)] at e
      cases hk' : k - c.length with
      | zero => rw [hk'] at e; exact .inr (Option.some.inj e).symm
      | succ n => rw [hk'] at e; simp at e
  refine ⟨x, ⟨h.sub, ?_, ?_, fun k a e => ?_, fun k es e hl => ?_, fun q hq => ?_, (List.nodup_cons.mp h.hnd).2, h.el, fun i d e => ?_⟩, here⟩
  · show (c ++ [p]).length = _
    rw [List.length_append, List.length_append, hl]; rfl
  · show (c ++ [p]).Nodup
    rw [List.nodup_append]
    exact ⟨h.nd, by simp, fun a ha b hb z => g3 (by rw [show b = p by simpa using hb] at z; rw [← z]; exact ha)⟩
  · rcases old k a e with z | z
    · exact h.trk k a z
    · exact ⟨_, by rw [z]; exact g1⟩
  · by_cases hk : k < M.length
    · rw [List.getElem?_append_left hk] at e
      obtain ⟨a, ys, h1, h2, h3, h4⟩ := h.own k es e hl
      exact ⟨a, ys, x.pre _ _ h1, h2, h3, (OwnR.hid h4).up x⟩
    · rw [List.getElem?_append_right (by omega)] at e
      cases hk' : k - M.length with
      | succ n => rw [hk'] at e; simp at e
      | zero =>
        rw [hk'] at e
        have e' : w = es := by simpa using e
        have k' : k = M.length := by omega
        subst e'
        subst k'
        exact ⟨p, o, here, g2, g1, q.up x⟩
  · obtain ⟨h1, h2, h3⟩ := h.hid q (List.mem_cons_of_mem _ hq)
    exact ⟨h1, h2, fun z => by
      rcases List.mem_append.mp z with z | z
      · exact h3 z
      · exact hid_ne h.hnd q hq (by simpa using z)⟩
  · obtain ⟨v, e1, q⟩ := h.env i d e
    exact ⟨v, e1, (Rep.hid q).up x⟩
theorem Sat.hown {xs : List V} {ds : List D} {l : List (Addr × HO)} {c : List Addr} (h : Sat K ⟨c, (p, .lst xs) :: l⟩ S r M σ H) (q : RepAll K ⟨c, l⟩ S xs ds) :
    Ext ⟨c, l⟩ S ⟨c ++ [p], l⟩ S ∧ Sat K ⟨c ++ [p], l⟩ S r (M ++ [.lst ds]) σ H ∧ (c ++ [p])[M.length]? = some p := h.hownO ⟨xs, rfl, q⟩
/-! ### data as the library's data -/
variable {X : Cx} {pins : List (Addr × Obj)} {s : Shared}
mutual
theorem Rep.reads (I : Inv X pins σ H s) : ∀ (d : D) (v : V) (u : Value) (p : PyData), Rep X.K ph H v d → RelV v u → toPy d = some p → ∃ as, Reads s.heap u p as ∧ ∀ a ∈ as, H a ≠ none
  | .non, _, _, _, h, rv, e => by cases h; cases rv; cases e; exact ⟨_, .none, fun _ z => nomatch z⟩
  | .bl _, _, _, _, h, rv, e => by cases h; cases rv; cases e; exact ⟨_, .bool _, fun _ z => nomatch z⟩
  | .int _, _, _, _, h, rv, e => by cases h; obtain ⟨t, rfl⟩ := rv; cases e; exact ⟨_, .int _ _, fun _ z => nomatch z⟩
  | .str _, _, _, _, h, rv, e => by cases h; obtain ⟨t, rfl⟩ := rv; cases e; exact ⟨_, .str _ _, fun _ z => nomatch z⟩
  | .tup ds, _, _, _, h, rv, e => by
    cases h with
    | tup h1 h2 =>
      cases rv
      simp only [toPy] at e
      split at e
      · rename_i ps ep
        cases e
        obtain ⟨its, rx, ⟨o, ho, hc, n, hd⟩, _⟩ := I.tuple (h1.sq fun _ _ z => z)
        obtain ⟨as, q, qa⟩ := RepAll.reads I ds _ its ps h2 rx ep
        exact ⟨_, .tuple ho hc hd q, qa⟩
      · cases e
  | .lst ds, _, _, _, h, rv, e => by
    cases h with
    | lst h1 h2 =>
      cases rv
      simp only [toPy] at e
      split at e
      · rename_i ps ep
        cases e
        obtain ⟨its, rx, ⟨o, n, ho, hc, _, hd⟩, _⟩ := I.list (SqL.of h1)
        obtain ⟨as, q, qa⟩ := RepAll.reads I ds _ its ps h2 rx ep
        refine ⟨_, .list ho hc hd q, fun a ha => ?_⟩
        rcases List.mem_cons.mp ha with e | ha
        · rw [e, h1]; exact fun z => nomatch z
        · exact qa a ha
      · cases e
  | .dct0, _, _, _, h, rv, e => by
    cases h with
    | dct0 h1 =>
      cases rv
      cases e
      obtain ⟨_, _, vs, hk, o, es, ep, ho, hx, hd, _, he, _⟩ := I.hok _ _ h1
      cases hk
      have e0 : es = #[] := by
        cases es with
        | mk l =>
          cases l with
          | nil => rfl
          | cons x l => exact nomatch he
      subst e0
      refine ⟨_, .dict ho hx.1 hd .nil .nil, fun a ha => ?_⟩
      simp at ha
      rw [ha, h1]; exact fun z => nomatch z
  | .scr ns, _, _, _, _, _, e => by cases e
  | .own _, _, _, _, _, _, e => by cases e
  | .exc _ _, _, _, _, _, _, e => by cases e
  | .errS, _, _, _, _, _, e => by cases e
  | .glb _, _, _, _, _, _, e => by cases e
  | .val _, _, _, _, _, _, e => by cases e
theorem RepAll.reads (I : Inv X pins σ H s) : ∀ (ds : List D) (vs : List V) (us : List Value) (ps : List PyData), RepAll X.K ph H vs ds → Vals vs us → toPyAll ds = some ps → ∃ as, ReadsAll s.heap us ps as ∧ ∀ a ∈ as, H a ≠ none
  | [], _, _, _, h, rv, e => by cases h; cases rv; cases e; exact ⟨_, .nil, fun _ z => nomatch z⟩
  | d :: ds, _, _, _, h, rv, e => by
    cases h with
    | cons h1 h2 =>
      cases rv with
      | cons r1 r2 =>
        simp only [toPyAll] at e
        split at e
        · rename_i p ps ep eps
          cases e
          obtain ⟨as, q1, a1⟩ := Rep.reads I d _ _ p h1 r1 ep
          obtain ⟨bs, q2, a2⟩ := RepAll.reads I ds _ _ ps h2 r2 eps
          refine ⟨_, .cons q1 q2, fun a ha => ?_⟩
          rcases List.mem_append.mp ha with ha | ha
          · exact a1 a ha
          · exact a2 a ha
        · cases e
end
end
end DL
/-! DL3: operators, comparisons, truth, displays -/
namespace DL
open PySem PySem.Spec PyProof.Rows L2
variable {X : Cx}
/-! ### two values -/
abbrev G2 := D → D → Mem → DQ → Prop
def OpD (X : Cx) (f : Value → Value → Sem Value) (g : G2) : Prop :=
  ∀ (pins : List (Addr × Obj)) (s : Shared) (σ : St) (H : Hp) (ph : Ph) (S : Hp) (r : Env) (M : Mem) (x y : V) (dx dy : D) (v u : Value) (Q : DQ),
    Inv X pins σ H s → Sat X.K ph S r M σ H → RelV x v → RelV y u → Rep X.K ph S x dx → Rep X.K ph S y dy → g dx dy M Q →
    wpAny (model X.prog X.w) X.A (f v u) (EP X pins σ (post X.K ph S r σ Q)) X.xe s
theorem OpD.of {f : Value → Value → Sem Value} {r2 : R2} {g : G2} (h : OpR X f r2)
    (w : ∀ (σ : St) (H : Hp) (ph : Ph) (S : Hp) (r : Env) (M : Mem) (x y : V) (dx dy : D) (Q : DQ), Sat X.K ph S r M σ H → Rep X.K ph S x dx → Rep X.K ph S y dy → g dx dy M Q → r2 x y H (post X.K ph S r σ Q)) : OpD X f g :=
  fun pins s σ H ph S r M x y dx dy v u Q I hs rx ry qx qy hg => h pins s σ H x y v u _ I rx ry (w σ H ph S r M x y dx dy Q hs qx qy hg)
theorem binD {a b : Expr} {ta tb : DTE} (ha : DE X a ta) (hb : DE X b tb) {pins : List (Addr × Obj)} {s : Shared} {σ : St} {H : Hp} {ph : Ph} {S : Hp} {r : Env} {M : Mem} {g : D → D → Mem → Prop}
    (I : Inv X pins σ H s) (hs : Sat X.K ph S r M σ H) (h : ta r M fun x M1 => tb r M1 fun y M2 => g x y M2) {α : Type} {Q : α → Shared → Prop} {f : Value → Value → Sem α}
    (hf : ∀ v u s2 x y dx dy H2 ph2 S2 M2, Ext ph S ph2 S2 → Inv X pins σ H2 s2 → Sat X.K ph2 S2 r M2 σ H2 → RelV x v → RelV y u → Rep X.K ph2 S2 x dx → Rep X.K ph2 S2 y dy → g dx dy M2 → wpAny (model X.prog X.w) X.A (f v u) Q X.xe s2) :
    wpAny (model X.prog X.w) X.A (eval a X.env) (fun v s1 => wpAny (model X.prog X.w) X.A (eval b X.env) (fun u s2 => wpAny (model X.prog X.w) X.A (f v u) Q X.xe s2) X.xe s1) X.xe s := by
  refine thn (ha.pe.run pins s σ H _ I ⟨ph, S, r, M, _, hs, h, fun _ _ q => q⟩) fun v s1 ⟨x, H1, I1, r1, ph1, S1, M1, x1, hs1, dx, q1, h1⟩ => ?_
  refine thn (hb.pe.run pins s1 σ H1 _ I1 ⟨ph1, S1, r, M1, _, hs1, h1, fun _ _ q => q⟩) fun u s2 ⟨y, H2, I2, r2, ph2, S2, M2, x2, hs2, dy, q2, h2⟩ => ?_
  exact hf v u s2 x y dx dy H2 ph2 S2 M2 (x1.trans x2) I2 hs2 r1 r2 (q1.up x2) q2 h2
def dOp (g : G2) (ta tb : DTE) : DTE := fun r M Q => ta r M fun x M1 => tb r M1 fun y M2 => g x y M2 Q
theorem EP.up {pins : List (Addr × Obj)} {σ : St} {ph ph1 : Ph} {S S1 : Hp} {r : Env} {Q : DQ} {u : Value} {s : Shared} (x : Ext ph S ph1 S1) (h : EP X pins σ (post X.K ph1 S1 r σ Q) u s) {Q' : VK} (w : ∀ v H', post X.K ph S r σ Q v H' → Q' v H') : EP X pins σ Q' u s :=
  let ⟨v, H', I, rv, q⟩ := h
  ⟨v, H', I, rv, w _ _ (Aft.up x q)⟩
theorem de_op {a b : Expr} {ta tb : DTE} {op : Operator} {g : G2} {pos : Pos} (ho : OpD X (binaryOp op) g) (ha : DE X a ta) (hb : DE X b tb) : DE X (.BinOp a op b pos) (dOp g ta tb) :=
  ⟨⟨fun pins s σ H Q I ⟨ph, S, r, M, Q0, hs, ht, hq⟩ => wpAny_BinOp (binD ha hb I hs ht fun v u s2 x y dx dy H2 ph2 S2 M2 x2 I2 hs2 rx ry qx qy h =>
    thn (ho pins s2 σ H2 ph2 S2 r M2 x y dx dy v u Q0 I2 hs2 rx ry qx qy h) fun _ _ q => EP.up x2 q hq)⟩⟩
theorem de_cmp {a b : Expr} {ta tb : DTE} {op : CmpOp} {g : G2} {pos : Pos} (ho : OpD X (compareOp op) g) (ha : DE X a ta) (hb : DE X b tb) (hm : behindInMarks op b = false) : DE X (.Compare a [op] [b] pos) (dOp g ta tb) :=
  ⟨⟨fun pins s σ H Q I ⟨ph, S, r, M, Q0, hs, ht, hq⟩ => wpAny_Compare1 (binD ha hb I hs ht fun v u s2 x y dx dy H2 ph2 S2 M2 x2 I2 hs2 rx ry qx qy h =>
    thn (ho pins s2 σ H2 ph2 S2 r M2 x y dx dy v u Q0 I2 hs2 rx ry qx qy h) fun _ _ q => EP.up x2 q hq) hm⟩⟩
/-! ### arithmetic -/
/-- of moderate size -/
def Sm (i : Int) : Prop := i.natAbs.log2 < 400000
theorem Sm.of {i : Int} (n : Nat) (h : i.natAbs < 2 ^ n) (hn : n ≤ 400000 := by decide) : Sm i := by
  unfold Sm
  by_cases h0 : i.natAbs = 0
  · rw [h0]; decide
  · exact Nat.lt_of_lt_of_le ((Nat.log2_lt h0).mpr h) hn
def rBin (C : Int → Int → Prop) (f : Int → Int → Int) : G2 := fun x y M Q => match x, y with
  | .int i, .int j => C i j ∧ Q (.int (f i j)) M
  | _, _ => False
theorem opd_int {F : Value → Value → Sem Value} {C : Int → Int → Prop} {f : Int → Int → Int} (h : OpR X F (rI C fun i j => .int (f i j))) : OpD X F (rBin C f) :=
  OpD.of h fun σ H ph S r M x y dx dy Q hs rx ry hg => by
    cases dx <;> cases dy <;> first | exact hg.elim | skip
    cases rx; cases ry
    exact ⟨_, _, rfl, rfl, hg.1, Aft.here hs ⟨_, .int _, hg.2⟩⟩
theorem opd_sub : OpD X (binaryOp .Sub) (rBin (fun _ _ => True) fun i j => i - j) := opd_int (fun pins s σ H x y v u Q I r1 r2 ⟨i, j, e1, e2, _, q⟩ => op_sub pins s σ H x y v u Q I r1 r2 ⟨i, j, e1, e2, q⟩)
def CMul (i j : Int) : Prop := Sm i ∧ Sm j
def CDiv (_ j : Int) : Prop := j ≠ 0 ∧ j.natAbs.log2 < 9000
def CMod (_ j : Int) : Prop := j ≠ 0
def CPow (a n : Int) : Prop := 0 ≤ n ∧ (Builtin.Int.intBits a : Int) * n ≤ 2 ^ 27
theorem opd_mulI : OpD X (binaryOp .Mult) (rBin CMul fun i j => i * j) := opd_int (fun pins s σ H x y v u Q I r1 r2 ⟨i, j, e1, e2, c, q⟩ => op_mulW pins s σ H x y v u Q I r1 r2 ⟨i, j, e1, e2, by have h1 := c.1; have h2 := c.2; unfold Sm at h1 h2; unfold L2.CMulW; omega, q⟩)
theorem op_fdivG : OpR X (binaryOp .FloorDiv) (rI CDiv fun i j => .int (i.fdiv j)) := opI fun i j _ _ _ _ _ hc q => floordiv_int hc.1 q (.inl (PyProof.noPylong_of_log2 hc.2))
theorem opd_fdiv : OpD X (binaryOp .FloorDiv) (rBin CDiv fun i j => i.fdiv j) := opd_int op_fdivG
theorem opd_mod : OpD X (binaryOp .Mod) (rBin CMod fun i j => i.fmod j) := opd_int op_modN
theorem op_powG : OpR X (binaryOp .Pow) (rI CPow fun i j => .int (i ^ j.toNat)) := opI fun i j _ _ _ _ _ hc q => pow_int hc.1 hc.2 q
theorem opd_pow : OpD X (binaryOp .Pow) (rBin CPow fun i j => i ^ j.toNat) := opd_int op_powG
/-- x + y -/
def gAdd : G2 := fun x y M Q => match x, y with
  | .int i, .int j => Q (.int (i + j)) M
  | .str a, .str b => a.length + b.length ≤ sizeLine ∧ Q (.str (a ++ b)) M
  | .lst a, .lst b => a.length + b.length ≤ sizeLine ∧ Q (.lst (a ++ b)) M
  | .tup a, .tup b => a.length + b.length ≤ sizeLine ∧ Q (.tup (a ++ b)) M
  | .own k, .lst b => match M[k]? with
    | some (.lst a) => a.length + b.length ≤ sizeLine ∧ Q (.lst (a ++ b)) M
    | _ => False
  | .lst b, .own k => match M[k]? with
    | some (.lst a) => b.length + a.length ≤ sizeLine ∧ Q (.lst (b ++ a)) M
    | _ => False
  | _, _ => False
theorem Aft.frz {K : PySem.W.Frag} {ph : Ph} {S : Hp} {r : Env} {σ : St} {H : Hp} {M : Mem} {p : Addr} {o : HO} {Q : Ph → Hp → Mem → Prop} (h : Sat K ph S r M σ H) (hp : H p = none) (q : Ext ph S ph (upd S p o) → Q ph (upd S p o) M) : Aft K ph S r σ (upd H p o) Q :=
  let ⟨x, hs⟩ := h.frz hp o
  ⟨ph, _, M, x, hs, q x⟩
theorem opd_add : OpD X (binaryOp .Add) gAdd := by
  intro pins s σ H ph S r M x y dx dy v u Q I hs rx ry qx qy hg
  cases dx <;> cases dy <;> first | exact hg.elim | skip
  · cases qx; cases qy
    exact op_add pins s σ H _ _ v u _ I rx ry ⟨_, _, rfl, rfl, Aft.here hs ⟨_, .int _, hg⟩⟩
  · cases qx; cases qy
    exact op_add_str pins s σ H _ _ v u _ I rx ry ⟨_, _, rfl, rfl, hg.1, Aft.here hs ⟨_, .str _, hg.2⟩⟩
  · cases qx with
    | tup h1 h2 =>
      cases qy with
      | tup h3 h4 =>
        obtain ⟨hz, q⟩ := hg
        rename_i xs _ ys
        have e1 := h2.len
        have e2 := h4.len
        refine op_catA pins s σ H _ _ v u _ I rx ry ⟨_, _, xs, ys, rfl, rfl, h1.sq hs.sub, h3.sq hs.sub, by omega, fun z => ?_, fun _ z => ?_, fun _ _ p hp => Aft.frz hs hp fun x => ⟨_, .tup (.inl upd_same) ((h2.app h4).up x), q⟩⟩
        · refine Aft.here hs ⟨_, .tup h3 ?_, q⟩
          rw [z] at h2
          cases h2
          exact h4
        · refine Aft.here hs ⟨_, .tup h1 ?_, q⟩
          rw [z] at h4
          cases h4
          rw [List.append_nil]; exact h2
  · cases qx with
    | lst h1 h2 =>
      cases qy with
      | lst h3 h4 =>
        have e1 := h2.len
        have e2 := h4.len
        exact op_cat pins s σ H _ _ v u _ I rx ry ⟨_, _, _, _, rfl, rfl, hs.sub _ _ h1, hs.sub _ _ h3, by have := hg.1; omega, fun p hp => Aft.frz hs hp fun x => ⟨_, .lst upd_same ((h2.app h4).up x), hg.2⟩⟩
  · cases qx with
    | lst h1 h2 =>
      cases qy with
      | own h3 =>
        rename_i b k _ _ _
        simp only [gAdd] at hg
        split at hg
        · rename_i a hk
          obtain ⟨a1, xs1, c1, c2, c3, c4⟩ := hs.cell k a hk
          rw [h3] at c1; cases c1
          have e1 := h2.len
          have e2 := c4.len
          exact op_cat pins s σ H _ _ v u _ I rx ry ⟨_, _, _, _, rfl, rfl, hs.sub _ _ h1, c3, by have := hg.1; omega, fun p hp => Aft.frz hs hp fun x => ⟨_, .lst upd_same ((h2.app c4).up x), hg.2⟩⟩
        · exact hg.elim
  · cases qx with
    | own h3 =>
      cases qy with
      | lst h1 h2 =>
        rename_i k b _ _ _
        simp only [gAdd] at hg
        split at hg
        · rename_i a hk
          obtain ⟨a1, xs1, c1, c2, c3, c4⟩ := hs.cell k a hk
          rw [h3] at c1; cases c1
          have e1 := h2.len
          have e2 := c4.len
          exact op_cat pins s σ H _ _ v u _ I rx ry ⟨_, _, _, _, rfl, rfl, c3, hs.sub _ _ h1, by have := hg.1; omega, fun p hp => Aft.frz hs hp fun x => ⟨_, .lst upd_same ((c4.app h2).up x), hg.2⟩⟩
        · exact hg.elim
/-! ### comparisons -/
def gCmpI (p : Int → Int → Bool) : G2 := fun x y M Q => match x, y with
  | .int i, .int j => Q (.bl (p i j)) M
  | _, _ => False
theorem opd_cmpI {F : Value → Value → Sem Value} {p : Int → Int → Bool} (h : OpR X F (rI0 fun i j => .bl (p i j))) : OpD X F (gCmpI p) :=
  OpD.of h fun σ H ph S r M x y dx dy Q hs rx ry hg => by
    cases dx <;> cases dy <;> first | exact hg.elim | skip
    cases rx; cases ry
    exact ⟨_, _, rfl, rfl, Aft.here hs ⟨_, .bl _, hg⟩⟩
theorem opd_lt : OpD X (compareOp .Lt) (gCmpI fun i j => decide (i < j)) := opd_cmpI op_lt
theorem opd_gt : OpD X (compareOp .Gt) (gCmpI fun i j => decide (j < i)) := opd_cmpI op_gt
/-- an owned list as it stands -/
def res (M : Mem) : D → D
  | .own k => match M[k]? with
    | some (.lst ds) => .lst ds
    | _ => .own k
  | d => d
theorem Rep.res {K : PySem.W.Frag} {ph : Ph} {S : Hp} {r : Env} {M : Mem} {σ : St} {H : Hp} {v : V} {d : D} (hs : Sat K ph S r M σ H) (q : Rep K ph S v d) : Rep K ph H v (res M d) := by
  cases d <;> first | exact hs.read q | skip
  rename_i k
  unfold DL.res
  dsimp only
  split
  · rename_i ds hk
    cases q with
    | own h =>
      obtain ⟨a, xs, c1, c2, c3, c4⟩ := hs.cell k ds hk
      rw [h] at c1; cases c1
      exact .lst c3 (hs.readAll c4)
  · exact hs.read q
/-- data that may be compared -/
def cmpd (d : D) : Option PyData := match toPy d with
  | some p => if SeqAt.shaped p = true then some p else none
  | none => none
theorem cmpd_some {d : D} {p : PyData} (h : cmpd d = some p) : toPy d = some p ∧ SeqAt.shaped p = true := by
  unfold cmpd at h
  split at h
  · rename_i p' e
    by_cases hs : SeqAt.shaped p' = true
    · rw [if_pos hs] at h; cases h; exact ⟨e, hs⟩
    · rw [if_neg hs] at h; cases h
  · cases h
/-- x == y of two data read; none: not covered -/
def eqB (x y : D) : Option Bool := match x, y with
  | .str a, .str b => some (a == b)
  | x, y => match cmpd x, cmpd y with
    | some p, some q => some (PyData.eqv p q)
    | _, _ => none
theorem eqB_of {x y : D} {b : Bool} (h : eqB x y = some b) : (∃ p q, x = .str p ∧ y = .str q ∧ b = (p == q)) ∨ ∃ p q, cmpd x = some p ∧ cmpd y = some q ∧ b = PyData.eqv p q := by
  unfold eqB at h
  split at h
  · exact .inl ⟨_, _, rfl, rfl, (Option.some.inj h).symm⟩
  · split at h
    · rename_i e1 e2; exact .inr ⟨_, _, e1, e2, (Option.some.inj h).symm⟩
    · cases h
def gEq : G2 := fun x y M Q => match eqB (res M x) (res M y) with
  | some b => Q (.bl b) M
  | none => False
def gNe : G2 := fun x y M Q => match eqB (res M x) (res M y) with
  | some b => Q (.bl (!b)) M
  | none => False
theorem res_str {M : Mem} {d : D} {z : Str} (h : res M d = .str z) : d = .str z := by
  cases d <;> first | exact h | skip
  rename_i k
  unfold res at h
  dsimp only at h
  split at h <;> cases h
theorem opd_eq (hu : X.A.units + 64 < cLine) : OpD X (compareOp .Eq) gEq := by
  intro pins s σ H ph S r M x y dx dy v u Q I hs rx ry qx qy hg
  unfold gEq at hg
  split at hg
  · rename_i b e
    rcases eqB_of e with ⟨p, q, e1, e2, rfl⟩ | ⟨p, q, e1, e2, rfl⟩
    · cases res_str e1; cases res_str e2
      cases qx; cases qy
      obtain ⟨_, rfl⟩ := rx
      obtain ⟨_, rfl⟩ := ry
      exact PyProof.Rows.eq_str ⟨.bl _, H, I, rfl, Aft.here hs ⟨_, .bl _, hg⟩⟩
    · obtain ⟨as, h1, _⟩ := Rep.reads I _ _ _ _ (Rep.res hs qx) rx (cmpd_some e1).1
      obtain ⟨bs, h2, _⟩ := Rep.reads I _ _ _ _ (Rep.res hs qy) ry (cmpd_some e2).1
      exact SeqAt.compareEq_shaped h1 h2 (cmpd_some e1).2 (cmpd_some e2).2 hu ⟨.bl _, H, I, rfl, Aft.here hs ⟨_, .bl _, hg⟩⟩
  · exact hg.elim
theorem opd_ne (hu : X.A.units + 64 < cLine) : OpD X (compareOp .NotEq) gNe := by
  intro pins s σ H ph S r M x y dx dy v u Q I hs rx ry qx qy hg
  unfold gNe at hg
  split at hg
  · rename_i b e
    rcases eqB_of e with ⟨p, q, e1, e2, rfl⟩ | ⟨p, q, e1, e2, rfl⟩
    · cases res_str e1; cases res_str e2
      cases qx; cases qy
      obtain ⟨_, rfl⟩ := rx
      obtain ⟨_, rfl⟩ := ry
      exact PyProof.Rows.ne_str ⟨.bl _, H, I, rfl, Aft.here hs ⟨_, .bl _, hg⟩⟩
    · obtain ⟨as, h1, _⟩ := Rep.reads I _ _ _ _ (Rep.res hs qx) rx (cmpd_some e1).1
      obtain ⟨bs, h2, _⟩ := Rep.reads I _ _ _ _ (Rep.res hs qy) ry (cmpd_some e2).1
      exact SeqAt.compareNe_shaped h1 h2 (cmpd_some e1).2 (cmpd_some e2).2 hu ⟨.bl _, H, I, rfl, Aft.here hs ⟨_, .bl _, hg⟩⟩
  · exact hg.elim
/-- x in y, y a list -/
def gIn (neg : Bool) : G2 := fun x y M Q => match cmpd (res M x), cmpd (res M y) with
  | some p, some (.list ps) => Q (.bl ((ps.any fun z => PyData.eqv z p) != neg)) M
  | _, _ => False
end DL
/-! DL4: is, truth, chains, and/or/not, displays, subscripts, argument lists -/
namespace DL
open PySem PySem.Spec PyProof.Rows L2
variable {X : Cx}
/-! ### is -/
/-- x is y, y written None, True or False -/
def isB (x y : D) : Option Bool := match x, y with
  | .non, .non => some true
  | .bl b, .non => some false
  | .int _, .non => some false
  | .str _, .non => some false
  | .tup _, .non => some false
  | .lst _, .non => some false
  | .own _, .non => some false
  | .dct0, .non => some false
  | .exc _ _, .non => some false
  | .bl a, .bl b => some (decide (a = b))
  | .non, .bl _ => some false
  | .int _, .bl _ => some false
  | .str _, .bl _ => some false
  | .tup _, .bl _ => some false
  | .lst _, .bl _ => some false
  | .own _, .bl _ => some false
  | .dct0, .bl _ => some false
  | _, _ => none
def gIs (neg : Bool) : G2 := fun x y M Q => match isB x y with
  | some b => Q (.bl (b != neg)) M
  | none => False
theorem opd_isnot : OpD X (compareOp .IsNot) (gIs true) := by
  intro pins s σ H ph S r M x y dx dy v u Q I hs rx ry qx qy hg
  have fin : ∀ b : Bool, Q (.bl (b != true)) M → EP X pins σ (post X.K ph S r σ Q) (.bool (!b)) s := fun b q => ⟨.bl (!b), H, I, rfl, Aft.here hs ⟨_, .bl _, by rwa [Bool.bne_true] at q⟩⟩
  cases dy <;> cases dx <;> first | exact hg.elim | skip
  all_goals cases qx <;> cases qy
  all_goals (first | (obtain ⟨t, rfl⟩ := rx) | cases rx)
  all_goals cases ry
  all_goals first
    | exact wpAny_isNot_other rfl (fun z => nomatch z) (fin false hg)
    | exact wpAny_isNot_self rfl (fin true hg)
    | skip
  rename_i b c
  by_cases e : c = b
  · subst e
    exact wpAny_isNot_self rfl (fin true (by simpa [gIs, isB] using hg))
  · exact wpAny_isNot_other rfl (fun z => e (Value.bool.inj z)) (fin false (by simpa [gIs, isB, e] using hg))
/-! ### truth -/
def tru (M : Mem) : D → Option Bool
  | .non => some false
  | .bl b => some b
  | .int i => some (i != 0)
  | .str x => if x.length ≤ sizeLine then some ((x.length : Int) != 0) else none
  | .tup l => some (!l.isEmpty)
  | .lst l => some (!l.isEmpty)
  | .own k => match M[k]? with
    | some (.lst l) => some (!l.isEmpty)
    | _ => none
  | .dct0 => some false
  | _ => none
theorem isEmp {K : PySem.W.Frag} {ph : Ph} {S : Hp} {xs : List V} {ds : List D} (h : RepAll K ph S xs ds) : (!ds.isEmpty) = !xs.isEmpty := by cases h <;> rfl
theorem tru_V {K : PySem.W.Frag} {ph : Ph} {S : Hp} {r : Env} {M : Mem} {σ : St} {H : Hp} {x : V} {d : D} {k : Bool} (hs : Sat K ph S r M σ H) (q : Rep K ph S x d) (h : tru M d = some k) : TruV K x H k := by
  cases d with
  | non => cases q; exact (Option.some.inj h).symm
  | bl b => cases q; exact (Option.some.inj h).symm
  | int i => cases q; exact (Option.some.inj h).symm
  | str z =>
    cases q
    have h' : (if z.length ≤ sizeLine then some ((z.length : Int) != 0) else none) = some k := h
    by_cases hz : z.length ≤ sizeLine
    · rw [if_pos hz] at h'
      exact ⟨hz, (Option.some.inj h').symm⟩
    · rw [if_neg hz] at h'; cases h'
  | tup l =>
    cases q with
    | tup h1 h2 => exact .inr (.inl ⟨_, h1.sq hs.sub, by rw [← isEmp h2]; exact (Option.some.inj h).symm⟩)
  | lst l =>
    cases q with
    | lst h1 h2 => exact .inl ⟨_, SqL.of (hs.sub _ _ h1), by rw [← isEmp h2]; exact (Option.some.inj h).symm⟩
  | dct0 =>
    cases q with
    | dct0 h1 => exact .inr (.inr ⟨_, hs.sub _ _ h1, (Option.some.inj h).symm⟩)
  | own j =>
    cases q with
    | own h1 =>
      unfold tru at h
      dsimp only at h
      split at h
      · rename_i l hk
        obtain ⟨a, xs, c1, c2, c3, c4⟩ := hs.cell j l hk
        rw [h1] at c1; cases c1
        exact .inl ⟨_, SqL.of c3, by rw [← isEmp c4]; exact (Option.some.inj h).symm⟩
      · cases h
  | scr ns => cases h
  | exc C d => cases h
  | errS => cases h
  | glb x => cases h
  | val v => cases h
/-- what d's truth is -/
def gTru (d : D) (M : Mem) (Q : Bool → Prop) : Prop := match tru M d with
  | some b => Q b
  | none => False
def dTru (t : DTE) : DTT := fun r M Q => t r M fun d M1 => gTru d M1 fun b => Q b M1
theorem gTru_some {d : D} {M : Mem} {Q : Bool → Prop} (h : gTru d M Q) : ∃ b, tru M d = some b ∧ Q b := by
  unfold gTru at h
  split at h
  · rename_i b e; exact ⟨b, e, h⟩
  · exact h.elim
/-- an expression as a test -/
theorem dt_tru {e : Expr} {t : DTE} (h : DE X e t) (he : ∀ whole, isTrue e X.env whole = (do let v ← whole; standAt e.pos; holding [v] (truthy v)) := by intro _; rfl) : DT X e (dTru t) :=
  DT.of (pt_truth h.pe he) fun ph S r M σ H Q hs ht Q' hq => ⟨ph, S, r, M, _, hs, ht, fun v H1 h1 => by
    obtain ⟨ph1, S1, M1, x1, hs1, d, q1, g1⟩ := h1
    obtain ⟨b, eb, qb⟩ := gTru_some g1
    exact ⟨b, tru_V hs1 q1 eb, hq _ _ ⟨ph1, S1, M1, x1, hs1, qb⟩⟩⟩
/-- a comparison as a test -/
theorem dt_cmp {a b : Expr} {ta tb : DTE} {op : CmpOp} {g : G2} {pos : Pos} (ho : OpD X (compareOp op) g) (ha : DE X a ta) (hb : DE X b tb) (hm : behindInMarks op b = false) : DT X (.Compare a [op] [b] pos) (dTru (dOp g ta tb)) :=
  ⟨⟨fun pins s σ H Q I ⟨ph, S, r, M, Q0, hs, ht, hq⟩ => wpAny_isTrue_Compare1 (binD ha hb I hs ht fun v u s2 x y dx dy H2 ph2 S2 M2 x2 I2 hs2 rx ry qx qy h =>
    thn (ho pins s2 σ H2 ph2 S2 r M2 x y dx dy v u _ I2 hs2 rx ry qx qy h) fun c s3 ⟨z, H3, I3, r3, ph3, S3, M3, x3, hs3, d, q3, g3⟩ => by
      obtain ⟨k, ek, qk⟩ := gTru_some g3
      exact tru_ok pins s3 σ H3 z c Q I3 r3 ⟨k, tru_V hs3 q3 ek, hq _ _ ⟨ph3, S3, M3, x2.trans x3, hs3, qk⟩⟩) hm⟩⟩
/-! ### a < b < c -/
def dChain (g g' : G2) (ta tb tc : DTE) : DTE := fun r M Q => ta r M fun x M1 => tb r M1 fun y M2 => g x y M2 fun z M3 => gTru z M3 fun k => if k = true then tc r M3 fun w M4 => g' y w M4 Q else Q z M3
/-! ### and, or, not -/
def dAnd (t u : DTT) : DTT := fun r M Q => t r M fun c M1 => if c = true then u r M1 Q else Q false M1
def dOr (t u : DTT) : DTT := fun r M Q => t r M fun c M1 => if c = true then Q true M1 else u r M1 Q
def dNot (t : DTT) : DTT := fun r M Q => t r M fun c M1 => Q (!c) M1
variable {a b : Expr} {rest : List Expr} {pos : Pos}
theorem DW.dt {e : Expr} {t : DTT} (h : DW X e t) : DT X e t := ⟨h.pw.pt⟩
theorem dw_or1 {t : DTT} (h : DT X a t) : DW X (.BoolOp .Or [a] pos) t := ⟨pw_or1 h.pt⟩
theorem dw_or {t u : DTT} (h : DT X a t) (h2 : DW X (.BoolOp .Or (b :: rest) pos) u) : DW X (.BoolOp .Or (a :: b :: rest) pos) (dOr t u) :=
  DW.of (pw_or h.pt h2.pw) fun ph S r M σ H Q hs ht Q' hq => ⟨ph, S, r, M, _, hs, ht, fun c H1 ⟨ph1, S1, M1, x1, hs1, h1⟩ => by
    cases c with
    | false => exact ⟨ph1, S1, r, M1, _, hs1, h1, fun c' H2 h2 => hq _ _ (Aft.up x1 h2)⟩
    | true => exact hq _ _ ⟨ph1, S1, M1, x1, hs1, h1⟩⟩
theorem dt_not {t : DTT} (h : DT X a t) : DT X (.UnaryOp .Not a pos) (dNot t) :=
  DT.of (pt_not h.pt) fun ph S r M σ H Q hs ht Q' hq => ⟨ph, S, r, M, _, hs, ht, fun c H1 h1 => hq _ _ h1⟩
/-- as values -/
def dAndV (t u : DTE) : DTE := fun r M Q => t r M fun d M1 => gTru d M1 fun c => if c = true then u r M1 Q else Q d M1
def dOrV (t u : DTE) : DTE := fun r M Q => t r M fun d M1 => gTru d M1 fun c => if c = true then Q d M1 else u r M1 Q
def dNotV (t : DTE) : DTE := fun r M Q => t r M fun d M1 => gTru d M1 fun c => Q (.bl (!c)) M1
theorem de_one {op} {t : DTE} (h : DE X a t) : DE X (.BoolOp op [a] pos) t := ⟨pe_one h.pe⟩
theorem de_and {t u : DTE} (h : DE X a t) (h2 : DE X (.BoolOp .And (b :: rest) pos) u) : DE X (.BoolOp .And (a :: b :: rest) pos) (dAndV t u) :=
  DE.of (pe_andT h.pe h2.pe) fun ph S r M σ H Q hs ht Q' hq => ⟨ph, S, r, M, _, hs, ht, fun v H1 ⟨ph1, S1, M1, x1, hs1, d, q1, g1⟩ => by
    obtain ⟨c, ec, qc⟩ := gTru_some g1
    refine ⟨c, tru_V hs1 q1 ec, ?_⟩
    cases c with
    | true => exact ⟨ph1, S1, r, M1, _, hs1, qc, fun c' H2 h2 => hq _ _ (Aft.up x1 h2)⟩
    | false => exact hq _ _ ⟨ph1, S1, M1, x1, hs1, _, q1, qc⟩⟩
/-- a if t else b -/
def dIf (t : DTT) (u w : DTE) : DTE := fun r M Q => t r M fun c M1 => if c = true then u r M1 Q else w r M1 Q
theorem de_if {c : Expr} {t : DTT} {u w : DTE} (h : DT X c t) (h1 : DE X a u) (h2 : DE X b w) : DE X (.IfExp c a b pos) (dIf t u w) :=
  DE.of (pe_ifExp h.pt h1.pe h2.pe) fun ph S r M σ H Q hs ht Q' hq => ⟨ph, S, r, M, _, hs, ht, fun c H1 ⟨ph1, S1, M1, x1, hs1, g1⟩ => by
    cases c with
    | true => exact ⟨ph1, S1, r, M1, _, hs1, g1, fun c' H2 h2 => hq _ _ (Aft.up x1 h2)⟩
    | false => exact ⟨ph1, S1, r, M1, _, hs1, g1, fun c' H2 h2 => hq _ _ (Aft.up x1 h2)⟩⟩
/-- -a -/
def gNeg (d : D) (M : Mem) (Q : DQ) : Prop := match d with
  | .int i => Q (.int (-i)) M
  | _ => False
def dNeg (t : DTE) : DTE := fun r M Q => t r M fun d M1 => gNeg d M1 Q
/-! ### argument lists, displays -/
def dNil : DTA := fun _ M Q => Q [] M
def dCons (t : DTE) (u : DTA) : DTA := fun r M Q => t r M fun d M1 => u r M1 fun ds M2 => Q (d :: ds) M2
theorem da_nil : DA X [] dNil := DA.of pa_nil fun ph S r M σ H Q hs ht Q' hq => hq _ _ (Aft.here hs ⟨_, .nil, ht⟩)
theorem da_cons {e : Expr} {es : List Expr} {t : DTE} {u : DTA} (h : DE X e t) (h2 : DA X es u) (hs : starEach (e :: es) X.env = (false, eval e X.env) :: starEach es X.env := by rfl) : DA X (e :: es) (dCons t u) :=
  DA.of (pa_cons h.pe h2.pa hs) fun ph S r M σ H Q hs ht Q' hq => ⟨ph, S, r, M, _, hs, ht, fun v H1 ⟨ph1, S1, M1, x1, hs1, d, q1, g1⟩ =>
    ⟨ph1, S1, r, M1, _, hs1, g1, fun vs H2 ⟨ph2, S2, M2, x2, hs2, ds, q2, g2⟩ => hq _ _ ⟨ph2, S2, M2, x1.trans x2, hs2, _, .cons (q1.up x2) q2, g2⟩⟩⟩
def dTup (t : DTA) : DTE := fun r M Q => t r M fun ds M1 => ds.length ≤ sizeLine ∧ Q (.tup ds) M1
def dLst (t : DTA) : DTE := fun r M Q => t r M fun ds M1 => ds.length ≤ sizeLine ∧ Q (.lst ds) M1
/-- a list that will be changed -/
def dOwn (t : DTA) : DTE := fun r M Q => t r M fun ds M1 => ds.length ≤ sizeLine ∧ Q (.own M1.length) (M1 ++ [.lst ds])
theorem de_tup {es : List Expr} {x1} {t : DTA} (h : DA X es t) : DE X (.Tuple es x1 pos) (dTup t) :=
  DE.of (pe_tup h.pa) fun ph S r M σ H Q hs ht Q' hq => ⟨ph, S, r, M, _, hs, ht, fun vs H1 ⟨ph1, S1, M1, x1, hs1, ds, q1, hz, g1⟩ =>
    ⟨by rw [q1.len]; exact hz, fun p hp => hq _ _ (Aft.up x1 (Aft.frz hs1 hp fun x => ⟨_, .tup (.inl upd_same) (q1.up x), g1⟩))⟩⟩
theorem de_lst {es : List Expr} {t : DTA} (h : DA X es t) : DE X (.List es pos) (dLst t) :=
  DE.of (pe_lst h.pa) fun ph S r M σ H Q hs ht Q' hq => ⟨ph, S, r, M, _, hs, ht, fun vs H1 ⟨ph1, S1, M1, x1, hs1, ds, q1, hz, g1⟩ =>
    ⟨by rw [q1.len]; exact hz, fun p hp => hq _ _ (Aft.up x1 (Aft.frz hs1 hp fun x => ⟨_, .lst upd_same (q1.up x), g1⟩))⟩⟩
theorem Aft.own {K : PySem.W.Frag} {ph : Ph} {S : Hp} {r : Env} {σ : St} {H : Hp} {M : Mem} {p : Addr} {xs : List V} {ds : List D} {Q : DQ} (h : Sat K ph S r M σ H) (hp : H p = none) (hr : RepAll K ph S xs ds) (q : Q (.own M.length) (M ++ [.lst ds])) :
    post K ph S r σ Q (.ref p) (upd H p (.lst xs)) :=
  let ⟨x, hs, e⟩ := h.new hp hr
  ⟨_, _, _, x, hs, _, .own e, q⟩
theorem de_own {es : List Expr} {t : DTA} (h : DA X es t) : DE X (.List es pos) (dOwn t) :=
  DE.of (pe_lst h.pa) fun ph S r M σ H Q hs ht Q' hq => ⟨ph, S, r, M, _, hs, ht, fun vs H1 ⟨ph1, S1, M1, x1, hs1, ds, q1, hz, g1⟩ =>
    ⟨by rw [q1.len]; exact hz, fun p hp => hq _ _ (Aft.up x1 (Aft.own hs1 hp q1 g1))⟩⟩
/-! ### subscripts -/
/-- d's item at i, for every kind of sequence -/
def gIx : G2 := fun x y M Q => match res M x, y with
  | .lst l, .int i => match atI l i with
    | some d => Q d M
    | none => False
  | .tup l, .int i => match atI l i with
    | some d => Q d M
    | none => False
  | .scr ns, .int i => match atI ns i with
    | some n => Q (.int n) M
    | none => False
  | _, _ => False
theorem atI_rep {K : PySem.W.Frag} {ph : Ph} {S : Hp} {vs : List V} {ds : List D} {i : Int} {d : D} (h : RepAll K ph S vs ds) (e : atI ds i = some d) : ∃ v, atI vs i = some v ∧ Rep K ph S v d := by
  unfold atI at e ⊢
  rw [h.len]
  cases q : ixN ds.length i with
  | none => rw [q] at e; cases e
  | some j =>
    rw [q] at e
    exact h.get e
theorem atI_map {α β : Type} {f : α → β} {l : List α} {i : Int} {x : α} (e : atI l i = some x) : atI (l.map f) i = some (f x) := by
  unfold atI at e ⊢
  rw [List.length_map]
  cases q : ixN l.length i with
  | none => rw [q] at e; cases e
  | some j =>
    rw [q] at e
    show (l.map f)[j]? = _
    rw [List.getElem?_map]
    rw [show l[j]? = some x from e]
    rfl
/-- an owned list's items represent over S -/
theorem res_lst {K : PySem.W.Frag} {ph : Ph} {S : Hp} {r : Env} {M : Mem} {σ : St} {H : Hp} {v : V} {d : D} {l : List D} (hs : Sat K ph S r M σ H) (q : Rep K ph S v d) (e : res M d = .lst l) : ∃ a xs, v = .ref a ∧ H a = some (.lst xs) ∧ RepAll K ph S xs l := by
  cases d <;> first | (unfold res at e; cases e; done) | skip
  · cases e
    cases q with
    | lst h1 h2 => exact ⟨_, _, rfl, hs.sub _ _ h1, h2⟩
  · rename_i k
    unfold res at e
    dsimp only at e
    split at e
    · rename_i ds hk
      cases e
      cases q with
      | own h =>
        obtain ⟨a, xs, c1, c2, c3, c4⟩ := hs.cell k _ hk
        rw [h] at c1; cases c1
        exact ⟨_, _, rfl, c3, c4⟩
    · cases e
theorem res_tup {M : Mem} {d : D} {l : List D} (e : res M d = .tup l) : d = .tup l := by
  cases d <;> first | exact e | skip
  unfold res at e
  dsimp only at e
  split at e <;> cases e
theorem res_scr {M : Mem} {d : D} {l : List Int} (e : res M d = .scr l) : d = .scr l := by
  cases d <;> first | exact e | skip
  unfold res at e
  dsimp only at e
  split at e <;> cases e
theorem de_ix {ta tb : DTE} (ha : DE X a ta) (hb : DE X b tb) (hs : PlainIx b := by exact fun _ _ => rfl) : DE X (.Subscript a b pos) (dOp gIx ta tb) :=
  DE.of (pe_ix (ix_list.or ix_tup) ha.pe hb.pe hs) fun ph S r M σ H Q hs ht Q' hq => ⟨ph, S, r, M, _, hs, ht, fun v H1 ⟨ph1, S1, M1, x1, hs1, d, q1, g1⟩ =>
    ⟨ph1, S1, r, M1, _, hs1, g1, fun u H2 ⟨ph2, S2, M2, x2, hs2, e, q2, g2⟩ => by
      have q1' := q1.up x2
      have xx := x1.trans x2
      replace g2 : gIx d e M2 Q := g2
      unfold gIx at g2
      split at g2
      · rename_i l i er
        cases q2
        split at g2
        · rename_i d' ei
          obtain ⟨p, xs, rfl, hp, hx⟩ := res_lst hs2 q1' er
          obtain ⟨w, ew, qw⟩ := atI_rep hx ei
          exact .inl ⟨p, xs, i, w, rfl, rfl, SqL.of hp, ew, hq _ _ ⟨ph2, S2, M2, xx, hs2, _, qw, g2⟩⟩
        · exact g2.elim
      · rename_i l i er
        cases q2
        split at g2
        · rename_i d' ei
          cases res_tup er
          cases q1' with
          | tup h1 h2 =>
            obtain ⟨w, ew, qw⟩ := atI_rep h2 ei
            exact .inr ⟨_, _, i, w, rfl, rfl, h1.sq hs2.sub, ew, hq _ _ ⟨ph2, S2, M2, xx, hs2, _, qw, g2⟩⟩
        · exact g2.elim
      · rename_i ns i er
        cases q2
        split at g2
        · rename_i n ei
          cases res_scr er
          cases q1' with
          | scr h1 => exact .inl ⟨_, _, i, _, rfl, rfl, hs2.sub.seq h1, atI_map ei, hq _ _ ⟨ph2, S2, M2, xx, hs2, _, .int _, g2⟩⟩
        · exact g2.elim
      · exact g2.elim⟩⟩
end DL
/-! DL5: defs and their calls -/
namespace DL
open PySem PySem.Spec PyProof.Rows L2
/-! ### a def's promise over the hand layer, where no guard runs -/
structure FnG (P : Program) (w : World) (K : PySem.W.Frag) (mg : Str → Option Value) (base : Heap) (CX : CXT) (k : Nat) (f : Addr) (fd : FuncData) (ps : List Str) (sp : Sp) : Prop where
  len : ∀ vs H Q E, sp vs H Q E → vs.length = ps.length
  run : ∀ (A : Around) (outer : List PySem.Env) (s : Shared) (H : Hp) (args : Args) (us : List Value) (vs : List V) (Q : VK) (E : XK), Room k A → A.guards = some [] → Env0 P w K mg base A outer s H → BindsTo s fd args (ps.zip us) → Vals vs us → sp vs H Q E →
    codeAny (model P w) A (.call (.ref f) args) (CR CX outer P w H s Q E) s
theorem FnG.mono {P : Program} {w : World} {K : PySem.W.Frag} {mg : Str → Option Value} {base : Heap} {CX : CXT} {j k : Nat} {f : Addr} {fd : FuncData} {ps : List Str} {sp : Sp} (F : FnG P w K mg base CX j f fd ps sp) (h : j ≤ k) :
    FnG P w K mg base CX k f fd ps sp := ⟨F.len, fun A outer s H args us vs Q E hr => F.run A outer s H args us vs Q E (hr.mono h)⟩
section
variable {X : Cx} {CX : CXT} {k : Nat} {f : Addr} {fd : FuncData} {ps : List Str} {sp : Sp} {dvs : List V} {ds : List Value} {E : XK} {x : Str} {p pos : Pos} {e : Expr} {es : List Expr} {t : TA}
theorem run_fnG {pins : List (Addr × Obj)} {σ : St} {H : Hp} {s : Shared} {Q : VK} {us : List Value} {vs : List V} (F : FnG X.prog X.w X.K X.mg X.base CX k f fd ps sp) (hr : Room k X.A) (gd : X.A.guards = some []) (hb : Binds X.K fd ps ds) (hd : Vals dvs ds) (hx : Passes CX X E)
    (I : Inv X pins σ H s) (r : Vals vs us) (h : sp (vs ++ dvs) H Q E) : wpAny (model X.prog X.w) X.A (call (.ref f) us) (EP X pins σ Q) X.xe s := by
  have r2 : Vals (vs ++ dvs) (us ++ ds) := r.append hd
  have hl : (us ++ ds).length = ps.length := by rw [← r2.length]; exact F.len _ _ _ _ h
  refine wpAny_call (codeAny_mono (F.run X.A X.stack s H ⟨us, []⟩ (us ++ ds) (vs ++ dvs) Q E hr gd I.env0 (hb s us I.kIn hl) r2 h) fun r s' hq => ?_)
  match r, hq with
  | .error e, hq => exact hx pins σ H s e s' I hq
  | .ok (.ret u), hq => exact I.after hq
  | .ok .next, hq => exact False.elim hq
  | .ok .brk, hq => exact False.elim hq
  | .ok .cont, hq => exact False.elim hq
theorem pe_callG (F : FnG X.prog X.w X.K X.mg X.base CX k f fd ps sp) (hr : Room k X.A) (gd : X.A.guards = some []) (hg : Gl X x) (hm : X.mg x = some (.ref f)) (hk : PySem.W.keepIn X.K (.ref f) = true) (hb : Binds X.K fd ps ds) (hd : Vals dvs ds) (hx : Passes CX X E)
    (ha : PA X (e :: es) t) (hdb : (x == ("__debug__" : Str)) = false := by decide) (he : starEach (e :: es) X.env = (false, eval e X.env) :: starEach es X.env := by rfl) (hpl : (backTo pos (starEach es X.env)).any (·.1) = false := by rfl) :
    PE X (.Call (.Name x p) (e :: es) [] pos) (tCall sp dvs E t) :=
  ⟨fun pins s σ H Q I h => wpAny_Call_Name_kw (ld_glob I hg hm (PySem.W.callWith_K (h₀ := X.base) I.ok.mod.kin hk (thn (ha.run pos pins s σ H _ I h) fun us s1 ⟨vs, H1, I1, r, q⟩ => ⟨I1.kIn, run_fnG F hr gd hb hd hx I1 r q⟩) he hpl) hdb)⟩
end
/-- a def by its body -/
theorem fnG_of {CX : CXT} {P : Program} {w : World} {K : PySem.W.Frag} {mg : Str → Option Value} {base : Heap} {k : Nat} {f : Addr} {name qual : Str} {params : Arguments} {body : List Stmt} {scope : Scope} {dV kV doc pm cdv ct oc : Value} {an od : Option Addr}
    {osl : Array (Option Value)} {N ps : List Str} {sp : Sp} (lk : K.lookup f = some ⟨oc, od, .func (PySem.W.fnOf name qual params body scope dV kV doc pm an cdv ct), osl⟩) (hcd : PySem.W.codeIn K cdv qual = true) (S : FnScope N ps scope)
    (len : ∀ vs H Q E, sp vs H Q E → vs.length = ps.length)
    (hbody : ∀ (A : Around) (outer : List PySem.Env) (s : Shared) (H : Hp) (vs : List V) (Q : VK) (E : XK), Room k (A.deeper (envOfC qual scope s.heap.objs.size f cdv)) → A.guards = some [] → sp vs H Q E →
      ∃ t, PSs (cxOf CX P w K mg base N qual scope f cdv A outer s H E) body t ∧ t { nx := fun _ H' => Q .non H', rt := Q } (start N vs) H) :
    FnG P w K mg base CX (k + 1) f (PySem.W.fnOf name qual params body scope dV kV doc pm an cdv ct) ps sp := by
  refine ⟨len, fun A outer s H args us vs Q E hr gd e0 hb r hsp => ?_⟩
  have hl := len _ _ _ _ hsp
  have KX : K.In s.heap := e0.mod.kin.keeps fun b o e => (e0.bs b o e).1
  have lim : s.heap.NoLimit := e0.mod.nolimit.keeps fun b o e => (e0.bs b o e).1
  refine codeAny_call_function hr.depth (KX _ _ lk) rfl S.co S.gen rfl (PySem.W.codeRec_of KX hcd) (hb _ _ _ _ ?_)
  refine wpAny_newFunctionEnv_cells S.kind (fun y hy => ?_) fun env he s1 x => ?_
  · rcases S.par y.1 (List.of_mem_zip (a := y.1) (b := y.2) hy).1 with q | q
    · exact .inl q
    · exact .inr ⟨q, PySem.W.cellsFrom_some _ _ _ (.inl q)⟩
  subst he
  refine ⟨lim.keeps x.toInCall.keep, codeAny_func ?_⟩
  obtain ⟨t, ht, hq⟩ := hbody A outer s H vs Q E (hr.deeper _) gd hsp
  have I : Inv (cxOf CX P w K mg base N qual scope f cdv A outer s H E) [] (start N vs) H s1 := inv_start S hr.hd e0 hl r x
  refine wpAny_mono (ht.run [] s1 (start N vs) H _ I hq) (fun fl s' hs => ?_) fun e s' hs => hs
  match fl, hs with
  | .ret u, ⟨v, σ', H', J, rv, q⟩ => exact ⟨v, H', J.os, J.bare, J.base, J.hok, rv, q⟩
  | .next, ⟨σ', H', J, q⟩ => exact ⟨V.non, H', J.os, J.bare, J.base, J.hok, rfl, q⟩
  | .brk, ⟨_, _, _, q⟩ => exact False.elim q
  | .cont, ⟨_, _, _, q⟩ => exact False.elim q
/-! ### a def's promise over data -/
/-- what is wanted of an exception: its class, its value, the cells -/
abbrev DX := Str → D → Mem → Prop
abbrev DSp := List D → Mem → DQ → DX → Prop
def DX0 : DX := fun _ _ _ => False
def postM (K : PySem.W.Frag) (ph : Ph) (S : Hp) (Q : DQ) : VK := post K ph S [] [] Q
def postX (K : PySem.W.Frag) (ph : Ph) (S : Hp) (E : DX) : XK := fun cls d H => ∃ (x : Str) (C T dd : Addr) (v : V) (dv : D), XA.ErC K x C T ∧ cls = .ref C ∧ d = some dd ∧
  Aft K ph S [] [] H fun ph' S' M => S' dd = some (.xd [(fVal, v)]) ∧ Rep K ph' S' v dv ∧ E x dv M
def lfSp (K : PySem.W.Frag) (n : Nat) (sp : DSp) : Sp := fun vs H Q E => ∃ ph S M ds Q0 E0, ds.length = n ∧ Sat K ph S [] M [] H ∧ RepAll K ph S vs ds ∧ sp ds M Q0 E0 ∧ (∀ v H', postM K ph S Q0 v H' → Q v H') ∧ (∀ cls d H', postX K ph S E0 cls d H' → E cls d H')
abbrev FnD (P : Program) (w : World) (K : PySem.W.Frag) (mg : Str → Option Value) (base : Heap) (CX : CXT) (k : Nat) (f : Addr) (fd : FuncData) (ps : List Str) (sp : DSp) : Prop :=
  FnG P w K mg base CX k f fd ps (lfSp K ps.length sp)
theorem Sat.drop {K : PySem.W.Frag} {ph : Ph} {S : Hp} {r : Env} {M : Mem} {σ : St} {H : Hp} (h : Sat K ph S r M σ H) : Sat K ph S [] M [] H :=
  ⟨h.sub, h.len, h.nd, h.trk, h.own, h.hid, h.hnd, rfl, fun i d e => by simp at e⟩
/-- behind a call the names are as they were -/
theorem Sat.back {K : PySem.W.Frag} {ph ph' : Ph} {S S' : Hp} {r : Env} {M M' : Mem} {σ : St} {H H' : Hp} (h : Sat K ph S r M σ H) (x : Ext ph S ph' S') (h' : Sat K ph' S' [] M' [] H') : Sat K ph' S' r M' σ H' :=
  ⟨h'.sub, h'.len, h'.nd, h'.trk, h'.own, h'.hid, h'.hnd, h.el, fun i d e => let ⟨v, e1, q⟩ := h.env i d e; ⟨v, e1, q.up x⟩⟩
section
variable {X : Cx} {CX : CXT} {k : Nat} {f : Addr} {fd : FuncData} {ps : List Str} {sp : DSp} {x : Str} {p pos : Pos} {e : Expr} {es : List Expr} {t : DTA}
/-- f(..), then the defaults -/
def dCall (n : Nat) (sp : DSp) (dvs : List D) (E : DX) (t : DTA) : DTE := fun r M Q => t r M fun ds M1 => (ds ++ dvs).length = n ∧ sp (ds ++ dvs) M1 Q E
/-- a value that is the same everywhere -/
def Cst (K : PySem.W.Frag) (v : V) (d : D) : Prop := ∀ ph S, Rep K ph S v d
inductive Csts (K : PySem.W.Frag) : List V → List D → Prop
  | nil : Csts K [] []
  | cons {v : V} {d : D} {vs : List V} {ds : List D} : Cst K v d → Csts K vs ds → Csts K (v :: vs) (d :: ds)
theorem Csts.rep {K : PySem.W.Frag} {ph : Ph} {S : Hp} : ∀ {vs : List V} {ds : List D}, Csts K vs ds → RepAll K ph S vs ds
  | _, _, .nil => .nil
  | _, _, .cons h t => .cons (h _ _) t.rep
theorem lf_call {t' : TA} {dvs : List V} {dds : List D} {E' : XK} {E : DX} (hE : ∀ ph S cls d H', postX X.K ph S E cls d H' → E' cls d H') (hc : Csts X.K dvs dds) {ph : Ph} {S : Hp} {r : Env} {M : Mem} {σ : St} {H : Hp} {Q : DQ} {Q' : VK} (hs : Sat X.K ph S r M σ H) (ht : dCall ps.length sp dds E t r M Q) (hq : ∀ v H', post X.K ph S r σ Q v H' → Q' v H')
    (w : ∀ Q1 : List V → Hp → Prop, (∀ vs H', postA X.K ph S r σ (fun ds M1 => (ds ++ dds).length = ps.length ∧ sp (ds ++ dds) M1 Q E) vs H' → Q1 vs H') → t' σ H Q1) : tCall (lfSp X.K ps.length sp) dvs E' t' σ H Q' :=
  w _ fun vs H1 ⟨ph1, S1, M1, x1, hs1, ds, q1, hl, h1⟩ => ⟨ph1, S1, M1, ds ++ dds, Q, E, hl, hs1.drop, q1.app hc.rep, h1, fun v H2 ⟨ph2, S2, M2, x2, hs2, d, q2, h2⟩ => hq _ _ ⟨ph2, S2, M2, x1.trans x2, hs1.back x2 hs2, d, q2, h2⟩, fun cls d H2 h2 => hE _ _ _ _ _ h2⟩
theorem de_callX {dvs : List V} {dds : List D} {ds : List Value} {E' : XK} {E : DX} (F : FnD X.prog X.w X.K X.mg X.base CX k f fd ps sp) (hr : Room k X.A) (gd : X.A.guards = some []) (hm : X.mg x = some (.ref f)) (hk : PySem.W.keepIn X.K (.ref f) = true) (hb : Binds X.K fd ps ds) (hd : Vals dvs ds) (hc : Csts X.K dvs dds) (hx : Passes CX X E') (hE : ∀ ph S cls d H', postX X.K ph S E cls d H' → E' cls d H')
    (ha : DA X (e :: es) t) (hg : Gl X x := by rfl) (hdb : (x == ("__debug__" : Str)) = false := by decide) (he : starEach (e :: es) X.env = (false, eval e X.env) :: starEach es X.env := by rfl) (hpl : (backTo pos (starEach es X.env)).any (·.1) = false := by rfl) :
    DE X (.Call (.Name x p) (e :: es) [] pos) (dCall ps.length sp dds E t) :=
  DE.of (pe_callG F hr gd hg hm hk hb hd hx ha.pa hdb he hpl) fun ph S r M σ H Q hs ht Q' hq => lf_call hE hc hs ht hq fun Q1 hQ1 => ⟨ph, S, r, M, _, hs, ht, hQ1⟩
theorem pX0 : ∀ ph S cls d H', postX X.K ph S DX0 cls d H' → E0 cls d H' := fun _ _ _ _ _ ⟨_, _, _, _, _, _, _, _, _, _, _, _, _, _, _, _, z⟩ => z
/-- what is told of a def of the module, for its callers -/
structure Def (P : Program) (w : World) (K : PySem.W.Frag) (mg : Str → Option Value) (base : Heap) (CX : CXT) (k : Nat) (x : Str) (st : Stmt) (ps : List Str) (sp : DSp) : Prop where
  ex : ∃ (f : Addr) (fd : FuncData), FnD P w K mg base CX k f fd ps sp ∧ mg x = some (.ref f) ∧ PySem.W.keepIn K (.ref f) = true ∧ Binds K fd ps [] ∧ Fun K x x st f fd
/-- a call of a def from which nothing is raised -/
theorem dcall {n : Nat} {st : Stmt} {P : Program} {w : World} {K : PySem.W.Frag} {mg : Str → Option Value} {base : Heap} (F : Def P w K mg base CX0 k x st ps sp) {j : Nat} (hr : Room j X.A) (gd : X.A.guards = some []) (ha : DA X (e :: es) t) (hj : k ≤ j := by decide) (hn : ps.length = n := by rfl)
    (h1 : P = X.prog := by rfl) (h2 : w = X.w := by rfl) (h3 : K = X.K := by rfl) (h4 : mg = X.mg := by rfl) (h5 : base = X.base := by rfl) (hg : Gl X x := by rfl) (hdb : (x == ("__debug__" : Str)) = false := by decide) (he : starEach (e :: es) X.env = (false, eval e X.env) :: starEach es X.env := by rfl)
    (hpl : (backTo pos (starEach es X.env)).any (·.1) = false := by rfl) : DE X (.Call (.Name x p) (e :: es) [] pos) (dCall n sp [] DX0 t) := by
  subst h1 h2 h3 h4 h5 hn
  obtain ⟨f, fd, h1, h2, h3, h4, _⟩ := F.ex
  exact de_callX h1 (hr.mono hj) gd h2 h3 h4 .nil .nil pass0 pX0 ha hg hdb he hpl
end
/-! ### at the end of a def: the cells that it made are left behind -/
mutual
def below (n : Nat) : D → Bool
  | .tup l => belowAll n l
  | .lst l => belowAll n l
  | .own k => decide (k < n)
  | .exc _ d => below n d
  | _ => true
def belowAll (n : Nat) : List D → Bool
  | [] => true
  | d :: ds => below n d && belowAll n ds
end
def belowO (n : Nat) : Own → Bool
  | .lst l => belowAll n l
  | .oth .dead => true
  | .oth (.dT kvs) => belowAll n (kvs.map (·.2))
  | .oth (.dK kvs) => belowAll n (kvs.map (·.2))
section
variable {K : PySem.W.Frag} {ph : Ph} {S : Hp} {n : Nat}
mutual
theorem Rep.take : ∀ (d : D) (v : V), below n d = true → Rep K ph S v d → Rep K (ph.cut n) S v d
  | .non, _, _, h => by cases h; exact .non
  | .bl _, _, _, h => by cases h; exact .bl _
  | .int _, _, _, h => by cases h; exact .int _
  | .str _, _, _, h => by cases h; exact .str _
  | .tup ds, _, e, h => by
    cases h with
    | tup h1 h2 => exact .tup h1 (RepAll.takeP ds _ (by simpa only [below] using e) h2)
  | .lst ds, _, e, h => by
    cases h with
    | lst h1 h2 => exact .lst h1 (RepAll.takeP ds _ (by simpa only [below] using e) h2)
  | .dct0, _, _, h => by
    cases h with
    | dct0 h1 => exact .dct0 h1
  | .scr ns, _, _, h => by
    cases h with
    | scr h1 => exact .scr h1
  | .own k, _, e, h => by
    cases h with
    | own h1 =>
      have e' : k < n := of_decide_eq_true (by simpa only [below] using e)
      exact .own (by show (ph.cells.take n)[k]? = _; rw [List.getElem?_take_of_lt e']; exact h1)
  | .errS, _, _, h => by
    cases h with
    | errS h0 h1 => exact .errS h0 h1
  | .glb _, _, _, h => by
    cases h with
    | glb h1 => exact .glb h1
  | .exc C d, _, e, h => by
    cases h with
    | exc h0 h1 h2 h3 => exact .exc h0 h1 h2 (Rep.take d _ (by simpa only [below] using e) h3)
  | .val v, _, _, h => by cases h; exact .val _
theorem RepAll.takeP : ∀ (ds : List D) (vs : List V), belowAll n ds = true → RepAll K ph S vs ds → RepAll K (ph.cut n) S vs ds
  | [], _, _, h => by cases h; exact .nil
  | d :: ds, _, e, h => by
    have e' : below n d = true ∧ belowAll n ds = true := by simpa only [belowAll, Bool.and_eq_true] using e
    cases h with
    | cons h1 h2 => exact .cons (Rep.take d _ e'.1 h1) (RepAll.takeP ds _ e'.2 h2)
end
mutual
theorem Rep.belowP : ∀ (d : D) (v : V), Rep K ph S v d → below ph.cells.length d = true
  | .non, _, _ => by simp only [below]
  | .bl _, _, _ => by simp only [below]
  | .int _, _, _ => by simp only [below]
  | .str _, _, _ => by simp only [below]
  | .tup ds, _, h => by
    cases h with
    | tup h1 h2 => simp only [below]; exact RepAll.belowP ds _ h2
  | .lst ds, _, h => by
    cases h with
    | lst h1 h2 => simp only [below]; exact RepAll.belowP ds _ h2
  | .dct0, _, _ => by simp only [below]
  | .scr ns, _, _ => by simp only [below]
  | .own k, _, h => by
    cases h with
    | own h1 => simp only [below]; exact decide_eq_true (List.getElem?_eq_some_iff.mp h1).1
  | .errS, _, _ => by simp only [below]
  | .glb _, _, _ => by simp only [below]
  | .exc C d, _, h => by
    cases h with
    | exc h0 h1 h2 h3 => simp only [below]; exact Rep.belowP d _ h3
  | .val v, _, _ => by simp only [below]
theorem RepAll.belowP : ∀ (ds : List D) (vs : List V), RepAll K ph S vs ds → belowAll ph.cells.length ds = true
  | [], _, _ => by simp only [belowAll]
  | d :: ds, _, h => by
    cases h with
    | cons h1 h2 => simp only [belowAll, Bool.and_eq_true]; exact ⟨Rep.belowP d _ h1, RepAll.belowP ds _ h2⟩
end
end
mutual
theorem below.mono {m n : Nat} (hmn : m ≤ n) : ∀ d : D, below m d = true → below n d = true
  | .non, _ => by simp only [below]
  | .bl _, _ => by simp only [below]
  | .int _, _ => by simp only [below]
  | .str _, _ => by simp only [below]
  | .tup ds, h => by
    simp only [below] at h ⊢
    exact belowAll.mono hmn ds h
  | .lst ds, h => by
    simp only [below] at h ⊢
    exact belowAll.mono hmn ds h
  | .dct0, _ => by simp only [below]
  | .scr _, _ => by simp only [below]
  | .own k, h => by
    simp only [below] at h ⊢
    have := of_decide_eq_true h
    exact decide_eq_true (by omega)
  | .errS, _ => by simp only [below]
  | .glb _, _ => by simp only [below]
  | .exc _ d, h => by
    simp only [below] at h ⊢
    exact below.mono hmn d h
  | .val _, _ => by simp only [below]
theorem belowAll.mono {m n : Nat} (hmn : m ≤ n) : ∀ ds : List D, belowAll m ds = true → belowAll n ds = true
  | [], _ => by simp only [belowAll]
  | d :: ds, h => by
    simp only [belowAll, Bool.and_eq_true] at h ⊢
    exact ⟨below.mono hmn d h.1, belowAll.mono hmn ds h.2⟩
end
theorem belowO.monoO {m n : Nat} (hmn : m ≤ n) {w : Own} (h : belowO m w = true) : belowO n w = true := by
  rcases w with l | _ | l | l
  · simp only [belowO] at h ⊢; exact belowAll.mono hmn _ h
  · rfl
  · simp only [belowO] at h ⊢; exact belowAll.mono hmn _ h
  · simp only [belowO] at h ⊢; exact belowAll.mono hmn _ h
theorem OwnR.take {K : PySem.W.Frag} {ph : Ph} {S : Hp} {n : Nat} {w : Own} {o : HO} (hb : belowO n w = true) (h : OwnR K ph S w o) : OwnR K (ph.cut n) S w o := by
  rcases w with l | _ | l | l
  · obtain ⟨xs, e, r⟩ := h; exact ⟨xs, e, RepAll.takeP _ _ (by simpa only [belowO] using hb) r⟩
  · trivial
  · obtain ⟨xs, e, r1, r⟩ := h; exact ⟨xs, e, r1, RepAll.takeP _ _ (by simpa only [belowO] using hb) r⟩
  · obtain ⟨xs, e, r1, r⟩ := h; exact ⟨xs, e, r1, RepAll.takeP _ _ (by simpa only [belowO] using hb) r⟩
theorem OwnR.below {K : PySem.W.Frag} {ph : Ph} {S : Hp} {w : Own} {o : HO} (h : OwnR K ph S w o) : belowO ph.cells.length w = true := by
  rcases w with l | _ | l | l
  · obtain ⟨xs, e, r⟩ := h; simp only [belowO]; exact RepAll.belowP _ _ r
  · rfl
  · obtain ⟨xs, e, r1, r⟩ := h; simp only [belowO]; exact RepAll.belowP _ _ r
  · obtain ⟨xs, e, r1, r⟩ := h; simp only [belowO]; exact RepAll.belowP _ _ r
/-- d and the cells M1 are what stays of M': all else was made by the def -/
def Rtq (M : Mem) (Q : DQ) : DQ := fun d M' => ∃ M1 G, M' = M1 ++ G ∧ M.length ≤ M1.length ∧ below M1.length d = true ∧ (∀ (i : Nat) (c : Own), M1[i]? = some c → M[i]? = some c ∨ belowO M1.length c = true) ∧ Q d M1
theorem Sat.leave {K : PySem.W.Frag} {ph ph1 : Ph} {S S1 : Hp} {r : Env} {M M1 G : Mem} {σ : St} {H H1 : Hp} (h0 : Sat K ph S [] M [] H) (x : Ext ph S ph1 S1) (h : Sat K ph1 S1 r (M1 ++ G) σ H1) (hl : M.length ≤ M1.length) (hc : ∀ (i : Nat) (c : Own), M1[i]? = some c → M[i]? = some c ∨ belowO M1.length c = true) :
    Ext ph S (ph1.cut M1.length) S1 ∧ Sat K (ph1.cut M1.length) S1 [] M1 [] H1 := by
  have hpl : M1.length ≤ ph1.cells.length := by have := h.len; rw [List.length_append] at this; omega
  have up : ∀ (k : Nat) (a : Addr), k < M1.length → ph1.cells[k]? = some a → (ph1.cut M1.length).cells[k]? = some a := fun k a hk e => by show (ph1.cells.take M1.length)[k]? = _; rw [List.getElem?_take_of_lt hk]; exact e
  have dn : ∀ (k : Nat) (a : Addr), (ph1.cut M1.length).cells[k]? = some a → ph1.cells[k]? = some a := fun k a e => by
    replace e : (ph1.cells.take M1.length)[k]? = some a := e
    have hk : k < M1.length := by
      have := (List.getElem?_eq_some_iff.mp e).1
      rw [List.length_take] at this; omega
    rw [List.getElem?_take_of_lt hk] at e; exact e
  refine ⟨⟨fun k a e => up k a ?_ (x.pre k a e), x.same, x.hid⟩, h.sub, ?_, h.nd.sublist (List.take_sublist _ _), fun k a e => h.trk k a (dn k a e), fun k ds e hli => ?_, fun q hq => ?_, h.hnd, rfl, fun i d e => by simp at e⟩
  · refine Nat.lt_of_lt_of_le ?_ hl
    rw [← h0.len]; exact (List.getElem?_eq_some_iff.mp e).1
  · show (ph1.cells.take M1.length).length = _
    rw [List.length_take]; omega
  · have kl : k < M1.length := (List.getElem?_eq_some_iff.mp e).1
    obtain ⟨a, o, c1, c2, c3, c4⟩ := h.own k ds (by rw [List.getElem?_append_left kl]; exact e) hli
    refine ⟨a, o, up k a (by omega) c1, c2, c3, OwnR.take ?_ c4⟩
    rcases hc k _ e with q | q
    · obtain ⟨_, _, _, _, _, b4⟩ := h0.own k ds q hli
      refine belowO.monoO hl ?_
      rw [← h0.len]; exact b4.below
    · exact q
  · obtain ⟨h1, h2, h3⟩ := h.hid q hq
    exact ⟨h1, h2, fun z => h3 (List.mem_of_mem_take z)⟩
theorem Rtq.out {K : PySem.W.Frag} {ph : Ph} {S : Hp} {M : Mem} {H : Hp} {Q : DQ} (h0 : Sat K ph S [] M [] H) {v : V} {H1 : Hp} (h : postR K ph S (Rtq M Q) v H1) : postM K ph S Q v H1 := by
  obtain ⟨r, σ, ph1, S1, M', x, hs, d, q, M1, G, rfl, hl, hb, hc, hq⟩ := h
  obtain ⟨x2, hs2⟩ := Sat.leave h0 x hs hl hc
  exact ⟨_, _, _, x2, hs2, d, Rep.take d v hb q, hq⟩
/-- the names at the entry -/
def startD (n : Nat) (ds : List D) : Env := ds.map some ++ List.replicate (n - ds.length) none
theorem Sat.start {K : PySem.W.Frag} {ph : Ph} {S : Hp} {M : Mem} {H : Hp} {vs : List V} {ds : List D} (h : Sat K ph S [] M [] H) (q : RepAll K ph S vs ds) (N : List Str) : Sat K ph S (startD N.length ds) M (L2.start N vs) H := by
  refine ⟨h.sub, h.len, h.nd, h.trk, h.own, h.hid, h.hnd, ?_, fun i d e => ?_⟩
  · unfold startD L2.start
    rw [List.length_append, List.length_append, List.length_map, List.length_map, List.length_replicate, List.length_replicate, q.len]
  · unfold startD at e
    by_cases hi : i < ds.length
    · rw [List.getElem?_append_left (by rw [List.length_map]; exact hi), List.getElem?_map] at e
      cases e' : ds[i]? with
      | none => rw [e'] at e; cases e
      | some d' =>
        rw [e'] at e
        have e2 : d' = d := by simpa using e
        subst e2
        obtain ⟨v, ev, qv⟩ := q.get e'
        refine ⟨v, ?_, qv⟩
        unfold L2.start
        rw [List.getElem?_append_left (by rw [List.length_map, q.len]; exact hi), List.getElem?_map, ev]
        rfl
    · rw [List.getElem?_append_right (by rw [List.length_map]; omega), List.getElem?_replicate] at e
      split at e <;> cases e
/-- what the body's end is for the def -/
def dEnds (M : Mem) (Q : DQ) : DEnds := { nx := fun _ M' => Rtq M Q .non M', rt := Rtq M Q }
section
variable {P : Program} {w : World} {K : PySem.W.Frag} {mg : Str → Option Value} {base : Heap}
/-- THE RULE: a def from which nothing is raised, by its body; its end leaves its own cells behind -/
theorem Fun.okD {x qual : Str} {st : Stmt} {f : Addr} {fd : FuncData} {N ps : List Str} {k : Nat} {sp : DSp} {t : DTS} (F : Fun K x qual st f fd) (S : FnScope N ps (defScope st))
    (hder : ∀ (cdv : Value) (A : Around) (outer : List PySem.Env) (s : Shared) (H : Hp) (E : XK), Room k (A.deeper (envOfC qual (defScope st) s.heap.objs.size f cdv)) → (A.deeper (envOfC qual (defScope st) s.heap.objs.size f cdv)).guards = some [] →
      DSs (cxOf CX0 P w K mg base N qual (defScope st) f cdv A outer s H E).nox (defBody st) t)
    (hread : ∀ ds M Q, ds.length = ps.length → sp ds M Q DX0 → t (dEnds M Q) (startD N.length ds) M)
    (hX : ∀ ds M Q E, sp ds M Q E → sp ds M Q DX0 := by exact fun _ _ _ _ h => h) : FnD P w K mg base CX0 (k + 1) f fd ps sp := by
  obtain ⟨oc, od, kV, doc, pm, an, cdv, ct, osl, rfl, lk, hcd⟩ := F.ex
  refine fnG_of lk hcd S (fun vs H Q E h => ?_) fun A outer s H vs Q E hr gd hsp => ?_
  · obtain ⟨_, _, _, _, _, _, hl, _, q, _⟩ := h
    rw [q.len]; exact hl
  · obtain ⟨ph, S0, M, ds, Q0, E0, hl, hs, hq, h, h1, h2⟩ := hsp
    refine ⟨_, (hder cdv A outer s H E hr gd).pss.nox, ph, S0, startD N.length ds, M, dEnds M Q0, hs.start hq N, hread ds M Q0 hl (hX _ _ _ _ h), ?_, ?_, ?_, ?_⟩
    · rintro σ' H' ⟨r, ph1, S1, M1, x, hs1, z⟩
      exact h1 _ _ (Rtq.out hs ⟨r, σ', ph1, S1, M1, x, hs1, .non, .non, z⟩)
    · exact fun v H' z => h1 _ _ (Rtq.out hs z)
    · rintro σ' H' ⟨r, ph1, S1, M1, x, hs1, z⟩
      exact z.elim
    · rintro σ' H' ⟨r, ph1, S1, M1, x, hs1, z⟩
      exact z.elim
end
end DL
/-! DL6: statements, loops, comprehensions -/
namespace DL
open PySem PySem.Spec PyProof.Rows L2
variable {X : Cx}
theorem DS.of {st : Stmt} {t' : TS} {t : DTS} (h : PS X st t') (w : ∀ ph S r M σ H E, Sat X.K ph S r M σ H → t E r M → ∀ E', (∀ σ' H', postN X.K ph S E.nx σ' H' → E'.nx σ' H') → (∀ v H', postR X.K ph S E.rt v H' → E'.rt v H') → (∀ σ' H', postN X.K ph S E.bk σ' H' → E'.bk σ' H') → (∀ σ' H', postN X.K ph S E.ct σ' H' → E'.ct σ' H') → t' E' σ H) : DS X st t :=
  ⟨PS.weak h fun E σ H ⟨ph, S, r, M, E0, hs, ht, h1, h2, h3, h4⟩ => w ph S r M σ H E0 hs ht E h1 h2 h3 h4⟩
theorem postN.up {K : PySem.W.Frag} {ph ph1 : Ph} {S S1 : Hp} {Q : Env → Mem → Prop} {σ : St} {H : Hp} (x : Ext ph S ph1 S1) (h : postN K ph1 S1 Q σ H) : postN K ph S Q σ H := let ⟨r, q⟩ := h; ⟨r, Aft.up x q⟩
theorem postR.up {K : PySem.W.Frag} {ph ph1 : Ph} {S S1 : Hp} {Q : DQ} {v : V} {H : Hp} (x : Ext ph S ph1 S1) (h : postR K ph1 S1 Q v H) : postR K ph S Q v H := let ⟨r, σ, q⟩ := h; ⟨r, σ, Aft.up x q⟩
/-! ### blocks -/
def dNext : DTS := fun E r M => E.nx r M
def dSeq (t u : DTS) : DTS := fun E r M => t { E with nx := u E } r M
theorem dss_nil : DSs X [] dNext := ⟨PSs.weak pss_nil fun E σ H ⟨ph, S, r, M, E0, hs, ht, h1, _, _, _⟩ => h1 _ _ ⟨r, Aft.here hs ht⟩⟩
theorem lf_on {ph ph1 : Ph} {S S1 : Hp} {r : Env} {M : Mem} {σ : St} {H : Hp} {t : DTS} {E : DEnds} {E' : Ends} (x : Ext ph S ph1 S1) (hs : Sat X.K ph1 S1 r M σ H) (ht : t E r M)
    (h1 : ∀ σ' H', postN X.K ph S E.nx σ' H' → E'.nx σ' H') (h2 : ∀ v H', postR X.K ph S E.rt v H' → E'.rt v H') (h3 : ∀ σ' H', postN X.K ph S E.bk σ' H' → E'.bk σ' H') (h4 : ∀ σ' H', postN X.K ph S E.ct σ' H' → E'.ct σ' H') : lfS X.K t E' σ H :=
  ⟨ph1, S1, r, M, E, hs, ht, fun _ _ z => h1 _ _ (z.up x), fun _ _ z => h2 _ _ (z.up x), fun _ _ z => h3 _ _ (z.up x), fun _ _ z => h4 _ _ (z.up x)⟩
theorem dss_cons {st : Stmt} {rest : List Stmt} {t u : DTS} (h : DS X st t) (h' : DSs X rest u) : DSs X (st :: rest) (dSeq t u) :=
  ⟨PSs.weak (pss_cons h.ps h'.pss) fun E σ H ⟨ph, S, r, M, E0, hs, ht, h1, h2, h3, h4⟩ =>
    ⟨ph, S, r, M, { E0 with nx := u E0 }, hs, ht, fun σ' H' ⟨r1, ph1, S1, M1, x, hs1, z⟩ => lf_on x hs1 z h1 h2 h3 h4, h2, h3, h4⟩⟩
theorem dss_one {st : Stmt} {t : DTS} (h : DS X st t) : DSs X [st] t := ⟨pss_one h.ps⟩
def dNever : DTS := fun _ _ _ => False
section
variable {pos : Pos}
/-- an expression whose value is dropped -/
def dDrop (t : DTE) : DTS := fun E r M => t r M fun _ M1 => E.nx r M1
theorem ds_expr {e : Expr} {t : DTE} (he : DE X e t) (hs : swapsWith e none pos.line X.env = pure false := by rfl) : DS X (.Expr e pos) (dDrop t) :=
  DS.of (ps_expr he.pe hs) fun ph S r M σ H E hs ht E' h1 _ _ _ => ⟨ph, S, r, M, _, hs, ht, fun v H' ⟨ph1, S1, M1, x, hs1, d, _, z⟩ => h1 _ _ ⟨r, ph1, S1, M1, x, hs1, z⟩⟩
def dRet (t : DTE) : DTS := fun E r M => t r M E.rt
theorem ds_ret {e : Expr} {t : DTE} (he : DE X e t) : DS X (.Return (some e) pos) (dRet t) :=
  DS.of (ps_ret he.pe) fun ph S r M σ H E hs ht E' _ h2 _ _ => ⟨ph, S, r, M, _, hs, ht, fun v H' z => h2 _ _ ⟨r, σ, z⟩⟩
def dRetN : DTS := fun E _ M => E.rt .non M
def dIfS (c : DTT) (t u : DTS) : DTS := fun E r M => c r M fun b M1 => if b = true then t E r M1 else u E r M1
theorem ds_if {c : Expr} {a b : List Stmt} {tc : DTT} {t u : DTS} (hc : DT X c tc) (ha : DSs X a t) (hb : DSs X b u) : DS X (.If c a b pos) (dIfS tc t u) :=
  DS.of (ps_if hc.pt ha.pss hb.pss) fun ph S r M σ H E hs ht E' h1 h2 h3 h4 => ⟨ph, S, r, M, _, hs, ht, fun k H1 ⟨ph1, S1, M1, x, hs1, z⟩ => by
    cases k with
    | true => exact lf_on x hs1 z h1 h2 h3 h4
    | false => exact lf_on x hs1 z h1 h2 h3 h4⟩
end
/-! ### targets -/
abbrev DTG := D → Env → Mem → (Env → Mem → Prop) → Prop
structure DG (X : Cx) (target : Expr) (g : DTG) : Prop where
  pg : PG X target (fun v σ H Q => ∃ ph S r M d Q0, Sat X.K ph S r M σ H ∧ Rep X.K ph S v d ∧ g d r M Q0 ∧ ∀ σ' H', postN X.K ph S Q0 σ' H' → Q σ' H')
def dName (i : Nat) : DTG := fun d r M Q => Q (r.set i (some d)) M
theorem dg_name {i : Nat} {x : Str} {pos : Pos} (hN : X.N.Nodup) (hi : X.N[i]? = some x := by rfl) (hx : Loc X.env.scope x := by first | exact Or.inl rfl | exact Or.inr rfl) (hf : X.fn x = true ∨ X.env.scope.names.lookup x = some .local := by first | exact .inl rfl | exact .inr rfl | assumption) : DG X (.Name x pos) (dName i) :=
  ⟨⟨fun pins s σ H v u Q I rv ⟨ph, S, r, M, d, Q0, hs, q, hg, h1⟩ => (pg_name hN hi hx hf).run pins s σ H v u Q I rv (h1 _ _ ⟨_, Aft.here (hs.setN q) hg⟩)⟩⟩
abbrev DTGs := List D → Env → Mem → (Env → Mem → Prop) → Prop
def dGNil : DTGs := fun ds r M Q => match ds with
  | [] => Q r M
  | _ => False
def dGCons (g : DTG) (u : DTGs) : DTGs := fun ds r M Q => match ds with
  | d :: rest => g d r M fun r1 M1 => u rest r1 M1 Q
  | _ => False
/-- (a, b, ..) = a tuple, or a list -/
def dGTup (n : Nat) (u : DTGs) : DTG := fun d r M Q => match res M d with
  | .tup ds => ds.length = n ∧ u ds r M Q
  | .lst ds => ds.length = n ∧ u ds r M Q
  | _ => False
/-- o[i] = .., o an owned list -/
def gSetL (o i d : D) (M : Mem) (Q : Mem → Prop) : Prop := match o, i with
  | .own k, .int j => match M[k]? with
    | some (.lst l) => match ixN l.length j with
      | some n => Q (M.set k (.lst (l.set n d)))
      | none => False
    | _ => False
  | _, _ => False
def dSub (to ti : DTE) : DTG := fun d r M Q => to r M fun o M1 => ti r M1 fun i M2 => gSetL o i d M2 fun M3 => Q r M3
theorem dg_sub {o i : Expr} {to ti : DTE} {pos : Pos} (ho : DE X o to) (hi : DE X i ti)
    (ha : ∀ v, assign (.Subscript o i pos) X.env v = (do
      let ov ← holding [v] (eval o X.env)
      let iv ← holding [v, ov] (eval i X.env)
      standAt pos
      holding [v, ov, iv] (setItem ov iv v)
      release [v, ov, iv] []) := by intro _; rfl) : DG X (.Subscript o i pos) (dSub to ti) :=
  ⟨⟨fun pins s σ H v u Q I rv ⟨ph, S, r, M, d, Q0, hs, q, hg, h1⟩ => (pg_sub ho.pe hi.pe set_list ha).run pins s σ H v u Q I rv
    ⟨ph, S, r, M, _, hs, hg, fun ov H1 ⟨ph1, S1, M1, x1, hs1, od, q1, g1⟩ => ⟨ph1, S1, r, M1, _, hs1, g1, fun iv H2 ⟨ph2, S2, M2, x2, hs2, id', q2, g2⟩ => by
      replace g2 : gSetL od id' d M2 fun M3 => Q0 r M3 := g2
      cases od with
      | own k =>
        cases id' with
        | int j =>
          unfold gSetL at g2
          dsimp only at g2
          split at g2
          · rename_i l hk
            split at g2
            · rename_i n hn
              cases q2
              cases q1 with
              | own hp =>
                have hp2 := x2.pre _ _ hp
                obtain ⟨a, xs, c1, c2, c3, c4⟩ := hs2.cell k l hk
                rw [hp2] at c1; cases c1
                exact ⟨_, xs, j, n, rfl, rfl, c3, by rw [c4.len]; exact hn, h1 _ _ ⟨r, ph2, S2, _, x1.trans x2, hs2.put hk hp2 (RepAll.set (q.up (x1.trans x2)) n c4), g2⟩⟩
            · exact g2.elim
          · exact g2.elim
        | _ => exact g2.elim
      | _ => exact g2.elim⟩⟩⟩⟩
/-- target = value -/
def dAsg (t : DTE) (g : DTG) : DTS := fun E r M => t r M fun d M1 => g d r M1 E.nx
section
variable {pos : Pos}
theorem ds_asg {tg e : Expr} {t : DTE} {g : DTG} (he : DE X e t) (hg : DG X tg g) (hs : swapsWithSole [tg] e pos.line X.env = pure false := by rfl) (hw : swappedStores [tg] e X.env = pure none := by rfl)
    (h1 : (assignEach [tg] X.env).map (·.2) = [assign tg X.env] := by rfl) : DS X (.Assign [tg] e pos) (dAsg t g) :=
  DS.of (ps_asg he.pe hg.pg hs hw h1) fun ph S r M σ H E hs ht E' h1 _ _ _ => ⟨ph, S, r, M, _, hs, ht, fun v H' ⟨ph1, S1, M1, x, hs1, d, q, z⟩ => ⟨ph1, S1, r, M1, d, E.nx, hs1, q, z, fun σ2 H2 z2 => h1 _ _ (z2.up x)⟩⟩
/-- name = value -/
theorem ds_set {i : Nat} {x : Str} {e : Expr} {t : DTE} {pos' : Pos} (hN : X.N.Nodup) (he : DE X e t) (hi : X.N[i]? = some x := by rfl) (hx : Loc X.env.scope x := by first | exact Or.inl rfl | exact Or.inr rfl) (hs : swapsWith e (some (.Name x pos')) pos.line X.env = pure false := by rfl) (hf : X.fn x = true ∨ X.env.scope.names.lookup x = some .local := by first | exact .inl rfl | exact .inr rfl | assumption) :
    DS X (.Assign [.Name x pos'] e pos) (dAsg t (dName i)) :=
  DS.of (ps_set hN hi hx he.pe hs hf) fun ph S r M σ H E hs ht E' h1 _ _ _ => ⟨ph, S, r, M, _, hs, ht, fun v H' ⟨ph1, S1, M1, x, hs1, d, q, z⟩ => h1 _ _ ⟨_, ph1, S1, M1, x, hs1.setN q, z⟩⟩
/-- a, b = x, y -/
def dPar (i j : Nat) (t : DTA) : DTS := fun E r M => t r M fun ds M1 => match ds with
  | [d, e] => E.nx ((r.set i (some d)).set j (some e)) M1
  | _ => False
theorem ds_par {i j : Nat} {x y : Str} {a b : Expr} {t : DTA} {px py pt : Pos} {kt k2 pt2} (hc : X.calm = true) (hN : X.N.Nodup) (ha : DA X [a, b] t) (hi : X.N[i]? = some x := by rfl) (hj : X.N[j]? = some y := by rfl) (hij : i ≠ j := by decide)
    (hx : X.env.scope.names.lookup x = some .local := by rfl) (hy : X.env.scope.names.lookup y = some .local := by rfl)
    (hw : swappedStores [.Tuple [.Name x px, .Name y py] kt pt] (.Tuple [a, b] k2 pt2) X.env = pure (some [x, y]) := by rfl)
    (hs : swapsWithSole [.Tuple [.Name x px, .Name y py] kt pt] (.Tuple [a, b] k2 pt2) pos.line X.env = pure false := by rfl) :
    DS X (.Assign [.Tuple [.Name x px, .Name y py] kt pt] (.Tuple [a, b] k2 pt2) pos) (dPar i j t) :=
  DS.of (ps_par hc hN hi hj hij hx hy ha.pa hw hs) fun ph S r M σ H E hs ht E' h1 _ _ _ => ⟨ph, S, r, M, _, hs, ht, fun vs H' ⟨ph1, S1, M1, x, hs1, ds, q, z⟩ => by
    match ds, q, z with
    | [d, e], .cons q1 (.cons q2 .nil), z => exact ⟨_, _, rfl, h1 _ _ ⟨_, ph1, S1, M1, x, (hs1.setN q1).setN q2, z⟩⟩⟩
def dPar3 (i j l : Nat) (t : DTA) : DTS := fun E r M => t r M fun ds M1 => match ds with
  | [d, e, f] => E.nx (((r.set i (some d)).set j (some e)).set l (some f)) M1
  | _ => False
/-- name op= e (ints) -/
def gIpI (f : Int → Int → Int) (x y : D) (M : Mem) (Q : DQ) : Prop := match x, y with
  | .int i, .int j => Q (.int (f i j)) M
  | _, _ => False
def dAug (i : Nat) (t : DTE) (f : Int → Int → Int) : DTS := fun E r M => match r[i]? with
  | some (some (.int a)) => t r M fun d M1 => gIpI f (.int a) d M1 fun z M2 => E.nx (r.set i (some z)) M2
  | _ => False
/-! ### while -/
end
/-! ### what is walked -/
/-- J walks the items ds, while C holds of the cells -/
def Wlk (K : PySem.W.Frag) (ph : Ph) (S : Hp) (J : It) (ds : List D) (C : Mem → Prop) : Prop :=
  ∀ (ph' : Ph) S' r M σ H, (∀ (k : Nat) (a : Addr), ph.cells[k]? = some a → ph'.cells[k]? = some a) → Same S S' → Sat K ph' S' r M σ H → C M →
    (∀ i, ds.length ≤ i → J.stop i H) ∧ ∀ i d, ds[i]? = some d → J.go i H ∧ ∀ x H', J.yld i H x H' → Aft K ph' S' r σ H' fun ph2 S2 M2 => M2 = M ∧ Rep K ph2 S2 x d
abbrev DTI := Env → Mem → (List D → (Mem → Prop) → Mem → Prop) → Prop
structure DI (X : Cx) (tg iter : Expr) (t : DTI) : Prop where
  pi : PI X tg iter (fun σ H R => ∃ ph S r M Q0, Sat X.K ph S r M σ H ∧ t r M Q0 ∧ ∀ J H', (Aft X.K ph S r σ H' fun ph' S' M' => ∃ ds C, Wlk X.K ph' S' J ds C ∧ Q0 ds C M') → R J H')
/-- for: W holds ahead of turn i -/
def forW (ds : List D) (C : Mem → Prop) (g : DTG) (t : DTS) (E : DEnds) (r : Env) (M0 : Mem) : Prop := ∃ W : Nat → Env → Mem → Prop, W 0 r M0 ∧ ∀ i r M, W i r M → C M ∧ (ds.length ≤ i → E.nx r M) ∧
  ∀ d, ds[i]? = some d → g d r M fun r2 M2 => t { E with nx := W (i + 1), ct := W (i + 1), bk := E.nx } r2 M2
def dFor (wi : DTI) (g : DTG) (t : DTS) : DTS := fun E r M => wi r M fun ds C M0 => forW ds C g t E r M0
theorem ds_for {tg iter : Expr} {body : List Stmt} {wi : DTI} {g : DTG} {t : DTS} {pos : Pos} (hc : X.calm = true) (hi : DI X tg iter wi) (hg : DG X tg g) (hb : DSs X body t)
    (hs : ∀ x, foldedSetIterable iter X.env x = pure x := by intro _; rfl) (hp : PassesOwn (model X.prog X.w) X.A X.env X.xe := by exact PassesOwn.never) : DS X (.For tg iter body [] pos) (dFor wi g t) :=
  DS.of (ps_for hp hc hi.pi hg.pg hb.pss hs) fun ph S r M σ H E hs ht E' h1 h2 h3 h4 => by
    refine ⟨ph, S, r, M, _, hs, ht, fun J H1 ⟨ph1, S1, M1, x1, hs1, ds, C, wk, W, w0, turn⟩ => ?_⟩
    refine ⟨fun i m σ H => m = ds.length - i ∧ ∃ r', Aft X.K ph1 S1 r' σ H fun _ _ M => W i r' M, ⟨ds.length, by omega, r, Aft.here hs1 w0⟩, ?_⟩
    rintro i m σ3 H3 ⟨rfl, r3, ph3, S3, M3, x3, hs3, w3⟩
    obtain ⟨c3, f3, g3⟩ := turn i r3 M3 w3
    obtain ⟨k1, k2⟩ := wk ph3 S3 r3 M3 σ3 H3 x3.pre x3.same hs3 c3
    by_cases hl : ds.length ≤ i
    · exact .inl ⟨k1 i hl, h1 _ _ ⟨r3, ph3, S3, M3, x1.trans x3, hs3, f3 hl⟩⟩
    · obtain ⟨d, ed⟩ : ∃ d, ds[i]? = some d := ⟨ds[i]'(by omega), List.getElem?_eq_getElem (by omega)⟩
      obtain ⟨k3, k4⟩ := k2 i d ed
      refine .inr ⟨k3, fun σ' H' => ∃ r', Aft X.K ph1 S1 r' σ' H' fun _ _ M => W (i + 1) r' M, fun σ' H' z => ⟨ds.length - (i + 1), by omega, rfl, z⟩, fun x H4 hy => ?_⟩
      obtain ⟨ph4, S4, M4, x4, hs4, rfl, q4⟩ := k4 x H4 hy
      refine ⟨ph4, S4, r3, M4, d, _, hs4, q4, g3 d ed, fun σ5 H5 ⟨r5, ph5, S5, M5, x5, hs5, z5⟩ => ?_⟩
      have xx : Ext ph1 S1 ph5 S5 := x3.trans (x4.trans x5)
      refine ⟨ph5, S5, r5, M5, _, hs5, z5, ?_, ?_, ?_, ?_⟩
      · exact fun σ6 H6 ⟨r6, z6⟩ => ⟨r6, Aft.up xx z6⟩
      · exact fun v H6 z6 => h2 _ _ (z6.up (x1.trans xx))
      · exact fun σ6 H6 z6 => h1 _ _ (z6.up (x1.trans xx))
      · exact fun σ6 H6 ⟨r6, z6⟩ => ⟨r6, Aft.up xx z6⟩
/-! ### comprehensions -/
/-- the tests behind if -/
def dYes : DTT := fun _ M Q => Q true M
structure DTs (X : Cx) (ifs : List Expr) (t : DTT) : Prop where
  pts : PTs X ifs (fun σ H Q => ∃ ph S r M Q0, Sat X.K ph S r M σ H ∧ t r M Q0 ∧ ∀ b H', postT X.K ph S r σ Q0 b H' → Q b H')
theorem dts_nil : DTs X [] dYes := ⟨⟨fun pins s σ H Q I ⟨ph, S, r, M, Q0, hs, ht, hq⟩ => pts_nil.run pins s σ H Q I (hq _ _ (Aft.here hs ht))⟩⟩
theorem dts_one {c : Expr} {t : DTT} (h : DT X c t) : DTs X [c] t := ⟨pts_one h.pt⟩
def wipeD (r : Env) : List Nat → Env
  | [] => r
  | v :: vs => (wipeD r vs).set v none
theorem Sat.clr {K : PySem.W.Frag} {ph : Ph} {S : Hp} {r : Env} {M : Mem} {σ : St} {H : Hp} (h : Sat K ph S r M σ H) (i : Nat) : Sat K ph S (r.set i none) M (σ.set i none) H := by
  refine ⟨h.sub, h.len, h.nd, h.trk, h.own, h.hid, h.hnd, by rw [List.length_set, List.length_set]; exact h.el, fun j e hj => ?_⟩
  by_cases hi : j = i
  · subst hi
    have jl : j < r.length := by
      have := (List.getElem?_eq_some_iff.mp hj).1
      rwa [List.length_set] at this
    rw [List.getElem?_set_self jl] at hj
    cases hj
  · rw [List.getElem?_set_ne (Ne.symm hi)] at hj
    rw [List.getElem?_set_ne (Ne.symm hi)]
    exact h.env j e hj
theorem Sat.wipe {K : PySem.W.Frag} {ph : Ph} {S : Hp} {r : Env} {M : Mem} {σ : St} {H : Hp} (h : Sat K ph S r M σ H) : ∀ vs : List Nat, Sat K ph S (wipeD r vs) M (L2.wipe σ vs) H
  | [] => h
  | v :: vs => (Sat.wipe h vs).clr v
/-- a target whose names are the comprehension's own (places vs) -/
structure DCG (X : Cx) (target : Expr) (vs : List Nat) (g : DTG) : Prop where
  pg : PG X target (fun v σ H Q => ∃ ph S r M d Q0, Sat X.K ph S r M σ H ∧ Rep X.K ph S v d ∧ g d r M Q0 ∧ ∀ σ' H', postN X.K ph S Q0 σ' H' → L2.wipe σ' vs = L2.wipe σ vs → Q σ' H')
theorem wipe_set {σ : St} {i : Nat} {x : Option V} : ∀ {vs : List Nat}, i ∈ vs → L2.wipe (σ.set i x) vs = L2.wipe σ vs
  | [], h => by cases h
  | v :: vs, h => by
    unfold L2.wipe
    by_cases hv : i ∈ vs
    · rw [wipe_set hv]
    · have e : i = v := (List.mem_cons.mp h).resolve_right hv
      subst e
      have key : ∀ (us : List Nat), i ∉ us → L2.wipe (σ.set i x) us = (L2.wipe σ us).set i x := by
        intro us
        induction us with
        | nil => intro _; rfl
        | cons u us ih =>
          intro hu
          unfold L2.wipe
          rw [ih (fun z => hu (List.mem_cons_of_mem _ z)), List.set_comm _ _ (fun e => hu (by rw [e]; exact List.mem_cons_self))]
      rw [key vs hv, List.set_set]
theorem dcg_name {i : Nat} {x : Str} {pos : Pos} {vs : List Nat} (hN : X.N.Nodup) (hi : X.N[i]? = some x := by rfl) (hv : i ∈ vs := by decide) (hx : Loc X.env.scope x := by first | exact Or.inl rfl | exact Or.inr rfl) (hf : X.fn x = true ∨ X.env.scope.names.lookup x = some .local := by first | exact .inl rfl | exact .inr rfl | assumption) : DCG X (.Name x pos) vs (dName i) :=
  ⟨⟨fun pins s σ H v u Q I rv ⟨ph, S, r, M, d, Q0, hs, q, hg, h1⟩ => (pg_name hN hi hx hf).run pins s σ H v u Q I rv (h1 _ _ ⟨_, Aft.here (hs.setN q) hg⟩ (wipe_set hv))⟩⟩
/-- [e for target in iter if ..]: W holds ahead of turn i with the items made so far; own: the list will be changed -/
def lcW (own : Bool) (ds : List D) (C : Mem → Prop) (g : DTG) (tt : DTT) (te : DTE) (r : Env) (M0 : Mem) (Q : DQ) : Prop := ∃ W : Nat → List D → Mem → Prop, W 0 [] M0 ∧ ∀ i acc M, W i acc M → C M ∧
  (ds.length ≤ i → if own = true then Q (.own M.length) (M ++ [.lst acc]) else Q (.lst acc) M) ∧
  ∀ d, ds[i]? = some d → g d r M fun r2 M2 => tt r2 M2 fun b M3 => if b = true then te r2 M3 fun e M4 => acc.length < sizeLine ∧ W (i + 1) (acc ++ [e]) M4 else W (i + 1) acc M3
def dLc (own : Bool) (wi : DTI) (g : DTG) (tt : DTT) (te : DTE) (vs : List Nat) : DTE := fun r M Q => wi r M fun ds C M0 => lcW own ds C g tt te (wipeD r vs) M0 Q
theorem wipe_at {σ : St} {i : Nat} : ∀ {vs : List Nat}, i ∈ vs → i < σ.length → (L2.wipe σ vs)[i]? = some none
  | [], h, _ => by cases h
  | v :: vs, h, hl => by
    unfold L2.wipe
    by_cases e : v = i
    · subst e
      rw [List.getElem?_set_self (by rw [wipe_length]; exact hl)]
    · rw [List.getElem?_set_ne e]
      exact wipe_at ((List.mem_cons.mp h).resolve_left (fun z => e z.symm)) hl
theorem wipe_wipe (σ : St) (vs : List Nat) : L2.wipe (L2.wipe σ vs) vs = L2.wipe σ vs := by
  refine List.ext_getElem? fun i => ?_
  by_cases hi : i ∈ vs
  · by_cases hl : i < σ.length
    · rw [wipe_at hi (by rw [wipe_length]; exact hl), wipe_at hi hl]
    · rw [List.getElem?_eq_none (by rw [wipe_length, wipe_length]; omega), List.getElem?_eq_none (by rw [wipe_length]; omega)]
  · rw [wipe_out hi]
theorem lc_read (o : Bool) {wi : DTI} {g : DTG} {tt : DTT} {te : DTE} {vs : List Nat} {ph : Ph} {S : Hp} {r : Env} {M : Mem} {σ : St} {H : Hp} {Q : DQ} (hs : Sat X.K ph S r M σ H) (ht : dLc o wi g tt te vs r M Q) (Q' : VK) (hq : ∀ v H', post X.K ph S r σ Q v H' → Q' v H') :
    tLc (fun σ H R => ∃ ph S r M Q0, Sat X.K ph S r M σ H ∧ wi r M Q0 ∧ ∀ J H', (Aft X.K ph S r σ H' fun ph' S' M' => ∃ ds C, Wlk X.K ph' S' J ds C ∧ Q0 ds C M') → R J H')
      (fun v σ H Q => ∃ ph S r M d Q0, Sat X.K ph S r M σ H ∧ Rep X.K ph S v d ∧ g d r M Q0 ∧ ∀ σ' H', postN X.K ph S Q0 σ' H' → L2.wipe σ' vs = L2.wipe σ vs → Q σ' H')
      (fun σ H Q => ∃ ph S r M Q0, Sat X.K ph S r M σ H ∧ tt r M Q0 ∧ ∀ b H', postT X.K ph S r σ Q0 b H' → Q b H')
      (fun σ H Q => ∃ ph S r M Q0, Sat X.K ph S r M σ H ∧ te r M Q0 ∧ ∀ v H', post X.K ph S r σ Q0 v H' → Q v H') vs σ H Q' := by
  refine ⟨ph, S, r, M, _, hs, ht, fun J H1 ⟨ph1, S1, M1, x1, hs1, ds, C, wk, W, w0, turn⟩ => ?_⟩
  intro p hp
  refine ⟨fun i m H => m = ds.length - i ∧ ∃ (ph2 : Ph) (S2 : Hp) (M2 : Mem) (xs : List V) (acc : List D), Ext ph1 S1 ⟨ph2.cells, ph1.hid⟩ S2 ∧ ph2.hid = (p, .lst xs) :: ph1.hid ∧ Sat X.K ph2 S2 r M2 σ H ∧ RepAll X.K ph2 S2 xs acc ∧ W i acc M2,
    ⟨ds.length, by omega, { ph1 with hid := (p, .lst []) :: ph1.hid }, S1, M1, [], [], .refl, rfl, hs1.hide hp _, .nil, w0⟩, ?_⟩
  rintro i m H3 ⟨rfl, ph3, S3, M3, xs, acc, x3, eh, hs3, qa, w3⟩
  obtain ⟨c3, f3, g3⟩ := turn i acc M3 w3
  obtain ⟨k1, k2⟩ := wk ph3 S3 r M3 σ H3 x3.pre x3.same hs3 c3
  by_cases hl : ds.length ≤ i
  · refine .inl ⟨k1 i hl, ?_⟩
    have f := f3 hl
    obtain ⟨c, hd⟩ := ph3
    cases eh
    cases o with
    | false =>
      rw [if_neg Bool.false_ne_true] at f
      obtain ⟨x4, hs4⟩ := hs3.hfrz
      exact hq _ _ ⟨⟨c, ph1.hid⟩, _, M3, x1.trans (x3.trans x4), hs4, _, .lst upd_same ((RepAll.hid qa).up x4), f⟩
    | true =>
      rw [if_pos rfl] at f
      obtain ⟨x4, hs4, e4⟩ := hs3.hown (RepAll.hid qa)
      exact hq _ _ ⟨⟨c ++ [p], ph1.hid⟩, _, _, x1.trans (x3.trans x4), hs4, _, .own e4, f⟩
  · obtain ⟨d, ed⟩ : ∃ d, ds[i]? = some d := ⟨ds[i]'(by omega), List.getElem?_eq_getElem (by omega)⟩
    obtain ⟨k3, k4⟩ := k2 i d ed
    refine .inr ⟨k3, fun H' => ∃ (ph2 : Ph) (S2 : Hp) (M2 : Mem) (xs : List V) (acc : List D), Ext ph1 S1 ⟨ph2.cells, ph1.hid⟩ S2 ∧ ph2.hid = (p, .lst xs) :: ph1.hid ∧ Sat X.K ph2 S2 r M2 σ H' ∧ RepAll X.K ph2 S2 xs acc ∧ W (i + 1) acc M2, fun H' z => ⟨ds.length - (i + 1), by omega, rfl, z⟩, fun x H4 hy => ?_⟩
    obtain ⟨ph4, S4, M4, x4, hs4, rfl, q4⟩ := k4 x H4 hy
    refine ⟨ph4, S4, wipeD r vs, M4, d, _, hs4.wipe vs, q4, g3 d ed, fun σ5 H5 ⟨r5, ph5, S5, M5, x5, hs5, z5⟩ e5 => ⟨e5.trans (wipe_wipe σ vs), ?_⟩⟩
    refine ⟨ph5, S5, r5, M5, _, hs5, z5, fun b H6 ⟨ph6, S6, M6, x6, hs6, z6⟩ => ?_⟩
    cases b with
    | false =>
      have xx := x4.trans (x5.trans x6)
      rw [if_neg Bool.false_ne_true] at z6 ⊢
      exact ⟨ph6, S6, M6, xs, acc, ⟨fun k a e => xx.pre k a (x3.pre k a e), x3.same.trans xx.same, rfl⟩, xx.hid.trans eh, hs3.back xx hs6.drop, qa.up xx, z6⟩
    | true =>
      rw [if_pos rfl] at z6 ⊢
      refine ⟨ph6, S6, r5, M6, _, hs6, z6, fun v H7 ⟨ph7, S7, M7, x7, hs7, e, q7, hlt, w7⟩ => ?_⟩
      have xx := x4.trans (x5.trans (x6.trans x7))
      have eh7 : ph7.hid = (p, .lst xs) :: ph1.hid := xx.hid.trans eh
      obtain ⟨c, hd⟩ := ph7
      cases eh7
      have hb : Sat X.K ⟨c, (p, .lst xs) :: ph1.hid⟩ S7 r M7 σ H7 := hs3.back xx hs7.drop
      obtain ⟨g1, _, _⟩ := hb.hid _ List.mem_cons_self
      refine ⟨xs, g1, by rw [qa.len]; exact hlt, ⟨c, (p, .lst (xs ++ [v])) :: ph1.hid⟩, S7, M7, xs ++ [v], acc ++ [e], ⟨fun k a e => xx.pre k a (x3.pre k a e), x3.same.trans xx.same, rfl⟩, rfl, hb.hset, ?_, w7⟩
      exact (RepAll.hid (qa.up xx)).app (.cons (Rep.hid q7) .nil)
theorem de_lc (o : Bool) {elt tg iter : Expr} {ifs : List Expr} {scope : Scope} {own : List (Str × Nat)} {pos : Pos} {wi : DTI} {g : DTG} {tt : DTT} {te : DTE} (hc : X.calm = true) (hN : X.N.Nodup) (ok : BlkOk X.N X.env.scope scope own) (hi : DI X tg iter wi)
    (hg : ∀ (s : Shared) (H : Hp) (C : Addr) (cl : List (Str × Addr)) (fp : List Addr), DCG (X.blk s H scope (compEnvC scope cl C X.env) fp) tg (own.map (·.2)) g)
    (ht : ∀ (s : Shared) (H : Hp) (C : Addr) (cl : List (Str × Addr)) (fp : List Addr), DTs (X.blk s H scope (compEnvC scope cl C X.env) fp) ifs tt)
    (he : ∀ (s : Shared) (H : Hp) (C : Addr) (cl : List (Str × Addr)) (fp : List Addr), DE (X.blk s H scope (compEnvC scope cl C X.env) fp) elt te)
    (hs : ∀ x, foldedSetIterable iter X.env x = pure x := by intro _; rfl) : DE X (.ListComp elt [⟨tg, iter, ifs, 0⟩] scope pos) (dLc o wi g tt te (own.map (·.2))) :=
  DE.of (pe_lc hc hN hi.pi ok (fun s H C cl fp => (hg s H C cl fp).pg) (fun s H C cl fp => (ht s H C cl fp).pts) (fun s H C cl fp => (he s H C cl fp).pe) hs) fun ph S r M σ H Q hs ht Q' hq => lc_read (X := X) o hs ht Q' hq
end DL
/-! DL7: what is walked; built-ins; methods; slices; repr -/
namespace DL
open PySem PySem.Spec PyProof.Rows L2
variable {X : Cx}
/-! ### what is walked -/
theorem Wlk.list {K : PySem.W.Frag} {ph : Ph} {S : Hp} {a : Addr} {ds : List D} {C : Mem → Prop} (h : ∀ (ph' : Ph) (S' : Hp) (r : Env) (M : Mem) (σ : St) (H : Hp), (∀ (k : Nat) (a : Addr), ph.cells[k]? = some a → ph'.cells[k]? = some a) → Same S S' → Sat K ph' S' r M σ H → C M → ∃ xs, SqL K H a xs ∧ RepAll K ph' S' xs ds) : Wlk K ph S (Itl K a) ds C :=
  fun ph' S' r M σ H h1 h2 hs hc => by
    obtain ⟨xs, q, qa⟩ := h ph' S' r M σ H h1 h2 hs hc
    refine ⟨fun i hi => ⟨xs, q, by rw [qa.len]; exact hi⟩, fun i d e => ?_⟩
    obtain ⟨x, ex, qx⟩ := qa.get e
    refine ⟨⟨xs, x, q, ex⟩, fun y H' ⟨e1, e2⟩ => ?_⟩
    subst e1
    have ey := e2 xs q
    rw [ex] at ey
    cases ey
    exact Aft.here hs ⟨rfl, qx⟩
theorem Wlk.tup {K : PySem.W.Frag} {ph : Ph} {S : Hp} {a : Addr} {ds : List D} {C : Mem → Prop} (h : ∀ (ph' : Ph) (S' : Hp) (r : Env) (M : Mem) (σ : St) (H : Hp), (∀ (k : Nat) (a : Addr), ph.cells[k]? = some a → ph'.cells[k]? = some a) → Same S S' → Sat K ph' S' r M σ H → C M → ∃ xs, SqT K H a xs ∧ RepAll K ph' S' xs ds) : Wlk K ph S (Itt K a) ds C :=
  fun ph' S' r M σ H h1 h2 hs hc => by
    obtain ⟨xs, q, qa⟩ := h ph' S' r M σ H h1 h2 hs hc
    refine ⟨fun i hi => ⟨xs, q, by rw [qa.len]; exact hi⟩, fun i d e => ?_⟩
    obtain ⟨x, ex, qx⟩ := qa.get e
    refine ⟨⟨xs, x, q, ex⟩, fun y H' ⟨e1, e2⟩ => ?_⟩
    subst e1
    have ey := e2 xs q
    rw [ex] at ey
    cases ey
    exact Aft.here hs ⟨rfl, qx⟩
theorem RepAll.ext0 {K : PySem.W.Frag} {ph ph' : Ph} {S S' : Hp} {d : List D} {v : List V} (h1 : ∀ (k : Nat) (a : Addr), ph.cells[k]? = some a → ph'.cells[k]? = some a) (h2 : Same S S') (q : RepAll K ph S v d) : RepAll K ph' S' v d :=
  RepAll.hid (c := ph'.cells) (l := ph.hid) (l' := ph'.hid) (q.up (ph' := ⟨ph'.cells, ph.hid⟩) ⟨h1, h2, rfl⟩)
/-- a list, a tuple, the script -/
def gSeqI (d : D) (M : Mem) (R : List D → (Mem → Prop) → Mem → Prop) : Prop := match d with
  | .lst ds => R ds (fun _ => True) M
  | .tup ds => R ds (fun _ => True) M
  | .scr ns => R (ns.map D.int) (fun _ => True) M
  | .own k => match M[k]? with
    | some (.lst ds) => R ds (fun M' => M'[k]? = some (.lst ds)) M
    | _ => False
  | _ => False
def dSeqI (t : DTE) : DTI := fun r M R => t r M fun d M1 => gSeqI d M1 R
/-- it is a list at a, or a tuple -/
theorem pi_seq {tg l : Expr} {tl : TE} (hl : PE X l tl) : PI X tg l (fun σ H R => tl σ H fun x H1 => ∃ a, x = .ref a ∧ (((∃ xs, SqL X.K H1 a xs) ∧ R (Itl X.K a) H1) ∨ ((∃ xs, SqT X.K H1 a xs) ∧ R (Itt X.K a) H1))) := by
  refine ⟨fun pins s σ H R I h => thn (hl.run pins s σ H _ I h) fun v s1 ⟨x, H1, I1, r1, a, ex, q1⟩ => ?_⟩
  subst ex
  cases r1
  have fp : ∀ b ∈ [s1.heap.objs.size], FpOk X pins H1 b := fun b hb => by
    have e : b = s1.heap.objs.size := by simpa using hb
    rw [e]
    exact I1.fpOk (Nat.le_refl _) (I1.hok.fresh (Nat.le_refl _))
  rcases q1 with ⟨⟨xs, hq⟩, q⟩ | ⟨⟨xs, hq⟩, q⟩
  · obtain ⟨its, rv, p, hz⟩ := I1.list hq
    exact wpAny_pyIter_list p.isList ⟨s1.heap.objs.size, [s1.heap.objs.size], _, _, H1, rfl, I1.kept (t' := s1.toks) fun b o e => Heap.get?_push_of_some _ e, turn_list a _, ⟨_, Heap.get?_push_size _ rfl, rfl, rfl⟩, fp, q⟩
  · obtain ⟨its, rv, p, hz⟩ := I1.tuple hq
    exact wpAny_pyIter_tuple (show s1.heap.IsTuple a its.toArray from p) ⟨s1.heap.objs.size, [s1.heap.objs.size], _, _, H1, rfl, I1.kept (t' := s1.toks) fun b o e => Heap.get?_push_of_some _ e, turn_tuple a _, ⟨_, Heap.get?_push_size _ rfl, rfl, rfl⟩, fp, q⟩
theorem PI.weak {tg l : Expr} {t t' : TI} (h : PI X tg l t) (w : ∀ σ H R, t' σ H R → t σ H R) : PI X tg l t' := ⟨fun pins s σ H R I q => h.run pins s σ H R I (w _ _ _ q)⟩
theorem di_seq {tg l : Expr} {t : DTE} (h : DE X l t) : DI X tg l (dSeqI t) :=
  ⟨PI.weak (pi_seq h.pe) fun σ H R ⟨ph, S, r, M, Q0, hs, ht, hq⟩ => ⟨ph, S, r, M, _, hs, ht, fun v H1 ⟨ph1, S1, M1, x1, hs1, d, q1, g1⟩ => by
    cases d <;> first | exact g1.elim | skip
    · cases q1 with
      | tup h1 h2 => exact ⟨_, rfl, .inr ⟨⟨_, h1.sq hs1.sub⟩, hq _ _ ⟨ph1, S1, M1, x1, hs1, _, _, Wlk.tup (fun ph' S' r' M' σ' H' e1 e2 hs' _ => ⟨_, (h1.ext e2).sq hs'.sub, h2.ext0 e1 e2⟩), g1⟩⟩⟩
    · cases q1 with
      | lst h1 h2 => exact ⟨_, rfl, .inl ⟨⟨_, SqL.of (hs1.sub _ _ h1)⟩, hq _ _ ⟨ph1, S1, M1, x1, hs1, _, _, Wlk.list (fun ph' S' r' M' σ' H' e1 e2 hs' _ => ⟨_, SqL.of (hs'.sub _ _ (e2 _ _ h1)), h2.ext0 e1 e2⟩), g1⟩⟩⟩
    · cases q1 with
      | scr h1 => exact ⟨_, rfl, .inl ⟨⟨_, hs1.sub.seq h1⟩, hq _ _ ⟨ph1, S1, M1, x1, hs1, _, _, Wlk.list (fun ph' S' r' M' σ' H' e1 e2 hs' _ => ⟨_, hs'.sub.seq (e2.seq h1), RepAll.ints _⟩), g1⟩⟩⟩
    · rename_i k
      cases q1 with
      | own h1 =>
        replace g1 : gSeqI (.own k) M1 Q0 := g1
        unfold gSeqI at g1
        dsimp only at g1
        split at g1
        · rename_i ds hk
          obtain ⟨a, xs, c1, c2, c3, c4⟩ := hs1.cell k ds hk
          rw [h1] at c1; cases c1
          refine ⟨_, rfl, .inl ⟨⟨_, SqL.of c3⟩, hq _ _ ⟨ph1, S1, M1, x1, hs1, _, _, Wlk.list (fun ph' S' r' M' σ' H' e1 e2 hs' hc => ?_), g1⟩⟩⟩
          obtain ⟨a', xs', b1, b2, b3, b4⟩ := hs'.cell k ds hc
          rw [e1 _ _ h1] at b1; cases b1
          exact ⟨xs', SqL.of b3, b4⟩
        · exact g1.elim⟩⟩
/-- lo, lo + 1, .. -/
def rng (lo : Int) (n : Nat) : List D := (List.range n).map fun i => D.int (lo + (i : Nat))
theorem rng_len (lo : Int) (n : Nat) : (rng lo n).length = n := by unfold rng; rw [List.length_map, List.length_range]
theorem rng_get {lo : Int} {n i : Nat} {d : D} : (rng lo n)[i]? = some d ↔ i < n ∧ d = .int (lo + (i : Nat)) := by
  unfold rng
  rw [List.getElem?_map]
  constructor
  · intro e
    cases h : (List.range n)[i]? with
    | none => rw [h] at e; cases e
    | some j =>
      rw [h] at e
      obtain ⟨h1, h2⟩ := List.getElem?_eq_some_iff.mp h
      rw [List.length_range] at h1
      rw [List.getElem_range] at h2
      exact ⟨h1, by rw [h2]; exact (Option.some.inj e).symm⟩
  · rintro ⟨h1, rfl⟩
    rw [List.getElem?_eq_getElem (by rw [List.length_range]; exact h1), List.getElem_range]
    rfl
theorem Wlk.range {K : PySem.W.Frag} {ph : Ph} {S : Hp} {lo : Int} {n : Nat} {C : Mem → Prop} : Wlk K ph S (Itr lo n) (rng lo n) C := fun ph' S' r M σ H h1 h2 hs hc => by
  refine ⟨fun i hi => by rw [rng_len] at hi; exact hi, fun i d e => ?_⟩
  obtain ⟨hi, rfl⟩ := rng_get.mp e
  refine ⟨hi, fun x H' ⟨e1, e2⟩ => ?_⟩
  subst e1 e2
  exact Aft.here hs ⟨rfl, .int _⟩
def Rg (i : Int) : Prop := -(2 ^ 62) ≤ i ∧ i < 2 ^ 62
def gRng1 (ds : List D) (M : Mem) (R : List D → (Mem → Prop) → Mem → Prop) : Prop := match ds with
  | [.int n] => Rg n ∧ R (rng 0 n.toNat) (fun _ => True) M
  | _ => False
def gRng2 (ds : List D) (M : Mem) (R : List D → (Mem → Prop) → Mem → Prop) : Prop := match ds with
  | [.int a, .int b] => (Rg a ∧ Rg b) ∧ R (rng a (b - a).toNat) (fun _ => True) M
  | _ => False
def dRngI (g : List D → Mem → (List D → (Mem → Prop) → Mem → Prop) → Prop) (t : DTA) : DTI := fun r M R => t r M fun ds M1 => g ds M1 R
theorem di_range1 {tg a : Expr} {t : DTA} {p pos : Pos} (hm : X.mg "range" = none) (ha : DA X [a] t) (hg : Gl X "range" := by rfl) (hst : starEach [a] X.env = [(false, eval a X.env)] := by rfl) : DI X tg (.Call (.Name "range" p) [a] [] pos) (dRngI gRng1 t) :=
  ⟨PI.weak (pi_range1 hg hm ha.pa hst) fun σ H R ⟨ph, S, r, M, Q0, hs, ht, hq⟩ => ⟨ph, S, r, M, _, hs, ht, fun vs H1 ⟨ph1, S1, M1, x1, hs1, ds, q1, g1⟩ => by
    match ds, q1, g1 with
    | [.int n], .cons q .nil, ⟨⟨h1, h2⟩, g⟩ =>
      cases q
      exact ⟨n, rfl, h1, h2, hq _ _ ⟨ph1, S1, M1, x1, hs1, _, _, Wlk.range, g⟩⟩⟩⟩
/-! ### calls of what is built in -/
abbrev GA := List D → Mem → DQ → Prop
def CallD (X : Cx) (f : Value) (g : GA) : Prop :=
  ∀ (pins : List (Addr × Obj)) (s : Shared) (σ : St) (H : Hp) (ph : Ph) (S : Hp) (r : Env) (M : Mem) (vs : List V) (us : List Value) (ds : List D) (Q : DQ), Inv X pins σ H s → Sat X.K ph S r M σ H → Vals vs us → RepAll X.K ph S vs ds → g ds M Q →
    wpAny (model X.prog X.w) X.A (call f us) (EP X pins σ (post X.K ph S r σ Q)) X.xe s
theorem CallD.of {f : Value} {r' : List V → Hp → VK → Prop} {g : GA} (h : CallR X f r')
    (w : ∀ (σ : St) (H : Hp) (ph : Ph) (S : Hp) (r : Env) (M : Mem) (vs : List V) (ds : List D) (Q : DQ), Sat X.K ph S r M σ H → RepAll X.K ph S vs ds → g ds M Q → r' vs H (post X.K ph S r σ Q)) : CallD X f g :=
  fun pins s σ H ph S r M vs us ds Q I hs rv q hg => h pins s σ H vs us _ I rv (w σ H ph S r M vs ds Q hs q hg)
def dCB (g : GA) (t : DTA) : DTE := fun r M Q => t r M fun ds M1 => g ds M1 Q
section
variable {x : Str} {p pos : Pos} {e : Expr} {es : List Expr} {t : DTA} {id T : String} {g : GA}
theorem de_blt (hc : CallD X (.builtin id) g) (hm : X.mg x = none) (ha : DA X (e :: es) t) (hv : bootBuiltins x = some (.builtin id) := by decide +kernel) (hg : Gl X x := by rfl) (hn : x ≠ "__name__" := by decide) (hdb : (x == ("__debug__" : Str)) = false := by decide)
    (he : starEach (e :: es) X.env = (false, eval e X.env) :: starEach es X.env := by rfl) (hpl : (backTo pos (starEach es X.env)).any (·.1) = false := by rfl) : DE X (.Call (.Name x p) (e :: es) [] pos) (dCB g t) :=
  ⟨⟨fun pins s σ H Q I ⟨ph, S, r, M, Q0, hs, ht, hq⟩ => wpAny_Call_Name_kw (ld_blt I hg hm hv (PyProof.Rows.callWith_builtin1 (thn (ha.pa.run pos pins s σ H _ I ⟨ph, S, r, M, _, hs, ht, fun _ _ z => z⟩)
    fun us s1 ⟨vs, H1, I1, r1, ph1, S1, M1, x1, hs1, ds, q1, g1⟩ => thn (hc pins s1 σ H1 ph1 S1 r M1 vs us ds Q0 I1 hs1 r1 q1 g1) fun _ _ z => EP.up x1 z hq) he hpl) hn hdb)⟩⟩
theorem de_ty (hc : CallD X (.type T) g) (hm : X.mg x = none) (ha : DA X (e :: es) t) (hv : bootBuiltins x = some (.type T) := by decide +kernel) (hg : Gl X x := by rfl) (hn : x ≠ "__name__" := by decide) (hdb : (x == ("__debug__" : Str)) = false := by decide)
    (he : starEach (e :: es) X.env = (false, eval e X.env) :: starEach es X.env := by rfl) (hpl : (backTo pos (starEach es X.env)).any (·.1) = false := by rfl) : DE X (.Call (.Name x p) (e :: es) [] pos) (dCB g t) :=
  ⟨⟨fun pins s σ H Q I ⟨ph, S, r, M, Q0, hs, ht, hq⟩ => wpAny_Call_Name_kw (ld_blt I hg hm hv (PyProof.Rows.callWith_type1 (thn (ha.pa.run pos pins s σ H _ I ⟨ph, S, r, M, _, hs, ht, fun _ _ z => z⟩)
    fun us s1 ⟨vs, H1, I1, r1, ph1, S1, M1, x1, hs1, ds, q1, g1⟩ => thn (hc pins s1 σ H1 ph1 S1 r M1 vs us ds Q0 I1 hs1 r1 q1 g1) fun _ _ z => EP.up x1 z hq) he hpl) hn hdb)⟩⟩
/-- a built-in name as a value -/
theorem de_bltn {v : V} {u : Value} (hm : X.mg x = none) (r : RelV v u) (hv : bootBuiltins x = some u := by decide +kernel) (hg : Gl X x := by rfl) (hn : x ≠ "__name__" := by decide) (hd : (x == ("__debug__" : Str)) = false := by decide) : DE X (.Name x pos) (dC (.val v)) :=
  de_c (pe_bltn hg hm hv r hn hd) fun _ _ => .val _
end
def gAbs : GA := fun ds M Q => match ds with
  | [.int i] => Q (.int (if i < 0 then -i else i)) M
  | _ => False
def gInt : GA := fun ds M Q => match ds with
  | [.int i] => Q (.int i) M
  | [.bl b] => Q (.int (if b then 1 else 0)) M
  | _ => False
theorem cd_int : CallD X (.type "int") gInt := CallD.of call_int1 fun σ H ph S r M vs ds Q hs q hg => by
  match ds, q, hg with
  | [.int i], .cons q .nil, hg => cases q; exact .inl ⟨_, rfl, Aft.here hs ⟨_, .int _, hg⟩⟩
  | [.bl i], .cons q .nil, hg => cases q; exact .inr ⟨_, rfl, Aft.here hs ⟨_, .int _, hg⟩⟩
def gMax : GA := fun ds M Q => match ds with
  | [.int i, .int j] => Q (.int (if j > i then j else i)) M
  | _ => False
theorem cd_max (hc : X.calm = true) : CallD X (.builtin "max") gMax := CallD.of (call_max2 hc) fun σ H ph S r M vs ds Q hs q hg => by
  match ds, q, hg with
  | [.int i, .int j], .cons q (.cons q' .nil), hg => cases q; cases q'; exact ⟨_, _, rfl, Aft.here hs ⟨_, .int _, hg⟩⟩
def gMin : GA := fun ds M Q => match ds with
  | [.int i, .int j] => Q (.int (if j < i then j else i)) M
  | _ => False
def gGcd : GA := fun ds M Q => match ds with
  | [.int i, .int j] => Q (.int (Int.gcd i j)) M
  | _ => False
/-- the length of a list, a tuple, a text -/
def lenD (M : Mem) : D → Option Nat
  | .lst l => some l.length
  | .tup l => some l.length
  | .scr l => some l.length
  | .own k => match M[k]? with
    | some (.lst l) => some l.length
    | _ => none
  | .str x => if x.length ≤ sizeLine then some x.length else none
  | _ => none
def gLen : GA := fun ds M Q => match ds with
  | [d] => match lenD M d with
    | some n => Q (.int n) M
    | none => False
  | _ => False
theorem len_V {K : PySem.W.Frag} {ph : Ph} {S : Hp} {r : Env} {M : Mem} {σ : St} {H : Hp} {v : V} {d : D} {n : Nat} (hs : Sat K ph S r M σ H) (q : Rep K ph S v d) (e : lenD M d = some n) : LenV K v H n := by
  cases d <;> first | (cases e; done) | skip
  · rename_i x
    cases q
    have e' : (if x.length ≤ sizeLine then some x.length else none) = some n := e
    by_cases h : x.length ≤ sizeLine
    · rw [if_pos h] at e'
      exact ⟨h, (Option.some.inj e').symm⟩
    · rw [if_neg h] at e'; cases e'
  · cases q with
    | tup h1 h2 => exact .inr ⟨_, h1.sq hs.sub, by rw [h2.len]; exact (Option.some.inj e).symm⟩
  · cases q with
    | lst h1 h2 => exact .inl ⟨_, SqL.of (hs.sub _ _ h1), by rw [h2.len]; exact (Option.some.inj e).symm⟩
  · cases q with
    | scr h1 => exact .inl ⟨_, hs.sub.seq h1, by rw [List.length_map]; exact (Option.some.inj e).symm⟩
  · rename_i k
    cases q with
    | own h1 =>
      unfold lenD at e
      dsimp only at e
      split at e
      · rename_i l hk
        obtain ⟨a, xs, c1, c2, c3, c4⟩ := hs.cell k l hk
        rw [h1] at c1; cases c1
        exact .inl ⟨_, SqL.of c3, by rw [c4.len]; exact (Option.some.inj e).symm⟩
      · cases e
theorem cd_len : CallD X (.builtin "len") gLen := CallD.of call_len fun σ H ph S r M vs ds Q hs q hg => by
  match ds, q, hg with
  | [d], .cons q .nil, hg =>
    unfold gLen at hg
    dsimp only at hg
    split at hg
    · rename_i n e
      exact ⟨_, n, rfl, len_V hs q e, Aft.here hs ⟨_, .int _, hg⟩⟩
    · exact hg.elim
/-- the ints of a list of ints -/
def intsD : List D → Option (List Int)
  | [] => some []
  | .int i :: ds => match intsD ds with
    | some is => some (i :: is)
    | none => none
  | _ :: _ => none
theorem intsD_rep {K : PySem.W.Frag} {ph : Ph} {S : Hp} : ∀ {vs : List V} {ds : List D} {is : List Int}, RepAll K ph S vs ds → intsD ds = some is → vs = is.map V.int
  | _, [], _, .nil, e => by cases e; rfl
  | _, d :: ds, is, .cons q t, e => by
    cases d <;> first | (cases e; done) | skip
    unfold intsD at e
    split at e
    · rename_i is' e'
      cases e
      cases q
      rw [intsD_rep t e']; rfl
    · cases e
def gSum : GA := fun ds M Q => match ds with
  | [d] => match res M d with
    | .lst l => match intsD l with
      | some is => Q (.int is.sum) M
      | none => False
    | .scr ns => Q (.int ns.sum) M
    | _ => False
  | _ => False
theorem cd_sum (hc : X.calm = true) : CallD X (.builtin "sum") gSum := CallD.of (cr_sum hc) fun σ H ph S r M vs ds Q hs q hg => by
  match ds, q, hg with
  | [d], .cons q .nil, hg =>
    unfold gSum at hg
    dsimp only at hg
    split at hg
    · rename_i l e
      split at hg
      · rename_i is e2
        obtain ⟨a, xs, rfl, h1, h2⟩ := res_lst hs q e
        exact ⟨a, is, rfl, by rw [← intsD_rep h2 e2]; exact SqL.of h1, Aft.here hs ⟨_, .int _, hg⟩⟩
      · exact hg.elim
    · rename_i ns e
      cases res_scr e
      cases q with
      | scr h1 => exact ⟨_, ns, rfl, hs.sub.seq h1, Aft.here hs ⟨_, .int _, hg⟩⟩
    · exact hg.elim
/-- isinstance(x, T), T a built-in class -/
def tyD : D → Option String
  | .non => some "NoneType"
  | .bl _ => some "bool"
  | .int _ => some "int"
  | .str _ => some "str"
  | .tup _ => some "tuple"
  | .lst _ => some "list"
  | .dct0 => some "dict"
  | _ => none
def tyM (M : Mem) : D → Option String
  | .own k => match M[k]? with
    | some (.lst _) => some "list"
    | _ => none
  | d => tyD d
def gIsi : GA := fun ds M Q => match ds with
  | [d, .val (.ty n)] => match tyM M d with
    | some T => match kitB T n with
      | some b => Q (.bl b) M
      | none => False
    | none => False
  | _ => False
theorem ty_V {K : PySem.W.Frag} {ph : Ph} {S : Hp} {r : Env} {M : Mem} {σ : St} {H : Hp} {v : V} {d : D} {T : String} (hs : Sat K ph S r M σ H) (q : Rep K ph S v d) (e : tyM M d = some T) : TyX K H v (.type T) := by
  cases d <;> first | (cases e; done) | skip
  · cases q; cases e; exact .base .non
  · cases q; cases e; exact .base (.bl _)
  · cases q; cases e; exact .base (.int _)
  · cases q; cases e; exact .base (.str _)
  · cases q with
    | tup h1 h2 => cases e; exact h1.elim (fun z => .base (.tup (hs.sub _ _ z))) fun ⟨_, _, _, l, c, _⟩ => .kTuple l c
  · cases q with
    | lst h1 h2 => cases e; exact .base (.lst (hs.sub _ _ h1))
  · cases q with
    | dct0 h1 => cases e; exact .base (.dK (hs.sub _ _ h1))
  · rename_i k
    cases q with
    | own h1 =>
      unfold tyM at e
      dsimp only at e
      split at e
      · rename_i l hk
        cases e
        obtain ⟨a, xs, c1, c2, c3, c4⟩ := hs.cell k l hk
        rw [h1] at c1; cases c1
        exact .base (.lst c3)
      · cases e
theorem cd_isi : CallD X (.builtin "isinstance") gIsi := CallD.of call_isi fun σ H ph S r M vs ds Q hs q hg => by
  match ds, q, hg with
  | [d, .val (.ty n)], .cons q (.cons q' .nil), hg =>
    unfold gIsi at hg
    dsimp only at hg
    split at hg
    · rename_i T e
      split at hg
      · rename_i b eb
        cases q'
        exact ⟨_, _, _, _, b, rfl, .ty n, ty_V hs q e, kit_ty eb, Aft.here hs ⟨_, .bl _, hg⟩⟩
      · exact hg.elim
    · exact hg.elim
/-- n.bit_length() -/
def gBits (d : D) (M : Mem) (Q : DQ) : Prop := match d with
  | .int i => Q (.int (Builtin.Int.intBits i : Nat)) M
  | _ => False
def dBits (t : DTE) : DTE := fun r M Q => t r M fun d M1 => gBits d M1 Q
theorem de_bits {o : Expr} {t : DTE} {apos pos : Pos} (ho : DE X o t) (hbase : attributeBase o "bit_length" X.env (eval o X.env) = eval o X.env := by rfl) (hline : (apos.endLine == pos.line) = true := by rfl) : DE X (.Call (.Attribute o "bit_length" apos) [] [] pos) (dBits t) :=
  DE.of (pe_bits ho.pe hbase hline) fun ph S r M σ H Q hs ht Q' hq => ⟨ph, S, r, M, _, hs, ht, fun v H1 ⟨ph1, S1, M1, x1, hs1, d, q1, g1⟩ => by
    cases d <;> first | exact g1.elim | skip
    cases q1
    exact ⟨_, rfl, hq _ _ ⟨ph1, S1, M1, x1, hs1, _, .int _, g1⟩⟩⟩
/-! ### methods of lists -/
def gAppend (o : D) (ds : List D) (M : Mem) (Q : DQ) : Prop := match o, ds with
  | .own k, [d] => match M[k]? with
    | some (.lst l) => l.length < sizeLine ∧ Q .non (M.set k (.lst (l ++ [d])))
    | _ => False
  | _, _ => False
def dMet (g : D → List D → Mem → DQ → Prop) (to : DTE) (t : DTA) : DTE := fun r M Q => to r M fun o M1 => (∃ k l, o = .own k ∧ M1[k]? = some (.lst l)) ∧ t r M1 fun ds M2 => g o ds M2 Q
theorem de_append {o e : Expr} {to : DTE} {t : DTA} {apos cpos : Pos} (ho : DE X o to) (ha : DA X [e] t) (h1 : attributeBase o "append" X.env (eval o X.env) = eval o X.env := by rfl)
    (h2 : (((backTo cpos (starEach [e] X.env)).all fun x => !x.1) && (backToKw cpos (keywordEach [] X.env)).all (fun x => x.1.isSome) && decide (([e] : List Expr).length + ([] : List Keyword).length + (if ([] : List Keyword).isEmpty then 0 else 1) < 30)) = true := by rfl) (h3 : (apos.endLine == cpos.line) = true := by rfl)
    (h4 : starEach [e] X.env = (false, eval e X.env) :: starEach [] X.env := by rfl) (h5 : (backTo cpos (starEach [] X.env)).any (·.1) = false := by rfl) : DE X (.Call (.Attribute o "append" apos) [e] [] cpos) (dMet gAppend to t) :=
  DE.of (pe_bm PySem.F.plainAttrs_list PySem.F.slot_list_append PySem.F.type_list_append mt_append ho.pe ha.pa h1 h2 h3 h4 h5) fun ph S r M σ H Q hs ht Q' hq => ⟨ph, S, r, M, _, hs, ht, fun v H1 ⟨ph1, S1, M1, x1, hs1, d, q1, ⟨k, l, e1, ek⟩, g1⟩ => by
    subst e1
    cases q1 with
    | own hp =>
      obtain ⟨a, xs, c1, c2, c3, c4⟩ := hs1.cell k l ek
      rw [hp] at c1; cases c1
      refine ⟨.inl ⟨rfl, _, SqL.of c3⟩, ph1, S1, r, M1, _, hs1, g1, fun vs H2 ⟨ph2, S2, M2, x2, hs2, ds, q2, g2⟩ => ?_⟩
      match ds, q2, g2 with
      | [d], .cons q3 .nil, g2 =>
        replace g2 : gAppend (.own k) [d] M2 Q := g2
        unfold gAppend at g2
        dsimp only at g2
        split at g2
        · rename_i l2 hk2
          have hp2 := x2.pre _ _ hp
          obtain ⟨a2, xs2, d1, d2, d3, d4⟩ := hs2.cell k l2 hk2
          rw [hp2] at d1; cases d1
          exact ⟨_, xs2, _, rfl, rfl, d3, by rw [d4.len]; exact g2.1, hq _ _ ⟨ph2, S2, _, x1.trans x2, hs2.put hk2 hp2 (d4.app (.cons q3 .nil)), _, .non, g2.2⟩⟩
        · exact g2.elim⟩
/-! ### slices -/
def cutD (l : List D) (lo hi : Option Int) : List D := List.take (HT.sIx l.length l.length hi - HT.sIx l.length 0 lo) (List.drop (HT.sIx l.length 0 lo) l)
abbrev DTO := Env → Mem → (Option Int → Mem → Prop) → Prop
structure DO (X : Cx) (e : Option Expr) (t : DTO) : Prop where
  po : PO X e (fun σ H Q => ∃ ph S r M Q0, Sat X.K ph S r M σ H ∧ t r M Q0 ∧ ∀ o H', (Aft X.K ph S r σ H' fun _ _ M' => Q0 o M') → Q o H')
def dPart (t : DTE) : DTO := fun r M Q => t r M fun d M1 => match d with
  | .int i => Q (some i) M1
  | _ => False
def dNoPart : DTO := fun _ M Q => Q none M
theorem do_some {e : Expr} {t : DTE} (h : DE X e t) : DO X (some e) (dPart t) :=
  ⟨⟨fun pins s σ H Q I ⟨ph, S, r, M, Q0, hs, ht, hq⟩ => (po_some h.pe).run pins s σ H Q I ⟨ph, S, r, M, _, hs, ht, fun v H1 ⟨ph1, S1, M1, x1, hs1, d, q1, g1⟩ => by
    cases d <;> first | exact g1.elim | skip
    cases q1
    exact ⟨_, rfl, hq _ _ ⟨ph1, S1, M1, x1, hs1, g1⟩⟩⟩⟩⟩
theorem do_none : DO X none dNoPart := ⟨⟨fun pins s σ H Q I ⟨ph, S, r, M, Q0, hs, ht, hq⟩ => po_none.run pins s σ H Q I (hq _ _ (Aft.here hs ht))⟩⟩
/-- l[a:b], a list -/
def gSlL (own : Bool) (d : D) (lo hi : Option Int) (M : Mem) (Q : DQ) : Prop := match res M d with
  | .lst l => if own = true then Q (.own M.length) (M ++ [.lst (cutD l lo hi)]) else Q (.lst (cutD l lo hi)) M
  | .scr ns => if own = true then Q (.own M.length) (M ++ [.lst (cutD (ns.map D.int) lo hi)]) else Q (.lst (cutD (ns.map D.int) lo hi)) M
  | _ => False
def dSl (g : D → Option Int → Option Int → Mem → DQ → Prop) (t : DTE) (tl th : DTO) : DTE := fun r M Q => t r M fun d M1 => tl r M1 fun lo M2 => th r M2 fun hi M3 => g d lo hi M3 Q
theorem cut_rep {K : PySem.W.Frag} {ph : Ph} {S : Hp} {xs : List V} {l : List D} {lo hi : Option Int} (q : RepAll K ph S xs l) : RepAll K ph S (cutV xs lo hi) (cutD l lo hi) := by
  unfold cutV cutD
  rw [q.len]
  exact (q.drop _).take _
theorem de_slL (own : Bool) {e : Expr} {lo hi : Option Expr} {t : DTE} {tl th : DTO} {pos p2 : Pos} (h : DE X e t) (h1 : DO X lo tl) (h2 : DO X hi th) : DE X (.Subscript e (.Slice lo hi none p2) pos) (dSl (gSlL own) t tl th) :=
  DE.of (pe_slice sl_list h.pe h1.po h2.po) fun ph S r M σ H Q hs ht Q' hq => ⟨ph, S, r, M, _, hs, ht, fun v H1 ⟨ph1, S1, M1, x1, hs1, d, q1, g1⟩ =>
    ⟨ph1, S1, r, M1, _, hs1, g1, fun lo H2 ⟨ph2, S2, M2, x2, hs2, g2⟩ => ⟨ph2, S2, r, M2, _, hs2, g2, fun hi H3 ⟨ph3, S3, M3, x3, hs3, g3⟩ => by
      replace g3 : gSlL own d lo hi M3 Q := g3
      have xx := x1.trans (x2.trans x3)
      have q3 := q1.up (x2.trans x3)
      unfold gSlL at g3
      split at g3
      · rename_i l er
        obtain ⟨p, xs, rfl, hp, hx⟩ := res_lst hs3 q3 er
        refine ⟨p, xs, rfl, SqL.of hp, fun b hb => ?_⟩
        cases own with
        | false => exact hq _ _ (Aft.up xx (Aft.frz hs3 hb fun x => ⟨_, .lst upd_same ((cut_rep hx).up x), g3⟩))
        | true => exact hq _ _ (Aft.up xx (Aft.own hs3 hb (cut_rep hx) g3))
      · rename_i ns er
        cases res_scr er
        cases q3 with
        | scr h1 =>
          refine ⟨_, _, rfl, hs3.sub.seq h1, fun b hb => ?_⟩
          cases own with
          | false => exact hq _ _ (Aft.up xx (Aft.frz hs3 hb fun x => ⟨_, .lst upd_same (cut_rep (RepAll.ints _)), g3⟩))
          | true => exact hq _ _ (Aft.up xx (Aft.own hs3 hb (cut_rep (RepAll.ints _)) g3))
      · exact g3.elim⟩⟩⟩
/-! ### repr -/
/-- data whose repr may be told -/
def shwn (d : D) : Option Str := match toPy d with
  | some p => if p.showable = true ∧ p.depth ≤ 64 ∧ p.shown.length ≤ sizeLine ∧ p.hasDict = false then some p.shown else none
  | none => none
def gRepr : GA := fun ds M Q => match ds with
  | [d] => match shwn (res M d) with
    | some z => Q (.str z) M
    | none => False
  | _ => False
theorem shown_flat {p : PyData} {u : Value} {h : Heap} {as : List Addr} (r : Reads h u p as) (hn : ∀ a, u ≠ .ref a) {A : Around} {P : Program} {w : World} {E : Value → Shared → Prop} {s : Shared} {Q : Value → Shared → Prop} (hs : p.showable = true) (hz : p.shown.length ≤ sizeLine)
    (q : ∀ tk tk', Q (.str p.shown tk) { s with toks := tk' }) : wpAny (model P w) A (call (.builtin "repr") [u]) Q E s := by
  cases r with
  | none => exact PySem.P.repr_of_none (q _ _)
  | bool b => exact PySem.P.repr_of_bool (q _ _)
  | int i t => exact PySem.P.repr_of_int (of_decide_eq_true hs) (q _ _)
  | str x t => exact PySem.P.repr_of_str (q _ _) hz
  | list _ _ _ _ => exact absurd rfl (hn _)
  | tuple _ _ _ _ => exact absurd rfl (hn _)
  | dict _ _ _ _ _ => exact absurd rfl (hn _)
end DL
/-! DL8: calls with keywords alone; a def for its callers; the end of a law -/
namespace DL
open PySem PySem.Spec PyProof.Rows L2
section
variable {X : Cx}
structure DK (X : Cx) (kws : List Keyword) (t : DTA) : Prop where
  pk : PK X kws (fun σ H Q => ∃ ph S r M Q0, Sat X.K ph S r M σ H ∧ t r M Q0 ∧ ∀ vs H', postA X.K ph S r σ Q0 vs H' → Q vs H')
theorem PK.weak {kws : List Keyword} {t t' : TA} (h : PK X kws t) (w : ∀ σ H Q, t' σ H Q → t σ H Q) : PK X kws t' := ⟨fun pos pins s σ H Q I q => h.run pos pins s σ H Q I (w _ _ _ q)⟩
theorem dk_nil : DK X [] dNil := ⟨PK.weak pk_nil fun σ H Q ⟨ph, S, r, M, Q0, hs, ht, hq⟩ => hq _ _ (Aft.here hs ⟨_, .nil, ht⟩)⟩
theorem dk_cons {e : Expr} {kws : List Keyword} {nm : Option Str} {kpos : Pos} {t : DTE} {u : DTA} (h : DE X e t) (h2 : DK X kws u) : DK X (⟨nm, e, kpos⟩ :: kws) (dCons t u) :=
  ⟨PK.weak (pk_cons h.pe h2.pk) fun σ H Q ⟨ph, S, r, M, Q0, hs, ht, hq⟩ => ⟨ph, S, r, M, _, hs, ht, fun v H1 ⟨ph1, S1, M1, x1, hs1, d, q1, g1⟩ =>
    ⟨ph1, S1, r, M1, _, hs1, g1, fun vs H2 ⟨ph2, S2, M2, x2, hs2, ds, q2, g2⟩ => hq _ _ ⟨ph2, S2, M2, x1.trans x2, hs2, _, .cons (q1.up x2) q2, g2⟩⟩⟩⟩
/-- the values by place -/
def pick {α : Type} (l : List Nat) (xs : List α) : List α := l.filterMap fun i => xs[i]?
def dCallK (m n : Nat) (sp : DSp) (l : List Nat) (E : DX) (t : DTA) : DTE := fun r M Q => t r M fun ds M1 => ds.length = m ∧ (pick l ds).length = n ∧ sp (pick l ds) M1 Q E
variable {k : Nat} {ps ks : List Str} {sp : DSp} {x : Str} {p pos : Pos} {kws : List Keyword} {t : DTA}
end
/-! ### a def, made known to its callers -/
theorem Def.mk' {P : Program} {w : World} {K : PySem.W.Frag} {mg : Str → Option Value} {base : Heap} {k : Nat} {x : Str} {st : Stmt} {ps : List Str} {sp : DSp} {f : Addr} {fd : FuncData} (F : Fun K x x st f fd) (h : FnD P w K mg base CX0 k f fd ps sp) (hm : mg x = some (.ref f)) (hb : Binds K fd ps []) : Def P w K mg base CX0 k x st ps sp :=
  ⟨f, fd, h, hm, F.kp, hb, F⟩
/-- a def that stands in the module -/
structure Here (K : PySem.W.Frag) (mg : Str → Option Value) (x : Str) (st : Stmt) (ps : List Str) : Prop where
  ex : ∃ (f : Addr) (fd : FuncData), Fun K x x st f fd ∧ mg x = some (.ref f) ∧ Binds K fd ps []
theorem here_of {K : PySem.W.Frag} {h : Heap} {mg : Str → Option Value} {x : Str} {st : Stmt} {ps : List Str} {f : Addr} {oc : Value} {od an : Option Addr} {osl : Array (Option Value)} {kV doc pm cdv ct : Value} (X : K.In h) (G : h.Ns mainGlobals mg)
    (a : PySem.W.nsIn K mainGlobals x = some (some (.ref f))) (l : K.lookup f = some ⟨oc, od, .func (PySem.W.fnOf x x (defArgs st) (defBody st) (defScope st) .none kV doc pm an cdv ct), osl⟩) (c : PySem.W.codeIn K cdv x = true) (k : PySem.W.keepIn K (.ref f) = true)
    (hb : ∀ (kV doc pm : Value) (an : Option Addr) (cdv ct : Value) (us : List Value), us.length = ps.length → bindArgs (PySem.W.fnOf x x (defArgs st) (defBody st) (defScope st) .none kV doc pm an cdv ct) ⟨us, []⟩ = pure (ps.zip us)) : Here K mg x st ps :=
  ⟨f, _, fun_mk (st := st) l c k, PySem.W.mg_of X G a, (fun_mk (st := st) l c k).binds hb⟩
section
variable {P : Program} {w : World} {K : PySem.W.Frag} {mg : Str → Option Value} {base : Heap}
/-- THE RULE for a def of the module -/
theorem Here.ok {x : Str} {st : Stmt} {N ps : List Str} {k : Nat} {sp : DSp} {t : DTS} (F : Here K mg x st ps) (S : FnScope N ps (defScope st))
    (hder : ∀ (f : Addr) (cdv : Value) (A : Around) (outer : List PySem.Env) (s : Shared) (H : Hp) (E : XK), Room k (A.deeper (envOfC x (defScope st) s.heap.objs.size f cdv)) → (A.deeper (envOfC x (defScope st) s.heap.objs.size f cdv)).guards = some [] →
      DSs (cxOf CX0 P w K mg base N x (defScope st) f cdv A outer s H E).nox (defBody st) t)
    (hread : ∀ ds M Q, ds.length = ps.length → sp ds M Q DX0 → t (dEnds M Q) (startD N.length ds) M)
    (hX : ∀ ds M Q E, sp ds M Q E → sp ds M Q DX0 := by exact fun _ _ _ _ h => h) : Def P w K mg base CX0 (k + 1) x st ps sp :=
  let ⟨f, fd, h1, h2, h3⟩ := F.ex
  Def.mk' h1 (Fun.okD h1 S (hder f) hread hX) h2 h3
end
/-! ### the end of a law -/
def spLaw : DSp := fun ds M Q _ => M = [] ∧ (∃ ns, ds = [.scr ns]) ∧ Q (.bl true) []
theorem law_callG {P : Program} {w : World} {K : PySem.W.Frag} {mg mb : Str → Option Value} {k : Nat} {fa a : Addr} {fd : FuncData} {x : Str} {s1 : Shared} {vs : List Value} {ns : List Int}
    (KX : K.In s1.heap) (hns : s1.heap.Ns mainGlobals mg) (hb : s1.heap.Ns builtinsNs mb) (hbb : ∀ x : Str, x ≠ "__name__" → mb x = bootBuiltins x) (hlim : s1.heap.NoLimit) (hg : s1.gens = #[])
    (ha : s1.heap.get? a = some { cls := .type "list", data := .seq vs.toArray }) (hi : IntsAre vs ns) (hl : ns.length ≤ sizeLine) (hr : Room k callerA)
    (F : ∀ base : Heap, K.In base → base.Ns mainGlobals mg → FnD P w K mg base CX0 k fa fd [x] spLaw) (hbind : ∀ (s : Shared) (u : Value), BindsTo s fd ⟨[u], []⟩ [(x, u)]) :
    codeAny (model P w) callerA (.call (.ref fa) ⟨[.ref a], []⟩) (fun r s' => r = .ok (.ret (.bool true)) ∧ OldK s1.heap s'.heap ∧ s'.os = s1.os ∧ AllBare s'.gens) s1 := by
  have rv := vals_ints hi
  have lenV := hi.length
  have core : ∀ H : Hp, Only H → SqL K H a (ns.map V.int) → HOk P w H s1.heap → (∀ b, H b ≠ none → b = a) → (H a ≠ none → K.lookup a = none) →
      codeAny (model P w) callerA (.call (.ref fa) ⟨[.ref a], []⟩) (fun r s' => r = .ok (.ret (.bool true)) ∧ OldK s1.heap s'.heap ∧ s'.os = s1.os ∧ AllBare s'.gens) s1 := by
    intro H hO hS hok hA hK
    have at_ : ∀ {b : Addr}, H b ≠ none → b = a := fun {b} z => hA b z
    have noA : ∀ {b : Addr} {o : Obj} {es : Array DictEntry} {ep : Nat}, s1.heap.get? b = some o → o.data = .dict es ep → H b = none := fun {b o es ep} e d => by
      by_cases z : H b = none
      · exact z
      · have e' := at_ z
        rw [e', ha] at e
        rw [← Option.some.inj e] at d
        exact nomatch d
    have nsK : ∀ {b : Addr} {m : Str → Option Value}, s1.heap.Ns b m → (hidT s1.heap H).Ns b m := fun {b m} ⟨o, es, ep, e, d, r⟩ => ⟨o, es, ep, hidT_get e (noA e d), d, r⟩
    have hKb : K.In (hidT s1.heap H) := fun b o e => hidT_get (KX b o e) (by
      by_cases z : H b = none
      · exact z
      · have e' := at_ z
        rw [e'] at e z
        rw [hK z] at e
        cases e)
    have hM : Mod K mg (hidT s1.heap H) := ⟨hKb, nsK hns, ⟨mb, nsK hb, hbb⟩, let ⟨mc, g1, g2⟩ := hlim; ⟨mc, nsK g1, g2⟩⟩
    have e0 : Env0 P w K mg (hidT s1.heap H) callerA [] s1 H := ⟨rfl, hM, fun b o e => of_hidT e, Nat.le_of_eq (hidT_size _ _), trivial, fun b hb => absurd (show b ∈ ([] : List Addr) from hb) (by simp), hok, .of_eq hg⟩
    have st0 : Sat K ⟨[], []⟩ H [] [] [] H := ⟨fun _ _ e => e, rfl, List.nodup_nil, fun k a e => by simp at e, fun k ds e => by simp at e, fun _ hp => (nomatch hp), List.nodup_nil, rfl, fun i d e => by simp at e⟩
    have sp0 : lfSp K 1 spLaw [.ref a] H (fun v _ => v = .bl true) E0 := ⟨⟨[], []⟩, H, [], [.scr ns], fun d M => d = .bl true, DX0, rfl, st0, .cons (.scr hS) .nil, ⟨rfl, ⟨ns, rfl⟩, rfl⟩, fun v H' ⟨_, _, _, _, _, d, q, e⟩ => by
      rw [e] at q
      cases q
      rfl, fun cls d H' ⟨_, _, _, _, _, _, _, _, _, _, _, _, _, _, _, _, z⟩ => z⟩
    refine codeAny_mono ((F _ hKb (nsK hns)).run callerA [] s1 H ⟨[.ref a], []⟩ [.ref a] [.ref a] _ _ hr rfl e0 (hbind s1 (.ref a)) (.cons rfl .nil) sp0) fun r s' h => ?_
    match r, h with
    | .error e, h => exact False.elim h
    | .ok .next, h => exact False.elim h
    | .ok .brk, h => exact False.elim h
    | .ok .cont, h => exact False.elim h
    | .ok (.ret u), ⟨v, H', os, bare, un, hok', r', q⟩ =>
      have q' : v = .bl true := q
      subst q'
      obtain rfl : u = Value.bool true := r'
      refine ⟨rfl, OldK.of_keep fun b o e => ?_, os, bare⟩
      rcases hO b with q | ⟨ob, xs, q⟩
      · exact un.keep b o e q (fun z => nomatch z) (fun z => nomatch z)
      · obtain ⟨e1, _⟩ := hok b _ q
        obtain ⟨e2, _⟩ := hok' b _ (un.frzs b ob _ q)
        rw [e] at e1
        cases e1
        exact e2
  cases hk : K.lookup a with
  | some o =>
    have e := KX a o hk
    rw [ha] at e
    cases e
    exact core (fun _ => none) (fun _ => .inl rfl) (.inr ⟨_, vs.toArray, _, hk, rfl, rfl, rfl, by rw [List.size_toArray, lenV]; exact hl, by simpa using rv⟩) (fun b u z => (nomatch z)) (fun b z => absurd rfl z) fun z => absurd rfl z
  | none =>
    refine core (fun b => if b = a then some (.frz { cls := .type "list", data := .seq vs.toArray } (.lst (ns.map V.int))) else none) (fun b => ?_) (.inl (.inr ⟨{ cls := .type "list", data := .seq vs.toArray }, if_pos rfl⟩)) (fun b u z => ?_) (fun b z => ?_) fun _ => hk
    · by_cases hb : b = a
      · exact .inr ⟨_, _, if_pos hb⟩
      · exact .inl (if_neg hb)
    · by_cases hb : b = a
      · have z := (if_pos hb).symm.trans z
        cases z
        rw [hb]
        exact ⟨ha, by rw [List.length_map]; exact hl, vs, _, rv, ha⟩
      · have z := (if_neg hb).symm.trans z
        cases z
    · by_cases hb : b = a
      · exact hb
      · exact absurd (if_neg hb) z
/-- the goal that k_head leaves -/
theorem walkD {l : PySem.W.OpenLaw} {n k : Nat} {q : Program} {loose : List Str} {XP : (Str → Option Value) → Heap → Prop} {YP : World → Heap → Prop} {d : DefRec} {K : Params → PySem.W.Frag} {x : Str} {st : Stmt}
    (hn : l.most = some n) (hn2 : n ≤ sizeLine) (hdf : d.params.defaults = []) (hr : Room k callerA) (hY : ∀ (w : World) (h : Heap), YP w h → (K w.params).In h)
    (F : ∀ (w : World) (mg : Str → Option Value) (h : Heap), (K w.params).In h → h.Ns mainGlobals mg → ∀ base : Heap, (K w.params).In base → base.Ns mainGlobals mg → Def l.prog w (K w.params) mg base CX0 k d.name st [x] spLaw)
    (hb : ∀ (kV doc pm : Value) (an : Option Addr) (cdv ct : Value) (u : Value), bindArgs (PySem.W.fnOf d.name d.name (defArgs st) (defBody st) (defScope st) .none kV doc pm an cdv ct) ⟨[u], []⟩ = pure [(x, u)]) :
    PySem.W.WalkO q loose XP YP l.row.toRowW d [] (fun f vs => PySem.call f vs) := by
  refine Att.attach_call hn hdf fun w s0 s1 mg mb fa o pm cd doc a vs ns G Y ho hd hcd hmg hobj hints hlen hg => ?_
  have KX := hY w _ Y
  obtain ⟨f0, fd, g1, g2, g3, g4, g5⟩ := (F w mg _ KX G.T.g _ KX G.T.g).ex
  have ef : f0 = fa := by
    rw [g2] at hmg
    exact Value.ref.inj (Option.some.inj hmg)
  subst ef
  obtain ⟨oc, od, kV, doc', pm', an, cdv, ct, osl, efd, lk, hcd'⟩ := g5.ex
  refine law_callG (fd := fd) (k := k) (x := x) KX G.T.g G.T.b G.T.builtins G.T.nolimit hg hobj hints (Nat.le_trans hlen hn2) hr (fun base h1 h2 => ?_) fun s u => ?_
  · obtain ⟨f1, fd1, k1, k2, k3, k4, k5⟩ := (F w mg _ KX G.T.g base h1 h2).ex
    have e1 : f1 = f0 := by
      rw [g2] at k2
      exact (Value.ref.inj (Option.some.inj k2)).symm
    subst e1
    obtain ⟨_, _, _, _, _, _, _, _, _, _, lk1, _⟩ := k5.ex
    rw [lk] at lk1
    have e2 : fd = fd1 := by
      have := Option.some.inj lk1
      injection this with _ _ z _
      exact Data.func.inj z
    rw [e2]
    exact k1
  · rw [efd]
    exact .of_eq (hb kV doc' pm' an cdv ct u)
end DL
/-! DL9: further rules; lemmas for readings -/
namespace DL
open PySem PySem.Spec PyProof.Rows L2
theorem u64 {A : Around} {k : Nat} (hr : Room k A) : A.units + 64 < cLine := hr.units
theorem ux {A : Around} {k : Nat} (hr : Room k A) : A.units + 200 < cLine := by have := hr.un; omega
section
variable {X : Cx}
/-- an owned list is handed on: it is changed no more -/
def gFrz (d : D) (M : Mem) (Q : DQ) : Prop := match d with
  | .own k => match M[k]? with
    | some (.lst l) => Q (.lst l) (M.set k .dead)
    | _ => False
  | d => Q d M
def dFrz (t : DTE) : DTE := fun r M Q => t r M fun d M1 => gFrz d M1 Q
/-- a list, n times -/
def gMulL : G2 := fun x y M Q => match x, y with
  | .lst a, .int j => (-(2 ^ 63) ≤ j ∧ j < 2 ^ 63 ∧ a.length * j.toNat ≤ sizeLine) ∧ Q (.lst (List.flatten (List.replicate j.toNat a))) M
  | _, _ => False
end
variable {X : Cx}
/-! ### zip, enumerate -/
def pairD (x y : D) : D := .tup [x, y]
theorem RepAll.two {K : PySem.W.Frag} {ph : Ph} {S : Hp} {x y : V} {d e : D} (h : Rep K ph S x d) (g : Rep K ph S y e) : RepAll K ph S [x, y] [d, e] := .cons h (.cons g .nil)
theorem zip_get {l1 l2 : List D} {i : Nat} {d : D} (h : (List.zipWith pairD l1 l2)[i]? = some d) : ∃ x y, l1[i]? = some x ∧ l2[i]? = some y ∧ d = pairD x y := by
  rw [List.getElem?_zipWith] at h
  cases e1 : l1[i]? with
  | none => rw [e1] at h; cases h
  | some x =>
    cases e2 : l2[i]? with
    | none => rw [e1, e2] at h; cases h
    | some y =>
      rw [e1, e2] at h
      exact ⟨x, y, rfl, rfl, (Option.some.inj h).symm⟩
theorem Wlk.zip {K : PySem.W.Frag} {ph : Ph} {S : Hp} {a b : Addr} {d1 d2 : List D} {C1 C2 : Mem → Prop}
    (h1 : ∀ (ph' : Ph) (S' : Hp) (r' : Env) (M' : Mem) (σ' : St) (H' : Hp), (∀ (k : Nat) (a : Addr), ph.cells[k]? = some a → ph'.cells[k]? = some a) → Same S S' → Sat K ph' S' r' M' σ' H' → C1 M' → ∃ xs, SqL K H' a xs ∧ RepAll K ph' S' xs d1)
    (h2 : ∀ (ph' : Ph) (S' : Hp) (r' : Env) (M' : Mem) (σ' : St) (H' : Hp), (∀ (k : Nat) (a : Addr), ph.cells[k]? = some a → ph'.cells[k]? = some a) → Same S S' → Sat K ph' S' r' M' σ' H' → C2 M' → ∃ xs, SqL K H' b xs ∧ RepAll K ph' S' xs d2) :
    Wlk K ph S (Itz K a b) (List.zipWith pairD d1 d2) (fun M => C1 M ∧ C2 M) := fun ph' S' r M σ H e1 e2 hs hc => by
  obtain ⟨xs, q1, qa1⟩ := h1 ph' S' r M σ H e1 e2 hs hc.1
  obtain ⟨ys, q2, qa2⟩ := h2 ph' S' r M σ H e1 e2 hs hc.2
  refine ⟨fun i hi => ⟨xs, ys, q1, q2, by rw [qa1.len, qa2.len]; rw [List.length_zipWith] at hi; omega⟩, fun i d e => ?_⟩
  obtain ⟨x, y, ex, ey, rfl⟩ := zip_get e
  obtain ⟨u, eu, qu⟩ := qa1.get ex
  obtain ⟨w, ew, qw⟩ := qa2.get ey
  refine ⟨⟨xs, ys, u, w, q1, q2, eu, ew⟩, fun z H' ⟨T, u', w', ez, hT, eH, f1, f2⟩ => ?_⟩
  have e3 := f1 xs q1
  have e4 := f2 ys q2
  rw [eu] at e3; cases e3
  rw [ew] at e4; cases e4
  subst ez eH
  obtain ⟨x1, hs1⟩ := hs.frz hT (.tup [u, w])
  exact ⟨_, _, _, x1, hs1, rfl, .tup (.inl upd_same) ((RepAll.two qu qw).up x1)⟩
end DL
namespace DL
open PySem PySem.Spec PyProof.Rows L2
def t_l_hash_9cde : DTS :=
 (dSeq (dAsg (dOp (rBin CMod fun i j => i.fmod j) (dCB gInt (dCons (dOp gAdd (dOp gAdd (dOp gAdd (dOp (rBin CMul fun i j => i * j) (dVar 0) (dC (.int 1048583))) (dOp (rBin CMul fun i j => i * j) (dOp (rBin CMul fun i j => i * j) (dC (.int 16777259)) (dVar 1)) (dVar 1))) (dOp (rBin CMul fun i j => i * j) (dC (.int 71)) (dVar 1))) (dC (.int 13))) dNil)) (dC (.int 2147483629))) (dName 2))
 (dSeq (dAsg (dOp (rBin CMod fun i j => i.fmod j) (dCB gInt (dCons (dOp gAdd (dOp gAdd (dOp (rBin CMul fun i j => i * j) (dVar 2) (dVar 2)) (dOp (rBin CMul fun i j => i * j) (dC (.int 40503)) (dVar 1))) (dC (.int 27644437))) dNil)) (dC (.int 2147483587))) (dName 2))
 (dRet (dOp (rBin CMod fun i j => i.fmod j) (dCB gInt (dCons (dOp (rBin CMul fun i j => i * j) (dVar 2) (dC (.int 69069))) dNil)) (dC (.int 2147483647))))))
def t_l_random_7821 (c_l_hash_9cde : DSp) : DTS :=
 (dSeq (dIfS (dTru (dOp (gCmpI fun i j => decide (j < i)) (dOp gIx (dVar 0) (dC (.int 0))) (dC (.int 0)))) (dSeq (dAsg (dOp (rBin CMod fun i j => i.fmod j) (dCB gInt (dCons (dOp gIx (dVar 0) (dC (.int 0))) dNil)) (dVar 1)) (dName 2))
 (dSeq (dAsg (dOp (rBin CDiv fun i j => i.fdiv j) (dOp gIx (dVar 0) (dC (.int 0))) (dVar 1)) (dSub (dVar 0) (dC (.int 0))))
 (dRet (dVar 2)))) dNext)
 (dSeq (dAsg (dC (.int 0)) (dName 2))
 (dSeq (dFor (dRngI gRng1 (dCons (dOp gAdd (dC (.int 1)) (dOp (rBin CDiv fun i j => i.fdiv j) (dBits (dVar 1)) (dC (.int 30)))) dNil)) (dName 3) (dSeq (dAsg (dOp gAdd (dOp gIx (dVar 0) (dC (.int 2))) (dC (.int 1))) (dSub (dVar 0) (dC (.int 2))))
 (dAsg (dOp gAdd (dOp (rBin CMul fun i j => i * j) (dVar 2) (dC (.int 2147483587))) (dCall 2 c_l_hash_9cde [] DX0 (dCons (dOp gIx (dVar 0) (dC (.int 1))) (dCons (dOp gIx (dVar 0) (dC (.int 2))) dNil)))) (dName 2))))
 (dRet (dOp (rBin CMod fun i j => i.fmod j) (dCB gInt (dCons (dVar 2) dNil)) (dVar 1))))))
def t_l_cell_cf3b : DTS :=
 (dSeq (dIfS (dTru (dOp (gCmpI fun i j => decide (i < j)) (dVar 1) (dCB gLen (dCons (dVar 0) dNil)))) (dRet (dOp gIx (dVar 0) (dVar 1))) dNext)
 (dRet (dOp (rBin CMod fun i j => i.fmod j) (dCB gSum (dCons (dSl (gSlL false) (dVar 0) dNoPart (dPart (dC (.int 1)))) dNil)) (dC (.int 1000003)))))
def t_l_generator_b324 (c_l_cell_cf3b : DSp) : DTS :=
 (dSeq (dAsg (dCall 2 c_l_cell_cf3b [] DX0 (dCons (dVar 0) (dCons (dVar 1) dNil))) (dName 2))
 (dRet (dOwn (dCons (dOp (rBin CMod fun i j => i.fmod j) (dCB gInt (dCons (dCB gMax (dCons (dOp (rBin (fun _ _ => True) fun i j => i - j) (dVar 2) (dOp (rBin CPow fun i j => i ^ j.toNat) (dC (.int 10)) (dC (.int 18)))) (dCons (dC (.int 0)) dNil))) dNil)) (dOp (rBin CPow fun i j => i ^ j.toNat) (dOp (rBin CPow fun i j => i ^ j.toNat) (dC (.int 10)) (dC (.int 60))) (dC (.int 10)))) (dCons (dOp (rBin CMod fun i j => i.fmod j) (dCB gInt (dCons (dVar 2) dNil)) (dC (.int 2147483647))) (dCons (dOp (rBin CMul fun i j => i * j) (dC (.int 1000)) (dVar 1)) dNil))))))
end DL
namespace DL
open PySem PySem.Spec PyProof.Rows L2
end DL
namespace DL
open PySem PySem.Spec PyProof.Rows L2
end DL
namespace DL
open PySem PySem.Spec PyProof.Rows L2
end DL
namespace DL
open PySem PySem.Spec PyProof.Rows L2
end DL
/-! DLS: sorted of ints, of tuples of ints -/
namespace DL
open PySem PySem.Spec PyProof.Rows L2
/-- at v: a tuple of these ints -/
def IsTupI (h : Heap) (v : Value) (ns : List Int) : Prop := ∃ a o us n, v = .ref a ∧ h.get? a = some o ∧ o.cls = .type "tuple" ∧ o.data = .seq (List.toArray us) n ∧ Vals (ns.map V.int) us
theorem IsTupI.keeps {h h' : Heap} {v : Value} {ns : List Int} (p : IsTupI h v ns) (k : ∀ b o, h.get? b = some o → o.cls = .type "tuple" → h'.get? b = some o) : IsTupI h' v ns := by
  obtain ⟨a, o, us, n, e, ho, hc, hd, r⟩ := p
  exact ⟨a, o, us, n, e, k _ _ ho hc, hc, hd, r⟩
/-- the ints of a tuple, as H tells -/
def kV (K : PySem.W.Frag) (H : Hp) (v : V) : List Int := match v with
  | .ref t => match H t with
    | some (.tup xs) => xs.map fun x => match x with
      | .int i => i
      | _ => 0
    | _ => match K.lookup t with
      | some ⟨_, _, .seq its _, _⟩ => its.toList.map fun u => match u with
        | .int i _ => i
        | _ => 0
      | _ => []
  | _ => []
/-! ### as a rule for data -/
def tI (ns : List Int) : D := .tup (ns.map D.int)
/-! ### slices of lists and tuples alike -/
section
variable {X : Cx}
def gSl (own : Bool) (d : D) (lo hi : Option Int) (M : Mem) (Q : DQ) : Prop := match d with
  | .tup l => Q (.tup (cutD l lo hi)) M
  | d => gSlL own d lo hi M Q
theorem gSl_tup {own : Bool} {l : List D} {lo hi : Option Int} {M : Mem} {Q : DQ} : gSl own (.tup l) lo hi M Q = Q (.tup (cutD l lo hi)) M := rfl
theorem gSl_lst {l : List D} {lo hi : Option Int} {M : Mem} {Q : DQ} : gSl false (.lst l) lo hi M Q = Q (.lst (cutD l lo hi)) M := rfl
theorem cut_1 {a : D} {l : List D} : cutD (a :: l) (some 1) none = l := by
  unfold cutD
  have e1 : HT.sIx (a :: l).length 0 (some 1) = 1 := by
    have := HT.sIx_nat (a :: l).length 0 1
    rw [show ((1 : Nat) : Int) = 1 from rfl] at this
    rw [this, List.length_cons]
    omega
  have e2 : HT.sIx (a :: l).length (a :: l).length none = (a :: l).length := rfl
  rw [e1, e2]
  simp
end
/-! ### x + y, lists, the sum to be changed -/
end DL
namespace DL
open PySem PySem.Spec PyProof.Rows L2
end DL
namespace DL
open PySem PySem.Spec PyProof.Rows L2
end DL
namespace DL
open PySem PySem.Spec PyProof.Rows L2
end DL
namespace DL
open PySem PySem.Spec PyProof.Rows L2
end DL
/-! DLU: max and min of a list of ints -/
namespace DL
open PySem PySem.Spec PyProof.Rows L2
end DL
namespace DL
open PySem PySem.Spec PyProof.Rows L2
end DL
namespace DL
open PySem PySem.Spec PyProof.Rows L2
end DL
/-! DLV: sorted({(a, b), (c, d)}) -/
namespace DL
open PySem PySem.Spec PyProof.Rows L2
section
variable {X : Cx}
theorem TupK.ne {K : PySem.W.Frag} {S H : Hp} {a p : Addr} {xs : List V} {o : HO} (h : TupK K S a xs) (hk : ∀ t o, K.lookup t = some o → H t = none) (hp : H p = some o) (hs : S p = none) : a ≠ p := fun z => by
  rcases h with h | ⟨o', _, _, h, _⟩
  · rw [z, hs] at h; cases h
  · have := hk _ _ h
    rw [z, hp] at this; cases this
end
/-! ### a def whose own code must be known -/
end DL
namespace DL
open PySem PySem.Spec PyProof.Rows L2
end DL
namespace DL
open PySem PySem.Spec PyProof.Rows L2
end DL
/-! DLX: errors over data: raised, passed on, caught, asked -/
namespace DL
open PySem PySem.Spec PyProof.Rows L2
section
variable {X : Cx} {pos : Pos}
/-! ### names of the module as values; an error's value and kind -/
theorem de_gname {x : Str} {a : Addr} (hn : PySem.W.nsIn X.K mainGlobals x = some (some (.ref a))) (hm : X.mg x = some (.ref a)) (hg : Gl X x := by rfl) (hd : (x == ("__debug__" : Str)) = false := by decide) : DE X (.Name x pos) (dC (.glb x)) :=
  de_c (pe_glob (v := .ref a) hg hm rfl hd) fun _ _ => .glb hn
def dFld (t : DTE) : DTE := fun r M Q => t r M fun d M1 => match d with
  | .exc _ v => Q v M1
  | _ => False
theorem er_inst {pins : List (Addr × Obj)} {s : Shared} {σ : St} {H : Hp} {a C T dd : Addr} {x : Str} (I : Inv X pins σ H s) (h0 : XA.ErC X.K x C T) (ha : H a = some (erO a C dd)) : ∃ oe : Obj, s.heap.get? a = some oe ∧ oe.cls = .ref C ∧ PySem.W.notCls oe = true ∧ oe.dict = some dd := by
  have q : ObjOk X.prog X.w H s.heap a (.ext (ErAt a C dd)) := I.hok a _ ha
  obtain ⟨vs, sl, hv⟩ := q.1
  exact ⟨_, hv, rfl, rfl, rfl⟩
theorem de_fld {e : Expr} {t : DTE} (he : DE X e t) (hb : attributeBase e "value" X.env (eval e X.env) = eval e X.env := by rfl) : DE X (.Attribute e "value" pos) (dFld t) :=
  ⟨⟨fun pins s σ H Q I ⟨ph, S, r, M, Q0, hs, ht, hq⟩ => attr_of hb (thn (he.pe.run pins s σ H _ I ⟨ph, S, r, M, _, hs, ht, fun _ _ z => z⟩) fun u s1 ⟨y, H1, I1, ry, ph1, S1, M1, x1, hs1, d, q1, g1⟩ => by
    cases d <;> first | exact g1.elim | skip
    cases q1 with
    | @exc a C T dd x v d h0 ha hd hv =>
      cases (show u = Value.ref a from ry)
      obtain ⟨oe, e1, e2, e3, e4⟩ := er_inst I1 h0 (hs1.sub _ _ ha)
      have hx : ObjOk X.prog X.w H1 s1.heap dd (.xd [(fVal, v)]) := I1.hok dd _ (hs1.sub _ _ hd)
      obtain ⟨mA, hns, hr⟩ := hx
      obtain ⟨od, ho, hl⟩ := lookIn_ns hns
      have l : List.lookup fVal [(fVal, v)] = some v := by simp [List.lookup]
      obtain ⟨u, hu, ru⟩ := RelO.some_of (v := v) (o := mA fVal) (by rw [← l]; exact hr fVal)
      have J : PySem.W.InstAt s1.heap a oe C (some od) := ⟨e1, e2, e3, by rw [e4]; exact ho⟩
      have xf := h0.xfC
      exact HandSPX.exc_get I1.kIn J xf.ga xf.gg xf.exC (PySem.W.findObj_own xf.hdC h0.nv rfl (by rw [hl, hu])) (handed_of ru) ⟨v, H1, I1.tok _, ru, hq _ _ ⟨ph1, S1, M1, x1, hs1, _, hv, g1⟩⟩)⟩⟩
/-- isinstance, of errors too; L: the names of the error classes -/
def gIsx (L : List Str) : GA := fun ds M Q => match ds with
  | [.exc x _, .glb y] => y ∈ L ∧ Q (.bl (XA.under x y)) M
  | [.exc _ _, .val (.ty n)] => n = "ValueError" ∧ Q (.bl true) M
  | [.non, .glb y] => y ∈ L ∧ Q (.bl false) M
  | ds => gIsi ds M Q
theorem kit_non {K : PySem.W.Frag} {y : Str} {C : Addr} (A : XA.AnyC K y C) : PySem.W.kitOne K (.type "NoneType") (.ref C) = some false := by
  have e : PySem.fastBuiltinMro "NoneType" = some [Value.type "NoneType", Value.type "object"] := by decide +kernel
  unfold PySem.W.kitOne
  rw [if_neg (by simp)]
  unfold PySem.W.kitCls
  dsimp only
  rw [if_pos (by rw [A.isC, A.ty]; rfl)]
  show (PySem.fastBuiltinMro "NoneType").map _ = _
  rw [e]
  simp
theorem any_at {K : PySem.W.Frag} {y : Str} {a C : Addr} (h : PySem.W.nsIn K mainGlobals y = some (some (.ref a))) (A : XA.AnyC K y C) : a = C := by
  have z := h.symm.trans A.ns
  exact Value.ref.inj (Option.some.inj (Option.some.inj z))
theorem isx_exc {pins : List (Addr × Obj)} {s : Shared} {σ : St} {H : Hp} {ph : Ph} {S : Hp} {r : Env} {M : Mem} {v c : V} {us : List Value} {x : Str} {d : D} {Q : DQ} {cv : Value} {b : Bool} (I : Inv X pins σ H s) (hs : Sat X.K ph S r M σ H) (q : Rep X.K ph S v (.exc x d)) (rv : Vals [v, c] us)
    (rc : ∀ u, RelV c u → u = cv) (hk : ∀ C T, XA.ErC X.K x C T → PySem.W.kitOne X.K (.ref C) cv = some b) (hg : Q (.bl b) M) : wpAny (model X.prog X.w) X.A (call (.builtin "isinstance") us) (EP X pins σ (post X.K ph S r σ Q)) X.xe s := by
  obtain ⟨u1, u2, rfl, r1, r2⟩ := vals2 rv
  cases rc _ r2
  cases q with
  | @exc a C T dd x v d h0 ha hd hv =>
    cases (show u1 = Value.ref a from r1)
    obtain ⟨oe, e1, e2, e3, e4⟩ := er_inst I h0 (hs.sub _ _ ha)
    have hx : ObjOk X.prog X.w H s.heap dd (.xd [(fVal, v)]) := I.hok _ _ (hs.sub _ _ hd)
    obtain ⟨mA, hns, hr⟩ := hx
    obtain ⟨od, ho, hl⟩ := lookIn_ns hns
    have J : PySem.W.InstAt s.heap a oe C (some od) := ⟨e1, e2, e3, by rw [e4]; exact ho⟩
    have xc := h0.excC
    obtain ⟨cd, hc1, _⟩ := h0.clsIn
    exact PySem.W.kia_one (PySem.W.kitx_exc (by rw [hc1]; rfl) xc.hg xc.hk xc.hs xc.ha xc.hn xc.ht xc.hm) I.kIn J (hk _ _ h0) (fun z => nomatch z) fun tk => ⟨.bl b, H, I.kept (t' := tk) fun _ _ z => z, rfl, Aft.here hs ⟨_, .bl b, hg⟩⟩
theorem cd_isx {L : List Str} (hL : ∀ y ∈ L, ∃ C, XA.AnyC X.K y C) : CallD X (.builtin "isinstance") (gIsx L) := by
  intro pins s σ H ph S r M vs us ds Q I hs rv q hg
  have old : gIsi ds M Q → wpAny (model X.prog X.w) X.A (call (.builtin "isinstance") us) (EP X pins σ (post X.K ph S r σ Q)) X.xe s := fun z => cd_isi pins s σ H ph S r M vs us ds Q I hs rv q z
  unfold gIsx at hg
  split at hg
  · rename_i x v y
    obtain ⟨C', A⟩ := hL y hg.1
    cases q with
    | cons q1 q =>
      cases q with
      | cons q2 q =>
        cases q
        cases q2 with
        | glb hn =>
          cases any_at hn A
          exact isx_exc I hs q1 rv (cv := .ref C') (fun u z => z) (fun C T h0 => h0.kit A) hg.2
  · rename_i x v n
    obtain ⟨rfl, hg⟩ := hg
    cases q with
    | cons q1 q =>
      cases q with
      | cons q2 q =>
        cases q
        cases q2
        exact isx_exc I hs q1 rv (cv := .type "ValueError") (fun u z => z) (fun C T h0 => h0.kitV) hg
  · rename_i y
    obtain ⟨C', A⟩ := hL y hg.1
    cases q with
    | cons q1 q =>
      cases q with
      | cons q2 q =>
        cases q
        cases q1
        cases q2 with
        | glb hn =>
          cases any_at hn A
          exact call_isi pins s σ H _ us _ I rv ⟨.non, .ref C', _, _, false, rfl, .own C', .base .non, kit_non A, Aft.here hs ⟨_, .bl _, hg.2⟩⟩
  · exact old hg
end
/-! ### what may leave -/
abbrev DXE := Env → Str → D → Mem → Prop
def postE (K : PySem.W.Frag) (ph : Ph) (S : Hp) (E : DXE) : WX := fun cls d σ H => ∃ (x : Str) (C T dd : Addr) (v : V) (dv : D) (r : Env), XA.ErC K x C T ∧ cls = .ref C ∧ d = some dd ∧
  Aft K ph S r σ H fun ph' S' M => S' dd = some (.xd [(fVal, v)]) ∧ Rep K ph' S' v dv ∧ E r x dv M
theorem postE.up {K : PySem.W.Frag} {ph ph1 : Ph} {S S1 : Hp} {E : DXE} {cls : Value} {d : Option Addr} {σ : St} {H : Hp} (x : Ext ph S ph1 S1) (h : postE K ph1 S1 E cls d σ H) : postE K ph S E cls d σ H :=
  let ⟨y, C, T, dd, v, dv, r, h1, h2, h3, h4⟩ := h
  ⟨y, C, T, dd, v, dv, r, h1, h2, h3, Aft.up x h4⟩
section
variable {X : Cx} {pos : Pos}
theorem postE.back {K : PySem.W.Frag} {ph ph1 : Ph} {S S1 : Hp} {E : DXE} {cls : Value} {d : Option Addr} {σ : St} {H : Hp} (x : Ext ph S ph1 S1) (h : postE K ph1 S1 E cls d σ H) : postE K ph S E cls d σ H := h.up x
/-- a def's error, in our frame -/
theorem postX.at {K : PySem.W.Frag} {ph : Ph} {S : Hp} {r : Env} {M : Mem} {σ : St} {H H' : Hp} {E : DX} {cls : Value} {d : Option Addr} (hs : Sat K ph S r M σ H) (h : postX K ph S E cls d H') : postE K ph S (fun r' x dv M' => r' = r ∧ E x dv M') cls d σ H' :=
  let ⟨x, C, T, dd, v, dv, h1, h2, h3, ph', S', M', y, hs', e1, e2, e3⟩ := h
  ⟨x, C, T, dd, v, dv, r, h1, h2, h3, ph', S', M', y, hs.back y hs', e1, e2, rfl, e3⟩
variable {k : Nat} {f : Addr} {fd : FuncData} {ps : List Str} {sp : DSp} {x : Str} {p : Pos} {e : Expr} {es : List Expr} {t : DXE → DTA}
/-- f(..), f may raise -/
def dCallX (n : Nat) (sp : DSp) (t : DXE → DTA) : DXE → DTE := fun E r M Q => t E r M fun ds M1 => ds.length = n ∧ sp ds M1 Q (fun y dv M2 => E r y dv M2)
end
end DL
/-! DLY: statements that may raise; try; a def that raises -/
namespace DL
open PySem PySem.Spec PyProof.Rows L2
section
variable {X : Cx} {pos : Pos}
/-- raise x(e) -/
def dRaise (x : Str) (t : DTA) : DXE → DTS := fun E _ r M => t r M fun ds M1 => ∃ d, ds = [d] ∧ E r x d M1
/-! ### try -/
/-- try: t / except c as (slot i): ts, all that t raises being of the class c -/
def dTry (c : Str) (i : Nat) (t : DXE → DTS) (ts : DTS) : DTS := fun E r M => t (fun r' x dv M' => XA.under x c = true ∧
  ts { nx := fun r2 M2 => E.nx (r2.set i none) M2, rt := E.rt, bk := fun r2 M2 => E.bk (r2.set i none) M2, ct := fun r2 M2 => E.ct (r2.set i none) M2 } (r'.set i (some (.exc x dv))) M') E r M
end
/-! ### a def that may raise -/
/-! ### a def that may raise, called where it doesn't -/
section
variable {X : Cx} {k : Nat} {ps ks : List Str} {sp : DSp} {x : Str} {p pos : Pos} {e : Expr} {es : List Expr} {kws : List Keyword} {t : DTA}
/-! ### a call of what an expression tells (a def out of a list of defs) -/
/-- the defs that may be meant: name, number of parameters, contract -/
abbrev Tab := List (Str × Nat × DSp)
def dCallV (L : Tab) (tf : DTE) (t : DXE → DTA) : DXE → DTE := fun E r M Q => tf r M fun d M0 => match d with
  | .glb x => ∃ n sp, (x, n, sp) ∈ L ∧ t E r M0 fun ds M1 => ds.length = n ∧ sp ds M1 Q (fun y dv M2 => E r y dv M2)
  | _ => False
end
end DL
namespace DL
open PySem PySem.Spec PyProof.Rows L2
end DL
namespace DL
open PySem PySem.Spec PyProof.Rows L2
end DL
/-! DLZ: list(range), range with a step, enumerate, xs[::-1], xs.index -/
namespace DL
open PySem PySem.Spec PyProof.Rows L2
section
variable {X : Cx} {pos : Pos}
/-! ### list(range(..)) -/
def gLRng (own : Bool) : GA := fun ds M Q => match ds with
  | [.int b] => RgOk 0 b ∧ (if own = true then Q (.own M.length) (M ++ [.lst (rng 0 b.toNat)]) else Q (.lst (rng 0 b.toNat)) M)
  | [.int a, .int b] => RgOk a b ∧ (if own = true then Q (.own M.length) (M ++ [.lst (rng a (b - a).toNat)]) else Q (.lst (rng a (b - a).toNat)) M)
  | _ => False
/-! ### range(a, b, c) -/
/-! ### enumerate -/
/-! ### xs[::-1] -/
/-! ### xs.index(y) -/
mutual
def dpD : D → Bool
  | .non => true
  | .bl _ => true
  | .int _ => true
  | .str _ => true
  | .tup l => dpDAll l
  | .lst l => dpDAll l
  | _ => false
def dpDAll : List D → Bool
  | [] => true
  | d :: ds => dpD d && dpDAll ds
end
mutual
theorem Rep.dp {K : PySem.W.Frag} {ph : Ph} {H : Hp} : ∀ (d : D) (v : V) (p : PyData), Rep K ph H v d → dpD d = true → toPy d = some p → Dp K H v p
  | .non, _, _, h, _, e => by cases h; cases e; exact .non
  | .bl _, _, _, h, _, e => by cases h; cases e; exact .bl _
  | .int _, _, _, h, _, e => by cases h; cases e; exact .int _
  | .str _, _, _, h, _, e => by cases h; cases e; exact .str _
  | .tup ds, _, _, h, g, e => by
    cases h with
    | tup h1 h2 =>
      simp only [toPy] at e
      split at e
      · rename_i ps ep
        cases e
        exact .tup (h1.sq fun _ _ z => z) (RepAll.dp ds _ ps h2 (by simpa only [dpD] using g) ep)
      · cases e
  | .lst ds, _, _, h, g, e => by
    cases h with
    | lst h1 h2 =>
      simp only [toPy] at e
      split at e
      · rename_i ps ep
        cases e
        exact .lst (SqL.of h1) (RepAll.dp ds _ ps h2 (by simpa only [dpD] using g) ep)
      · cases e
  | .dct0, _, _, _, g, _ => by simp [dpD] at g
  | .scr _, _, _, _, g, _ => by simp [dpD] at g
  | .own _, _, _, _, g, _ => by simp [dpD] at g
  | .exc _ _, _, _, _, g, _ => by simp [dpD] at g
  | .errS, _, _, _, g, _ => by simp [dpD] at g
  | .glb _, _, _, _, g, _ => by simp [dpD] at g
  | .val _, _, _, _, g, _ => by simp [dpD] at g
theorem RepAll.dp {K : PySem.W.Frag} {ph : Ph} {H : Hp} : ∀ (ds : List D) (vs : List V) (ps : List PyData), RepAll K ph H vs ds → dpDAll ds = true → toPyAll ds = some ps → DpAll K H vs ps
  | [], _, _, h, _, e => by cases h; cases e; exact .nil
  | d :: ds, _, _, h, g, e => by
    cases h with
    | cons h1 h2 =>
      have g' : dpD d = true ∧ dpDAll ds = true := by simpa only [dpDAll, Bool.and_eq_true] using g
      simp only [toPyAll] at e
      split at e
      · rename_i p ps ep eps
        cases e
        exact .cons (Rep.dp d _ p h1 g'.1 ep) (RepAll.dp ds _ ps h2 g'.2 eps)
      · cases e
end
end
end DL
namespace DL
open PySem PySem.Spec PyProof.Rows L2
end DL
namespace DL
open PySem PySem.Spec PyProof.Rows L2
end DL
/-! XC: list(range(a, b, c)); xs.count(y) -/
namespace L2
open PySem PySem.Spec PyProof.Rows PyProof
end L2
/-! DLC: list(range(a, b, c)), xs.count(y), comparisons and reprs of data with owned lists within -/
namespace DL
open PySem PySem.Spec PyProof.Rows L2
section
variable {X : Cx} {pos : Pos}
/-! ### xs.count(y) -/
/-! ### owned lists within -/
def cellL (M : Mem) (k : Nat) : Option (List D) := match M[k]? with
  | some (.lst ds) => some ds
  | _ => none
end
end DL
namespace DL
open PySem PySem.Spec PyProof.Rows L2
end DL
/-! XD: repr of a list whose items may be dicts, where no list within is asked about -/
namespace L2
open PySem PySem.Spec PyProof.Rows PyProof
section
variable {prog : Program} {w : World} {A : Around} {E : Value → Shared → Prop} {s : Shared} {Q : Value → Shared → Prop}
theorem repr_listZ {a : Addr} {o : Obj} {vs : Array Value} {n : Nat} {xs : List PyData} {as : List Addr} (ho : s.heap.get? a = some o) (oc : o.cls = .type "list") (od : o.data = .seq vs n) (rs : ReadsAll s.heap vs.toList xs as)
    (sh : PyData.showableAll xs = true) (no : sysModules ∉ as) (gd : A.guards = some []) (un : A.units + (PyData.depthAll xs + 3) < cLine) (len : (PyData.list xs).shown.length ≤ sizeLine)
    (q : ∀ h' u tk, (∀ b o, s.heap.get? b = some o → h'.get? b = some o) → Q (.str (PyData.list xs).shown u) { s with heap := h', toks := tk }) :
    wpAny (model prog w) A (call (.builtin "repr") [.ref a]) Q E s := by
  have len2 : (listText (PyData.shownAll xs)).length ≤ sizeLine := by simpa only [PyData.shown] using len
  obtain ⟨cs, deep, each⟩ := ReprAllK.of_readsAll (prog := prog) (w := w) rs sh (fun _ => no) (fun t ht => Nat.le_trans (listText_mem_le ht) len2)
  have away : a ∉ cs := not_mem_of_deeper (.list ho oc od rs) (by simp only [PyData.depth]; omega) deep
  refine call_repr_slot (by omega) ⟨o, ho, oc⟩ F.slot_list_repr.toG ?_
  simp only [PyData.shown] at q
  cases vs with
  | mk l =>
    cases l with
    | nil =>
      cases (show ReadsAll s.heap [] xs as from rs)
      simp only [PyData.shownAll, listText_nil] at q
      exact call_list_repr_empty ⟨o, ho, oc⟩ ho od ⟨_, _, rfl, q s.heap _ _ fun _ _ z => z⟩
    | cons x l =>
      refine call_list_reprK ho oc od away (by simpa using each.length_eq) (fun i y z => each.item i y (by simpa using z)) gd (fun b _ => Clear.nil b) ?_ (fun _ _ z => z) (fun h' u tk kp => ⟨_, _, rfl, q h' u tk kp⟩) len2
      show A.units + 1 + (PyData.depthAll xs + 1) < cLine
      omega
end
end L2
/-! DLR: how readings are shown -/
namespace DL
open PySem PySem.Spec PyProof.Rows L2
/-! ### while -/
/-! ### comparing plain data -/
theorem gEq_int {i j : Int} {M : Mem} {Q : DQ} : gEq (.int i) (.int j) M Q = Q (.bl (i == j)) M := rfl
theorem gNe_int {i j : Int} {M : Mem} {Q : DQ} : gNe (.int i) (.int j) M Q = Q (.bl (!(i == j))) M := rfl
theorem gEq_bl {i j : Bool} {M : Mem} {Q : DQ} : gEq (.bl i) (.bl j) M Q = Q (.bl (i == j)) M := rfl
theorem gNe_bl {i j : Bool} {M : Mem} {Q : DQ} : gNe (.bl i) (.bl j) M Q = Q (.bl (!(i == j))) M := rfl
theorem gNe_nil {M : Mem} {Q : DQ} : gNe (.lst []) (.lst []) M Q = Q (.bl false) M := rfl
/-! ### the end of a def -/
theorem rtq {M : Mem} {Q : DQ} {d : D} (q : Q d M) (hb : below M.length d = true := by rfl) : Rtq M Q d M := ⟨M, [], (List.append_nil M).symm, Nat.le_refl _, hb, fun _ _ h => .inl h, q⟩
/-- new cells stay, others were changed: all of them plain -/
theorem rtqC {M M1 : Mem} {Q : DQ} {d : D} (q : Q d M1) (hl : M.length ≤ M1.length) (hb : below M1.length d = true) (hc : ∀ (i : Nat) (c : Own), M1[i]? = some c → M[i]? = some c ∨ belowO M1.length c = true) : Rtq M Q d M1 := ⟨M1, [], (List.append_nil _).symm, hl, hb, hc, q⟩
end DL
namespace DL
open PySem PySem.Spec PyProof.Rows L2
/-! ### comprehensions -/
theorem lcW_pure {ds : List D} {C : Mem → Prop} {g : DTG} {tt : DTT} {te : DTE} {r : Env} {M : Mem} {Q : DQ} (f : D → Option D) (hC : C M) (hl : ds.length ≤ sizeLine)
    (step : ∀ d ∈ ds, ∀ (Y : D → Mem → Prop) (N : Mem → Prop), (match f d with | some e => Y e M | none => N M) → g d r M fun r2 M2 => tt r2 M2 fun b M3 => if b = true then te r2 M3 Y else N M3)
    (q : Q (.lst (ds.filterMap f)) M) : lcW false ds C g tt te r M Q := by
  refine ⟨fun i acc M' => M' = M ∧ acc = (ds.take i).filterMap f ∧ i ≤ ds.length, ⟨rfl, rfl, Nat.zero_le _⟩, ?_⟩
  rintro i acc M' ⟨rfl, rfl, hi⟩
  refine ⟨hC, fun hd => ?_, fun d ed => ?_⟩
  · rw [if_neg Bool.false_ne_true]
    rw [List.take_of_length_le hd]; exact q
  · have hlt : i < ds.length := (List.getElem?_eq_some_iff.mp ed).1
    have ht : ds.take (i + 1) = ds.take i ++ [d] := by rw [List.take_add_one, ed]; rfl
    refine step d (List.mem_of_getElem? ed) _ _ ?_
    split
    · rename_i e he
      refine ⟨?_, rfl, ?_, hlt⟩
      · have h1 : ((ds.take i).filterMap f).length ≤ (ds.take i).length := List.length_filterMap_le _ _
        have h2 : (ds.take i).length ≤ i := by rw [List.length_take]; omega
        omega
      · rw [ht, List.filterMap_append]
        simp [he]
    · rename_i he
      refine ⟨rfl, ?_, hlt⟩
      rw [ht, List.filterMap_append]
      simp [he]
/-! ### data that may be compared -/
mutual
def fine (n : Nat) : D → Bool
  | .non => true
  | .bl _ => true
  | .int _ => true
  | .str x => PyData.strOk x
  | .tup l => match n with
    | 0 => false
    | n + 1 => fineAll n l
  | .lst l => match n with
    | 0 => false
    | n + 1 => fineAll n l
  | _ => false
def fineAll (n : Nat) : List D → Bool
  | [] => true
  | d :: ds => fine n d && fineAll n ds
end
mutual
theorem fine_py : ∀ (n : Nat) (d : D), fine n d = true → ∃ p, toPy d = some p ∧ p.canLay0 = true ∧ p.depth ≤ n
  | n, .non, _ => ⟨.none, rfl, by simp only [PyData.canLay0], by simp only [PyData.depth]; omega⟩
  | n, .bl b, _ => ⟨.bool b, rfl, by simp only [PyData.canLay0], by simp only [PyData.depth]; omega⟩
  | n, .int i, _ => ⟨.int i, rfl, by simp only [PyData.canLay0], by simp only [PyData.depth]; omega⟩
  | n, .str x, h => ⟨.str x, rfl, by simpa only [PyData.canLay0, fine] using h, by simp only [PyData.depth]; omega⟩
  | 0, .tup l, h => by simp [fine] at h
  | n + 1, .tup l, h => by
    obtain ⟨ps, h1, h2, h3, _⟩ := fine_pyAll n l (by simpa only [fine] using h)
    exact ⟨.tuple ps, by simp only [toPy, h1], by simpa only [PyData.canLay0] using h2, by simp only [PyData.depth]; omega⟩
  | 0, .lst l, h => by simp [fine] at h
  | n + 1, .lst l, h => by
    obtain ⟨ps, h1, h2, h3, _⟩ := fine_pyAll n l (by simpa only [fine] using h)
    exact ⟨.list ps, by simp only [toPy, h1], by simpa only [PyData.canLay0] using h2, by simp only [PyData.depth]; omega⟩
  | n, .dct0, h => by simp [fine] at h
  | n, .scr _, h => by simp [fine] at h
  | n, .own _, h => by simp [fine] at h
  | n, .exc _ _, h => by simp [fine] at h
  | n, .errS, h => by simp [fine] at h
  | n, .glb _, h => by simp [fine] at h
  | n, .val _, h => by simp [fine] at h
theorem fine_pyAll : ∀ (n : Nat) (ds : List D), fineAll n ds = true → ∃ ps, toPyAll ds = some ps ∧ PyData.canLayAll0 ps = true ∧ PyData.depthAll ps ≤ n ∧ ps.length = ds.length
  | n, [], _ => ⟨[], rfl, by simp only [PyData.canLayAll0], by simp only [PyData.depthAll]; omega, rfl⟩
  | n, d :: ds, h => by
    have h' : fine n d = true ∧ fineAll n ds = true := by simpa only [fineAll, Bool.and_eq_true] using h
    obtain ⟨p, a1, a2, a3⟩ := fine_py n d h'.1
    obtain ⟨ps, b1, b2, b3, b4⟩ := fine_pyAll n ds h'.2
    exact ⟨p :: ps, by simp only [toPyAll, a1, b1], by simp only [PyData.canLayAll0, a2, b2, Bool.and_self], by simp only [PyData.depthAll]; omega, by rw [List.length_cons, List.length_cons, b4]⟩
end
theorem cmpd_fine {n : Nat} {d : D} (h : fine n d = true) (hn : n ≤ 64 := by decide) : ∃ p, toPy d = some p ∧ cmpd d = some p := by
  obtain ⟨p, h1, h2, h3⟩ := fine_py n d h
  refine ⟨p, h1, ?_⟩
  unfold cmpd
  rw [h1]
  have : SeqAt.shaped p = true := by unfold SeqAt.shaped; rw [h2]; simp; omega
  simp only [this, if_true]
theorem res_fine {n : Nat} {d : D} {M : Mem} (h : fine n d = true) : res M d = d := by
  cases d <;> first | rfl | (simp [fine] at h)
theorem eqv_self {n : Nat} {d : D} {p : PyData} (h : fine n d = true) (hp : toPy d = some p) : PyData.eqv p p = true := by
  obtain ⟨p', h1, h2, _⟩ := fine_py n d h
  rw [hp] at h1; cases h1
  exact SeqAt.eqv_refl p h2
theorem eqB_self {n : Nat} {d : D} (h : fine n d = true) (hn : n ≤ 64 := by decide) : eqB d d = some true := by
  obtain ⟨p, h1, h2⟩ := cmpd_fine h hn
  unfold eqB
  split
  · simp_all
  · rw [h2]
    show some (PyData.eqv p p) = _
    rw [eqv_self h h1]
/-- the same data compared -/
theorem gNe_same {n : Nat} {d : D} {M : Mem} {Q : DQ} (h : fine n d = true) (q : Q (.bl false) M) (hn : n ≤ 64 := by decide) : gNe d d M Q := by
  unfold gNe
  rw [res_fine h, eqB_self h hn]
  exact q
theorem gEq_same {n : Nat} {d : D} {M : Mem} {Q : DQ} (h : fine n d = true) (q : Q (.bl true) M) (hn : n ≤ 64 := by decide) : gEq d d M Q := by
  unfold gEq
  rw [res_fine h, eqB_self h hn]
  exact q
theorem gNe_strs {a b : Str} {M : Mem} {Q : DQ} : gNe (.str a) (.str b) M Q = Q (.bl (!(a == b))) M := rfl
theorem gEq_strs {a b : Str} {M : Mem} {Q : DQ} : gEq (.str a) (.str b) M Q = Q (.bl (a == b)) M := rfl
/-! ### data that may be shown -/
mutual
def lit (B : Nat) : D → Bool
  | .int i => decide (i.natAbs.log2 < B)
  | .tup l => litAll B l
  | .lst l => litAll B l
  | _ => true
def litAll (B : Nat) : List D → Bool
  | [] => true
  | d :: ds => lit B d && litAll B ds
end
mutual
def wt (B : Nat) : D → Nat
  | .int _ => B + 1
  | .str x => x.cps.size
  | .tup l => wtAll B l
  | .lst l => wtAll B l
  | _ => 0
def wtAll (B : Nat) : List D → Nat
  | [] => 0
  | d :: ds => wt B d + 1 + wtAll B ds
end
theorem strOk_short {x : Str} (h : PyData.strOk x = true) : ∀ c ∈ x.cps.toList, c < 16 ^ 8 := by
  have h0 : x.cps.all (· < 0x110000) = true := h
  intro c hc
  have h1 := (Array.all_eq_true_iff_forall_mem.mp h0) c (Array.mem_toList_iff.mp hc)
  have h2 : c < 0x110000 := by simpa using h1
  have e : (16 : Nat) ^ 8 = 4294967296 := by decide
  omega
mutual
theorem lit_py (B : Nat) (hB : B ≤ 1919) : ∀ (n : Nat) (d : D) (p : PyData), fine n d = true → lit B d = true → toPy d = some p → p.showable = true ∧ p.leavesShort (B + 8) = true ∧ p.weight ≤ wt B d
  | n, .non, p, _, _, e => by cases e; exact ⟨by simp only [PyData.showable], by simp only [PyData.leavesShort], by simp only [PyData.weight]; omega⟩
  | n, .bl b, p, _, _, e => by cases e; exact ⟨by simp only [PyData.showable], by simp only [PyData.leavesShort], by simp only [PyData.weight]; omega⟩
  | n, .int i, p, _, h, e => by
    cases e
    have h' : i.natAbs.log2 < B := by simpa only [lit, decide_eq_true_eq] using h
    refine ⟨?_, ?_, ?_⟩
    · simp only [PyData.showable, decide_eq_true_eq]; omega
    · simp only [PyData.leavesShort, decide_eq_true_eq]
      show (Str.ofString (toString i)).length ≤ _
      rw [PySem.ofString_length]
      have := int_text_length_le (a := i) (k := B) (by omega) h'
      omega
    · simp only [PyData.weight, wt]
      split <;> omega
  | n, .str x, p, hf, _, e => by
    cases e
    refine ⟨by simp only [PyData.showable], ?_, by simp only [PyData.weight, wt]; omega⟩
    simp only [PyData.leavesShort, List.all_eq_true, decide_eq_true_eq]
    exact strOk_short (by simpa only [fine] using hf)
  | 0, .tup l, p, h, _, _ => by simp [fine] at h
  | 0, .lst l, p, h, _, _ => by simp [fine] at h
  | n + 1, .tup l, p, h, h2, e => by
    obtain ⟨ps, e1, _⟩ := fine_pyAll n l (by simpa only [fine] using h)
    have e' : p = .tuple ps := by simp only [toPy, e1] at e; exact (Option.some.inj e).symm
    subst e'
    obtain ⟨a, b, c⟩ := lit_pyAll B hB n l ps (by simpa only [fine] using h) (by simpa only [lit] using h2) e1
    exact ⟨by simpa only [PyData.showable] using a, by simpa only [PyData.leavesShort] using b, by simpa only [PyData.weight, wt] using c⟩
  | n + 1, .lst l, p, h, h2, e => by
    obtain ⟨ps, e1, _⟩ := fine_pyAll n l (by simpa only [fine] using h)
    have e' : p = .list ps := by simp only [toPy, e1] at e; exact (Option.some.inj e).symm
    subst e'
    obtain ⟨a, b, c⟩ := lit_pyAll B hB n l ps (by simpa only [fine] using h) (by simpa only [lit] using h2) e1
    exact ⟨by simpa only [PyData.showable] using a, by simpa only [PyData.leavesShort] using b, by simpa only [PyData.weight, wt] using c⟩
  | n, .dct0, _, h, _, _ => by simp [fine] at h
  | n, .scr _, _, h, _, _ => by simp [fine] at h
  | n, .own _, _, h, _, _ => by simp [fine] at h
  | n, .exc _ _, _, h, _, _ => by simp [fine] at h
  | n, .errS, _, h, _, _ => by simp [fine] at h
  | n, .glb _, _, h, _, _ => by simp [fine] at h
  | n, .val _, _, h, _, _ => by simp [fine] at h
theorem lit_pyAll (B : Nat) (hB : B ≤ 1919) : ∀ (n : Nat) (ds : List D) (ps : List PyData), fineAll n ds = true → litAll B ds = true → toPyAll ds = some ps → PyData.showableAll ps = true ∧ PyData.leavesShortAll (B + 8) ps = true ∧ PyData.weightAll ps ≤ wtAll B ds
  | n, [], ps, _, _, e => by cases e; exact ⟨by simp only [PyData.showableAll], by simp only [PyData.leavesShortAll], by simp only [PyData.weightAll]; omega⟩
  | n, d :: ds, ps, h, h2, e => by
    have h' : fine n d = true ∧ fineAll n ds = true := by simpa only [fineAll, Bool.and_eq_true] using h
    have h2' : lit B d = true ∧ litAll B ds = true := by simpa only [litAll, Bool.and_eq_true] using h2
    obtain ⟨p, a1, _, _⟩ := fine_py n d h'.1
    obtain ⟨qs, b1, _, _, _⟩ := fine_pyAll n ds h'.2
    have e' : ps = p :: qs := by simp only [toPyAll, a1, b1] at e; exact (Option.some.inj e).symm
    subst e'
    obtain ⟨c1, c2, c3⟩ := lit_py B hB n d p h'.1 h2'.1 a1
    obtain ⟨d1, d2, d3⟩ := lit_pyAll B hB n ds qs h'.2 h2'.2 b1
    refine ⟨by simp only [PyData.showableAll, c1, d1, Bool.and_self], by simp only [PyData.leavesShortAll, c2, d2, Bool.and_self], ?_⟩
    simp only [PyData.weightAll, wtAll]; omega
end
/-- d's repr is covered: ints of B bits, at most -/
theorem shw_of (B n : Nat) {d : D} (h : fine n d = true) (hl : lit B d = true) (hw : (B + 10) * wt B d + B + 8 ≤ 16777216) (hB : B ≤ 1919 := by decide) (hn : n ≤ 64 := by decide) : ∃ z, shwn d = some z := by
  obtain ⟨p, e1, e2, e3⟩ := fine_py n d h
  obtain ⟨a, b, c⟩ := lit_py B hB n d p h hl e1
  have h1 := PyData.shown_le (B + 8) (by omega) p b
  have h2 : (B + 8 + 2) * p.weight ≤ (B + 10) * wt B d := Nat.mul_le_mul (by omega) c
  refine ⟨p.shown, ?_⟩
  unfold shwn
  rw [e1]
  dsimp only
  rw [if_pos ⟨a, by omega, by rw [sizeLine_eq]; omega, PyData.hasDict_of_canLay p e2⟩]
/-! ### items by a written index -/
section
variable {α : Type}
theorem atI_of (n : Nat) {l : List α} (h : n < l.length) : atI l (n : Int) = l[n]? := by
  unfold atI ixN
  rw [if_pos (by omega), if_pos (by omega)]
  rfl
theorem atI_0 {a : α} {l : List α} : atI (a :: l) 0 = some a := atI_of 0 (by simp)
theorem atI_1 {a b : α} {l : List α} : atI (a :: b :: l) 1 = some b := atI_of 1 (by simp)
theorem atI_2 {a b c : α} {l : List α} : atI (a :: b :: c :: l) 2 = some c := atI_of 2 (by simp)
theorem atI_3 {a b c d : α} {l : List α} : atI (a :: b :: c :: d :: l) 3 = some d := atI_of 3 (by simp)
theorem atI_4 {a b c d e : α} {l : List α} : atI (a :: b :: c :: d :: e :: l) 4 = some e := atI_of 4 (by simp)
theorem atI_5 {a b c d e f : α} {l : List α} : atI (a :: b :: c :: d :: e :: f :: l) 5 = some f := atI_of 5 (by simp)
theorem ixN_30 : ixN 3 0 = some 0 := by decide
theorem ixN_31 : ixN 3 1 = some 1 := by decide
theorem ixN_32 : ixN 3 2 = some 2 := by decide
end
theorem rs_lst {M : Mem} {l : List D} : res M (.lst l) = .lst l := rfl
theorem rs_tup {M : Mem} {l : List D} : res M (.tup l) = .tup l := rfl
theorem rs_scr {M : Mem} {l : List Int} : res M (.scr l) = .scr l := rfl
theorem rs_int {M : Mem} {i : Int} : res M (.int i) = .int i := rfl
theorem intsD_map : ∀ ns : List Int, intsD (ns.map D.int) = some ns
  | [] => rfl
  | n :: ns => by rw [List.map_cons]; unfold intsD; rw [intsD_map ns]
theorem cut_map (ns : List Int) (lo hi : Option Int) : ∃ xs : List Int, cutD (ns.map D.int) lo hi = xs.map D.int := by
  unfold cutD
  rw [← List.map_drop, ← List.map_take]
  exact ⟨_, rfl⟩
end DL
/-! DLD: repr of data with empty dicts -/
namespace DL
open PySem PySem.Spec PyProof.Rows L2
mutual
/-- no list within -/
def nolst : D → Bool
  | .lst _ => false
  | .own _ => false
  | .tup l => nolstA l
  | _ => true
def nolstA : List D → Bool
  | [] => true
  | d :: ds => nolst d && nolstA ds
end
section
variable {X : Cx} {pins : List (Addr × Obj)} {s : Shared} {ph : Ph} {σ : St} {H : Hp}
mutual
theorem Rep.readsZ (I : Inv X pins σ H s) : ∀ (d : D) (v : V) (u : Value) (p : PyData), Rep X.K ph H v d → RelV v u → toPy d = some p → nolst d = true → ∃ as, Reads s.heap u p as ∧ sysModules ∉ as
  | .non, _, _, _, h, rv, e, _ => by cases h; cases rv; cases e; exact ⟨_, .none, by simp⟩
  | .bl _, _, _, _, h, rv, e, _ => by cases h; cases rv; cases e; exact ⟨_, .bool _, by simp⟩
  | .int _, _, _, _, h, rv, e, _ => by cases h; obtain ⟨t, rfl⟩ := rv; cases e; exact ⟨_, .int _ _, by simp⟩
  | .str _, _, _, _, h, rv, e, _ => by cases h; obtain ⟨t, rfl⟩ := rv; cases e; exact ⟨_, .str _ _, by simp⟩
  | .tup ds, _, _, _, h, rv, e, n => by
    cases h with
    | tup h1 h2 =>
      cases rv
      simp only [toPy] at e
      split at e
      · rename_i ps ep
        cases e
        obtain ⟨its, rx, ⟨o, ho, hc, n', hd⟩, _⟩ := I.tuple (h1.sq fun _ _ z => z)
        obtain ⟨as, q, qa⟩ := RepAll.readsZ I ds _ its ps h2 rx ep (by simpa only [nolst] using n)
        exact ⟨_, .tuple ho hc hd q, qa⟩
      · cases e
  | .lst ds, _, _, _, _, _, _, n => by simp [nolst] at n
  | .dct0, _, _, _, h, rv, e, _ => by
    cases h with
    | dct0 h1 =>
      cases rv
      cases e
      obtain ⟨_, hs, vs, hk, o, es, ep, ho, hx, hd, _, he, _⟩ := I.hok _ _ h1
      cases hk
      have e0 : es = #[] := by
        cases es with
        | mk l =>
          cases l with
          | nil => rfl
          | cons x l => exact nomatch he
      subst e0
      refine ⟨_, .dict ho hx.1 hd .nil .nil, fun ha => ?_⟩
      simp at ha
      rw [← ha] at hs
      exact absurd hs (by decide)
  | .scr ns, _, _, _, _, _, e, _ => by cases e
  | .own _, _, _, _, _, _, e, _ => by cases e
  | .exc _ _, _, _, _, _, _, e, _ => by cases e
  | .errS, _, _, _, _, _, e, _ => by cases e
  | .glb _, _, _, _, _, _, e, _ => by cases e
  | .val _, _, _, _, _, _, e, _ => by cases e
theorem RepAll.readsZ (I : Inv X pins σ H s) : ∀ (ds : List D) (vs : List V) (us : List Value) (ps : List PyData), RepAll X.K ph H vs ds → Vals vs us → toPyAll ds = some ps → nolstA ds = true → ∃ as, ReadsAll s.heap us ps as ∧ sysModules ∉ as
  | [], _, _, _, h, rv, e, _ => by cases h; cases rv; cases e; exact ⟨_, .nil, by simp⟩
  | d :: ds, _, _, _, h, rv, e, n => by
    have n' : nolst d = true ∧ nolstA ds = true := by simpa only [nolstA, Bool.and_eq_true] using n
    cases h with
    | cons h1 h2 =>
      cases rv with
      | cons r1 r2 =>
        simp only [toPyAll] at e
        split at e
        · rename_i p ps ep eps
          cases e
          obtain ⟨as, q1, a1⟩ := Rep.readsZ I d _ _ p h1 r1 ep n'.1
          obtain ⟨bs, q2, a2⟩ := RepAll.readsZ I ds _ _ ps h2 r2 eps n'.2
          refine ⟨_, .cons q1 q2, fun ha => ?_⟩
          rcases List.mem_append.mp ha with ha | ha
          · exact a1 ha
          · exact a2 ha
        · cases e
end
end
/-- dicts may stand within -/
def okZ : D → Bool
  | .lst l => nolstA l
  | d => nolst d
def shwnZ (d : D) : Option Str := match toPy d with
  | some p => if p.showable = true ∧ p.depth ≤ 64 ∧ p.shown.length ≤ sizeLine ∧ (p.hasDict = false ∨ okZ d = true) then some p.shown else none
  | none => none
theorem RepAll.repN {K : PySem.W.Frag} {ph : Ph} {S : Hp} {xs : List V} {ds : List D} (h : RepAll K ph S xs ds) : ∀ n : Nat, RepAll K ph S (List.replicate n xs).flatten (List.flatten (List.replicate n ds))
  | 0 => .nil
  | n + 1 => by
    rw [List.replicate_succ, List.replicate_succ, List.flatten_cons, List.flatten_cons]
    exact RepAll.app h (RepAll.repN h n)
/-- a list, n times -/
theorem opd_mulL {X : Cx} : OpD X (binaryOp .Mult) gMulL := by
  intro pins s σ H ph S r M x y dx dy v u Q I hs rx ry qx qy hg
  cases dx <;> first | exact hg.elim | skip
  cases dy <;> first | exact hg.elim | skip
  cases qy
  cases qx with
  | lst h1 h2 =>
    refine op_rep pins s σ H _ _ v u _ I rx ry ⟨_, _, _, rfl, rfl, hs.sub _ _ h1, hg.1.1, hg.1.2.1, by rw [h2.len]; exact hg.1.2.2, fun p hp => ?_⟩
    exact Aft.frz hs hp fun z => ⟨_, .lst upd_same ((h2.repN _).up z), hg.2⟩
theorem shwnZ_of {d : D} {z : Str} (h : shwn d = some z) : shwnZ d = some z := by
  unfold shwn at h
  unfold shwnZ
  split at h
  · rename_i p ep
    by_cases hp : p.showable = true ∧ p.depth ≤ 64 ∧ p.shown.length ≤ sizeLine ∧ p.hasDict = false
    · rw [if_pos hp] at h
      try rw [ep]
      try dsimp only
      rw [if_pos ⟨hp.1, hp.2.1, hp.2.2.1, .inl hp.2.2.2⟩]
      exact h
    · rw [if_neg hp] at h; cases h
  · cases h
end DL
namespace DL
open PySem PySem.Spec PyProof.Rows L2
end DL
/-! XE: a dict beside an int -/
namespace L2
open PySem PySem.Spec PyProof.Rows PyProof
open PySem.SeqAt PySem.AutoSeq1 PySem.Sem
end L2
/-! DLG: an empty dict beside an int -/
namespace DL
open PySem PySem.Spec PyProof.Rows L2
end DL
namespace DL
open PySem PySem.Spec PyProof.Rows L2
end DL
/-! DLK: the module's own tuples, starred items, len(set(..)) of ints -/
namespace DL
open PySem PySem.Spec PyProof.Rows L2
/-- the module's value at a is the data d -/
def KRep (K : PySem.W.Frag) (u : Value) (d : D) : Prop := ∃ v : V, RelV v u ∧ ∀ ph S, Rep K ph S v d
theorem KRep.int {K : PySem.W.Frag} {i : Int} {t : Tok} : KRep K (.int i t) (.int i) := ⟨.int i, ⟨t, rfl⟩, fun _ _ => .int _⟩
inductive KReps (K : PySem.W.Frag) : List Value → List D → Prop
  | nil : KReps K [] []
  | cons {u : Value} {us : List Value} {d : D} {ds : List D} : KRep K u d → KReps K us ds → KReps K (u :: us) (d :: ds)
theorem KRep.all {K : PySem.W.Frag} : ∀ {us : List Value} {ds : List D}, KReps K us ds → ∃ vs, Vals vs us ∧ ∀ ph S, RepAll K ph S vs ds
  | _, _, .nil => ⟨[], .nil, fun _ _ => .nil⟩
  | _, _, .cons ⟨v, r, q⟩ t => by
    obtain ⟨vs, rs, qs⟩ := KRep.all t
    exact ⟨v :: vs, .cons r rs, fun ph S => .cons (q ph S) (qs ph S)⟩
def dZ : D → Bool
  | .int i => i == 0
  | _ => false
def dTp : D → Bool
  | .tup _ => true
  | _ => false
def kcD (ds : List D) : Bool := ds.length == 3 || decide (3 ≤ (ds.filter dZ).length) || ds.any dTp
theorem dZ_vZ {K : PySem.W.Frag} {ph : Ph} {S : Hp} {v : V} {d : D} (h : Rep K ph S v d) (e : dZ d = true) : vZ v = true := by
  cases h <;> first | exact e | cases e
theorem dTp_vRf {K : PySem.W.Frag} {ph : Ph} {S : Hp} {v : V} {d : D} (h : Rep K ph S v d) (e : dTp d = true) : vRf v = true := by
  cases h <;> first | rfl | cases e
theorem kconst_of {K : PySem.W.Frag} {ph : Ph} {S : Hp} {vs : List V} {ds : List D} (h : RepAll K ph S vs ds) (e : kcD ds = true) : kconst vs = true := by
  unfold kcD at e
  unfold kconst
  rw [Bool.or_eq_true, Bool.or_eq_true] at e ⊢
  rcases e with (e | e) | e
  · exact .inl (.inl (by rw [h.len]; exact e))
  · refine .inl (.inr ?_)
    rw [decide_eq_true_eq] at e ⊢
    refine Nat.le_trans e ?_
    have go : ∀ (ds : List D) (vs : List V), RepAll K ph S vs ds → (ds.filter dZ).length ≤ (vs.filter vZ).length := by
      intro ds
      induction ds with
      | nil => intro vs h; exact Nat.zero_le _
      | cons d ds ih =>
        intro vs h
        cases h with
        | cons h1 h2 =>
          have := ih _ h2
          rw [List.filter_cons, List.filter_cons]
          by_cases z : dZ d = true
          · rw [if_pos z, if_pos (dZ_vZ h1 z), List.length_cons, List.length_cons]; omega
          · rw [if_neg z]; split
            · rw [List.length_cons]; omega
            · exact this
    exact go _ _ h
  · refine .inr ?_
    have go : ∀ (ds : List D) (vs : List V), RepAll K ph S vs ds → ds.any dTp = true → vs.any vRf = true := by
      intro ds
      induction ds with
      | nil => intro vs h e; cases e
      | cons d ds ih =>
        intro vs h e
        cases h with
        | cons h1 h2 =>
          rw [List.any_cons, Bool.or_eq_true] at e ⊢
          exact e.imp (dTp_vRf h1) (ih _ h2)
    exact go _ _ h e
theorem KRep.tup {K : PySem.W.Frag} {a : Addr} {dd : Option Addr} {its : Array Value} {n : Nat} {sl : Array (Option Value)} {ds : List D} (l : K.lookup a = some ⟨.type "tuple", dd, .seq its n, sl⟩)
    (h : KReps K its.toList ds) (hz : its.size ≤ 100 := by decide) (hc : kcD ds = true := by rfl) : KRep K (.ref a) (.tup ds) := by
  obtain ⟨vs, rs, qs⟩ := KRep.all h
  exact ⟨.ref a, rfl, fun ph S => .tup (.inr ⟨_, its, n, l, rfl, rfl, by rw [sizeLine_eq]; omega, rs, kconst_of (qs ph S) hc⟩) (qs ph S)⟩
end DL
namespace DL
open PySem PySem.Spec PyProof.Rows L2
end DL
namespace DL
open PySem PySem.Spec PyProof.Rows L2
end DL
namespace DL
open PySem PySem.Spec PyProof.Rows L2
end DL
/-! ZS: zip(xs, ys, strict=True) of two lists of one length -/
namespace PySem
open Sem (wp)
abbrev IsZipS (h : Heap) (z TI TO : Addr) (f0 : Value) : Prop :=
  h.get? z = some { cls := .type "zip", dict := none, data := .fields #[f0, .bool false, .bool true, .ref TI, .ref TO], slots := #[] }
end PySem
namespace DL
open PySem PySem.Spec PyProof.Rows L2
/-! DLM: zip(xs, ys, strict=True) of two lists of one length -/
end DL
namespace DL
open PySem PySem.Spec PyProof.Rows L2
end DL
namespace DL
open PySem PySem.Spec PyProof.Rows L2
end DL
namespace DL
open PySem PySem.Spec PyProof.Rows L2
/-! DLE: owned lists within owned lists: comparisons and reprs -/
def resE (M : Mem) : Nat → D → D
  | 0, d => d
  | n + 1, .own k => match cellL M k with
    | some ds => .lst (ds.map (resE M n))
    | none => .own k
  | n + 1, .tup l => .tup (l.map (resE M n))
  | n + 1, .lst l => .lst (l.map (resE M n))
  | _ + 1, d => d
section
variable {K : PySem.W.Frag} {ph : Ph} {S : Hp} {r : Env} {M : Mem} {σ : St} {H : Hp}
theorem RepAll.mapE {f : D → D} (h : ∀ (d : D) (v : V), Rep K ph S v d → Rep K ph H v (f d)) : ∀ (ds : List D) (vs : List V), RepAll K ph S vs ds → RepAll K ph H vs (ds.map f)
  | [], _, .nil => .nil
  | d :: ds, _, .cons q t => .cons (h d _ q) (RepAll.mapE h ds _ t)
theorem Rep.resE (hs : Sat K ph S r M σ H) : ∀ (n : Nat) (d : D) (v : V), Rep K ph S v d → Rep K ph H v (resE M n d)
  | 0, d, v, q => hs.read q
  | n + 1, .own k, v, q => by
    unfold DL.resE
    split
    · rename_i ds hk
      have hk' : M[k]? = some (.lst ds) := by
        unfold cellL at hk
        split at hk
        · rename_i e; cases hk; exact e
        · cases hk
      cases q with
      | own h =>
        obtain ⟨a, xs, c1, c2, c3, c4⟩ := hs.cell k ds hk'
        rw [h] at c1; cases c1
        exact .lst c3 (RepAll.mapE (fun d v q => Rep.resE hs n d v q) _ _ c4)
    · exact hs.read q
  | n + 1, .tup l, _, .tup h1 h2 => by
    unfold DL.resE
    exact .tup (h1.ext hs.sub) (RepAll.mapE (fun d v q => Rep.resE hs n d v q) _ _ h2)
  | n + 1, .lst l, _, .lst h1 h2 => by
    unfold DL.resE
    exact .lst (hs.sub _ _ h1) (RepAll.mapE (fun d v q => Rep.resE hs n d v q) _ _ h2)
  | _ + 1, .non, _, q => hs.read q
  | _ + 1, .bl _, _, q => hs.read q
  | _ + 1, .int _, _, q => hs.read q
  | _ + 1, .str _, _, q => hs.read q
  | _ + 1, .dct0, _, q => hs.read q
  | _ + 1, .scr _, _, q => hs.read q
  | _ + 1, .exc _ _, _, q => hs.read q
  | _ + 1, .errS, _, q => hs.read q
  | _ + 1, .glb _, _, q => hs.read q
  | _ + 1, .val _, _, q => hs.read q
end
def gReprE : GA := fun ds M Q => match ds with
  | [d] => match shwnZ (resE M 4 d) with
    | some z => Q (.str z) M
    | none => False
  | _ => False
section
variable {X : Cx}
theorem cd_reprE (gd : X.A.guards = some []) (hu : X.A.units + 200 < cLine) : CallD X (.builtin "repr") gReprE := by
  intro pins s σ H ph S r M vs us ds Q I hs rv q hg
  match ds, vs, us, rv, q, hg with
  | [d], [v], [u], .cons ru .nil, .cons q .nil, hg =>
    unfold gReprE at hg
    dsimp only at hg
    split at hg
    · rename_i z ez
      unfold shwnZ at ez
      split at ez
      · rename_i p ep
        by_cases hp : p.showable = true ∧ p.depth ≤ 64 ∧ p.shown.length ≤ sizeLine ∧ (p.hasDict = false ∨ okZ (resE M 4 d) = true)
        · rw [if_pos hp] at ez
          cases ez
          have qd := Rep.resE hs 4 _ _ q
          have plain : ∀ as, Reads s.heap u p as → (p.hasDict = true → sysModules ∉ as) → wpAny (model X.prog X.w) X.A (call (.builtin "repr") [u]) (fun x s' => ∃ v H', Inv X pins σ H' s' ∧ RelV v x ∧ Aft X.K ph S r σ H' fun ph' S' M' => ∃ d', Rep X.K ph' S' v d' ∧ Q d' M') X.xe s := fun as h1 hn => by
            by_cases hr : ∃ a, u = .ref a
            · obtain ⟨a, rfl⟩ := hr
              refine PySem.repr_of_reads' h1 hp.1 hn gd ?_ (fun _ _ e => e) (fun h' u tk k => ⟨.str p.shown, H, I.kept k, ⟨_, rfl⟩, Aft.here hs ⟨_, .str _, hg⟩⟩) hp.2.2.1
              have := hp.2.1; omega
            · exact shown_flat h1 (fun a e => hr ⟨a, e⟩) hp.1 hp.2.2.1 fun tk tk' => ⟨.str p.shown, H, I.tok _, ⟨_, rfl⟩, Aft.here hs ⟨_, .str _, hg⟩⟩
          rcases hp.2.2.2 with h0 | h0
          · obtain ⟨as, h1, _⟩ := Rep.reads I _ _ _ _ qd ru ep
            exact plain as h1 fun z => by rw [h0] at z; cases z
          · by_cases hl : nolst (resE M 4 d) = true
            · obtain ⟨as, h1, h2⟩ := Rep.readsZ I _ _ _ _ qd ru ep hl
              exact plain as h1 fun _ => h2
            · generalize resE M 4 d = dd at *
              cases dd with
              | lst l =>
                cases qd with
                | lst g1 g2 =>
                  cases ru
                  simp only [toPy] at ep
                  split at ep
                  · rename_i ps eps
                    cases ep
                    obtain ⟨its, rx, ⟨o, n, ho, hc, _, hd⟩, _⟩ := I.list (SqL.of g1)
                    obtain ⟨as, q2, qa⟩ := RepAll.readsZ I l _ its ps g2 rx eps h0
                    refine repr_listZ ho hc hd q2 (by simpa only [PyData.showable] using hp.1) qa gd ?_ hp.2.2.1 fun h' u tk k => ⟨.str _, H, I.kept k, ⟨_, rfl⟩, Aft.here hs ⟨_, .str _, hg⟩⟩
                    have := hp.2.1
                    simp only [PyData.depth] at this
                    omega
                  · cases ep
              | _ => exact absurd h0 hl
        · rw [if_neg hp] at ez; cases ez
      · cases ez
    · exact hg.elim
end
end DL
namespace DL
open PySem PySem.Spec PyProof.Rows L2
end DL
namespace DL
open PySem PySem.Spec PyProof.Rows L2
end DL
namespace DL
open PySem PySem.Spec PyProof.Rows L2
end DL
namespace DL
open PySem PySem.Spec PyProof.Rows L2
end DL
/-! ZT: zip(xs, ys, zs, strict=True) of three lists of one length -/
namespace PySem
open Sem (wp)
abbrev IsTri (h : Heap) (T : Addr) (a b c : Value) : Prop := h.get? T = some { cls := .type "tuple", data := .seq #[a, b, c] }
end PySem
namespace DL
open PySem PySem.Spec PyProof.Rows L2
/-! DLN: zip(xs, ys, zs, strict=True) of three lists of one length -/
end DL
/-! ZV: the zip of three kept under a name, walked later -/
namespace RZ
open PySem PySem.Spec PyProof.Rows L2
section
variable {X : Cx} {pins : List (Addr × Obj)} {σ : L2.St} {H : Hp} {s : Shared}
/-- what is known of an object that belongs to a walk -/
def Phi (X : Cx) (a : Addr) (φ : Heap → Prop) : HO := .ext fun h => φ h ∧ a ∉ X.fs ∧ (a ∈ X.ex ∨ X.s_0.heap.objs.size ≤ a)
end
/-- the six objects of a walk by three, tracked -/
structure Six where
  z : Addr
  TI : Addr
  TO : Addr
  i1 : Addr
  i2 : Addr
  i3 : Addr
def Six.trk (X : Cx) (q : Six) (a b c : Addr) (H : Hp) : Hp :=
  upd (upd (upd (upd (upd (upd H q.i3 (Phi X q.i3 fun h => h.IsListIter q.i3 c 0)) q.i2 (Phi X q.i2 fun h => h.IsListIter q.i2 b 0)) q.i1 (Phi X q.i1 fun h => h.IsListIter q.i1 a 0))
    q.TO (Phi X q.TO fun h => IsTri h q.TO .none .none .none)) q.TI (Phi X q.TI fun h => IsTri h q.TI (.ref q.i1) (.ref q.i2) (.ref q.i3))) q.z (Phi X q.z fun h => IsZipS h q.z q.TI q.TO .none)
end RZ
namespace DL
open PySem PySem.Spec PyProof.Rows L2
/-! DLO: lines = zip(a, b, c, strict=True); found.append([.. for .. in lines]) -/
end DL
/-! XF: Booleans as numbers -/
namespace PySem
end PySem
namespace DL
open PySem PySem.Spec PyProof.Rows L2
/-! DLP: sums and differences of Booleans -/
end DL
namespace DL
open PySem PySem.Spec PyProof.Rows L2
end DL
namespace DL
open PySem PySem.Spec PyProof.Rows L2
/-! DLQ: the place of an owned list within owned lists -/
end DL
namespace DL
open PySem PySem.Spec PyProof.Rows L2
end DL
/-! DLT: dicts that are owned: keys ints and texts, or tuples of them -/
namespace DL
open PySem PySem.Spec PyProof.Rows L2
section
variable {κ : Type} [DecidableEq κ]
def valD (kvs : List (κ × D)) (k : κ) : Option D := (kvs.find? fun kv => decide (kv.1 = k)).map (·.2)
def putD (kvs : List (κ × D)) (k : κ) (d : D) : List (κ × D) :=
  if (kvs.any fun kv => decide (kv.1 = k)) = true then kvs.map (fun kv => if kv.1 = k then (kv.1, d) else kv) else kvs ++ [(k, d)]
/-- a table and what it is told by -/
def KR (K : PySem.W.Frag) (ph : Ph) (S : Hp) (ys : List (κ × V)) (kvs : List (κ × D)) : Prop := ys.map (·.1) = kvs.map (·.1) ∧ RepAll K ph S (ys.map (·.2)) (kvs.map (·.2))
variable {K : PySem.W.Frag} {ph : Ph} {S : Hp}
theorem KR.nil : KR K ph S ([] : List (κ × V)) [] := ⟨rfl, .nil⟩
theorem KR.cons {k : κ} {v : V} {d : D} {ys : List (κ × V)} {kvs : List (κ × D)} (h : Rep K ph S v d) (t : KR K ph S ys kvs) : KR K ph S ((k, v) :: ys) ((k, d) :: kvs) :=
  ⟨by rw [List.map_cons, List.map_cons, t.1], .cons h t.2⟩
theorem KR.elim {P : List (κ × V) → List (κ × D) → Prop} (h0 : P [] []) (h1 : ∀ k v d ys kvs, Rep K ph S v d → KR K ph S ys kvs → P ys kvs → P ((k, v) :: ys) ((k, d) :: kvs)) :
    ∀ (ys : List (κ × V)) (kvs : List (κ × D)), KR K ph S ys kvs → P ys kvs
  | [], [], _ => h0
  | [], _ :: _, h => by cases h.1
  | _ :: _, [], h => by cases h.1
  | (k, v) :: ys, (k', d) :: kvs, h => by
    obtain ⟨e, r⟩ := h
    rw [List.map_cons, List.map_cons] at e r
    injection e with e1 e2
    dsimp only at e1
    subst e1
    cases r with
    | cons r1 r2 => exact h1 _ _ _ _ _ r1 ⟨e2, r2⟩ (KR.elim h0 h1 ys kvs ⟨e2, r2⟩)
theorem KR.len {ys : List (κ × V)} {kvs : List (κ × D)} (h : KR K ph S ys kvs) : ys.length = kvs.length := by
  have := congrArg List.length h.1
  rw [List.length_map, List.length_map] at this
  exact this
theorem KR.val {ys : List (κ × V)} {kvs : List (κ × D)} (h : KR K ph S ys kvs) (k : κ) :
    (valD kvs k = none → valV ys k = none) ∧ ∀ d, valD kvs k = some d → ∃ v, valV ys k = some v ∧ Rep K ph S v d := by
  refine KR.elim (P := fun ys kvs => (valD kvs k = none → valV ys k = none) ∧ ∀ d, valD kvs k = some d → ∃ v, valV ys k = some v ∧ Rep K ph S v d) ⟨fun _ => rfl, fun d e => nomatch e⟩ (fun k' v d ys kvs r t ih => ?_) ys kvs h
  by_cases e : k' = k
  · rw [valV_pos (p := (k', v)) e, show valD ((k', d) :: kvs) k = some d by simp [valD, List.find?_cons, e]]
    exact ⟨(fun z => nomatch z), fun d' z => by cases z; exact ⟨v, rfl, r⟩⟩
  · rw [valV_neg (p := (k', v)) e, show valD ((k', d) :: kvs) k = valD kvs k by simp [valD, List.find?_cons, e]]
    exact ih
theorem KR.any {ys : List (κ × V)} {kvs : List (κ × D)} (h : KR K ph S ys kvs) (k : κ) : (ys.any fun kv => decide (kv.1 = k)) = kvs.any fun kv => decide (kv.1 = k) :=
  KR.elim (P := fun ys kvs => (ys.any fun kv => decide (kv.1 = k)) = kvs.any fun kv => decide (kv.1 = k)) rfl (fun k' v d ys kvs r t ih => by rw [List.any_cons, List.any_cons, ih]) ys kvs h
theorem KR.app {ys zs : List (κ × V)} {kvs kws : List (κ × D)} (h : KR K ph S ys kvs) (t : KR K ph S zs kws) : KR K ph S (ys ++ zs) (kvs ++ kws) :=
  ⟨by rw [List.map_append, List.map_append, h.1, t.1], by rw [List.map_append, List.map_append]; exact h.2.app t.2⟩
theorem KR.put {ys : List (κ × V)} {kvs : List (κ × D)} (h : KR K ph S ys kvs) (k : κ) {v : V} {d : D} (q : Rep K ph S v d) : KR K ph S (putK ys k v) (putD kvs k d) := by
  unfold putK putD
  rw [h.any k]
  split
  · refine KR.elim (P := fun ys kvs => KR K ph S (ys.map fun kv => if kv.1 = k then (kv.1, v) else kv) (kvs.map fun kv => if kv.1 = k then (kv.1, d) else kv)) KR.nil (fun k' v' d' ys kvs r t ih => ?_) ys kvs h
    rw [List.map_cons, List.map_cons]
    by_cases e : k' = k
    · rw [if_pos e, if_pos e]; exact KR.cons q ih
    · rw [if_neg e, if_neg e]; exact KR.cons r ih
  · exact h.app (KR.cons q KR.nil)
end
end DL
namespace DL
open PySem PySem.Spec PyProof.Rows L2
end DL
/-! ZD: dict(xs) of a list of pairs whose keys are tuples; {k: v} with a tuple k -/
/-! DLW: dicts made of lists of pairs, dicts of one pair; d.get(k, x) -/
namespace DL
open PySem PySem.Spec PyProof.Rows L2
end DL
namespace DL
open PySem PySem.Spec PyProof.Rows L2
end DL
namespace DL
open PySem PySem.Spec PyProof.Rows L2
end DL
/-! DLA: xs.pop(), xs.extend(ys) of an owned list -/
namespace DL
open PySem PySem.Spec PyProof.Rows L2
end DL
namespace DL
open PySem PySem.Spec PyProof.Rows L2
end DL
namespace DL
open PySem PySem.Spec PyProof.Rows L2
end DL
/-! DLF: errors as values; a text times a number -/
namespace DL
open PySem PySem.Spec PyProof.Rows L2
section
variable {X : Cx} {pos : Pos}
def dErr (x : Str) (t : DTA) : DTE := fun r M Q => t r M fun ds M1 => match ds with
  | [d] => Q (.exc x d) M1
  | _ => False
def dErr0 (x : Str) : DTE := fun _ M Q => Q (.exc x .non) M
def dSheet : DTE := fun _ M Q => Q .errS M
theorem err_post {x : Str} {ph : Ph} {S : Hp} {r : Env} {M : Mem} {σ : St} {H : Hp} {Q : DQ} {d : D} {v : V} {C T dd e : Addr} (hs : Sat X.K ph S r M σ H) (q : Rep X.K ph S v d) (h0 : XA.ErC X.K x C T) (hd : H dd = none) (he : upd H dd (.xd [(fVal, v)]) e = none) (hq : Q (.exc x d) M) :
    post X.K ph S r σ Q (.ref e) (upd (upd H dd (.xd [(fVal, v)])) e (erO e C dd)) := by
  obtain ⟨x1, hs1⟩ := hs.frz hd (.xd [(fVal, v)])
  obtain ⟨x2, hs2⟩ := hs1.frz he (erO e C dd)
  have ne : dd ≠ e := fun z => by rw [z, upd_same] at he; cases he
  exact ⟨ph, _, M, x1.trans x2, hs2, _, .exc h0 upd_same (by rw [upd_ne ne, upd_same]) (q.up (x1.trans x2)), hq⟩
theorem de_err {x : Str} {C S0 fI : Addr} {a : Expr} {t : DTA} {p : Pos} {k : Nat} (T : XA.ErM X.prog X.K X.mg x C S0 fI) (hr : Room k X.A) (ha : DA X [a] t) (hg : Gl X x := by rfl)
    (he : starEach (a :: []) X.env = (false, eval a X.env) :: starEach [] X.env := by rfl) (hpl : (backTo pos (starEach [] X.env)).any (·.1) = false := by rfl) (hdb : (x == ("__debug__" : Str)) = false := by decide) : DE X (.Call (.Name x p) [a] [] pos) (dErr x t) :=
  DE.of (pe_err T hr ha.pa hg he hpl hdb) fun ph S r M σ H Q hs ht Q' hq => ⟨ph, S, r, M, _, hs, ht, fun vs H1 ⟨ph1, S1, M1, x1, hs1, ds, q1, g1⟩ => by
    match ds, q1, g1 with
    | [d], .cons q .nil, g1 =>
      refine ⟨_, rfl, fun d' e h1 h2 => hq _ _ ?_⟩
      obtain ⟨ph2, S2, M2, x2, z⟩ := err_post hs1 q T.er h1 h2 g1
      exact ⟨ph2, S2, M2, x1.trans x2, z⟩⟩
theorem de_err0 {x : Str} {C S0 fI : Addr} {p : Pos} {k : Nat} (T : XA.ErM X.prog X.K X.mg x C S0 fI) (hr : Room k X.A) (hg : Gl X x := by rfl) (hdb : (x == ("__debug__" : Str)) = false := by decide) : DE X (.Call (.Name x p) [] [] pos) (dErr0 x) :=
  DE.of (pe_err0 T hr hg hdb) fun ph S r M σ H Q hs ht Q' hq d e h1 h2 => hq _ _ (err_post hs .non T.er h1 h2 ht)
theorem de_errK {x : Str} {C S0 fI : Addr} {a : Expr} {t : DTA} {p kpos : Pos} {k : Nat} (T : XA.ErM X.prog X.K X.mg x C S0 fI) (hr : Room k X.A) (ha : DK X [⟨some "value", a, kpos⟩] t) (hg : Gl X x := by rfl) (hdb : (x == ("__debug__" : Str)) = false := by decide) :
    DE X (.Call (.Name x p) [] [⟨some "value", a, kpos⟩] pos) (dErr x t) :=
  DE.of (pe_errK T hr ha.pk hg hdb) fun ph S r M σ H Q hs ht Q' hq => ⟨ph, S, r, M, _, hs, ht, fun vs H1 ⟨ph1, S1, M1, x1, hs1, ds, q1, g1⟩ => by
    match ds, q1, g1 with
    | [d], .cons q .nil, g1 =>
      refine ⟨_, rfl, fun d' e h1 h2 => hq _ _ ?_⟩
      obtain ⟨ph2, S2, M2, x2, z⟩ := err_post hs1 q T.er h1 h2 g1
      exact ⟨ph2, S2, M2, x1.trans x2, z⟩⟩
theorem de_sheet {S0 : Addr} {p : Pos} (T : XA.ShX X.K S0) (hm : X.mg "SheetError" = some (.ref S0)) (hg : Gl X "SheetError" := by rfl) : DE X (.Call (.Name "SheetError" p) [] [] pos) dSheet :=
  DE.of (pe_sheet T hm hg) fun ph S r M σ H Q hs ht Q' hq a ha => hq _ _ (by
    obtain ⟨x1, hs1⟩ := hs.frz ha (ExO (.ref S0) a)
    exact ⟨ph, _, M, x1, hs1, _, .errS T upd_same, ht⟩)
/-- isinstance, of the common class's own error too -/
def gIsy (L : List Str) : GA := fun ds M Q => match ds with
  | [.errS, .glb y] => y ∈ L ∧ Q (.bl (y == "SheetError")) M
  | [.errS, .val (.ty n)] => n = "ValueError" ∧ Q (.bl true) M
  | ds => gIsx L ds M Q
theorem sh_excC {K : PySem.W.Frag} {S : Addr} (T : XA.ShX K S) : L2.ExcC K S := by
  obtain ⟨q, N, bs, sn, sub, ab, col, dd, k0, k1, k2, k3, k5, h⟩ := T.sh.cls
  have hs : ∀ n : String, XA.sheetTail.contains (.type n) = true → PySem.W.subIn K (.ref S) (.type n) = some true := fun n hn => by
    rw [T.sh.sub]
    show some (Value.type n == Value.ref S || XA.sheetTail.contains (.type n)) = _
    rw [hn, Bool.or_true]
  exact ⟨T.ga, T.gg, hs _ (by decide), by unfold PySem.W.hasDictIn PySem.W.clsIn; rw [h]; rfl, T.hc, T.gs, T.tk, hs "object" (by decide)⟩
theorem sh_kit {K : PySem.W.Frag} {y : Str} {S D : Addr} (T : XA.ShX K S) (A : XA.AnyC K y D) : PySem.W.kitOne K (.ref S) (.ref D) = some (y == "SheetError") := by
  rcases A with ⟨S', T'⟩ | ⟨rfl, T'⟩
  · have hy : (y == ("SheetError" : Str)) = false := by simp [T'.ne]
    have hn : S ≠ D := fun e => T'.notS (by rw [← e]; exact T.sh.uniq T'.sh)
    rw [hy]
    unfold PySem.W.kitOne
    rw [if_neg (by simp [hn])]
    unfold PySem.W.kitCls
    dsimp only
    rw [if_pos (by rw [XA.AnyC.isC (.inl ⟨S', T'⟩), XA.AnyC.ty (.inl ⟨S', T'⟩)]; rfl), T.sh.sub]
    show some (Value.ref D == Value.ref S || XA.sheetTail.contains (.ref D)) = _
    have h3 : XA.sheetTail.contains (Value.ref D) = false := by simp [XA.sheetTail]
    have h2 : (Value.ref D == Value.ref S) = false := by simp [Ne.symm hn]
    rw [h3, h2]; rfl
  · have := T.sh.uniq T'
    subst this
    unfold PySem.W.kitOne
    rw [if_pos (by simp)]
    simp
theorem sh_kitV {K : PySem.W.Frag} {S : Addr} (T : XA.ShX K S) : PySem.W.kitOne K (.ref S) (.type "ValueError") = some true := by
  unfold PySem.W.kitOne
  rw [if_neg (by simp)]
  unfold PySem.W.kitCls
  dsimp only
  rw [if_pos (by decide +kernel), T.sh.sub]
  show some (Value.type "ValueError" == Value.ref S || XA.sheetTail.contains (.type "ValueError")) = _
  rw [show XA.sheetTail.contains (.type "ValueError") = true by decide, Bool.or_true]
theorem isy_sh {pins : List (Addr × Obj)} {s : Shared} {σ : St} {H : Hp} {ph : Ph} {S : Hp} {r : Env} {M : Mem} {v c : V} {us : List Value} {Q : DQ} {cv : Value} {b : Bool} (I : Inv X pins σ H s) (hs : Sat X.K ph S r M σ H) (q : Rep X.K ph S v .errS) (rv : Vals [v, c] us)
    (rc : ∀ u, RelV c u → u = cv) (hk : ∀ C, XA.ShX X.K C → PySem.W.kitOne X.K (.ref C) cv = some b) (hg : Q (.bl b) M) : wpAny (model X.prog X.w) X.A (call (.builtin "isinstance") us) (EP X pins σ (post X.K ph S r σ Q)) X.xe s := by
  obtain ⟨u1, u2, rfl, r1, r2⟩ := vals2 rv
  cases rc _ r2
  cases q with
  | @errS a C h0 ha =>
    cases (show u1 = Value.ref a from r1)
    have hx : ObjOk X.prog X.w H s.heap a (ExO (.ref C) a) := I.hok a _ (hs.sub _ _ ha)
    obtain ⟨oe, vs, e1, ⟨z1, z2⟩, e3, _⟩ := hx.1
    have J : PySem.W.InstAt s.heap a oe C none := by
      refine ⟨e1, z1, ?_, ?_⟩
      · unfold PySem.W.notCls; rw [e3]
      · rw [z2]; trivial
    have xc := sh_excC h0
    obtain ⟨cd, hc1, _⟩ := h0.sh.clsIn
    exact PySem.W.kia_one (PySem.W.kitx_exc (by rw [hc1]; rfl) xc.hg xc.hk xc.hs xc.ha xc.hn xc.ht xc.hm) I.kIn J (hk _ h0) (fun z => nomatch z) fun tk => ⟨.bl b, H, I.kept (t' := tk) fun _ _ z => z, rfl, Aft.here hs ⟨_, .bl b, hg⟩⟩
theorem cd_isy {L : List Str} (hL : ∀ y ∈ L, ∃ C, XA.AnyC X.K y C) : CallD X (.builtin "isinstance") (gIsy L) := by
  intro pins s σ H ph S r M vs us ds Q I hs rv q hg
  have old : gIsx L ds M Q → wpAny (model X.prog X.w) X.A (call (.builtin "isinstance") us) (EP X pins σ (post X.K ph S r σ Q)) X.xe s := fun z => cd_isx hL pins s σ H ph S r M vs us ds Q I hs rv q z
  unfold gIsy at hg
  split at hg
  · rename_i y
    obtain ⟨C', A⟩ := hL y hg.1
    cases q with
    | cons q1 q =>
      cases q with
      | cons q2 q =>
        cases q
        cases q2 with
        | glb hn =>
          cases any_at hn A
          exact isy_sh I hs q1 rv (cv := .ref C') (fun u z => z) (fun C h0 => sh_kit h0 A) hg.2
  · rename_i n
    obtain ⟨rfl, hg⟩ := hg
    cases q with
    | cons q1 q =>
      cases q with
      | cons q2 q =>
        cases q
        cases q2
        exact isy_sh I hs q1 rv (cv := .type "ValueError") (fun u z => z) (fun C h0 => sh_kitV h0) hg
  · exact old hg
/-- a text times a number -/
def repS (x : Str) (n : Int) : Str := if n < 1 then Str.empty else if (n == 1 || x.length == 0) = true then x else ⟨(List.replicate n.toNat x.cps).foldl (· ++ ·) #[]⟩
def gMulS : G2 := fun x y M Q => match x, y with
  | .str a, .int n => 0 ≤ n ∧ n ≤ 1000 ∧ a.length ≤ 1000 ∧ (repS a n).length ≤ sizeLine ∧ Q (.str (repS a n)) M
  | _, _ => False
theorem opd_mulS : OpD X (binaryOp .Mult) gMulS := by
  intro pins s σ H ph S r M x y dx dy v u Q I hs rx ry qx qy hg
  cases dx <;> first | exact hg.elim | skip
  cases dy <;> first | exact hg.elim | skip
  cases qx
  cases qy
  rename_i a n
  obtain ⟨tx, rfl⟩ := rx
  obtain ⟨ty, rfl⟩ := ry
  obtain ⟨n0, n1, a1, sz, q⟩ := hg
  refine P.mul_str (by rw [decide_eq_false (by omega), decide_eq_false (by omega)]; rfl) (fun h _ z => ?_) (fun h _ => ?_) ?_
  · have h1 : (a.length : Int) * n ≤ 1000 * 1000 := Int.mul_le_mul (by omega) n1 (by omega) (by decide)
    have h2 : (2 ^ 63 - 1 : Int) / n < a.length := z
    have h3 : (2 ^ 63 - 1 : Int) < a.length * n := Int.lt_mul_of_ediv_lt (by omega) h2
    omega
  · show Builtin.Str.tooLong (a.length * n.toNat) = false
    unfold Builtin.Str.tooLong
    rw [sizeLine_eq]
    have : a.length * n.toNat ≤ 1000 * 1000 := Nat.mul_le_mul a1 (by omega)
    exact decide_eq_false (by omega)
  · unfold repS at q sz
    by_cases h1 : n < 1
    · rw [if_pos h1] at q ⊢
      exact ⟨by decide, .str _, H, I.tok _, ⟨_, rfl⟩, Aft.here hs ⟨_, .str _, q⟩⟩
    · rw [if_neg h1] at q sz ⊢
      by_cases h2 : (n == 1 || a.length == 0) = true
      · rw [if_pos h2] at q ⊢
        exact ⟨.str _, H, I, ⟨_, rfl⟩, Aft.here hs ⟨_, .str _, q⟩⟩
      · rw [if_neg h2] at q sz ⊢
        exact ⟨sz, .str _, H, I.tok _, ⟨_, rfl⟩, Aft.here hs ⟨_, .str _, q⟩⟩
end
end DL
namespace DL
open PySem PySem.Spec PyProof.Rows L2
def errL_k65 : List Str := ["InvalidMeasure", "InvalidNumber", "InvalidRoot", "InvalidCutting", "InvalidDeed", "InvalidWord", "InvalidList", "InvalidPoint", "InvalidTable", "InvalidFloor", "Unlike", "TooMany", "SheetError"]
def t_l_first_5822 : DTS :=
 (dSeq (dIfS (dTru (dOp gEq (dVar 0) (dC (.int 0)))) (dRet (dErr "InvalidMeasure" (dCons (dVar 1) dNil))) dNext)
 (dSeq (dIfS (dTru (dOp gEq (dVar 0) (dC (.int 1)))) (dRet (dErr "InvalidNumber" (dCons (dVar 1) dNil))) dNext)
 (dSeq (dIfS (dTru (dOp gEq (dVar 0) (dC (.int 2)))) (dRet (dErr "InvalidRoot" (dCons (dVar 1) dNil))) dNext)
 (dSeq (dIfS (dTru (dOp gEq (dVar 0) (dC (.int 3)))) (dRet (dErr "InvalidCutting" (dCons (dVar 1) dNil))) dNext)
 (dSeq (dIfS (dTru (dOp gEq (dVar 0) (dC (.int 4)))) (dRet (dErr "InvalidDeed" (dCons (dVar 1) dNil))) dNext)
 (dSeq (dIfS (dTru (dOp gEq (dVar 0) (dC (.int 5)))) (dRet (dErr "InvalidWord" (dCons (dVar 1) dNil))) dNext)
 (dRet (dC .non))))))))
def t_l_second_dbe7 : DTS :=
 (dSeq (dIfS (dTru (dOp gEq (dVar 0) (dC (.int 6)))) (dRet (dErr "InvalidList" (dCons (dVar 1) dNil))) dNext)
 (dSeq (dIfS (dTru (dOp gEq (dVar 0) (dC (.int 7)))) (dRet (dErr "InvalidPoint" (dCons (dVar 1) dNil))) dNext)
 (dSeq (dIfS (dTru (dOp gEq (dVar 0) (dC (.int 8)))) (dRet (dErr "InvalidTable" (dCons (dVar 1) dNil))) dNext)
 (dSeq (dIfS (dTru (dOp gEq (dVar 0) (dC (.int 9)))) (dRet (dErr "InvalidFloor" (dCons (dVar 1) dNil))) dNext)
 (dSeq (dIfS (dTru (dOp gEq (dVar 0) (dC (.int 10)))) (dRet (dErr "Unlike" (dCons (dVar 1) dNil))) dNext)
 (dSeq (dIfS (dTru (dOp gEq (dVar 0) (dC (.int 11)))) (dRet (dErr "TooMany" (dCons (dVar 1) dNil))) dNext)
 (dRet (dC .non))))))))
def t_l_made_94f3 (c_l_first_5822 : DSp) (c_l_second_dbe7 : DSp) : DTS :=
 (dRet (dIf (dTru (dOp (gCmpI fun i j => decide (i < j)) (dVar 0) (dC (.int 6)))) (dCall 2 c_l_first_5822 [] DX0 (dCons (dVar 0) (dCons (dVar 1) dNil))) (dCall 2 c_l_second_dbe7 [] DX0 (dCons (dVar 0) (dCons (dVar 1) dNil)))))
def t_l_flags_6e5f : DTS :=
 (dSeq (dAsg (dLst (dCons (dCB (gIsy errL_k65) (dCons (dVar 0) (dCons (dC (.glb "InvalidMeasure")) dNil))) (dCons (dCB (gIsy errL_k65) (dCons (dVar 0) (dCons (dC (.glb "InvalidNumber")) dNil))) (dCons (dCB (gIsy errL_k65) (dCons (dVar 0) (dCons (dC (.glb "InvalidRoot")) dNil))) (dCons (dCB (gIsy errL_k65) (dCons (dVar 0) (dCons (dC (.glb "InvalidCutting")) dNil))) dNil))))) (dName 1))
 (dSeq (dAsg (dOp gAdd (dVar 1) (dLst (dCons (dCB (gIsy errL_k65) (dCons (dVar 0) (dCons (dC (.glb "InvalidDeed")) dNil))) (dCons (dCB (gIsy errL_k65) (dCons (dVar 0) (dCons (dC (.glb "InvalidWord")) dNil))) (dCons (dCB (gIsy errL_k65) (dCons (dVar 0) (dCons (dC (.glb "InvalidList")) dNil))) (dCons (dCB (gIsy errL_k65) (dCons (dVar 0) (dCons (dC (.glb "InvalidPoint")) dNil))) dNil)))))) (dName 1))
 (dRet (dOp gAdd (dVar 1) (dLst (dCons (dCB (gIsy errL_k65) (dCons (dVar 0) (dCons (dC (.glb "InvalidTable")) dNil))) (dCons (dCB (gIsy errL_k65) (dCons (dVar 0) (dCons (dC (.glb "InvalidFloor")) dNil))) (dCons (dCB (gIsy errL_k65) (dCons (dVar 0) (dCons (dC (.glb "Unlike")) dNil))) (dCons (dCB (gIsy errL_k65) (dCons (dVar 0) (dCons (dC (.glb "TooMany")) dNil))) dNil)))))))))
def t_l_law_5227 (c_l_generator_b324 : DSp) (c_l_random_7821 : DSp) (c_l_made_94f3 : DSp) (c_l_flags_6e5f : DSp) : DTS :=
 (dSeq (dAsg (dCall 2 c_l_generator_b324 [] DX0 (dCons (dVar 0) (dCons (dC (.int 0)) dNil))) (dName 1))
 (dSeq (dAsg (dOp gIx (dLst (dCons (dCall 2 c_l_random_7821 [] DX0 (dCons (dVar 1) (dCons (dOp (rBin CPow fun i j => i ^ j.toNat) (dC (.int 10)) (dC (.int 20))) dNil))) (dCons (dOp gMulS (dC (.str (PySem.Str.ofString "ab"))) (dCall 2 c_l_random_7821 [] DX0 (dCons (dVar 1) (dCons (dC (.int 3)) dNil)))) (dCons (dOwn (dCons (dC (.int 1)) (dCons (dC .non) dNil))) (dCons (dC .non) (dCons (dTup (dCons (dC (.int 2)) (dCons (dTup (dCons (dC (.int 3)) dNil)) dNil))) dNil)))))) (dCall 2 c_l_random_7821 [] DX0 (dCons (dVar 1) (dCons (dC (.int 5)) dNil)))) (dName 2))
 (dSeq (dFor (dRngI gRng1 (dCons (dC (.int 12)) dNil)) (dName 3) (dSeq (dPar 4 5 (dCons (dCall 2 c_l_made_94f3 [] DX0 (dCons (dVar 3) (dCons (dVar 2) dNil))) (dCons (dCall 2 c_l_made_94f3 [] DX0 (dCons (dVar 3) (dCons (dVar 2) dNil))) dNil)))
 (dSeq (dIfS (dOr (dTru (dOp gNe (dCall 1 c_l_flags_6e5f [] DX0 (dCons (dVar 4) dNil)) (dLc false (dRngI gRng1 (dCons (dC (.int 12)) dNil)) (dName 6) dYes (dOp gEq (dVar 6) (dVar 3)) [6]))) (dOr (dNot (dTru (dCB (gIsy errL_k65) (dCons (dVar 4) (dCons (dC (.glb "SheetError")) dNil))))) (dNot (dTru (dCB (gIsy errL_k65) (dCons (dVar 4) (dCons (dC (.val (.ty "ValueError"))) dNil))))))) (dRet (dC (.bl false))) dNext)
 (dSeq (dIfS (dTru (dCB gIsi (dCons (dVar 2) (dCons (dC (.val (.ty "list"))) dNil)))) (dDrop (dMet gAppend (dVar 2) (dCons (dVar 3) dNil))) dNext)
 (dIfS (dTru (dOp gNe (dCB gReprE (dCons (dLst (dCons (dFld (dVar 4)) (dCons (dFld (dVar 5)) dNil))) dNil)) (dCB gReprE (dCons (dLst (dCons (dVar 2) (dCons (dVar 2) dNil))) dNil)))) (dRet (dC (.bl false))) dNext)))))
 (dSeq (dAsg (dLst (dCons (dFld (dErr0 "InvalidMeasure")) (dCons (dFld (dErr0 "InvalidNumber")) (dCons (dFld (dErr0 "InvalidRoot")) (dCons (dFld (dErr0 "InvalidCutting")) (dCons (dFld (dErr0 "InvalidDeed")) (dCons (dFld (dErr0 "InvalidWord")) dNil))))))) (dName 7))
 (dSeq (dAsg (dOp gAdd (dVar 7) (dLst (dCons (dFld (dErr0 "InvalidList")) (dCons (dFld (dErr0 "InvalidPoint")) (dCons (dFld (dErr0 "InvalidTable")) (dCons (dFld (dErr0 "InvalidFloor")) (dCons (dFld (dErr0 "Unlike")) (dCons (dFld (dErr0 "TooMany")) dNil)))))))) (dName 7))
 (dSeq (dIfS (dOr (dTru (dOp gNe (dLc false (dSeqI (dVar 7)) (dName 8) (dTru (dOp (gIs true) (dVar 8) (dC .non))) (dVar 8) [8]) (dLst dNil))) (dOr (dTru (dOp gNe (dFld (dErr "TooMany" (dCons (dC (.int 7)) dNil))) (dC (.int 7)))) (dTru (dOp gNe (dFld (dErr "InvalidFloor" (dCons (dTup (dCons (dC (.int 1)) dNil)) dNil))) (dTup (dCons (dC (.int 1)) dNil)))))) (dRet (dC (.bl false))) dNext)
 (dRet (dAndV (dCB (gIsy errL_k65) (dCons dSheet (dCons (dC (.val (.ty "ValueError"))) dNil))) (dOp gEq (dCall 1 c_l_flags_6e5f [] DX0 (dCons dSheet dNil)) (dOp gMulL (dLst (dCons (dC (.bl false)) dNil)) (dC (.int 12))))))))))))
end DL
namespace C_k65
open PySem PySem.Spec PyProof.Rows L2 DL
def topS (i : Nat) : Stmt := PySem.Challenge.pw_slitsheets_k65_errors_by_their_classes.main.body.getD i (.Pass ⟨0, 0, 0, 0⟩)
abbrev s_l_cell_cf3b : Stmt := topS 17
theorem sc_l_cell_cf3b : FnScope ["_law_script", "_law_index"] ["_law_script", "_law_index"] (defScope s_l_cell_cf3b) := ⟨rfl, rfl, rfl, by decide +kernel, rfl, by decide +kernel, by decide +kernel⟩
abbrev s_l_generator_b324 : Stmt := topS 18
theorem sc_l_generator_b324 : FnScope ["_law_script", "_law_index", "_law_seed"] ["_law_script", "_law_index"] (defScope s_l_generator_b324) := ⟨rfl, rfl, rfl, by decide +kernel, rfl, by decide +kernel, by decide +kernel⟩
abbrev s_l_hash_9cde : Stmt := topS 15
theorem sc_l_hash_9cde : FnScope ["_law_seed", "_law_index", "_law_mixed"] ["_law_seed", "_law_index"] (defScope s_l_hash_9cde) := ⟨rfl, rfl, rfl, by decide +kernel, rfl, by decide +kernel, by decide +kernel⟩
abbrev s_l_random_7821 : Stmt := topS 16
theorem sc_l_random_7821 : FnScope ["_law_generator_here", "_law_bound", "_law_drawn", "_law_turn"] ["_law_generator_here", "_law_bound"] (defScope s_l_random_7821) := ⟨rfl, rfl, rfl, by decide +kernel, rfl, by decide +kernel, by decide +kernel⟩
abbrev s_l_first_5822 : Stmt := topS 19
theorem sc_l_first_5822 : FnScope ["_law_which", "_law_value"] ["_law_which", "_law_value"] (defScope s_l_first_5822) := ⟨rfl, rfl, rfl, by decide +kernel, rfl, by decide +kernel, by decide +kernel⟩
abbrev s_l_second_dbe7 : Stmt := topS 20
theorem sc_l_second_dbe7 : FnScope ["_law_which", "_law_value"] ["_law_which", "_law_value"] (defScope s_l_second_dbe7) := ⟨rfl, rfl, rfl, by decide +kernel, rfl, by decide +kernel, by decide +kernel⟩
abbrev s_l_made_94f3 : Stmt := topS 21
theorem sc_l_made_94f3 : FnScope ["_law_which", "_law_value"] ["_law_which", "_law_value"] (defScope s_l_made_94f3) := ⟨rfl, rfl, rfl, by decide +kernel, rfl, by decide +kernel, by decide +kernel⟩
abbrev s_l_flags_6e5f : Stmt := topS 22
theorem sc_l_flags_6e5f : FnScope ["_law_error", "_law_found"] ["_law_error"] (defScope s_l_flags_6e5f) := ⟨rfl, rfl, rfl, by decide +kernel, rfl, by decide +kernel, by decide +kernel⟩
abbrev s_l_law_5227 : Stmt := topS 23
theorem sc_l_law_5227 : FnScope ["_law_script", "_law_generator_here", "_law_value", "_law_which", "_law_error", "_law_other", "_law_place", "_law_bare", "_law_field"] ["_law_script"] (defScope s_l_law_5227) := ⟨rfl, rfl, rfl, by decide +kernel, rfl, by decide +kernel, by decide +kernel⟩
abbrev k_InvalidMeasure : Stmt := XA.initOf (topS 2)
theorem it_InvalidMeasure : XA.InitTxt (defArgs k_InvalidMeasure) (defBody k_InvalidMeasure) (defScope k_InvalidMeasure) := ⟨⟨_, _, _, rfl⟩, ⟨_, _, _, _, _, _, _, _, _, rfl, ⟨_, fun _ => rfl⟩, fun _ => rfl⟩, rfl⟩
abbrev k_InvalidNumber : Stmt := XA.initOf (topS 3)
theorem it_InvalidNumber : XA.InitTxt (defArgs k_InvalidNumber) (defBody k_InvalidNumber) (defScope k_InvalidNumber) := ⟨⟨_, _, _, rfl⟩, ⟨_, _, _, _, _, _, _, _, _, rfl, ⟨_, fun _ => rfl⟩, fun _ => rfl⟩, rfl⟩
abbrev k_InvalidRoot : Stmt := XA.initOf (topS 4)
theorem it_InvalidRoot : XA.InitTxt (defArgs k_InvalidRoot) (defBody k_InvalidRoot) (defScope k_InvalidRoot) := ⟨⟨_, _, _, rfl⟩, ⟨_, _, _, _, _, _, _, _, _, rfl, ⟨_, fun _ => rfl⟩, fun _ => rfl⟩, rfl⟩
abbrev k_InvalidCutting : Stmt := XA.initOf (topS 5)
theorem it_InvalidCutting : XA.InitTxt (defArgs k_InvalidCutting) (defBody k_InvalidCutting) (defScope k_InvalidCutting) := ⟨⟨_, _, _, rfl⟩, ⟨_, _, _, _, _, _, _, _, _, rfl, ⟨_, fun _ => rfl⟩, fun _ => rfl⟩, rfl⟩
abbrev k_InvalidDeed : Stmt := XA.initOf (topS 6)
theorem it_InvalidDeed : XA.InitTxt (defArgs k_InvalidDeed) (defBody k_InvalidDeed) (defScope k_InvalidDeed) := ⟨⟨_, _, _, rfl⟩, ⟨_, _, _, _, _, _, _, _, _, rfl, ⟨_, fun _ => rfl⟩, fun _ => rfl⟩, rfl⟩
abbrev k_InvalidWord : Stmt := XA.initOf (topS 7)
theorem it_InvalidWord : XA.InitTxt (defArgs k_InvalidWord) (defBody k_InvalidWord) (defScope k_InvalidWord) := ⟨⟨_, _, _, rfl⟩, ⟨_, _, _, _, _, _, _, _, _, rfl, ⟨_, fun _ => rfl⟩, fun _ => rfl⟩, rfl⟩
abbrev k_InvalidList : Stmt := XA.initOf (topS 8)
theorem it_InvalidList : XA.InitTxt (defArgs k_InvalidList) (defBody k_InvalidList) (defScope k_InvalidList) := ⟨⟨_, _, _, rfl⟩, ⟨_, _, _, _, _, _, _, _, _, rfl, ⟨_, fun _ => rfl⟩, fun _ => rfl⟩, rfl⟩
abbrev k_InvalidPoint : Stmt := XA.initOf (topS 9)
theorem it_InvalidPoint : XA.InitTxt (defArgs k_InvalidPoint) (defBody k_InvalidPoint) (defScope k_InvalidPoint) := ⟨⟨_, _, _, rfl⟩, ⟨_, _, _, _, _, _, _, _, _, rfl, ⟨_, fun _ => rfl⟩, fun _ => rfl⟩, rfl⟩
abbrev k_InvalidTable : Stmt := XA.initOf (topS 10)
theorem it_InvalidTable : XA.InitTxt (defArgs k_InvalidTable) (defBody k_InvalidTable) (defScope k_InvalidTable) := ⟨⟨_, _, _, rfl⟩, ⟨_, _, _, _, _, _, _, _, _, rfl, ⟨_, fun _ => rfl⟩, fun _ => rfl⟩, rfl⟩
abbrev k_InvalidFloor : Stmt := XA.initOf (topS 11)
theorem it_InvalidFloor : XA.InitTxt (defArgs k_InvalidFloor) (defBody k_InvalidFloor) (defScope k_InvalidFloor) := ⟨⟨_, _, _, rfl⟩, ⟨_, _, _, _, _, _, _, _, _, rfl, ⟨_, fun _ => rfl⟩, fun _ => rfl⟩, rfl⟩
abbrev k_Unlike : Stmt := XA.initOf (topS 12)
theorem it_Unlike : XA.InitTxt (defArgs k_Unlike) (defBody k_Unlike) (defScope k_Unlike) := ⟨⟨_, _, _, rfl⟩, ⟨_, _, _, _, _, _, _, _, _, rfl, ⟨_, fun _ => rfl⟩, fun _ => rfl⟩, rfl⟩
abbrev k_TooMany : Stmt := XA.initOf (topS 13)
theorem it_TooMany : XA.InitTxt (defArgs k_TooMany) (defBody k_TooMany) (defScope k_TooMany) := ⟨⟨_, _, _, rfl⟩, ⟨_, _, _, _, _, _, _, _, _, rfl, ⟨_, fun _ => rfl⟩, fun _ => rfl⟩, rfl⟩
/-- what the top has left -/
structure Txt (P : Program) (K : PySem.W.Frag) (mg : Str → Option Value) (base : Heap) : Prop where
  s_SheetError : ∃ S, XA.ShC K S ∧ mg "SheetError" = some (.ref S)
  x_SheetError : ∃ S, XA.ShX K S ∧ mg "SheetError" = some (.ref S)
  e_InvalidMeasure : ∃ C S fI, XA.ErM P K mg "InvalidMeasure" C S fI
  e_InvalidNumber : ∃ C S fI, XA.ErM P K mg "InvalidNumber" C S fI
  e_InvalidRoot : ∃ C S fI, XA.ErM P K mg "InvalidRoot" C S fI
  e_InvalidCutting : ∃ C S fI, XA.ErM P K mg "InvalidCutting" C S fI
  e_InvalidDeed : ∃ C S fI, XA.ErM P K mg "InvalidDeed" C S fI
  e_InvalidWord : ∃ C S fI, XA.ErM P K mg "InvalidWord" C S fI
  e_InvalidList : ∃ C S fI, XA.ErM P K mg "InvalidList" C S fI
  e_InvalidPoint : ∃ C S fI, XA.ErM P K mg "InvalidPoint" C S fI
  e_InvalidTable : ∃ C S fI, XA.ErM P K mg "InvalidTable" C S fI
  e_InvalidFloor : ∃ C S fI, XA.ErM P K mg "InvalidFloor" C S fI
  e_Unlike : ∃ C S fI, XA.ErM P K mg "Unlike" C S fI
  e_TooMany : ∃ C S fI, XA.ErM P K mg "TooMany" C S fI
  n_ValueError : mg "ValueError" = none
  n_int : mg "int" = none
  n_isinstance : mg "isinstance" = none
  n_len : mg "len" = none
  n_list : mg "list" = none
  n_max : mg "max" = none
  n_range : mg "range" = none
  n_repr : mg "repr" = none
  n_sum : mg "sum" = none
  h_l_cell_cf3b : Here K mg "_law_cell" s_l_cell_cf3b ["_law_script", "_law_index"]
  h_l_generator_b324 : Here K mg "_law_generator" s_l_generator_b324 ["_law_script", "_law_index"]
  h_l_hash_9cde : Here K mg "_law_hash" s_l_hash_9cde ["_law_seed", "_law_index"]
  h_l_random_7821 : Here K mg "_law_random" s_l_random_7821 ["_law_generator_here", "_law_bound"]
  h_l_first_5822 : Here K mg "_law_first" s_l_first_5822 ["_law_which", "_law_value"]
  h_l_second_dbe7 : Here K mg "_law_second" s_l_second_dbe7 ["_law_which", "_law_value"]
  h_l_made_94f3 : Here K mg "_law_made" s_l_made_94f3 ["_law_which", "_law_value"]
  h_l_flags_6e5f : Here K mg "_law_flags" s_l_flags_6e5f ["_law_error"]
  h_l_law_5227 : Here K mg "law" s_l_law_5227 ["_law_script"]
theorem Txt.isE {P : Program} {K : PySem.W.Frag} {mg : Str → Option Value} {base : Heap} (T : Txt P K mg base) : ∀ y ∈ errL_k65, ∃ C, XA.AnyC K y C := fun y hy => by
  simp only [errL_k65, List.mem_cons, List.not_mem_nil, or_false] at hy
  rcases hy with rfl | rfl | rfl | rfl | rfl | rfl | rfl | rfl | rfl | rfl | rfl | rfl | rfl
  · obtain ⟨C, S, fI, h⟩ := T.e_InvalidMeasure; exact ⟨C, .inl ⟨S, h.er⟩⟩
  · obtain ⟨C, S, fI, h⟩ := T.e_InvalidNumber; exact ⟨C, .inl ⟨S, h.er⟩⟩
  · obtain ⟨C, S, fI, h⟩ := T.e_InvalidRoot; exact ⟨C, .inl ⟨S, h.er⟩⟩
  · obtain ⟨C, S, fI, h⟩ := T.e_InvalidCutting; exact ⟨C, .inl ⟨S, h.er⟩⟩
  · obtain ⟨C, S, fI, h⟩ := T.e_InvalidDeed; exact ⟨C, .inl ⟨S, h.er⟩⟩
  · obtain ⟨C, S, fI, h⟩ := T.e_InvalidWord; exact ⟨C, .inl ⟨S, h.er⟩⟩
  · obtain ⟨C, S, fI, h⟩ := T.e_InvalidList; exact ⟨C, .inl ⟨S, h.er⟩⟩
  · obtain ⟨C, S, fI, h⟩ := T.e_InvalidPoint; exact ⟨C, .inl ⟨S, h.er⟩⟩
  · obtain ⟨C, S, fI, h⟩ := T.e_InvalidTable; exact ⟨C, .inl ⟨S, h.er⟩⟩
  · obtain ⟨C, S, fI, h⟩ := T.e_InvalidFloor; exact ⟨C, .inl ⟨S, h.er⟩⟩
  · obtain ⟨C, S, fI, h⟩ := T.e_Unlike; exact ⟨C, .inl ⟨S, h.er⟩⟩
  · obtain ⟨C, S, fI, h⟩ := T.e_TooMany; exact ⟨C, .inl ⟨S, h.er⟩⟩
  · obtain ⟨S, h, _⟩ := T.s_SheetError; exact ⟨S, .inr ⟨rfl, h⟩⟩
section
variable {P : Program} {w : World} {K : PySem.W.Frag} {mg : Str → Option Value} {base : Heap}
theorem ok_l_cell_cf3b {sp : DSp} (T : Txt P K mg base) (hread : ∀ ds M Q, ds.length = 2 → sp ds M Q DX0 → t_l_cell_cf3b (dEnds M Q) (startD 2 ds) M) (hX : ∀ ds M Q E, sp ds M Q E → sp ds M Q DX0 := by exact fun _ _ _ _ h => h) : Def P w K mg base CX0 1 "_law_cell" s_l_cell_cf3b ["_law_script", "_law_index"] sp :=
 T.h_l_cell_cf3b.ok (t := t_l_cell_cf3b) sc_l_cell_cf3b (fun f cdv A outer s H E hr gd => (dss_cons (ds_if (dt_cmp opd_lt (dv 1) (de_blt cd_len T.n_len (da_cons (dv 0) da_nil)) (nomark _)) (dss_one (ds_ret (de_ix (dv 0) (dv 1)))) dss_nil)
 (dss_one (ds_ret (de_op opd_mod (de_blt (cd_sum rfl) T.n_sum (da_cons (de_slL false (dv 0) do_none (do_some de_int)) da_nil)) de_int))))) hread hX
theorem ok_l_generator_b324 {c_l_cell_cf3b : DSp} {sp : DSp} (T : Txt P K mg base) (D_l_cell_cf3b : Def P w K mg base CX0 1 "_law_cell" s_l_cell_cf3b ["_law_script", "_law_index"] c_l_cell_cf3b) (hread : ∀ ds M Q, ds.length = 2 → sp ds M Q DX0 → t_l_generator_b324 c_l_cell_cf3b (dEnds M Q) (startD 3 ds) M) (hX : ∀ ds M Q E, sp ds M Q E → sp ds M Q DX0 := by exact fun _ _ _ _ h => h) : Def P w K mg base CX0 2 "_law_generator" s_l_generator_b324 ["_law_script", "_law_index"] sp :=
 T.h_l_generator_b324.ok (t := t_l_generator_b324 c_l_cell_cf3b) sc_l_generator_b324 (fun f cdv A outer s H E hr gd => (dss_cons (ds_set (i := 2) sc_l_generator_b324.nd (dcall D_l_cell_cf3b hr gd (da_cons (dv 0) (da_cons (dv 1) da_nil))))
 (dss_one (ds_ret (de_own (da_cons (de_op opd_mod (de_ty cd_int T.n_int (da_cons (de_blt (cd_max rfl) T.n_max (da_cons (de_op opd_sub (dv 2) (de_op opd_pow de_int de_int)) (da_cons de_int da_nil))) da_nil)) (de_op opd_pow (de_op opd_pow de_int de_int) de_int)) (da_cons (de_op opd_mod (de_ty cd_int T.n_int (da_cons (dv 2) da_nil)) de_int) (da_cons (de_op opd_mulI de_int (dv 1)) da_nil)))))))) hread hX
theorem ok_l_hash_9cde {sp : DSp} (T : Txt P K mg base) (hread : ∀ ds M Q, ds.length = 2 → sp ds M Q DX0 → t_l_hash_9cde (dEnds M Q) (startD 3 ds) M) (hX : ∀ ds M Q E, sp ds M Q E → sp ds M Q DX0 := by exact fun _ _ _ _ h => h) : Def P w K mg base CX0 1 "_law_hash" s_l_hash_9cde ["_law_seed", "_law_index"] sp :=
 T.h_l_hash_9cde.ok (t := t_l_hash_9cde) sc_l_hash_9cde (fun f cdv A outer s H E hr gd => (dss_cons (ds_set (i := 2) sc_l_hash_9cde.nd (de_op opd_mod (de_ty cd_int T.n_int (da_cons (de_op opd_add (de_op opd_add (de_op opd_add (de_op opd_mulI (dv 0) de_int) (de_op opd_mulI (de_op opd_mulI de_int (dv 1)) (dv 1))) (de_op opd_mulI de_int (dv 1))) de_int) da_nil)) de_int))
 (dss_cons (ds_set (i := 2) sc_l_hash_9cde.nd (de_op opd_mod (de_ty cd_int T.n_int (da_cons (de_op opd_add (de_op opd_add (de_op opd_mulI (dv 2) (dv 2)) (de_op opd_mulI de_int (dv 1))) de_int) da_nil)) de_int))
 (dss_one (ds_ret (de_op opd_mod (de_ty cd_int T.n_int (da_cons (de_op opd_mulI (dv 2) de_int) da_nil)) de_int)))))) hread hX
theorem ok_l_random_7821 {c_l_hash_9cde : DSp} {sp : DSp} (T : Txt P K mg base) (D_l_hash_9cde : Def P w K mg base CX0 1 "_law_hash" s_l_hash_9cde ["_law_seed", "_law_index"] c_l_hash_9cde) (hread : ∀ ds M Q, ds.length = 2 → sp ds M Q DX0 → t_l_random_7821 c_l_hash_9cde (dEnds M Q) (startD 4 ds) M) (hX : ∀ ds M Q E, sp ds M Q E → sp ds M Q DX0 := by exact fun _ _ _ _ h => h) : Def P w K mg base CX0 2 "_law_random" s_l_random_7821 ["_law_generator_here", "_law_bound"] sp :=
 T.h_l_random_7821.ok (t := t_l_random_7821 c_l_hash_9cde) sc_l_random_7821 (fun f cdv A outer s H E hr gd => (dss_cons (ds_if (dt_cmp opd_gt (de_ix (dv 0) de_int) de_int (nomark _)) (dss_cons (ds_set (i := 2) sc_l_random_7821.nd (de_op opd_mod (de_ty cd_int T.n_int (da_cons (de_ix (dv 0) de_int) da_nil)) (dv 1)))
 (dss_cons (ds_asg (de_op opd_fdiv (de_ix (dv 0) de_int) (dv 1)) (dg_sub (dv 0) de_int))
 (dss_one (ds_ret (dv 2))))) dss_nil)
 (dss_cons (ds_set (i := 2) sc_l_random_7821.nd de_int)
 (dss_cons (ds_for rfl (di_range1 T.n_range (da_cons (de_op opd_add de_int (de_op opd_fdiv (de_bits (dv 1)) de_int)) da_nil)) (dg_name (i := 3) sc_l_random_7821.nd) (dss_cons (ds_asg (de_op opd_add (de_ix (dv 0) de_int) de_int) (dg_sub (dv 0) de_int))
 (dss_one (ds_set (i := 2) sc_l_random_7821.nd (de_op opd_add (de_op opd_mulI (dv 2) de_int) (dcall D_l_hash_9cde hr gd (da_cons (de_ix (dv 0) de_int) (da_cons (de_ix (dv 0) de_int) da_nil))))))))
 (dss_one (ds_ret (de_op opd_mod (de_ty cd_int T.n_int (da_cons (dv 2) da_nil)) (dv 1)))))))) hread hX
theorem ok_l_first_5822 {sp : DSp} (T : Txt P K mg base) (hread : ∀ ds M Q, ds.length = 2 → sp ds M Q DX0 → t_l_first_5822 (dEnds M Q) (startD 2 ds) M) (hX : ∀ ds M Q E, sp ds M Q E → sp ds M Q DX0 := by exact fun _ _ _ _ h => h) : Def P w K mg base CX0 1 "_law_first" s_l_first_5822 ["_law_which", "_law_value"] sp :=
 T.h_l_first_5822.ok (t := t_l_first_5822) sc_l_first_5822 (fun f cdv A outer s H E hr gd => (dss_cons (ds_if (dt_cmp (opd_eq (u64 hr)) (dv 0) de_int (nomark _)) (dss_one (ds_ret (let ⟨_, _, _, h⟩ := T.e_InvalidMeasure; de_err h hr (da_cons (dv 1) da_nil)))) dss_nil)
 (dss_cons (ds_if (dt_cmp (opd_eq (u64 hr)) (dv 0) de_int (nomark _)) (dss_one (ds_ret (let ⟨_, _, _, h⟩ := T.e_InvalidNumber; de_err h hr (da_cons (dv 1) da_nil)))) dss_nil)
 (dss_cons (ds_if (dt_cmp (opd_eq (u64 hr)) (dv 0) de_int (nomark _)) (dss_one (ds_ret (let ⟨_, _, _, h⟩ := T.e_InvalidRoot; de_err h hr (da_cons (dv 1) da_nil)))) dss_nil)
 (dss_cons (ds_if (dt_cmp (opd_eq (u64 hr)) (dv 0) de_int (nomark _)) (dss_one (ds_ret (let ⟨_, _, _, h⟩ := T.e_InvalidCutting; de_err h hr (da_cons (dv 1) da_nil)))) dss_nil)
 (dss_cons (ds_if (dt_cmp (opd_eq (u64 hr)) (dv 0) de_int (nomark _)) (dss_one (ds_ret (let ⟨_, _, _, h⟩ := T.e_InvalidDeed; de_err h hr (da_cons (dv 1) da_nil)))) dss_nil)
 (dss_cons (ds_if (dt_cmp (opd_eq (u64 hr)) (dv 0) de_int (nomark _)) (dss_one (ds_ret (let ⟨_, _, _, h⟩ := T.e_InvalidWord; de_err h hr (da_cons (dv 1) da_nil)))) dss_nil)
 (dss_one (ds_ret de_non))))))))) hread hX
theorem ok_l_second_dbe7 {sp : DSp} (T : Txt P K mg base) (hread : ∀ ds M Q, ds.length = 2 → sp ds M Q DX0 → t_l_second_dbe7 (dEnds M Q) (startD 2 ds) M) (hX : ∀ ds M Q E, sp ds M Q E → sp ds M Q DX0 := by exact fun _ _ _ _ h => h) : Def P w K mg base CX0 1 "_law_second" s_l_second_dbe7 ["_law_which", "_law_value"] sp :=
 T.h_l_second_dbe7.ok (t := t_l_second_dbe7) sc_l_second_dbe7 (fun f cdv A outer s H E hr gd => (dss_cons (ds_if (dt_cmp (opd_eq (u64 hr)) (dv 0) de_int (nomark _)) (dss_one (ds_ret (let ⟨_, _, _, h⟩ := T.e_InvalidList; de_err h hr (da_cons (dv 1) da_nil)))) dss_nil)
 (dss_cons (ds_if (dt_cmp (opd_eq (u64 hr)) (dv 0) de_int (nomark _)) (dss_one (ds_ret (let ⟨_, _, _, h⟩ := T.e_InvalidPoint; de_err h hr (da_cons (dv 1) da_nil)))) dss_nil)
 (dss_cons (ds_if (dt_cmp (opd_eq (u64 hr)) (dv 0) de_int (nomark _)) (dss_one (ds_ret (let ⟨_, _, _, h⟩ := T.e_InvalidTable; de_err h hr (da_cons (dv 1) da_nil)))) dss_nil)
 (dss_cons (ds_if (dt_cmp (opd_eq (u64 hr)) (dv 0) de_int (nomark _)) (dss_one (ds_ret (let ⟨_, _, _, h⟩ := T.e_InvalidFloor; de_err h hr (da_cons (dv 1) da_nil)))) dss_nil)
 (dss_cons (ds_if (dt_cmp (opd_eq (u64 hr)) (dv 0) de_int (nomark _)) (dss_one (ds_ret (let ⟨_, _, _, h⟩ := T.e_Unlike; de_err h hr (da_cons (dv 1) da_nil)))) dss_nil)
 (dss_cons (ds_if (dt_cmp (opd_eq (u64 hr)) (dv 0) de_int (nomark _)) (dss_one (ds_ret (let ⟨_, _, _, h⟩ := T.e_TooMany; de_err h hr (da_cons (dv 1) da_nil)))) dss_nil)
 (dss_one (ds_ret de_non))))))))) hread hX
theorem ok_l_made_94f3 {c_l_first_5822 c_l_second_dbe7 : DSp} {sp : DSp} (T : Txt P K mg base) (D_l_first_5822 : Def P w K mg base CX0 1 "_law_first" s_l_first_5822 ["_law_which", "_law_value"] c_l_first_5822) (D_l_second_dbe7 : Def P w K mg base CX0 1 "_law_second" s_l_second_dbe7 ["_law_which", "_law_value"] c_l_second_dbe7) (hread : ∀ ds M Q, ds.length = 2 → sp ds M Q DX0 → t_l_made_94f3 c_l_first_5822 c_l_second_dbe7 (dEnds M Q) (startD 2 ds) M) (hX : ∀ ds M Q E, sp ds M Q E → sp ds M Q DX0 := by exact fun _ _ _ _ h => h) : Def P w K mg base CX0 2 "_law_made" s_l_made_94f3 ["_law_which", "_law_value"] sp :=
 T.h_l_made_94f3.ok (t := t_l_made_94f3 c_l_first_5822 c_l_second_dbe7) sc_l_made_94f3 (fun f cdv A outer s H E hr gd => (dss_one (ds_ret (de_if (dt_cmp opd_lt (dv 0) de_int (nomark _)) (dcall D_l_first_5822 hr gd (da_cons (dv 0) (da_cons (dv 1) da_nil))) (dcall D_l_second_dbe7 hr gd (da_cons (dv 0) (da_cons (dv 1) da_nil))))))) hread hX
theorem ok_l_flags_6e5f {sp : DSp} (T : Txt P K mg base) (hread : ∀ ds M Q, ds.length = 1 → sp ds M Q DX0 → t_l_flags_6e5f (dEnds M Q) (startD 2 ds) M) (hX : ∀ ds M Q E, sp ds M Q E → sp ds M Q DX0 := by exact fun _ _ _ _ h => h) : Def P w K mg base CX0 1 "_law_flags" s_l_flags_6e5f ["_law_error"] sp :=
 T.h_l_flags_6e5f.ok (t := t_l_flags_6e5f) sc_l_flags_6e5f (fun f cdv A outer s H E hr gd => (dss_cons (ds_set (i := 1) sc_l_flags_6e5f.nd (de_lst (da_cons (de_blt (cd_isy T.isE) T.n_isinstance (da_cons (dv 0) (da_cons (let ⟨_, _, _, h⟩ := T.e_InvalidMeasure; de_gname h.er.ns h.gC) da_nil))) (da_cons (de_blt (cd_isy T.isE) T.n_isinstance (da_cons (dv 0) (da_cons (let ⟨_, _, _, h⟩ := T.e_InvalidNumber; de_gname h.er.ns h.gC) da_nil))) (da_cons (de_blt (cd_isy T.isE) T.n_isinstance (da_cons (dv 0) (da_cons (let ⟨_, _, _, h⟩ := T.e_InvalidRoot; de_gname h.er.ns h.gC) da_nil))) (da_cons (de_blt (cd_isy T.isE) T.n_isinstance (da_cons (dv 0) (da_cons (let ⟨_, _, _, h⟩ := T.e_InvalidCutting; de_gname h.er.ns h.gC) da_nil))) da_nil))))))
 (dss_cons (ds_set (i := 1) sc_l_flags_6e5f.nd (de_op opd_add (dv 1) (de_lst (da_cons (de_blt (cd_isy T.isE) T.n_isinstance (da_cons (dv 0) (da_cons (let ⟨_, _, _, h⟩ := T.e_InvalidDeed; de_gname h.er.ns h.gC) da_nil))) (da_cons (de_blt (cd_isy T.isE) T.n_isinstance (da_cons (dv 0) (da_cons (let ⟨_, _, _, h⟩ := T.e_InvalidWord; de_gname h.er.ns h.gC) da_nil))) (da_cons (de_blt (cd_isy T.isE) T.n_isinstance (da_cons (dv 0) (da_cons (let ⟨_, _, _, h⟩ := T.e_InvalidList; de_gname h.er.ns h.gC) da_nil))) (da_cons (de_blt (cd_isy T.isE) T.n_isinstance (da_cons (dv 0) (da_cons (let ⟨_, _, _, h⟩ := T.e_InvalidPoint; de_gname h.er.ns h.gC) da_nil))) da_nil)))))))
 (dss_one (ds_ret (de_op opd_add (dv 1) (de_lst (da_cons (de_blt (cd_isy T.isE) T.n_isinstance (da_cons (dv 0) (da_cons (let ⟨_, _, _, h⟩ := T.e_InvalidTable; de_gname h.er.ns h.gC) da_nil))) (da_cons (de_blt (cd_isy T.isE) T.n_isinstance (da_cons (dv 0) (da_cons (let ⟨_, _, _, h⟩ := T.e_InvalidFloor; de_gname h.er.ns h.gC) da_nil))) (da_cons (de_blt (cd_isy T.isE) T.n_isinstance (da_cons (dv 0) (da_cons (let ⟨_, _, _, h⟩ := T.e_Unlike; de_gname h.er.ns h.gC) da_nil))) (da_cons (de_blt (cd_isy T.isE) T.n_isinstance (da_cons (dv 0) (da_cons (let ⟨_, _, _, h⟩ := T.e_TooMany; de_gname h.er.ns h.gC) da_nil))) da_nil))))))))))) hread hX
theorem ok_l_law_5227 {c_l_generator_b324 c_l_random_7821 c_l_made_94f3 c_l_flags_6e5f : DSp} {sp : DSp} (T : Txt P K mg base) (D_l_generator_b324 : Def P w K mg base CX0 2 "_law_generator" s_l_generator_b324 ["_law_script", "_law_index"] c_l_generator_b324) (D_l_random_7821 : Def P w K mg base CX0 2 "_law_random" s_l_random_7821 ["_law_generator_here", "_law_bound"] c_l_random_7821) (D_l_made_94f3 : Def P w K mg base CX0 2 "_law_made" s_l_made_94f3 ["_law_which", "_law_value"] c_l_made_94f3) (D_l_flags_6e5f : Def P w K mg base CX0 1 "_law_flags" s_l_flags_6e5f ["_law_error"] c_l_flags_6e5f) (hread : ∀ ds M Q, ds.length = 1 → sp ds M Q DX0 → t_l_law_5227 c_l_generator_b324 c_l_random_7821 c_l_made_94f3 c_l_flags_6e5f (dEnds M Q) (startD 9 ds) M) (hX : ∀ ds M Q E, sp ds M Q E → sp ds M Q DX0 := by exact fun _ _ _ _ h => h) : Def P w K mg base CX0 3 "law" s_l_law_5227 ["_law_script"] sp :=
 T.h_l_law_5227.ok (t := t_l_law_5227 c_l_generator_b324 c_l_random_7821 c_l_made_94f3 c_l_flags_6e5f) sc_l_law_5227 (fun f cdv A outer s H E hr gd => (dss_cons (ds_set (i := 1) sc_l_law_5227.nd (dcall D_l_generator_b324 hr gd (da_cons (dv 0) (da_cons de_int da_nil))))
 (dss_cons (ds_set (i := 2) sc_l_law_5227.nd (de_ix (de_lst (da_cons (dcall D_l_random_7821 hr gd (da_cons (dv 1) (da_cons (de_op opd_pow de_int de_int) da_nil))) (da_cons (de_op opd_mulS de_str (dcall D_l_random_7821 hr gd (da_cons (dv 1) (da_cons de_int da_nil)))) (da_cons (de_own (da_cons de_int (da_cons de_non da_nil))) (da_cons de_non (da_cons (de_tup (da_cons de_int (da_cons (de_tup (da_cons de_int da_nil)) da_nil))) da_nil)))))) (dcall D_l_random_7821 hr gd (da_cons (dv 1) (da_cons de_int da_nil)))))
 (dss_cons (ds_for rfl (di_range1 T.n_range (da_cons de_int da_nil)) (dg_name (i := 3) sc_l_law_5227.nd) (dss_cons (ds_par (i := 4) (j := 5) rfl sc_l_law_5227.nd (da_cons (dcall D_l_made_94f3 hr gd (da_cons (dv 3) (da_cons (dv 2) da_nil))) (da_cons (dcall D_l_made_94f3 hr gd (da_cons (dv 3) (da_cons (dv 2) da_nil))) da_nil)))
 (dss_cons (ds_if (DW.dt (dw_or (dt_cmp (opd_ne (u64 hr)) (dcall D_l_flags_6e5f hr gd (da_cons (dv 4) da_nil)) (de_lc false (own := [("_law_place", 6)]) rfl sc_l_law_5227.nd (blkOk_by (N := ["_law_script", "_law_generator_here", "_law_value", "_law_which", "_law_error", "_law_other", "_law_place", "_law_bare", "_law_field"]) (own := [("_law_place", 6)]) (sc := (defScope s_l_law_5227)) (by decide +kernel)) (di_range1 T.n_range (da_cons de_int da_nil)) (fun _ _ _ _ _ => (dcg_name (i := 6) sc_l_law_5227.nd)) (fun _ _ _ _ _ => dts_nil) (fun _ _ _ _ _ => (de_cmp (opd_eq (u64 hr)) (dv 6) (dv 3) (nomark _)))) (nomark _)) (dw_or (dt_not (dt_tru (de_blt (cd_isy T.isE) T.n_isinstance (da_cons (dv 4) (da_cons (let ⟨_, h⟩ := T.s_SheetError; de_gname h.1.ns h.2) da_nil))))) (dw_or1 (dt_not (dt_tru (de_blt (cd_isy T.isE) T.n_isinstance (da_cons (dv 4) (da_cons (de_bltn (v := .ty "ValueError") T.n_ValueError rfl) da_nil))))))))) (dss_one (ds_ret de_bl)) dss_nil)
 (dss_cons (ds_if (dt_tru (de_blt cd_isi T.n_isinstance (da_cons (dv 2) (da_cons (de_bltn (v := .ty "list") T.n_list rfl) da_nil)))) (dss_one (ds_expr (de_append (dv 2) (da_cons (dv 3) da_nil)))) dss_nil)
 (dss_one (ds_if (dt_cmp (opd_ne (u64 hr)) (de_blt (cd_reprE gd (ux hr)) T.n_repr (da_cons (de_lst (da_cons (de_fld (dv 4)) (da_cons (de_fld (dv 5)) da_nil))) da_nil)) (de_blt (cd_reprE gd (ux hr)) T.n_repr (da_cons (de_lst (da_cons (dv 2) (da_cons (dv 2) da_nil))) da_nil)) (nomark _)) (dss_one (ds_ret de_bl)) dss_nil))))))
 (dss_cons (ds_set (i := 7) sc_l_law_5227.nd (de_lst (da_cons (de_fld (let ⟨_, _, _, h⟩ := T.e_InvalidMeasure; de_err0 h hr)) (da_cons (de_fld (let ⟨_, _, _, h⟩ := T.e_InvalidNumber; de_err0 h hr)) (da_cons (de_fld (let ⟨_, _, _, h⟩ := T.e_InvalidRoot; de_err0 h hr)) (da_cons (de_fld (let ⟨_, _, _, h⟩ := T.e_InvalidCutting; de_err0 h hr)) (da_cons (de_fld (let ⟨_, _, _, h⟩ := T.e_InvalidDeed; de_err0 h hr)) (da_cons (de_fld (let ⟨_, _, _, h⟩ := T.e_InvalidWord; de_err0 h hr)) da_nil))))))))
 (dss_cons (ds_set (i := 7) sc_l_law_5227.nd (de_op opd_add (dv 7) (de_lst (da_cons (de_fld (let ⟨_, _, _, h⟩ := T.e_InvalidList; de_err0 h hr)) (da_cons (de_fld (let ⟨_, _, _, h⟩ := T.e_InvalidPoint; de_err0 h hr)) (da_cons (de_fld (let ⟨_, _, _, h⟩ := T.e_InvalidTable; de_err0 h hr)) (da_cons (de_fld (let ⟨_, _, _, h⟩ := T.e_InvalidFloor; de_err0 h hr)) (da_cons (de_fld (let ⟨_, _, _, h⟩ := T.e_Unlike; de_err0 h hr)) (da_cons (de_fld (let ⟨_, _, _, h⟩ := T.e_TooMany; de_err0 h hr)) da_nil)))))))))
 (dss_cons (ds_if (DW.dt (dw_or (dt_cmp (opd_ne (u64 hr)) (de_lc false (own := [("_law_field", 8)]) rfl sc_l_law_5227.nd (blkOk_by (N := ["_law_script", "_law_generator_here", "_law_value", "_law_which", "_law_error", "_law_other", "_law_place", "_law_bare", "_law_field"]) (own := [("_law_field", 8)]) (sc := (defScope s_l_law_5227)) (by decide +kernel)) (di_seq (dv 7)) (fun _ _ _ _ _ => (dcg_name (i := 8) sc_l_law_5227.nd)) (fun _ _ _ _ _ => (dts_one (dt_cmp opd_isnot (dv 8) de_non (nomark _)))) (fun _ _ _ _ _ => (dv 8))) (de_lst da_nil) (nomark _)) (dw_or (dt_cmp (opd_ne (u64 hr)) (de_fld (let ⟨_, _, _, h⟩ := T.e_TooMany; de_errK h hr (dk_cons de_int dk_nil))) de_int (nomark _)) (dw_or1 (dt_cmp (opd_ne (u64 hr)) (de_fld (let ⟨_, _, _, h⟩ := T.e_InvalidFloor; de_errK h hr (dk_cons (de_tup (da_cons de_int da_nil)) dk_nil))) (de_tup (da_cons de_int da_nil)) (nomark _)))))) (dss_one (ds_ret de_bl)) dss_nil)
 (dss_one (ds_ret (de_and (de_blt (cd_isy T.isE) T.n_isinstance (da_cons (let ⟨_, h, h2⟩ := T.x_SheetError; de_sheet h h2) (da_cons (de_bltn (v := .ty "ValueError") T.n_ValueError rfl) da_nil))) (de_one (de_cmp (opd_eq (u64 hr)) (dcall D_l_flags_6e5f hr gd (da_cons (let ⟨_, h, h2⟩ := T.x_SheetError; de_sheet h h2) da_nil)) (de_op opd_mulL (de_lst (da_cons de_bl da_nil)) de_int) (nomark _))))))))))))) hread hX
end
end C_k65
/-! MA: whole roots, common divisors, sizes; plain -/
namespace DL
/-! ### a great number, by its name -/
theorem log2_of {i : Int} (n : Nat) (h : i.natAbs < 2 ^ n) (h0 : 0 < n) : i.natAbs.log2 < n := by
  by_cases z : i.natAbs = 0
  · rw [z]; simpa using h0
  · exact (Nat.log2_lt z).mpr h
/-! ### whole roots -/
/-! ### common divisors -/
end DL
namespace DL
open PySem PySem.Spec PyProof.Rows L2
theorem gIn_two {i a b : Int} {M : Mem} {Q : DQ} : gIn false (.int i) (.lst [.int a, .int b]) M Q = Q (.bl (i == a || i == b)) M := by
  show Q (.bl ((a == i || (b == i || false)) != false)) M = _
  have e : ((a == i || (b == i || false)) != false) = (i == a || i == b) := by
    rw [Bool.bne_false, Bool.or_false, Bool.beq_comm (a := a), Bool.beq_comm (a := b)]
  rw [e]
theorem gRepr_bl {b : Bool} {M : Mem} {Q : DQ} : gRepr [.bl b] M Q = Q (.str (PyData.shown (.bool b))) M := by
  cases b <;> rfl
local macro_rules | `(tactic| walk_at "rd") => `(tactic| simp only [startD, List.map, List.replicate, List.length_cons, List.length_nil, List.append_eq, List.append_nil, List.nil_append, List.cons_append, Nat.reduceSub, Nat.reduceAdd, List.getElem?_cons_zero, List.getElem?_cons_succ, List.set_cons_zero, List.set_cons_succ,
  dC, dVar, dOp, dTru, gTru, tru, dChain, dAnd, dOr, dNot, dAndV, dOrV, dNotV, dIf, dNeg, gNeg, dNil, dCons, dTup, dLst, dOwn, gIx, rBin, gAdd, gCmpI, dCall, dCallK, dSeq, dNext, dDrop, dRet, dRetN, dIfS, dName, dGNil, dGCons, dGTup, dSub, gSetL, dAsg, dPar, dPar3, dAug, gIpI, dSeqI, gSeqI, dRngI, gRng1, gRng2, dCB, gAbs, gInt, gMax, gMin, gGcd, gLen, lenD, gIsi, tyM, tyD, dBits, gBits, dMet, gAppend, dPart, dNoPart, dSl, dEnds, gIs, isB, dNever, dFor, dLc, wipeD, dYes,
  sizeLine_eq, Nat.reduceLeDiff, gEq_int, gNe_int, gEq_strs, gNe_strs, gIn_two, gRepr_bl, rs_lst, rs_tup, rs_scr, rs_int, atI_0, atI_1, atI_2, atI_3, atI_4, atI_5, ixN_30, ixN_31, ixN_32, gEq_bl, gNe_bl, decide_eq_true_eq, beq_iff_eq, Bool.not_eq_true', beq_eq_false_iff_ne, decide_eq_false_iff_not, Bool.not_true, Bool.not_false, if_true, if_false, Bool.false_eq_true, ite_true, ite_false, true_and, and_true, ne_eq, Bool.bne_false, Bool.bne_true, reduceCtorEq])
/-! ### sizes -/
theorem fdiv_pos {a b : Int} (h : 0 < b) : a.fdiv b = a / b := Int.fdiv_eq_ediv_of_nonneg a (Int.le_of_lt h)
theorem fmod_pos {a b : Int} (h : 0 < b) : a.fmod b = a % b := Int.fmod_eq_emod_of_nonneg a (Int.le_of_lt h)
/-! ### kinds -/
theorem kb_NoneType_int : kitB "NoneType" "int" = some false := by decide +kernel
theorem kb_bool_int : kitB "bool" "int" = some true := by decide +kernel
theorem kb_int_int : kitB "int" "int" = some true := by decide +kernel
theorem kb_str_int : kitB "str" "int" = some false := by decide +kernel
theorem kb_tuple_int : kitB "tuple" "int" = some false := by decide +kernel
theorem kb_list_int : kitB "list" "int" = some false := by decide +kernel
theorem kb_dict_int : kitB "dict" "int" = some false := by decide +kernel
theorem kb_NoneType_bool : kitB "NoneType" "bool" = some false := by decide +kernel
theorem kb_bool_bool : kitB "bool" "bool" = some true := by decide +kernel
theorem kb_int_bool : kitB "int" "bool" = some false := by decide +kernel
theorem kb_str_bool : kitB "str" "bool" = some false := by decide +kernel
theorem kb_tuple_bool : kitB "tuple" "bool" = some false := by decide +kernel
theorem kb_list_bool : kitB "list" "bool" = some false := by decide +kernel
theorem kb_dict_bool : kitB "dict" "bool" = some false := by decide +kernel
theorem kb_NoneType_tuple : kitB "NoneType" "tuple" = some false := by decide +kernel
theorem kb_bool_tuple : kitB "bool" "tuple" = some false := by decide +kernel
theorem kb_int_tuple : kitB "int" "tuple" = some false := by decide +kernel
theorem kb_str_tuple : kitB "str" "tuple" = some false := by decide +kernel
theorem kb_tuple_tuple : kitB "tuple" "tuple" = some true := by decide +kernel
theorem kb_list_tuple : kitB "list" "tuple" = some false := by decide +kernel
theorem kb_dict_tuple : kitB "dict" "tuple" = some false := by decide +kernel
theorem kb_NoneType_list : kitB "NoneType" "list" = some false := by decide +kernel
theorem kb_bool_list : kitB "bool" "list" = some false := by decide +kernel
theorem kb_int_list : kitB "int" "list" = some false := by decide +kernel
theorem kb_str_list : kitB "str" "list" = some false := by decide +kernel
theorem kb_tuple_list : kitB "tuple" "list" = some false := by decide +kernel
theorem kb_list_list : kitB "list" "list" = some true := by decide +kernel
theorem kb_dict_list : kitB "dict" "list" = some false := by decide +kernel
local macro_rules | `(tactic| walk_at "kb") => `(tactic| simp only [kb_NoneType_list, kb_bool_list, kb_int_list, kb_str_list, kb_tuple_list, kb_list_list, kb_dict_list, kb_NoneType_int, kb_bool_int, kb_int_int, kb_str_int, kb_tuple_int, kb_list_int, kb_dict_int, kb_NoneType_bool, kb_bool_bool, kb_int_bool, kb_str_bool, kb_tuple_bool, kb_list_bool, kb_dict_bool, kb_NoneType_tuple, kb_bool_tuple, kb_int_tuple, kb_str_tuple, kb_tuple_tuple, kb_list_tuple, kb_dict_tuple, if_true, if_false, Bool.false_eq_true, ite_true, ite_false, Bool.not_true, Bool.not_false])
/-! ### measures -/
end DL
namespace DL
open PySem PySem.Spec PyProof.Rows L2
local macro_rules | `(tactic| walk_at "rd") => `(tactic| simp only [startD, List.map, List.replicate, List.length_cons, List.length_nil, List.append_eq, List.append_nil, List.nil_append, List.cons_append, Nat.reduceSub, Nat.reduceAdd, List.getElem?_cons_zero, List.getElem?_cons_succ, List.set_cons_zero, List.set_cons_succ,
  dC, dVar, dOp, dTru, gTru, tru, dChain, dAnd, dOr, dNot, dAndV, dOrV, dNotV, dIf, dNeg, gNeg, dNil, dCons, dTup, dLst, dOwn, gIx, rBin, gAdd, gCmpI, dCall, dCallK, dSeq, dNext, dDrop, dRet, dRetN, dIfS, dName, dGNil, dGCons, dGTup, dSub, gSetL, dAsg, dPar, dPar3, dAug, gIpI, dSeqI, gSeqI, dRngI, gRng1, gRng2, dCB, gAbs, gInt, gMax, gMin, gGcd, gLen, lenD, gIsi, tyM, tyD, dBits, gBits, dMet, gAppend, dPart, dNoPart, dSl, dEnds, gIs, isB, dNever, dFor, dLc, wipeD, dYes,
  sizeLine_eq, Nat.reduceLeDiff, gEq_int, gNe_int, gEq_strs, gNe_strs, gIn_two, gRepr_bl, rs_lst, rs_tup, rs_scr, rs_int, atI_0, atI_1, atI_2, atI_3, atI_4, atI_5, ixN_30, ixN_31, ixN_32, gEq_bl, gNe_bl, decide_eq_true_eq, beq_iff_eq, Bool.not_eq_true', beq_eq_false_iff_ne, decide_eq_false_iff_not, Bool.not_true, Bool.not_false, if_true, if_false, Bool.false_eq_true, ite_true, ite_false, true_and, and_true, ne_eq, Bool.bne_false, Bool.bne_true, reduceCtorEq])
local macro_rules | `(tactic| walk_at "rh") => `(tactic| simp only [*, startD, List.map, List.replicate, List.length_cons, List.length_nil, List.append_eq, List.append_nil, List.nil_append, List.cons_append, Nat.reduceSub, Nat.reduceAdd, List.getElem?_cons_zero, List.getElem?_cons_succ, List.set_cons_zero, List.set_cons_succ,
  dC, dVar, dOp, dTru, gTru, tru, dChain, dAnd, dOr, dNot, dAndV, dOrV, dNotV, dIf, dNeg, gNeg, dNil, dCons, dTup, dLst, dOwn, gIx, rBin, gAdd, gCmpI, dCall, dCallK, dSeq, dNext, dDrop, dRet, dRetN, dIfS, dName, dGNil, dGCons, dGTup, dSub, gSetL, dAsg, dPar, dPar3, dAug, gIpI, dSeqI, gSeqI, dRngI, gRng1, gRng2, dCB, gAbs, gInt, gMax, gMin, gGcd, gLen, lenD, gIsi, tyM, tyD, dBits, gBits, dMet, gAppend, dPart, dNoPart, dSl, dEnds, gIs, isB, dNever, dFor, dLc, wipeD, dYes,
  sizeLine_eq, Nat.reduceLeDiff, gEq_int, gNe_int, gEq_strs, gNe_strs, gIn_two, gRepr_bl, rs_lst, rs_tup, rs_scr, rs_int, atI_0, atI_1, atI_2, atI_3, atI_4, atI_5, ixN_30, ixN_31, ixN_32, gEq_bl, gNe_bl, decide_eq_true_eq, beq_iff_eq, Bool.not_eq_true', beq_eq_false_iff_ne, decide_eq_false_iff_not, Bool.not_true, Bool.not_false, if_true, if_false, Bool.false_eq_true, ite_true, ite_false, true_and, and_true, ne_eq, Bool.bne_false, Bool.bne_true, reduceCtorEq])
local macro_rules | `(tactic| walk_at "kb") => `(tactic| simp only [kb_NoneType_list, kb_bool_list, kb_int_list, kb_str_list, kb_tuple_list, kb_list_list, kb_dict_list, kb_NoneType_int, kb_bool_int, kb_int_int, kb_str_int, kb_tuple_int, kb_list_int, kb_dict_int, kb_NoneType_bool, kb_bool_bool, kb_int_bool, kb_str_bool, kb_tuple_bool, kb_list_bool, kb_dict_bool, kb_NoneType_tuple, kb_bool_tuple, kb_int_tuple, kb_str_tuple, kb_tuple_tuple, kb_list_tuple, kb_dict_tuple, if_true, if_false, Bool.false_eq_true, ite_true, ite_false, Bool.not_true, Bool.not_false])
/-! ### bounds and measures -/
/-! ### root numbers -/
/-! ### the least form of a root number -/
end DL
namespace DL
open PySem PySem.Spec PyProof.Rows L2
local macro_rules | `(tactic| walk_at "rd") => `(tactic| simp only [startD, List.map, List.replicate, List.length_cons, List.length_nil, List.append_eq, List.append_nil, List.nil_append, List.cons_append, Nat.reduceSub, Nat.reduceAdd, List.getElem?_cons_zero, List.getElem?_cons_succ, List.set_cons_zero, List.set_cons_succ,
  dC, dVar, dOp, dTru, gTru, tru, dChain, dAnd, dOr, dNot, dAndV, dOrV, dNotV, dIf, dNeg, gNeg, dNil, dCons, dTup, dLst, dOwn, gIx, rBin, gAdd, gCmpI, dCall, dCallK, dSeq, dNext, dDrop, dRet, dRetN, dIfS, dName, dGNil, dGCons, dGTup, dSub, gSetL, dAsg, dPar, dPar3, dAug, gIpI, dSeqI, gSeqI, dRngI, gRng1, gRng2, dCB, gAbs, gInt, gMax, gMin, gGcd, gLen, lenD, gIsi, tyM, tyD, dBits, gBits, dMet, gAppend, dPart, dNoPart, dSl, dEnds, gIs, isB, dNever, dFor, dLc, wipeD, dYes,
  sizeLine_eq, Nat.reduceLeDiff, gEq_int, gNe_int, gEq_strs, gNe_strs, gIn_two, gRepr_bl, rs_lst, rs_tup, rs_scr, rs_int, atI_0, atI_1, atI_2, atI_3, atI_4, atI_5, ixN_30, ixN_31, ixN_32, gEq_bl, gNe_bl, decide_eq_true_eq, beq_iff_eq, Bool.not_eq_true', beq_eq_false_iff_ne, decide_eq_false_iff_not, Bool.not_true, Bool.not_false, if_true, if_false, Bool.false_eq_true, ite_true, ite_false, true_and, and_true, ne_eq, Bool.bne_false, Bool.bne_true, reduceCtorEq])
local macro_rules | `(tactic| walk_at "rh") => `(tactic| simp only [*, startD, List.map, List.replicate, List.length_cons, List.length_nil, List.append_eq, List.append_nil, List.nil_append, List.cons_append, Nat.reduceSub, Nat.reduceAdd, List.getElem?_cons_zero, List.getElem?_cons_succ, List.set_cons_zero, List.set_cons_succ,
  dC, dVar, dOp, dTru, gTru, tru, dChain, dAnd, dOr, dNot, dAndV, dOrV, dNotV, dIf, dNeg, gNeg, dNil, dCons, dTup, dLst, dOwn, gIx, rBin, gAdd, gCmpI, dCall, dCallK, dSeq, dNext, dDrop, dRet, dRetN, dIfS, dName, dGNil, dGCons, dGTup, dSub, gSetL, dAsg, dPar, dPar3, dAug, gIpI, dSeqI, gSeqI, dRngI, gRng1, gRng2, dCB, gAbs, gInt, gMax, gMin, gGcd, gLen, lenD, gIsi, tyM, tyD, dBits, gBits, dMet, gAppend, dPart, dNoPart, dSl, dEnds, gIs, isB, dNever, dFor, dLc, wipeD, dYes,
  sizeLine_eq, Nat.reduceLeDiff, gEq_int, gNe_int, gEq_strs, gNe_strs, gIn_two, gRepr_bl, rs_lst, rs_tup, rs_scr, rs_int, atI_0, atI_1, atI_2, atI_3, atI_4, atI_5, ixN_30, ixN_31, ixN_32, gEq_bl, gNe_bl, decide_eq_true_eq, beq_iff_eq, Bool.not_eq_true', beq_eq_false_iff_ne, decide_eq_false_iff_not, Bool.not_true, Bool.not_false, if_true, if_false, Bool.false_eq_true, ite_true, ite_false, true_and, and_true, ne_eq, Bool.bne_false, Bool.bne_true, reduceCtorEq])
local macro_rules | `(tactic| walk_at "kb") => `(tactic| simp only [kb_NoneType_list, kb_bool_list, kb_int_list, kb_str_list, kb_tuple_list, kb_list_list, kb_dict_list, kb_NoneType_int, kb_bool_int, kb_int_int, kb_str_int, kb_tuple_int, kb_list_int, kb_dict_int, kb_NoneType_bool, kb_bool_bool, kb_int_bool, kb_str_bool, kb_tuple_bool, kb_list_bool, kb_dict_bool, kb_NoneType_tuple, kb_bool_tuple, kb_int_tuple, kb_str_tuple, kb_tuple_tuple, kb_list_tuple, kb_dict_tuple, if_true, if_false, Bool.false_eq_true, ite_true, ite_false, Bool.not_true, Bool.not_false])
/-! ### the law's own draws -/
theorem sm_of {i : Int} (n : Nat) (h1 : -(2 ^ n : Int) < i) (h2 : i < 2 ^ n) (hn : n ≤ 400000 := by decide) : Sm i := by
  refine Sm.of n ?_ hn
  have e : ((2 ^ n : Nat) : Int) = (2 : Int) ^ n := by rw [Int.natCast_pow]; rfl
  omega
theorem fm_range {a b : Int} (h : 0 < b) : 0 ≤ a.fmod b ∧ a.fmod b < b := by
  rw [fmod_pos h]
  exact ⟨Int.emod_nonneg _ (by omega), Int.emod_lt_of_pos _ h⟩
def P31 : Int := 2147483648
def P40 : Int := 1099511627776
def sp_hash : DSp := fun ds M Q _ => ∃ s c : Int, ds = [.int s, .int c] ∧ 0 ≤ s ∧ s < P31 ∧ 0 ≤ c ∧ c ≤ P40 ∧ ∀ v, 0 ≤ v → v < P31 → Q (.int v) M
theorem rd_l_hash_9cde : ∀ ds M Q, ds.length = 2 → sp_hash ds M Q DX0 → t_l_hash_9cde (dEnds M Q) (startD 3 ds) M := by
  rintro _ M Q - ⟨s, c, rfl, s0, s1, c0, c1, q⟩
  unfold P31 P40 at *
  unfold t_l_hash_9cde
  walk_at "rd"
  have ss : Sm s := sm_of 32 (by omega) (by omega)
  have sc : Sm c := sm_of 42 (by omega) (by omega)
  have hm : ∀ a : Int, 0 ≤ a.fmod 2147483629 ∧ a.fmod 2147483629 < 2147483629 := fun a => fm_range (by decide)
  have k1 : Sm (16777259 * c) := sm_of 72 (by omega) (by omega)
  refine ⟨⟨ss, sm_of 32 (by decide) (by decide)⟩, ⟨sm_of 32 (by decide) (by decide), sc⟩, ⟨k1, sc⟩, ⟨sm_of 32 (by decide) (by decide), sc⟩, (by decide : (2147483629 : Int) ≠ 0), ?_⟩
  generalize hv : Int.fmod _ 2147483629 = v
  have v1 : 0 ≤ v ∧ v < 2147483629 := by rw [← hv]; exact hm _
  have sv : Sm v := sm_of 32 (by omega) (by omega)
  refine ⟨⟨sv, sv⟩, ⟨sm_of 32 (by decide) (by decide), sc⟩, (by decide : (2147483587 : Int) ≠ 0), ?_⟩
  generalize hw : Int.fmod _ 2147483587 = w
  have w1 : 0 ≤ w ∧ w < 2147483587 := by rw [← hw]; exact fm_range (by decide)
  refine ⟨⟨sm_of 32 (by omega) (by omega), sm_of 32 (by decide) (by decide)⟩, (by decide : (2147483647 : Int) ≠ 0), ?_⟩
  have r1 : 0 ≤ (w * 69069).fmod 2147483647 ∧ (w * 69069).fmod 2147483647 < 2147483647 := fm_range (by decide)
  exact rtq (q _ r1.1 (by omega))
/-- cell k is a generator that has counted n, at most -/
def Gn (k : Nat) (n : Int) (M : Mem) : Prop := ∃ a s c : Int, M[k]? = some (.lst [.int a, .int s, .int c]) ∧ 0 ≤ s ∧ s < P31 ∧ 0 ≤ c ∧ c ≤ n
/-- cell k alone has changed -/
def Gst (k : Nat) (n : Int) (M M' : Mem) : Prop := M'.length = M.length ∧ Gn k n M' ∧ ∀ i, i ≠ k → M'[i]? = M[i]?
theorem Gn.le {k : Nat} {n m : Int} {M : Mem} (h : Gn k n M) (hn : n ≤ m) : Gn k m M := by
  obtain ⟨a, s, c, h1, h2, h3, h4, h5⟩ := h
  exact ⟨a, s, c, h1, h2, h3, h4, by omega⟩
theorem Gst.refl {k : Nat} {n : Int} {M : Mem} (h : Gn k n M) : Gst k n M M := ⟨rfl, h, fun _ _ => rfl⟩
theorem Gst.trans {k : Nat} {n m : Int} {M M' M'' : Mem} (h : Gst k n M M') (g : Gst k m M' M'') : Gst k m M M'' :=
  ⟨g.1.trans h.1, g.2.1, fun i hi => (g.2.2 i hi).trans (h.2.2 i hi)⟩
theorem Gst.le {k : Nat} {n m : Int} {M M' : Mem} (h : Gst k n M M') (hn : n ≤ m) : Gst k m M M' := ⟨h.1, h.2.1.le hn, h.2.2⟩
theorem Gst.set {k : Nat} {n : Int} {M : Mem} {a s c : Int} (hk : k < M.length) (h2 : 0 ≤ s) (h3 : s < P31) (h4 : 0 ≤ c) (h5 : c ≤ n) : Gst k n M (M.set k (.lst [.int a, .int s, .int c])) :=
  ⟨List.length_set, ⟨a, s, c, List.getElem?_set_self hk, h2, h3, h4, h5⟩, fun _ hi => List.getElem?_set_ne (Ne.symm hi)⟩
/-- a def that has changed the generator alone -/
theorem Gst.rtq {k : Nat} {n : Int} {M M' : Mem} {Q : DQ} {d : D} (h : Gst k n M M') (q : Q d M') (hb : below M'.length d = true := by rfl) : Rtq M Q d M' := by
  refine rtqC q (Nat.le_of_eq h.1.symm) hb fun i c hc => ?_
  by_cases hi : i = k
  · subst hi
    obtain ⟨a, s, c', e, _⟩ := h.2.1
    rw [e] at hc
    cases hc
    exact .inr rfl
  · rw [h.2.2 i hi] at hc
    exact .inl hc
def sp_random : DSp := fun ds M Q _ => ∃ (k : Nat) (b n : Int), ds = [.own k, .int b] ∧ 0 < b ∧ b < 2 ^ 900 ∧ Gn k n M ∧ n ≤ P40 - 40 ∧ ∀ v M', 0 ≤ v → v < b → Gst k (n + 40) M M' → Q (.int v) M'
theorem bits_le {b : Int} {n : Nat} (h0 : 0 < b) (h : b < 2 ^ n) : Builtin.Int.intBits b ≤ n := by
  unfold Builtin.Int.intBits
  rw [if_neg (by simp; omega)]
  have h1 : b.natAbs < 2 ^ n := by
    have e : ((2 ^ n : Nat) : Int) = (2 : Int) ^ n := by rw [Int.natCast_pow]; rfl
    omega
  have := (Nat.log2_lt (by omega)).mpr h1
  omega
theorem rd_l_random_7821 : ∀ ds M Q, ds.length = 2 → sp_random ds M Q DX0 → t_l_random_7821 sp_hash (dEnds M Q) (startD 4 ds) M := by
  rintro _ M Q - ⟨k, b, n, rfl, b0, b1, ⟨a, s, c, hk, s0, s1, c0, c1⟩, hn, q⟩
  have kl : k < M.length := (List.getElem?_eq_some_iff.mp hk).1
  unfold t_l_random_7821
  walk_at "rd"
  have e0 : res M (.own k) = .lst [.int a, .int s, .int c] := by unfold res; dsimp only; rw [hk]
  simp only [e0, hk]
  walk_at "rd"
  by_cases ha : 0 < a
  · rw [if_pos ha]
    have := fm_range (a := a) b0
    refine ⟨(by omega : b ≠ 0), ⟨by omega, Nat.lt_of_lt_of_le (log2_of 900 (by
      have e : ((2 ^ 900 : Nat) : Int) = (2 : Int) ^ 900 := by rw [Int.natCast_pow]; rfl
      omega) (by decide)) (by decide)⟩, ?_⟩
    exact (Gst.set kl s0 s1 c0 (by omega)).rtq (q _ _ this.1 this.2 (Gst.set kl s0 s1 c0 (by omega)))
  · rw [if_neg ha]
    have hb := bits_le b0 b1
    generalize hbits : Builtin.Int.intBits b = bits at hb
    have ef : ((bits : Nat) : Int).fdiv 30 = (bits / 30 : Nat) := by rw [fdiv_pos (by decide)]; omega
    rw [ef]
    refine ⟨⟨by decide, by decide⟩, ⟨by omega, by omega⟩, ?_⟩
    have eT : (1 + ((bits / 30 : Nat) : Int)).toNat = 1 + bits / 30 := by omega
    rw [eT]
    generalize hT : 1 + bits / 30 = T
    have hT1 : T ≤ 31 := by omega
    refine ⟨fun i r M' => i ≤ T ∧ Gst k (n + i) M M' ∧ ∃ dr tn, r = [some (.own k), some (.int b), some (.int dr), tn] ∧ 0 ≤ dr ∧ dr < 2 ^ (32 * i), ⟨by omega, ⟨rfl, ⟨a, s, c, hk, s0, s1, c0, by omega⟩, fun _ _ => rfl⟩, 0, _, rfl, by decide, by decide⟩, ?_⟩
    rintro i r M' ⟨hi, hg, dr, tn, rfl, d0, d1⟩
    refine ⟨trivial, fun hl => ?_, fun d hd => ?_⟩
    · walk_at "rd"
      have := fm_range (a := dr) b0
      exact ⟨(by omega : b ≠ 0), hg.rtq (q _ _ this.1 this.2 (hg.le (by omega)))⟩
    · obtain ⟨hi2, rfl⟩ := rng_get.mp hd
      obtain ⟨a', s', c', hk', s0', s1', c0', c1'⟩ := hg.2.1
      have kl' : k < M'.length := (List.getElem?_eq_some_iff.mp hk').1
      have e1 : res M' (.own k) = .lst [.int a', .int s', .int c'] := by unfold res; dsimp only; rw [hk']
      walk_at "rd"
      simp only [e1, hk']
      walk_at "rd"
      have e2 : res (M'.set k (.lst [.int a', .int s', .int (c' + 1)])) (.own k) = .lst [.int a', .int s', .int (c' + 1)] := by unfold res; dsimp only; rw [List.getElem?_set_self kl']
      simp only [e2]
      walk_at "rd"
      have sd : Sm dr := sm_of (32 * i) (by have := Int.pow_pos (n := 2) (m := 32 * i) (by decide); omega) d1 (by omega)
      unfold P40 at hn
      refine ⟨⟨sd, sm_of 32 (by decide) (by decide)⟩, s', c' + 1, rfl, s0', s1', by omega, by unfold P40; omega, fun v v0 v1 => ?_⟩
      refine ⟨by omega, hg.trans (Gst.set kl' s0' s1' (by omega) (by omega)), _, _, rfl, by omega, ?_⟩
      unfold P31 at v1
      have e3 : (2 : Int) ^ (32 * (i + 1)) = 2 ^ (32 * i) * 4294967296 := by rw [Nat.mul_add, Int.pow_add]; rfl
      rw [e3]
      omega
def sp_cell : DSp := fun ds M Q _ => ∃ (ns : List Int) (i : Int), ds = [.scr ns, .int i] ∧ 0 ≤ i ∧ ∀ v, Q (.int v) M
theorem rd_l_cell_cf3b : ∀ ds M Q, ds.length = 2 → sp_cell ds M Q DX0 → t_l_cell_cf3b (dEnds M Q) (startD 2 ds) M := by
  rintro _ M Q - ⟨ns, i, rfl, i0, q⟩
  unfold t_l_cell_cf3b
  walk_at "rd"
  by_cases hi : i < (ns.length : Nat)
  · rw [if_pos hi]
    have e : i = (i.toNat : Nat) := by omega
    have hl : i.toNat < ns.length := by omega
    rw [e, atI_of _ hl, List.getElem?_eq_getElem hl]
    exact rtq (q _)
  · rw [if_neg hi]
    obtain ⟨xs, ex⟩ := cut_map ns none (some 1)
    unfold gSlL
    walk_at "rd"
    rw [ex]
    unfold gSum
    walk_at "rd"
    rw [intsD_map]
    exact ⟨(by decide : (1000003 : Int) ≠ 0), rtq (q _)⟩
def sp_generator : DSp := fun ds M Q _ => ∃ (ns : List Int) (i : Int), ds = [.scr ns, .int i] ∧ 0 ≤ i ∧ i < P31 ∧ ∀ M', M'.length = M.length + 1 → Gn M.length (1000 * i) M' → (∀ j, j < M.length → M'[j]? = M[j]?) → Q (.own M.length) M'
theorem rd_l_generator_b324 : ∀ ds M Q, ds.length = 2 → sp_generator ds M Q DX0 → t_l_generator_b324 sp_cell (dEnds M Q) (startD 3 ds) M := by
  rintro _ M Q - ⟨ns, i, rfl, i0, i1, q⟩
  unfold t_l_generator_b324
  walk_at "rd"
  refine ⟨ns, i, rfl, i0, fun v => ?_⟩
  dsimp only
  have cp : CPow 10 18 ∧ CPow 10 60 ∧ CPow (10 ^ Int.toNat 60) 10 := by refine ⟨?_, ?_, ?_⟩ <;> (unfold CPow; decide)
  have hi : Sm i := by unfold P31 at i1; exact sm_of 32 (by omega) (by omega)
  refine ⟨cp.1, cp.2.1, cp.2.2, ?_, (by decide : (2147483647 : Int) ≠ 0), ⟨Sm.of 20 (by decide), hi⟩, ?_⟩
  · have h1 : (0 : Int) < (10 ^ Int.toNat 60) ^ Int.toNat 10 := Int.pow_pos (Int.pow_pos (by decide))
    exact fun e => by rw [e] at h1; exact absurd h1 (by decide)
  · have g := fm_range (a := v) (b := 2147483647) (by decide)
    have hl : ∀ c : Own, (M ++ [c])[M.length]? = some c := fun c => by rw [List.getElem?_append_right (Nat.le_refl _), Nat.sub_self]; rfl
    refine rtqC (q _ (by simp) ⟨_, _, _, hl _, g.1, by unfold P31; omega, by omega, Int.le_refl _⟩ fun j hj => List.getElem?_append_left hj) (by simp) (by simp only [below]; exact decide_eq_true (by simp)) fun j c hc => ?_
    by_cases hj : j < M.length
    · rw [List.getElem?_append_left hj] at hc; exact .inl hc
    · have hj2 : j < M.length + 1 := by
        have := (List.getElem?_eq_some_iff.mp hc).1
        simpa using this
      have e : j = M.length := by omega
      subst e
      rw [hl] at hc
      cases hc
      exact .inr rfl
end DL
namespace DL
open PySem PySem.Spec PyProof.Rows L2
local macro_rules | `(tactic| walk_at "rd") => `(tactic| simp only [startD, List.map, List.replicate, List.length_cons, List.length_nil, List.append_eq, List.append_nil, List.nil_append, List.cons_append, Nat.reduceSub, Nat.reduceAdd, List.getElem?_cons_zero, List.getElem?_cons_succ, List.set_cons_zero, List.set_cons_succ,
  dC, dVar, dOp, dTru, gTru, tru, dChain, dAnd, dOr, dNot, dAndV, dOrV, dNotV, dIf, dNeg, gNeg, dNil, dCons, dTup, dLst, dOwn, gIx, rBin, gAdd, gCmpI, dCall, dCallK, dSeq, dNext, dDrop, dRet, dRetN, dIfS, dName, dGNil, dGCons, dGTup, dSub, gSetL, dAsg, dPar, dPar3, dAug, gIpI, dSeqI, gSeqI, dRngI, gRng1, gRng2, dCB, gAbs, gInt, gMax, gMin, gGcd, gLen, lenD, gIsi, tyM, tyD, dBits, gBits, dMet, gAppend, dPart, dNoPart, dSl, dEnds, gIs, isB, dNever, dFor, dLc, wipeD, dYes,
  sizeLine_eq, Nat.reduceLeDiff, gEq_int, gNe_int, gEq_strs, gNe_strs, gIn_two, gRepr_bl, rs_lst, rs_tup, rs_scr, rs_int, atI_0, atI_1, atI_2, atI_3, atI_4, atI_5, ixN_30, ixN_31, ixN_32, gEq_bl, gNe_bl, decide_eq_true_eq, beq_iff_eq, Bool.not_eq_true', beq_eq_false_iff_ne, decide_eq_false_iff_not, Bool.not_true, Bool.not_false, if_true, if_false, Bool.false_eq_true, ite_true, ite_false, true_and, and_true, ne_eq, Bool.bne_false, Bool.bne_true, reduceCtorEq])
local macro_rules | `(tactic| walk_at "rh") => `(tactic| simp only [*, startD, List.map, List.replicate, List.length_cons, List.length_nil, List.append_eq, List.append_nil, List.nil_append, List.cons_append, Nat.reduceSub, Nat.reduceAdd, List.getElem?_cons_zero, List.getElem?_cons_succ, List.set_cons_zero, List.set_cons_succ,
  dC, dVar, dOp, dTru, gTru, tru, dChain, dAnd, dOr, dNot, dAndV, dOrV, dNotV, dIf, dNeg, gNeg, dNil, dCons, dTup, dLst, dOwn, gIx, rBin, gAdd, gCmpI, dCall, dCallK, dSeq, dNext, dDrop, dRet, dRetN, dIfS, dName, dGNil, dGCons, dGTup, dSub, gSetL, dAsg, dPar, dPar3, dAug, gIpI, dSeqI, gSeqI, dRngI, gRng1, gRng2, dCB, gAbs, gInt, gMax, gMin, gGcd, gLen, lenD, gIsi, tyM, tyD, dBits, gBits, dMet, gAppend, dPart, dNoPart, dSl, dEnds, gIs, isB, dNever, dFor, dLc, wipeD, dYes,
  sizeLine_eq, Nat.reduceLeDiff, gEq_int, gNe_int, gEq_strs, gNe_strs, gIn_two, gRepr_bl, rs_lst, rs_tup, rs_scr, rs_int, atI_0, atI_1, atI_2, atI_3, atI_4, atI_5, ixN_30, ixN_31, ixN_32, gEq_bl, gNe_bl, decide_eq_true_eq, beq_iff_eq, Bool.not_eq_true', beq_eq_false_iff_ne, decide_eq_false_iff_not, Bool.not_true, Bool.not_false, if_true, if_false, Bool.false_eq_true, ite_true, ite_false, true_and, and_true, ne_eq, Bool.bne_false, Bool.bne_true, reduceCtorEq])
local macro_rules | `(tactic| walk_at "kb") => `(tactic| simp only [kb_NoneType_list, kb_bool_list, kb_int_list, kb_str_list, kb_tuple_list, kb_list_list, kb_dict_list, kb_NoneType_int, kb_bool_int, kb_int_int, kb_str_int, kb_tuple_int, kb_list_int, kb_dict_int, kb_NoneType_bool, kb_bool_bool, kb_int_bool, kb_str_bool, kb_tuple_bool, kb_list_bool, kb_dict_bool, kb_NoneType_tuple, kb_bool_tuple, kb_int_tuple, kb_str_tuple, kb_tuple_tuple, kb_list_tuple, kb_dict_tuple, if_true, if_false, Bool.false_eq_true, ite_true, ite_false, Bool.not_true, Bool.not_false])
theorem dSeq_open {a b : DTS} {E : DEnds} {r : Env} {M : Mem} (h : ∀ B : Env → Mem → Prop, b E = B → a { E with nx := B } r M) : dSeq a b E r M := h _ rfl
/-! ### the least form: scaled, its size -/
end DL
namespace DL
open PySem PySem.Spec PyProof.Rows L2
local macro_rules | `(tactic| walk_at "rd") => `(tactic| simp only [startD, List.map, List.replicate, List.length_cons, List.length_nil, List.append_eq, List.append_nil, List.nil_append, List.cons_append, Nat.reduceSub, Nat.reduceAdd, List.getElem?_cons_zero, List.getElem?_cons_succ, List.set_cons_zero, List.set_cons_succ,
  dC, dVar, dOp, dTru, gTru, tru, dChain, dAnd, dOr, dNot, dAndV, dOrV, dNotV, dIf, dNeg, gNeg, dNil, dCons, dTup, dLst, dOwn, gIx, rBin, gAdd, gCmpI, dCall, dCallK, dSeq, dNext, dDrop, dRet, dRetN, dIfS, dName, dGNil, dGCons, dGTup, dSub, gSetL, dAsg, dPar, dPar3, dAug, gIpI, dSeqI, gSeqI, dRngI, gRng1, gRng2, dCB, gAbs, gInt, gMax, gMin, gGcd, gLen, lenD, gIsi, tyM, tyD, dBits, gBits, dMet, gAppend, dPart, dNoPart, dSl, gSl_tup, gSl_lst, cut_1, dEnds, gIs, isB, dNever, dCallX, dRaise, dTry, dFld, dCallV, gLRng, gFrz, dFrz, dFor, dLc, wipeD, dYes,
  sizeLine_eq, Nat.reduceLeDiff, gEq_int, gNe_int, gEq_strs, gNe_strs, gIn_two, gRepr_bl, rs_lst, rs_tup, rs_scr, rs_int, atI_0, atI_1, atI_2, atI_3, atI_4, atI_5, ixN_30, ixN_31, ixN_32, gEq_bl, gNe_bl, decide_eq_true_eq, beq_iff_eq, Bool.not_eq_true', beq_eq_false_iff_ne, decide_eq_false_iff_not, Bool.not_true, Bool.not_false, if_true, if_false, Bool.false_eq_true, ite_true, ite_false, true_and, and_true, ne_eq, Bool.bne_false, Bool.bne_true, reduceCtorEq])
local macro_rules | `(tactic| walk_at "rh") => `(tactic| simp only [*, startD, List.map, List.replicate, List.length_cons, List.length_nil, List.append_eq, List.append_nil, List.nil_append, List.cons_append, Nat.reduceSub, Nat.reduceAdd, List.getElem?_cons_zero, List.getElem?_cons_succ, List.set_cons_zero, List.set_cons_succ,
  dC, dVar, dOp, dTru, gTru, tru, dChain, dAnd, dOr, dNot, dAndV, dOrV, dNotV, dIf, dNeg, gNeg, dNil, dCons, dTup, dLst, dOwn, gIx, rBin, gAdd, gCmpI, dCall, dCallK, dSeq, dNext, dDrop, dRet, dRetN, dIfS, dName, dGNil, dGCons, dGTup, dSub, gSetL, dAsg, dPar, dPar3, dAug, gIpI, dSeqI, gSeqI, dRngI, gRng1, gRng2, dCB, gAbs, gInt, gMax, gMin, gGcd, gLen, lenD, gIsi, tyM, tyD, dBits, gBits, dMet, gAppend, dPart, dNoPart, dSl, gSl_tup, gSl_lst, cut_1, dEnds, gIs, isB, dNever, dCallX, dRaise, dTry, dFld, dCallV, gLRng, gFrz, dFrz, dFor, dLc, wipeD, dYes,
  sizeLine_eq, Nat.reduceLeDiff, gEq_int, gNe_int, gEq_strs, gNe_strs, gIn_two, gRepr_bl, rs_lst, rs_tup, rs_scr, rs_int, atI_0, atI_1, atI_2, atI_3, atI_4, atI_5, ixN_30, ixN_31, ixN_32, gEq_bl, gNe_bl, decide_eq_true_eq, beq_iff_eq, Bool.not_eq_true', beq_eq_false_iff_ne, decide_eq_false_iff_not, Bool.not_true, Bool.not_false, if_true, if_false, Bool.false_eq_true, ite_true, ite_false, true_and, and_true, ne_eq, Bool.bne_false, Bool.bne_true, reduceCtorEq])
local macro_rules | `(tactic| walk_at "kb") => `(tactic| simp only [kb_NoneType_list, kb_bool_list, kb_int_list, kb_str_list, kb_tuple_list, kb_list_list, kb_dict_list, kb_NoneType_int, kb_bool_int, kb_int_int, kb_str_int, kb_tuple_int, kb_list_int, kb_dict_int, kb_NoneType_bool, kb_bool_bool, kb_int_bool, kb_str_bool, kb_tuple_bool, kb_list_bool, kb_dict_bool, kb_NoneType_tuple, kb_bool_tuple, kb_int_tuple, kb_str_tuple, kb_tuple_tuple, kb_list_tuple, kb_dict_tuple, if_true, if_false, Bool.false_eq_true, ite_true, ite_false, Bool.not_true, Bool.not_false])
/-! k65: errors by their classes -/
def errNm : List Str := ["InvalidMeasure", "InvalidNumber", "InvalidRoot", "InvalidCutting", "InvalidDeed", "InvalidWord", "InvalidList", "InvalidPoint", "InvalidTable", "InvalidFloor", "Unlike", "TooMany"]
theorem gReprE_res65 {d x : D} {z : Str} {M : Mem} {Q : DQ} (hd : resE M 4 d = x) (hz : shwnZ x = some z) (q : Q (.str z) M) : gReprE [d] M Q := by
  unfold gReprE
  dsimp only
  rw [hd, hz]
  exact q
def sp_lerr (lo hi : Nat) : DSp := fun ds M Q _ => ∃ (w : Nat) (v : D), ds = [.int w, v] ∧ lo ≤ w ∧ w < hi ∧ below M.length v = true ∧ ∀ x, errNm[w]? = some x → Q (.exc x v) M
theorem rd_l_first_5822 : ∀ ds M Q, ds.length = 2 → sp_lerr 0 6 ds M Q DX0 → t_l_first_5822 (dEnds M Q) (startD 2 ds) M := by
  rintro _ M Q - ⟨w, v, rfl, w0, w6, hb, q⟩
  unfold t_l_first_5822
  have fin : ∀ x, errNm[w]? = some x → Rtq M Q (.exc x v) M := fun x hx => rtq (q x hx) (by simp only [below]; exact hb)
  rcases (by omega : w = 0 ∨ w = 1 ∨ w = 2 ∨ w = 3 ∨ w = 4 ∨ w = 5) with rfl | rfl | rfl | rfl | rfl | rfl <;> (unfold dErr; walk_at "rd"; simp; exact fin _ rfl)
theorem rd_l_second_dbe7 : ∀ ds M Q, ds.length = 2 → sp_lerr 6 12 ds M Q DX0 → t_l_second_dbe7 (dEnds M Q) (startD 2 ds) M := by
  rintro _ M Q - ⟨w, v, rfl, w0, w6, hb, q⟩
  unfold t_l_second_dbe7
  have fin : ∀ x, errNm[w]? = some x → Rtq M Q (.exc x v) M := fun x hx => rtq (q x hx) (by simp only [below]; exact hb)
  rcases (by omega : w = 6 ∨ w = 7 ∨ w = 8 ∨ w = 9 ∨ w = 10 ∨ w = 11) with rfl | rfl | rfl | rfl | rfl | rfl <;> (unfold dErr; walk_at "rd"; simp; exact fin _ rfl)
theorem rd_l_made_94f3 : ∀ ds M Q, ds.length = 2 → sp_lerr 0 12 ds M Q DX0 → t_l_made_94f3 (sp_lerr 0 6) (sp_lerr 6 12) (dEnds M Q) (startD 2 ds) M := by
  rintro _ M Q - ⟨w, v, rfl, w0, w6, hb, q⟩
  have fin : ∀ x, errNm[w]? = some x → Rtq M Q (.exc x v) M := fun x hx => rtq (q x hx) (by simp only [below]; exact hb)
  unfold t_l_made_94f3
  walk_at "rd"
  by_cases h : (w : Int) < 6
  · rw [if_pos h]
    exact ⟨w, v, rfl, w0, by omega, hb, fin⟩
  · rw [if_neg h]
    exact ⟨w, v, rfl, by omega, w6, hb, fin⟩
def flagsL (f : Str → Bool) : D := .lst (errNm.map fun y => .bl (f y))
def sp_lflags : DSp := fun ds M Q _ => (∃ x v, ds = [.exc x v] ∧ Q (flagsL (XA.under x)) M) ∨ (ds = [.errS] ∧ Q (flagsL fun _ => false) M)
theorem rd_l_flags_6e5f : ∀ ds M Q, ds.length = 1 → sp_lflags ds M Q DX0 → t_l_flags_6e5f (dEnds M Q) (startD 2 ds) M := by
  rintro _ M Q - (⟨x, v, rfl, q⟩ | ⟨rfl, q⟩)
  · unfold t_l_flags_6e5f gIsy gIsx
    walk_at "rd"
    exact ⟨by decide, by decide, by decide, by decide, by decide, by decide, by decide, by decide, by decide, by decide, by decide, by decide, rtq q⟩
  · unfold t_l_flags_6e5f gIsy gIsx
    walk_at "rd"
    refine ⟨by decide, by decide, by decide, by decide, by decide, by decide, by decide, by decide, by decide, by decide, by decide, by decide, ?_⟩
    have e : (D.lst [D.bl (Str.ofString "InvalidMeasure" == Str.ofString "SheetError"), D.bl (Str.ofString "InvalidNumber" == Str.ofString "SheetError"), D.bl (Str.ofString "InvalidRoot" == Str.ofString "SheetError"),
        D.bl (Str.ofString "InvalidCutting" == Str.ofString "SheetError"), D.bl (Str.ofString "InvalidDeed" == Str.ofString "SheetError"), D.bl (Str.ofString "InvalidWord" == Str.ofString "SheetError"),
        D.bl (Str.ofString "InvalidList" == Str.ofString "SheetError"), D.bl (Str.ofString "InvalidPoint" == Str.ofString "SheetError"), D.bl (Str.ofString "InvalidTable" == Str.ofString "SheetError"),
        D.bl (Str.ofString "InvalidFloor" == Str.ofString "SheetError"), D.bl (Str.ofString "Unlike" == Str.ofString "SheetError"), D.bl (Str.ofString "TooMany" == Str.ofString "SheetError")]) = flagsL fun _ => false := by
      unfold flagsL errNm
      simp only [List.map]
      refine congrArg D.lst ?_
      have h : ∀ y ∈ errNm, (y == ("SheetError" : Str)) = false := by decide
      simp only [errNm, List.forall_mem_cons] at h
      obtain ⟨h1, h2, h3, h4, h5, h6, h7, h8, h9, h10, h11, h12, _⟩ := h
      simp only [List.cons.injEq, D.bl.injEq, and_true]
      exact ⟨h1, h2, h3, h4, h5, h6, h7, h8, h9, h10, h11, h12⟩
    rw [e]
    exact rtq q
/-! ### the law -/
theorem flags_at : ∀ w ∈ List.range 12, errNm.map (fun y => XA.under (errNm.getD w "") y) = (List.range 12).map fun i : Nat => ((i : Int) == (w : Int)) := by decide
def ok80 (d : D) : Bool := fine 41 d && (lit 80 d && decide (wt 80 d ≤ 100000))
theorem shw_ok65 {d : D} (h : ok80 d = true) : ∃ z, shwn d = some z := by
  unfold ok80 at h
  simp only [Bool.and_eq_true, decide_eq_true_eq] at h
  obtain ⟨h1, h2, h3⟩ := h
  exact shw_of 80 41 h1 h2 (by omega)
def Ln (n : Nat) : D := .lst (.int 1 :: .non :: (List.range n).map fun i : Nat => D.int (i : Int))
/-- a value that stays -/
structure Pl (v : D) : Prop where
  bel : ∀ n, below n v = true
  kd : (∃ i, v = .int i) ∨ (∃ s, v = .str s) ∨ v = .non ∨ ∃ l, v = .tup l
  rs : ∀ M n, resE M n v = v
  ok : ok80 (.lst [v, v]) = true
def Vl (i : Nat) (M : Mem) (v : D) : Prop := Pl v ∨ ∃ k : Nat, v = .own k ∧ M[k]? = some (.lst (.int 1 :: .non :: (List.range i).map fun i : Nat => D.int (i : Int)))
theorem ln_ok : ∀ n ∈ List.range 13, ok80 (.lst [Ln n, Ln n]) = true := by decide
theorem Vl.bel {i : Nat} {M : Mem} {v : D} (h : Vl i M v) : below M.length v = true := by
  rcases h with h | ⟨k, rfl, h⟩
  · exact h.bel _
  · simp only [below]
    exact decide_eq_true (List.getElem?_eq_some_iff.mp h).1
theorem Vl.res {i : Nat} (hi : i < 13) {M : Mem} {v : D} (h : Vl i M v) : ∃ z, ∃ x, resE M 4 (.lst [v, v]) = x ∧ shwnZ x = some z := by
  rcases h with h | ⟨k, rfl, h⟩
  · obtain ⟨z, hz⟩ := shw_ok65 h.ok
    refine ⟨z, _, ?_, shwnZ_of hz⟩
    show D.lst [resE M 3 v, resE M 3 v] = _
    rw [h.rs]
  · obtain ⟨z, hz⟩ := shw_ok65 (ln_ok i (List.mem_range.mpr hi))
    refine ⟨z, _, ?_, shwnZ_of hz⟩
    show D.lst [resE M 3 (.own k), resE M 3 (.own k)] = _
    have e : resE M 3 (.own k) = Ln i := by
      have hc : cellL M k = some (.int 1 :: .non :: (List.range i).map fun i : Nat => D.int (i : Int)) := by
        unfold cellL
        rw [h]
      show (match cellL M k with | some ds => D.lst (ds.map (resE M 2)) | none => .own k) = _
      rw [hc]
      unfold Ln
      simp only [List.map_cons, List.map_map]
      refine congrArg D.lst ?_
      congr 1
    rw [e]
theorem gn_app65 {k : Nat} {n : Int} {M G : Mem} (h : Gn k n M) : Gn k n (M ++ G) := by
  obtain ⟨a, s, c, h1, h2⟩ := h
  exact ⟨a, s, c, by rw [List.getElem?_append_left (List.getElem?_eq_some_iff.mp h1).1]; exact h1, h2⟩
theorem under_sheet (x : Str) : XA.under x "SheetError" = true := by unfold XA.under; simp
theorem rd_l_law_5227 : ∀ ds M Q, ds.length = 1 → spLaw ds M Q DX0 → t_l_law_5227 sp_generator sp_random (sp_lerr 0 12) sp_lflags (dEnds M Q) (startD 9 ds) M := by
  rintro _ M Q - ⟨rfl, ⟨ns, rfl⟩, q⟩
  unfold t_l_law_5227
  have fin : ∀ M2, Rtq [] Q (.bl true) M2 := fun M2 => ⟨[], M2, rfl, Nat.zero_le _, rfl, fun i c h => by simp at h, q⟩
  refine dSeq_open fun B hB => ?_
  walk_at "rd"
  refine ⟨ns, _, rfl, by decide, by unfold P31; decide, fun M1 ml hg hold => ?_⟩
  rw [← hB]
  clear hB B
  refine dSeq_open fun B hB => ?_
  walk_at "rd"
  have e20 : (10 : Int) ^ (20 : Int).toNat = 100000000000000000000 := by decide
  rw [e20]
  refine ⟨⟨by decide, by decide⟩, 0, _, _, rfl, by decide, by decide, hg, by unfold P40; omega, fun v M2 v0 v1 g2 => ?_⟩
  walk_at "rd"
  refine ⟨0, 3, _, rfl, by decide, by decide, g2.2.1, by unfold P40; omega, fun u M3 u0 u1 g3 => ?_⟩
  unfold gMulS
  dsimp only
  refine ⟨u0, by omega, by decide, ?_, ?_⟩
  · rcases (by omega : u = 0 ∨ u = 1 ∨ u = 2) with rfl | rfl | rfl <;> decide
  refine ⟨0, 5, _, rfl, by decide, by decide, gn_app65 g3.2.1, by unfold P40; omega, fun x M4 x0 x1 g4 => ?_⟩
  dsimp only
  have hcell : M4[M3.length]? = some (.lst [D.int 1, D.non]) := by
    have hk : 0 < M3.length := by
      obtain ⟨a, s, c, h1, _⟩ := g3.2.1
      exact (List.getElem?_eq_some_iff.mp h1).1
    rw [g4.2.2 _ (by omega), List.getElem?_append_right (Nat.le_refl _), Nat.sub_self]
    rfl
  have key : ∀ val, Vl 0 M4 val → B [some (D.scr ns), some (D.own 0), some val, none, none, none, none, none, none] M4 := by
    intro val hv
    rw [← hB]
    clear hB B
    refine dSeq_open fun B hB => ?_
    walk_at "rd"
    refine ⟨⟨by decide, by decide⟩, ?_⟩
    refine ⟨fun i r M' => i ≤ 12 ∧ Vl i M' val ∧ ∃ t3 t4 t5 t6 : Option D, r = [some (D.scr ns), some (D.own 0), some val, t3, t4, t5, t6, none, none], ⟨Nat.zero_le _, hv, _, _, _, _, rfl⟩, ?_⟩
    rintro i r M' ⟨hi, hv, t3, t4, t5, t6, rfl⟩
    refine ⟨trivial, fun hli => ?_, fun d hd => ?_⟩
    rotate_left
    · obtain ⟨hid, rfl⟩ := rng_get.mp hd
      replace hid : i < 12 := hid
      rw [Int.zero_add]
      obtain ⟨x, hx⟩ : ∃ x, errNm[i]? = some x := ⟨_, List.getElem?_eq_getElem (by show i < 12; exact hid)⟩
      have hxg : errNm.getD i "" = x := by rw [List.getD_eq_getElem?_getD, hx]; rfl
      dsimp only [dName, List.set_cons_zero, List.set_cons_succ]
      clear hB
      refine dSeq_open fun B1 hB => ?_
      walk_at "rd"
      refine ⟨i, val, rfl, Nat.zero_le _, hid, hv.bel, fun x' hx' => ?_⟩
      obtain rfl : x' = x := by rw [hx] at hx'; exact (Option.some.inj hx').symm
      refine ⟨i, val, rfl, Nat.zero_le _, hid, hv.bel, fun x2 hx2 => ?_⟩
      obtain rfl : x2 = x' := by rw [hx] at hx2; exact (Option.some.inj hx2).symm
      rw [← hB]
      clear hB B1
      refine dSeq_open fun B1 hB => ?_
      walk_at "rd"
      refine .inl ⟨x2, val, rfl, ?_⟩
      dsimp only
      refine ⟨⟨by decide, by decide⟩, ?_⟩
      refine lcW_pure (fun d => match d with | .int j => some (.bl (j == (i : Int))) | _ => none) trivial (by rw [rng_len, sizeLine_eq]; exact (by decide : (12 : Nat) ≤ 16777216)) (fun d hd Y N hy => ?_) ?_
      · obtain ⟨j, hj⟩ := List.getElem?_of_mem hd
        obtain ⟨_, rfl⟩ := rng_get.mp hj
        walk_at "rd"
        exact hy
      have efl : D.lst ((rng 0 (Int.toNat 12)).filterMap (fun d => match d with | .int j => some (.bl (j == (i : Int))) | _ => none)) = flagsL (XA.under x2) := by
        have h1 := flags_at i (List.mem_range.mpr hid)
        rw [hxg] at h1
        have h2 : (errNm.map fun y => XA.under x2 y).map D.bl = ((List.range 12).map fun i_1 : Nat => ((i_1 : Int) == (i : Int))).map D.bl := by rw [h1]
        unfold flagsL
        rw [List.map_map] at h2
        rw [show (errNm.map fun y => D.bl (XA.under x2 y)) = _ from h2]
        rfl
      rw [efl]
      refine gNe_same (n := 3) (by unfold flagsL errNm; rfl) ?_
      dsimp only
      rw [if_neg (by decide)]
      unfold gIsy gIsx
      walk_at "rd"
      refine ⟨by decide, ?_⟩
      rw [under_sheet]
      rw [if_neg (by decide), ← hB]
      clear hB B1
      refine dSeq_open fun B1 hB => ?_
      walk_at "rd"
      have hend : ∀ M2, Vl (i + 1) M2 val → B1 [some (D.scr ns), some (D.own 0), some val, some (D.int (i : Int)), some (D.exc x2 val), some (D.exc x2 val), t6, none, none] M2 := fun M2 h2 => by
        rw [← hB]
        clear hB B1
        obtain ⟨z, y, hy, hz⟩ := h2.res (by omega)
        walk_at "rd"
        refine gReprE_res65 hy hz (gReprE_res65 hy hz ?_)
        rw [gNe_strs, beq_self_eq_true]
        dsimp only
        rw [if_neg (by decide)]
        exact ⟨by omega, h2, _, _, _, _, rfl⟩
      rcases id hv with h | ⟨k, rfl, h⟩
      · have hE := hend M' (.inl h)
        rcases h.kd with ⟨j, rfl⟩ | ⟨j, rfl⟩ | rfl | ⟨j, rfl⟩
        all_goals dsimp only
        all_goals walk_at "kb"
        all_goals exact hE
      · dsimp only
        rw [h]
        dsimp only
        walk_at "kb"
        refine ⟨⟨_, _, rfl, h⟩, ?_⟩
        try rw [h]
        try dsimp only
        refine ⟨by rw [List.length_cons, List.length_cons, List.length_map, List.length_range]; omega, ?_⟩
        refine hend _ (.inr ⟨k, rfl, ?_⟩)
        rw [List.getElem?_set_self (List.getElem?_eq_some_iff.mp h).1, List.range_succ, List.map_append]
        rfl
    · dsimp only
      rw [← hB]
      clear hB B
      refine dSeq_open fun B hB => ?_
      unfold dErr0
      walk_at "rd"
      rw [← hB]
      clear hB B
      refine dSeq_open fun B hB => ?_
      unfold dErr0
      walk_at "rd"
      rw [← hB]
      clear hB B
      refine dSeq_open fun B hB => ?_
      unfold dErr
      walk_at "rd"
      refine lcW_pure (fun _ => none) trivial (by rw [sizeLine_eq]; exact (by decide : (12 : Nat) ≤ 16777216)) (fun d hd Y N hy => ?_) ?_
      · have : d = .non := by simpa using hd
        subst this
        walk_at "rd"
        exact hy
      simp only [List.filterMap_cons, List.filterMap_nil]
      rw [gNe_nil]
      dsimp only
      rw [if_neg (by decide), if_neg (by decide)]
      refine gNe_same (n := 3) rfl ?_
      dsimp only
      rw [if_neg (by decide), ← hB]
      clear hB B
      unfold gIsy gIsx dSheet gMulL
      walk_at "rd"
      refine .inr ⟨rfl, ?_⟩
      dsimp only
      refine ⟨⟨by decide, by decide, by rw [show (12 : Int).toNat = 12 from rfl]; decide⟩, ?_⟩
      exact gEq_same (n := 3) (by unfold flagsL errNm; rfl) (fin _)
  rcases (by omega : x = 0 ∨ x = 1 ∨ x = 2 ∨ x = 3 ∨ x = 4) with rfl | rfl | rfl | rfl | rfl
  · rw [atI_0]
    refine key _ (.inl ⟨fun _ => rfl, .inl ⟨_, rfl⟩, fun _ n => by cases n <;> rfl, ?_⟩)
    have hl : v.natAbs.log2 < 80 := by
      by_cases h0 : v.natAbs = 0
      · rw [h0]; decide
      · exact Nat.lt_of_lt_of_le ((Nat.log2_lt h0).mpr (show v.natAbs < 2 ^ 67 by omega)) (by decide)
    unfold ok80
    simp [fine, fineAll, lit, litAll, wt, wtAll, hl]
  · rw [atI_1]
    refine key _ (.inl ?_)
    rcases (by omega : u = 0 ∨ u = 1 ∨ u = 2) with rfl | rfl | rfl <;> exact ⟨fun _ => rfl, .inr (.inl ⟨_, rfl⟩), fun _ n => by cases n <;> rfl, by decide +kernel⟩
  · rw [atI_2]
    exact key _ (.inr ⟨_, rfl, hcell⟩)
  · rw [atI_3]
    exact key _ (.inl ⟨fun _ => rfl, .inr (.inr (.inl rfl)), fun _ n => by cases n <;> rfl, by decide⟩)
  · rw [atI_4]
    refine key _ (.inl ⟨fun _ => rfl, .inr (.inr (.inr ⟨_, rfl⟩)), fun _ n => ?_, by decide⟩)
    rcases n with _ | _ | _ | n <;> rfl
end DL
namespace C_k65
open PySem PySem.Spec PyProof.Rows L2 DL
theorem law_ok {P : Program} {w : World} {K : PySem.W.Frag} {mg : Str → Option Value} {base : Heap} (T : Txt P K mg base) : Def P w K mg base CX0 3 "law" s_l_law_5227 ["_law_script"] spLaw := by
  have D_l_cell_cf3b := ok_l_cell_cf3b (P := P) (w := w) T  rd_l_cell_cf3b
  have D_l_generator_b324 := ok_l_generator_b324 (P := P) (w := w) T D_l_cell_cf3b rd_l_generator_b324
  have D_l_hash_9cde := ok_l_hash_9cde (P := P) (w := w) T  rd_l_hash_9cde
  have D_l_random_7821 := ok_l_random_7821 (P := P) (w := w) T D_l_hash_9cde rd_l_random_7821
  have D_l_first_5822 := ok_l_first_5822 (P := P) (w := w) T  rd_l_first_5822
  have D_l_second_dbe7 := ok_l_second_dbe7 (P := P) (w := w) T  rd_l_second_dbe7
  have D_l_made_94f3 := ok_l_made_94f3 (P := P) (w := w) T D_l_first_5822 D_l_second_dbe7 rd_l_made_94f3
  have D_l_flags_6e5f := ok_l_flags_6e5f (P := P) (w := w) T  rd_l_flags_6e5f
  exact ok_l_law_5227 T D_l_generator_b324 D_l_random_7821 D_l_made_94f3 D_l_flags_6e5f rd_l_law_5227
end C_k65
/-! XH: what super().__init__ means, from the class's own line -/
namespace XA
open PySem PySem.W PySem.Calls PyProof.Rows PySem.HandSPX
theorem sup_of {K : Frag} {x : Str} {C S N : Addr} {q : Str} {bs : List Value} {sn : List Str} {sub : List Value} {ab : Bool} {col : Option Bool} {dd : Option Addr} {k0 k1 k2 k3 k5 : Option Value} {n : String}
    (lk : K.lookup C = some (excClassObj x q C N bs [.ref S, .type "ValueError", .type "Exception", .type "BaseException", .type "object"] true sn sub ab col dd k0 k1 k2 k3 k5 n))
    (sp : ks_superIn K C C "__init__" = some (some (.builtin "ValueError.__init__"))) : alongIn K "__init__" [.ref S, .type "ValueError", .type "Exception", .type "BaseException", .type "object"] = some (some (.builtin "ValueError.__init__")) := by
  have h1 : ∃ cd, PySem.W.clsIn K C = some cd ∧ cd.mro = .ref C :: [.ref S, .type "ValueError", .type "Exception", .type "BaseException", .type "object"] := ⟨_, by unfold PySem.W.clsIn; rw [lk], rfl⟩
  obtain ⟨cd, h1, h2⟩ := h1
  unfold ks_superIn at sp
  rw [h1, Option.bind_some, h2] at sp
  simpa using sp
end XA
namespace C_k65
open PySem PySem.Spec PyProof.Rows L2 DL
theorem all_mk {K : PySem.W.Frag} {h : Heap} {mg : Str → Option Value} (X : K.In h) (G : h.Ns mainGlobals mg)
    (n_ValueError : PySem.W.nsIn K mainGlobals "ValueError" = some none)
    (n_int : PySem.W.nsIn K mainGlobals "int" = some none)
    (n_isinstance : PySem.W.nsIn K mainGlobals "isinstance" = some none)
    (n_len : PySem.W.nsIn K mainGlobals "len" = some none)
    (n_list : PySem.W.nsIn K mainGlobals "list" = some none)
    (n_max : PySem.W.nsIn K mainGlobals "max" = some none)
    (n_range : PySem.W.nsIn K mainGlobals "range" = some none)
    (n_repr : PySem.W.nsIn K mainGlobals "repr" = some none)
    (n_sum : PySem.W.nsIn K mainGlobals "sum" = some none)
    {cS nS : Addr} {qS : Str} {bS : List Value} {snS : List Str} {suS : List Value} {abS : Bool} {coS : Option Bool} {ddS : Option Addr} {k0S k1S k2S k3S k5S : Option Value}
    (ns_S : PySem.W.nsIn K mainGlobals "SheetError" = some (some (.ref cS))) (lk_S : K.lookup cS = some (excClassObj "SheetError" qS cS nS bS [.type "ValueError", .type "Exception", .type "BaseException", .type "object"] true snS suS abS coS ddS k0S k1S k2S k3S k5S "ValueError.__new__"))
    (kp_S : PySem.W.keepIn K (.ref cS) = true) (ex_S : PySem.W.excIn K cS [.type "ValueError", .type "Exception", .type "BaseException", .type "object"] "ValueError.__new__" = true) (ga_S : PySem.W.findIn K (.ref cS) "__getattribute__" = some (some (.builtin "BaseException.__getattribute__"))) (gg_S : PySem.W.findIn K (.ref cS) "__getattr__" = some none) (hc_S : PySem.W.findIn K (.ref cS) "__class__" = some (some (.builtin "object.__class__")))
    (gs_S : PySem.W.specialIn K (.builtin "object.__class__") "__get__" = some (some (.builtin "getset_descriptor.__get__"))) (tk_S : PySem.W.takesIn K (.builtin "object.__class__") = some true)
    (any_S : PySem.W.nsIn K PySem.cStatics "thirdparty.any" = some none) (msup_S : PySem.W.nsIn K mainGlobals "super" = some none)
    {c_InvalidMeasure f_InvalidMeasure n_InvalidMeasure cda_InvalidMeasure cc_InvalidMeasure td_InvalidMeasure : Addr} {q_InvalidMeasure : Str} {b_InvalidMeasure : List Value} {sn_InvalidMeasure : List Str} {su_InvalidMeasure : List Value} {ab_InvalidMeasure : Bool} {co_InvalidMeasure : Option Bool} {dd_InvalidMeasure : Option Addr} {k0_InvalidMeasure k1_InvalidMeasure k2_InvalidMeasure k3_InvalidMeasure k5_InvalidMeasure : Option Value} {od_InvalidMeasure an_InvalidMeasure : Option Addr} {kV_InvalidMeasure dc_InvalidMeasure pm_InvalidMeasure ct_InvalidMeasure : Value} {osl_InvalidMeasure : Array (Option Value)} {c1_InvalidMeasure c2_InvalidMeasure c3_InvalidMeasure : Value} {d1_InvalidMeasure d2_InvalidMeasure d3_InvalidMeasure : Option Addr} {sl1_InvalidMeasure sl2_InvalidMeasure sl3_InvalidMeasure : Array (Option Value)} {tn_InvalidMeasure : Nat} {vs_InvalidMeasure : Array Value} {fi_InvalidMeasure : Str} {tf_InvalidMeasure : Tok}
    (ns_InvalidMeasure : PySem.W.nsIn K mainGlobals "InvalidMeasure" = some (some (.ref c_InvalidMeasure))) (lk_InvalidMeasure : K.lookup c_InvalidMeasure = some (excClassObj "InvalidMeasure" q_InvalidMeasure c_InvalidMeasure n_InvalidMeasure b_InvalidMeasure [.ref cS, .type "ValueError", .type "Exception", .type "BaseException", .type "object"] true sn_InvalidMeasure su_InvalidMeasure ab_InvalidMeasure co_InvalidMeasure dd_InvalidMeasure k0_InvalidMeasure k1_InvalidMeasure k2_InvalidMeasure k3_InvalidMeasure k5_InvalidMeasure "ValueError.__new__"))
    (sa_InvalidMeasure : PySem.W.findIn K (.ref c_InvalidMeasure) "__setattr__" = some (some (.builtin "object.__setattr__"))) (ga_InvalidMeasure : PySem.W.findIn K (.ref c_InvalidMeasure) "__getattribute__" = some (some (.builtin "BaseException.__getattribute__"))) (gg_InvalidMeasure : PySem.W.findIn K (.ref c_InvalidMeasure) "__getattr__" = some none)
    (nv_InvalidMeasure : PySem.W.findIn K (.ref c_InvalidMeasure) "value" = some none) (kp_InvalidMeasure : PySem.W.keepIn K (.ref c_InvalidMeasure) = true) (hc_InvalidMeasure : PySem.W.findIn K (.ref c_InvalidMeasure) "__class__" = some (some (.builtin "object.__class__"))) (iC_InvalidMeasure : PySem.W.findIn K (.ref c_InvalidMeasure) "__init__" = some (some (.ref f_InvalidMeasure))) (sp_InvalidMeasure : PySem.W.ks_superIn K c_InvalidMeasure c_InvalidMeasure "__init__" = some (some (.builtin "ValueError.__init__")))
    (lf_InvalidMeasure : K.lookup f_InvalidMeasure = some ⟨.type "function", od_InvalidMeasure, .func (PySem.W.fnX "__init__" "InvalidMeasure.__init__" (defArgs k_InvalidMeasure) (defBody k_InvalidMeasure) (defScope k_InvalidMeasure) [("__class__", cc_InvalidMeasure)] (.ref td_InvalidMeasure) kV_InvalidMeasure dc_InvalidMeasure pm_InvalidMeasure an_InvalidMeasure (.ref cda_InvalidMeasure) ct_InvalidMeasure), osl_InvalidMeasure⟩) (cd_InvalidMeasure : PySem.W.codeIn K (.ref cda_InvalidMeasure) "InvalidMeasure.__init__" = true)
    (lc_InvalidMeasure : K.lookup cc_InvalidMeasure = some ⟨c1_InvalidMeasure, d1_InvalidMeasure, .cell (some (.ref c_InvalidMeasure)), sl1_InvalidMeasure⟩) (lt_InvalidMeasure : K.lookup td_InvalidMeasure = some ⟨c2_InvalidMeasure, d2_InvalidMeasure, .seq #[.none] tn_InvalidMeasure, sl2_InvalidMeasure⟩) (lv_InvalidMeasure : K.lookup cda_InvalidMeasure = some ⟨c3_InvalidMeasure, d3_InvalidMeasure, .fields vs_InvalidMeasure, sl3_InvalidMeasure⟩) (hv_InvalidMeasure : vs_InvalidMeasure[2]? = some (.str fi_InvalidMeasure tf_InvalidMeasure)) (hf_InvalidMeasure : (((PySem.Challenge.pw_slitsheets_k65_errors_by_their_classes : Program).main.file : Str) == fi_InvalidMeasure) = true)
    {c_InvalidNumber f_InvalidNumber n_InvalidNumber cda_InvalidNumber cc_InvalidNumber td_InvalidNumber : Addr} {q_InvalidNumber : Str} {b_InvalidNumber : List Value} {sn_InvalidNumber : List Str} {su_InvalidNumber : List Value} {ab_InvalidNumber : Bool} {co_InvalidNumber : Option Bool} {dd_InvalidNumber : Option Addr} {k0_InvalidNumber k1_InvalidNumber k2_InvalidNumber k3_InvalidNumber k5_InvalidNumber : Option Value} {od_InvalidNumber an_InvalidNumber : Option Addr} {kV_InvalidNumber dc_InvalidNumber pm_InvalidNumber ct_InvalidNumber : Value} {osl_InvalidNumber : Array (Option Value)} {c1_InvalidNumber c2_InvalidNumber c3_InvalidNumber : Value} {d1_InvalidNumber d2_InvalidNumber d3_InvalidNumber : Option Addr} {sl1_InvalidNumber sl2_InvalidNumber sl3_InvalidNumber : Array (Option Value)} {tn_InvalidNumber : Nat} {vs_InvalidNumber : Array Value} {fi_InvalidNumber : Str} {tf_InvalidNumber : Tok}
    (ns_InvalidNumber : PySem.W.nsIn K mainGlobals "InvalidNumber" = some (some (.ref c_InvalidNumber))) (lk_InvalidNumber : K.lookup c_InvalidNumber = some (excClassObj "InvalidNumber" q_InvalidNumber c_InvalidNumber n_InvalidNumber b_InvalidNumber [.ref cS, .type "ValueError", .type "Exception", .type "BaseException", .type "object"] true sn_InvalidNumber su_InvalidNumber ab_InvalidNumber co_InvalidNumber dd_InvalidNumber k0_InvalidNumber k1_InvalidNumber k2_InvalidNumber k3_InvalidNumber k5_InvalidNumber "ValueError.__new__"))
    (sa_InvalidNumber : PySem.W.findIn K (.ref c_InvalidNumber) "__setattr__" = some (some (.builtin "object.__setattr__"))) (ga_InvalidNumber : PySem.W.findIn K (.ref c_InvalidNumber) "__getattribute__" = some (some (.builtin "BaseException.__getattribute__"))) (gg_InvalidNumber : PySem.W.findIn K (.ref c_InvalidNumber) "__getattr__" = some none)
    (nv_InvalidNumber : PySem.W.findIn K (.ref c_InvalidNumber) "value" = some none) (kp_InvalidNumber : PySem.W.keepIn K (.ref c_InvalidNumber) = true) (hc_InvalidNumber : PySem.W.findIn K (.ref c_InvalidNumber) "__class__" = some (some (.builtin "object.__class__"))) (iC_InvalidNumber : PySem.W.findIn K (.ref c_InvalidNumber) "__init__" = some (some (.ref f_InvalidNumber))) (sp_InvalidNumber : PySem.W.ks_superIn K c_InvalidNumber c_InvalidNumber "__init__" = some (some (.builtin "ValueError.__init__")))
    (lf_InvalidNumber : K.lookup f_InvalidNumber = some ⟨.type "function", od_InvalidNumber, .func (PySem.W.fnX "__init__" "InvalidNumber.__init__" (defArgs k_InvalidNumber) (defBody k_InvalidNumber) (defScope k_InvalidNumber) [("__class__", cc_InvalidNumber)] (.ref td_InvalidNumber) kV_InvalidNumber dc_InvalidNumber pm_InvalidNumber an_InvalidNumber (.ref cda_InvalidNumber) ct_InvalidNumber), osl_InvalidNumber⟩) (cd_InvalidNumber : PySem.W.codeIn K (.ref cda_InvalidNumber) "InvalidNumber.__init__" = true)
    (lc_InvalidNumber : K.lookup cc_InvalidNumber = some ⟨c1_InvalidNumber, d1_InvalidNumber, .cell (some (.ref c_InvalidNumber)), sl1_InvalidNumber⟩) (lt_InvalidNumber : K.lookup td_InvalidNumber = some ⟨c2_InvalidNumber, d2_InvalidNumber, .seq #[.none] tn_InvalidNumber, sl2_InvalidNumber⟩) (lv_InvalidNumber : K.lookup cda_InvalidNumber = some ⟨c3_InvalidNumber, d3_InvalidNumber, .fields vs_InvalidNumber, sl3_InvalidNumber⟩) (hv_InvalidNumber : vs_InvalidNumber[2]? = some (.str fi_InvalidNumber tf_InvalidNumber)) (hf_InvalidNumber : (((PySem.Challenge.pw_slitsheets_k65_errors_by_their_classes : Program).main.file : Str) == fi_InvalidNumber) = true)
    {c_InvalidRoot f_InvalidRoot n_InvalidRoot cda_InvalidRoot cc_InvalidRoot td_InvalidRoot : Addr} {q_InvalidRoot : Str} {b_InvalidRoot : List Value} {sn_InvalidRoot : List Str} {su_InvalidRoot : List Value} {ab_InvalidRoot : Bool} {co_InvalidRoot : Option Bool} {dd_InvalidRoot : Option Addr} {k0_InvalidRoot k1_InvalidRoot k2_InvalidRoot k3_InvalidRoot k5_InvalidRoot : Option Value} {od_InvalidRoot an_InvalidRoot : Option Addr} {kV_InvalidRoot dc_InvalidRoot pm_InvalidRoot ct_InvalidRoot : Value} {osl_InvalidRoot : Array (Option Value)} {c1_InvalidRoot c2_InvalidRoot c3_InvalidRoot : Value} {d1_InvalidRoot d2_InvalidRoot d3_InvalidRoot : Option Addr} {sl1_InvalidRoot sl2_InvalidRoot sl3_InvalidRoot : Array (Option Value)} {tn_InvalidRoot : Nat} {vs_InvalidRoot : Array Value} {fi_InvalidRoot : Str} {tf_InvalidRoot : Tok}
    (ns_InvalidRoot : PySem.W.nsIn K mainGlobals "InvalidRoot" = some (some (.ref c_InvalidRoot))) (lk_InvalidRoot : K.lookup c_InvalidRoot = some (excClassObj "InvalidRoot" q_InvalidRoot c_InvalidRoot n_InvalidRoot b_InvalidRoot [.ref cS, .type "ValueError", .type "Exception", .type "BaseException", .type "object"] true sn_InvalidRoot su_InvalidRoot ab_InvalidRoot co_InvalidRoot dd_InvalidRoot k0_InvalidRoot k1_InvalidRoot k2_InvalidRoot k3_InvalidRoot k5_InvalidRoot "ValueError.__new__"))
    (sa_InvalidRoot : PySem.W.findIn K (.ref c_InvalidRoot) "__setattr__" = some (some (.builtin "object.__setattr__"))) (ga_InvalidRoot : PySem.W.findIn K (.ref c_InvalidRoot) "__getattribute__" = some (some (.builtin "BaseException.__getattribute__"))) (gg_InvalidRoot : PySem.W.findIn K (.ref c_InvalidRoot) "__getattr__" = some none)
    (nv_InvalidRoot : PySem.W.findIn K (.ref c_InvalidRoot) "value" = some none) (kp_InvalidRoot : PySem.W.keepIn K (.ref c_InvalidRoot) = true) (hc_InvalidRoot : PySem.W.findIn K (.ref c_InvalidRoot) "__class__" = some (some (.builtin "object.__class__"))) (iC_InvalidRoot : PySem.W.findIn K (.ref c_InvalidRoot) "__init__" = some (some (.ref f_InvalidRoot))) (sp_InvalidRoot : PySem.W.ks_superIn K c_InvalidRoot c_InvalidRoot "__init__" = some (some (.builtin "ValueError.__init__")))
    (lf_InvalidRoot : K.lookup f_InvalidRoot = some ⟨.type "function", od_InvalidRoot, .func (PySem.W.fnX "__init__" "InvalidRoot.__init__" (defArgs k_InvalidRoot) (defBody k_InvalidRoot) (defScope k_InvalidRoot) [("__class__", cc_InvalidRoot)] (.ref td_InvalidRoot) kV_InvalidRoot dc_InvalidRoot pm_InvalidRoot an_InvalidRoot (.ref cda_InvalidRoot) ct_InvalidRoot), osl_InvalidRoot⟩) (cd_InvalidRoot : PySem.W.codeIn K (.ref cda_InvalidRoot) "InvalidRoot.__init__" = true)
    (lc_InvalidRoot : K.lookup cc_InvalidRoot = some ⟨c1_InvalidRoot, d1_InvalidRoot, .cell (some (.ref c_InvalidRoot)), sl1_InvalidRoot⟩) (lt_InvalidRoot : K.lookup td_InvalidRoot = some ⟨c2_InvalidRoot, d2_InvalidRoot, .seq #[.none] tn_InvalidRoot, sl2_InvalidRoot⟩) (lv_InvalidRoot : K.lookup cda_InvalidRoot = some ⟨c3_InvalidRoot, d3_InvalidRoot, .fields vs_InvalidRoot, sl3_InvalidRoot⟩) (hv_InvalidRoot : vs_InvalidRoot[2]? = some (.str fi_InvalidRoot tf_InvalidRoot)) (hf_InvalidRoot : (((PySem.Challenge.pw_slitsheets_k65_errors_by_their_classes : Program).main.file : Str) == fi_InvalidRoot) = true)
    {c_InvalidCutting f_InvalidCutting n_InvalidCutting cda_InvalidCutting cc_InvalidCutting td_InvalidCutting : Addr} {q_InvalidCutting : Str} {b_InvalidCutting : List Value} {sn_InvalidCutting : List Str} {su_InvalidCutting : List Value} {ab_InvalidCutting : Bool} {co_InvalidCutting : Option Bool} {dd_InvalidCutting : Option Addr} {k0_InvalidCutting k1_InvalidCutting k2_InvalidCutting k3_InvalidCutting k5_InvalidCutting : Option Value} {od_InvalidCutting an_InvalidCutting : Option Addr} {kV_InvalidCutting dc_InvalidCutting pm_InvalidCutting ct_InvalidCutting : Value} {osl_InvalidCutting : Array (Option Value)} {c1_InvalidCutting c2_InvalidCutting c3_InvalidCutting : Value} {d1_InvalidCutting d2_InvalidCutting d3_InvalidCutting : Option Addr} {sl1_InvalidCutting sl2_InvalidCutting sl3_InvalidCutting : Array (Option Value)} {tn_InvalidCutting : Nat} {vs_InvalidCutting : Array Value} {fi_InvalidCutting : Str} {tf_InvalidCutting : Tok}
    (ns_InvalidCutting : PySem.W.nsIn K mainGlobals "InvalidCutting" = some (some (.ref c_InvalidCutting))) (lk_InvalidCutting : K.lookup c_InvalidCutting = some (excClassObj "InvalidCutting" q_InvalidCutting c_InvalidCutting n_InvalidCutting b_InvalidCutting [.ref cS, .type "ValueError", .type "Exception", .type "BaseException", .type "object"] true sn_InvalidCutting su_InvalidCutting ab_InvalidCutting co_InvalidCutting dd_InvalidCutting k0_InvalidCutting k1_InvalidCutting k2_InvalidCutting k3_InvalidCutting k5_InvalidCutting "ValueError.__new__"))
    (sa_InvalidCutting : PySem.W.findIn K (.ref c_InvalidCutting) "__setattr__" = some (some (.builtin "object.__setattr__"))) (ga_InvalidCutting : PySem.W.findIn K (.ref c_InvalidCutting) "__getattribute__" = some (some (.builtin "BaseException.__getattribute__"))) (gg_InvalidCutting : PySem.W.findIn K (.ref c_InvalidCutting) "__getattr__" = some none)
    (nv_InvalidCutting : PySem.W.findIn K (.ref c_InvalidCutting) "value" = some none) (kp_InvalidCutting : PySem.W.keepIn K (.ref c_InvalidCutting) = true) (hc_InvalidCutting : PySem.W.findIn K (.ref c_InvalidCutting) "__class__" = some (some (.builtin "object.__class__"))) (iC_InvalidCutting : PySem.W.findIn K (.ref c_InvalidCutting) "__init__" = some (some (.ref f_InvalidCutting))) (sp_InvalidCutting : PySem.W.ks_superIn K c_InvalidCutting c_InvalidCutting "__init__" = some (some (.builtin "ValueError.__init__")))
    (lf_InvalidCutting : K.lookup f_InvalidCutting = some ⟨.type "function", od_InvalidCutting, .func (PySem.W.fnX "__init__" "InvalidCutting.__init__" (defArgs k_InvalidCutting) (defBody k_InvalidCutting) (defScope k_InvalidCutting) [("__class__", cc_InvalidCutting)] (.ref td_InvalidCutting) kV_InvalidCutting dc_InvalidCutting pm_InvalidCutting an_InvalidCutting (.ref cda_InvalidCutting) ct_InvalidCutting), osl_InvalidCutting⟩) (cd_InvalidCutting : PySem.W.codeIn K (.ref cda_InvalidCutting) "InvalidCutting.__init__" = true)
    (lc_InvalidCutting : K.lookup cc_InvalidCutting = some ⟨c1_InvalidCutting, d1_InvalidCutting, .cell (some (.ref c_InvalidCutting)), sl1_InvalidCutting⟩) (lt_InvalidCutting : K.lookup td_InvalidCutting = some ⟨c2_InvalidCutting, d2_InvalidCutting, .seq #[.none] tn_InvalidCutting, sl2_InvalidCutting⟩) (lv_InvalidCutting : K.lookup cda_InvalidCutting = some ⟨c3_InvalidCutting, d3_InvalidCutting, .fields vs_InvalidCutting, sl3_InvalidCutting⟩) (hv_InvalidCutting : vs_InvalidCutting[2]? = some (.str fi_InvalidCutting tf_InvalidCutting)) (hf_InvalidCutting : (((PySem.Challenge.pw_slitsheets_k65_errors_by_their_classes : Program).main.file : Str) == fi_InvalidCutting) = true)
    {c_InvalidDeed f_InvalidDeed n_InvalidDeed cda_InvalidDeed cc_InvalidDeed td_InvalidDeed : Addr} {q_InvalidDeed : Str} {b_InvalidDeed : List Value} {sn_InvalidDeed : List Str} {su_InvalidDeed : List Value} {ab_InvalidDeed : Bool} {co_InvalidDeed : Option Bool} {dd_InvalidDeed : Option Addr} {k0_InvalidDeed k1_InvalidDeed k2_InvalidDeed k3_InvalidDeed k5_InvalidDeed : Option Value} {od_InvalidDeed an_InvalidDeed : Option Addr} {kV_InvalidDeed dc_InvalidDeed pm_InvalidDeed ct_InvalidDeed : Value} {osl_InvalidDeed : Array (Option Value)} {c1_InvalidDeed c2_InvalidDeed c3_InvalidDeed : Value} {d1_InvalidDeed d2_InvalidDeed d3_InvalidDeed : Option Addr} {sl1_InvalidDeed sl2_InvalidDeed sl3_InvalidDeed : Array (Option Value)} {tn_InvalidDeed : Nat} {vs_InvalidDeed : Array Value} {fi_InvalidDeed : Str} {tf_InvalidDeed : Tok}
    (ns_InvalidDeed : PySem.W.nsIn K mainGlobals "InvalidDeed" = some (some (.ref c_InvalidDeed))) (lk_InvalidDeed : K.lookup c_InvalidDeed = some (excClassObj "InvalidDeed" q_InvalidDeed c_InvalidDeed n_InvalidDeed b_InvalidDeed [.ref cS, .type "ValueError", .type "Exception", .type "BaseException", .type "object"] true sn_InvalidDeed su_InvalidDeed ab_InvalidDeed co_InvalidDeed dd_InvalidDeed k0_InvalidDeed k1_InvalidDeed k2_InvalidDeed k3_InvalidDeed k5_InvalidDeed "ValueError.__new__"))
    (sa_InvalidDeed : PySem.W.findIn K (.ref c_InvalidDeed) "__setattr__" = some (some (.builtin "object.__setattr__"))) (ga_InvalidDeed : PySem.W.findIn K (.ref c_InvalidDeed) "__getattribute__" = some (some (.builtin "BaseException.__getattribute__"))) (gg_InvalidDeed : PySem.W.findIn K (.ref c_InvalidDeed) "__getattr__" = some none)
    (nv_InvalidDeed : PySem.W.findIn K (.ref c_InvalidDeed) "value" = some none) (kp_InvalidDeed : PySem.W.keepIn K (.ref c_InvalidDeed) = true) (hc_InvalidDeed : PySem.W.findIn K (.ref c_InvalidDeed) "__class__" = some (some (.builtin "object.__class__"))) (iC_InvalidDeed : PySem.W.findIn K (.ref c_InvalidDeed) "__init__" = some (some (.ref f_InvalidDeed))) (sp_InvalidDeed : PySem.W.ks_superIn K c_InvalidDeed c_InvalidDeed "__init__" = some (some (.builtin "ValueError.__init__")))
    (lf_InvalidDeed : K.lookup f_InvalidDeed = some ⟨.type "function", od_InvalidDeed, .func (PySem.W.fnX "__init__" "InvalidDeed.__init__" (defArgs k_InvalidDeed) (defBody k_InvalidDeed) (defScope k_InvalidDeed) [("__class__", cc_InvalidDeed)] (.ref td_InvalidDeed) kV_InvalidDeed dc_InvalidDeed pm_InvalidDeed an_InvalidDeed (.ref cda_InvalidDeed) ct_InvalidDeed), osl_InvalidDeed⟩) (cd_InvalidDeed : PySem.W.codeIn K (.ref cda_InvalidDeed) "InvalidDeed.__init__" = true)
    (lc_InvalidDeed : K.lookup cc_InvalidDeed = some ⟨c1_InvalidDeed, d1_InvalidDeed, .cell (some (.ref c_InvalidDeed)), sl1_InvalidDeed⟩) (lt_InvalidDeed : K.lookup td_InvalidDeed = some ⟨c2_InvalidDeed, d2_InvalidDeed, .seq #[.none] tn_InvalidDeed, sl2_InvalidDeed⟩) (lv_InvalidDeed : K.lookup cda_InvalidDeed = some ⟨c3_InvalidDeed, d3_InvalidDeed, .fields vs_InvalidDeed, sl3_InvalidDeed⟩) (hv_InvalidDeed : vs_InvalidDeed[2]? = some (.str fi_InvalidDeed tf_InvalidDeed)) (hf_InvalidDeed : (((PySem.Challenge.pw_slitsheets_k65_errors_by_their_classes : Program).main.file : Str) == fi_InvalidDeed) = true)
    {c_InvalidWord f_InvalidWord n_InvalidWord cda_InvalidWord cc_InvalidWord td_InvalidWord : Addr} {q_InvalidWord : Str} {b_InvalidWord : List Value} {sn_InvalidWord : List Str} {su_InvalidWord : List Value} {ab_InvalidWord : Bool} {co_InvalidWord : Option Bool} {dd_InvalidWord : Option Addr} {k0_InvalidWord k1_InvalidWord k2_InvalidWord k3_InvalidWord k5_InvalidWord : Option Value} {od_InvalidWord an_InvalidWord : Option Addr} {kV_InvalidWord dc_InvalidWord pm_InvalidWord ct_InvalidWord : Value} {osl_InvalidWord : Array (Option Value)} {c1_InvalidWord c2_InvalidWord c3_InvalidWord : Value} {d1_InvalidWord d2_InvalidWord d3_InvalidWord : Option Addr} {sl1_InvalidWord sl2_InvalidWord sl3_InvalidWord : Array (Option Value)} {tn_InvalidWord : Nat} {vs_InvalidWord : Array Value} {fi_InvalidWord : Str} {tf_InvalidWord : Tok}
    (ns_InvalidWord : PySem.W.nsIn K mainGlobals "InvalidWord" = some (some (.ref c_InvalidWord))) (lk_InvalidWord : K.lookup c_InvalidWord = some (excClassObj "InvalidWord" q_InvalidWord c_InvalidWord n_InvalidWord b_InvalidWord [.ref cS, .type "ValueError", .type "Exception", .type "BaseException", .type "object"] true sn_InvalidWord su_InvalidWord ab_InvalidWord co_InvalidWord dd_InvalidWord k0_InvalidWord k1_InvalidWord k2_InvalidWord k3_InvalidWord k5_InvalidWord "ValueError.__new__"))
    (sa_InvalidWord : PySem.W.findIn K (.ref c_InvalidWord) "__setattr__" = some (some (.builtin "object.__setattr__"))) (ga_InvalidWord : PySem.W.findIn K (.ref c_InvalidWord) "__getattribute__" = some (some (.builtin "BaseException.__getattribute__"))) (gg_InvalidWord : PySem.W.findIn K (.ref c_InvalidWord) "__getattr__" = some none)
    (nv_InvalidWord : PySem.W.findIn K (.ref c_InvalidWord) "value" = some none) (kp_InvalidWord : PySem.W.keepIn K (.ref c_InvalidWord) = true) (hc_InvalidWord : PySem.W.findIn K (.ref c_InvalidWord) "__class__" = some (some (.builtin "object.__class__"))) (iC_InvalidWord : PySem.W.findIn K (.ref c_InvalidWord) "__init__" = some (some (.ref f_InvalidWord))) (sp_InvalidWord : PySem.W.ks_superIn K c_InvalidWord c_InvalidWord "__init__" = some (some (.builtin "ValueError.__init__")))
    (lf_InvalidWord : K.lookup f_InvalidWord = some ⟨.type "function", od_InvalidWord, .func (PySem.W.fnX "__init__" "InvalidWord.__init__" (defArgs k_InvalidWord) (defBody k_InvalidWord) (defScope k_InvalidWord) [("__class__", cc_InvalidWord)] (.ref td_InvalidWord) kV_InvalidWord dc_InvalidWord pm_InvalidWord an_InvalidWord (.ref cda_InvalidWord) ct_InvalidWord), osl_InvalidWord⟩) (cd_InvalidWord : PySem.W.codeIn K (.ref cda_InvalidWord) "InvalidWord.__init__" = true)
    (lc_InvalidWord : K.lookup cc_InvalidWord = some ⟨c1_InvalidWord, d1_InvalidWord, .cell (some (.ref c_InvalidWord)), sl1_InvalidWord⟩) (lt_InvalidWord : K.lookup td_InvalidWord = some ⟨c2_InvalidWord, d2_InvalidWord, .seq #[.none] tn_InvalidWord, sl2_InvalidWord⟩) (lv_InvalidWord : K.lookup cda_InvalidWord = some ⟨c3_InvalidWord, d3_InvalidWord, .fields vs_InvalidWord, sl3_InvalidWord⟩) (hv_InvalidWord : vs_InvalidWord[2]? = some (.str fi_InvalidWord tf_InvalidWord)) (hf_InvalidWord : (((PySem.Challenge.pw_slitsheets_k65_errors_by_their_classes : Program).main.file : Str) == fi_InvalidWord) = true)
    {c_InvalidList f_InvalidList n_InvalidList cda_InvalidList cc_InvalidList td_InvalidList : Addr} {q_InvalidList : Str} {b_InvalidList : List Value} {sn_InvalidList : List Str} {su_InvalidList : List Value} {ab_InvalidList : Bool} {co_InvalidList : Option Bool} {dd_InvalidList : Option Addr} {k0_InvalidList k1_InvalidList k2_InvalidList k3_InvalidList k5_InvalidList : Option Value} {od_InvalidList an_InvalidList : Option Addr} {kV_InvalidList dc_InvalidList pm_InvalidList ct_InvalidList : Value} {osl_InvalidList : Array (Option Value)} {c1_InvalidList c2_InvalidList c3_InvalidList : Value} {d1_InvalidList d2_InvalidList d3_InvalidList : Option Addr} {sl1_InvalidList sl2_InvalidList sl3_InvalidList : Array (Option Value)} {tn_InvalidList : Nat} {vs_InvalidList : Array Value} {fi_InvalidList : Str} {tf_InvalidList : Tok}
    (ns_InvalidList : PySem.W.nsIn K mainGlobals "InvalidList" = some (some (.ref c_InvalidList))) (lk_InvalidList : K.lookup c_InvalidList = some (excClassObj "InvalidList" q_InvalidList c_InvalidList n_InvalidList b_InvalidList [.ref cS, .type "ValueError", .type "Exception", .type "BaseException", .type "object"] true sn_InvalidList su_InvalidList ab_InvalidList co_InvalidList dd_InvalidList k0_InvalidList k1_InvalidList k2_InvalidList k3_InvalidList k5_InvalidList "ValueError.__new__"))
    (sa_InvalidList : PySem.W.findIn K (.ref c_InvalidList) "__setattr__" = some (some (.builtin "object.__setattr__"))) (ga_InvalidList : PySem.W.findIn K (.ref c_InvalidList) "__getattribute__" = some (some (.builtin "BaseException.__getattribute__"))) (gg_InvalidList : PySem.W.findIn K (.ref c_InvalidList) "__getattr__" = some none)
    (nv_InvalidList : PySem.W.findIn K (.ref c_InvalidList) "value" = some none) (kp_InvalidList : PySem.W.keepIn K (.ref c_InvalidList) = true) (hc_InvalidList : PySem.W.findIn K (.ref c_InvalidList) "__class__" = some (some (.builtin "object.__class__"))) (iC_InvalidList : PySem.W.findIn K (.ref c_InvalidList) "__init__" = some (some (.ref f_InvalidList))) (sp_InvalidList : PySem.W.ks_superIn K c_InvalidList c_InvalidList "__init__" = some (some (.builtin "ValueError.__init__")))
    (lf_InvalidList : K.lookup f_InvalidList = some ⟨.type "function", od_InvalidList, .func (PySem.W.fnX "__init__" "InvalidList.__init__" (defArgs k_InvalidList) (defBody k_InvalidList) (defScope k_InvalidList) [("__class__", cc_InvalidList)] (.ref td_InvalidList) kV_InvalidList dc_InvalidList pm_InvalidList an_InvalidList (.ref cda_InvalidList) ct_InvalidList), osl_InvalidList⟩) (cd_InvalidList : PySem.W.codeIn K (.ref cda_InvalidList) "InvalidList.__init__" = true)
    (lc_InvalidList : K.lookup cc_InvalidList = some ⟨c1_InvalidList, d1_InvalidList, .cell (some (.ref c_InvalidList)), sl1_InvalidList⟩) (lt_InvalidList : K.lookup td_InvalidList = some ⟨c2_InvalidList, d2_InvalidList, .seq #[.none] tn_InvalidList, sl2_InvalidList⟩) (lv_InvalidList : K.lookup cda_InvalidList = some ⟨c3_InvalidList, d3_InvalidList, .fields vs_InvalidList, sl3_InvalidList⟩) (hv_InvalidList : vs_InvalidList[2]? = some (.str fi_InvalidList tf_InvalidList)) (hf_InvalidList : (((PySem.Challenge.pw_slitsheets_k65_errors_by_their_classes : Program).main.file : Str) == fi_InvalidList) = true)
    {c_InvalidPoint f_InvalidPoint n_InvalidPoint cda_InvalidPoint cc_InvalidPoint td_InvalidPoint : Addr} {q_InvalidPoint : Str} {b_InvalidPoint : List Value} {sn_InvalidPoint : List Str} {su_InvalidPoint : List Value} {ab_InvalidPoint : Bool} {co_InvalidPoint : Option Bool} {dd_InvalidPoint : Option Addr} {k0_InvalidPoint k1_InvalidPoint k2_InvalidPoint k3_InvalidPoint k5_InvalidPoint : Option Value} {od_InvalidPoint an_InvalidPoint : Option Addr} {kV_InvalidPoint dc_InvalidPoint pm_InvalidPoint ct_InvalidPoint : Value} {osl_InvalidPoint : Array (Option Value)} {c1_InvalidPoint c2_InvalidPoint c3_InvalidPoint : Value} {d1_InvalidPoint d2_InvalidPoint d3_InvalidPoint : Option Addr} {sl1_InvalidPoint sl2_InvalidPoint sl3_InvalidPoint : Array (Option Value)} {tn_InvalidPoint : Nat} {vs_InvalidPoint : Array Value} {fi_InvalidPoint : Str} {tf_InvalidPoint : Tok}
    (ns_InvalidPoint : PySem.W.nsIn K mainGlobals "InvalidPoint" = some (some (.ref c_InvalidPoint))) (lk_InvalidPoint : K.lookup c_InvalidPoint = some (excClassObj "InvalidPoint" q_InvalidPoint c_InvalidPoint n_InvalidPoint b_InvalidPoint [.ref cS, .type "ValueError", .type "Exception", .type "BaseException", .type "object"] true sn_InvalidPoint su_InvalidPoint ab_InvalidPoint co_InvalidPoint dd_InvalidPoint k0_InvalidPoint k1_InvalidPoint k2_InvalidPoint k3_InvalidPoint k5_InvalidPoint "ValueError.__new__"))
    (sa_InvalidPoint : PySem.W.findIn K (.ref c_InvalidPoint) "__setattr__" = some (some (.builtin "object.__setattr__"))) (ga_InvalidPoint : PySem.W.findIn K (.ref c_InvalidPoint) "__getattribute__" = some (some (.builtin "BaseException.__getattribute__"))) (gg_InvalidPoint : PySem.W.findIn K (.ref c_InvalidPoint) "__getattr__" = some none)
    (nv_InvalidPoint : PySem.W.findIn K (.ref c_InvalidPoint) "value" = some none) (kp_InvalidPoint : PySem.W.keepIn K (.ref c_InvalidPoint) = true) (hc_InvalidPoint : PySem.W.findIn K (.ref c_InvalidPoint) "__class__" = some (some (.builtin "object.__class__"))) (iC_InvalidPoint : PySem.W.findIn K (.ref c_InvalidPoint) "__init__" = some (some (.ref f_InvalidPoint))) (sp_InvalidPoint : PySem.W.ks_superIn K c_InvalidPoint c_InvalidPoint "__init__" = some (some (.builtin "ValueError.__init__")))
    (lf_InvalidPoint : K.lookup f_InvalidPoint = some ⟨.type "function", od_InvalidPoint, .func (PySem.W.fnX "__init__" "InvalidPoint.__init__" (defArgs k_InvalidPoint) (defBody k_InvalidPoint) (defScope k_InvalidPoint) [("__class__", cc_InvalidPoint)] (.ref td_InvalidPoint) kV_InvalidPoint dc_InvalidPoint pm_InvalidPoint an_InvalidPoint (.ref cda_InvalidPoint) ct_InvalidPoint), osl_InvalidPoint⟩) (cd_InvalidPoint : PySem.W.codeIn K (.ref cda_InvalidPoint) "InvalidPoint.__init__" = true)
    (lc_InvalidPoint : K.lookup cc_InvalidPoint = some ⟨c1_InvalidPoint, d1_InvalidPoint, .cell (some (.ref c_InvalidPoint)), sl1_InvalidPoint⟩) (lt_InvalidPoint : K.lookup td_InvalidPoint = some ⟨c2_InvalidPoint, d2_InvalidPoint, .seq #[.none] tn_InvalidPoint, sl2_InvalidPoint⟩) (lv_InvalidPoint : K.lookup cda_InvalidPoint = some ⟨c3_InvalidPoint, d3_InvalidPoint, .fields vs_InvalidPoint, sl3_InvalidPoint⟩) (hv_InvalidPoint : vs_InvalidPoint[2]? = some (.str fi_InvalidPoint tf_InvalidPoint)) (hf_InvalidPoint : (((PySem.Challenge.pw_slitsheets_k65_errors_by_their_classes : Program).main.file : Str) == fi_InvalidPoint) = true)
    {c_InvalidTable f_InvalidTable n_InvalidTable cda_InvalidTable cc_InvalidTable td_InvalidTable : Addr} {q_InvalidTable : Str} {b_InvalidTable : List Value} {sn_InvalidTable : List Str} {su_InvalidTable : List Value} {ab_InvalidTable : Bool} {co_InvalidTable : Option Bool} {dd_InvalidTable : Option Addr} {k0_InvalidTable k1_InvalidTable k2_InvalidTable k3_InvalidTable k5_InvalidTable : Option Value} {od_InvalidTable an_InvalidTable : Option Addr} {kV_InvalidTable dc_InvalidTable pm_InvalidTable ct_InvalidTable : Value} {osl_InvalidTable : Array (Option Value)} {c1_InvalidTable c2_InvalidTable c3_InvalidTable : Value} {d1_InvalidTable d2_InvalidTable d3_InvalidTable : Option Addr} {sl1_InvalidTable sl2_InvalidTable sl3_InvalidTable : Array (Option Value)} {tn_InvalidTable : Nat} {vs_InvalidTable : Array Value} {fi_InvalidTable : Str} {tf_InvalidTable : Tok}
    (ns_InvalidTable : PySem.W.nsIn K mainGlobals "InvalidTable" = some (some (.ref c_InvalidTable))) (lk_InvalidTable : K.lookup c_InvalidTable = some (excClassObj "InvalidTable" q_InvalidTable c_InvalidTable n_InvalidTable b_InvalidTable [.ref cS, .type "ValueError", .type "Exception", .type "BaseException", .type "object"] true sn_InvalidTable su_InvalidTable ab_InvalidTable co_InvalidTable dd_InvalidTable k0_InvalidTable k1_InvalidTable k2_InvalidTable k3_InvalidTable k5_InvalidTable "ValueError.__new__"))
    (sa_InvalidTable : PySem.W.findIn K (.ref c_InvalidTable) "__setattr__" = some (some (.builtin "object.__setattr__"))) (ga_InvalidTable : PySem.W.findIn K (.ref c_InvalidTable) "__getattribute__" = some (some (.builtin "BaseException.__getattribute__"))) (gg_InvalidTable : PySem.W.findIn K (.ref c_InvalidTable) "__getattr__" = some none)
    (nv_InvalidTable : PySem.W.findIn K (.ref c_InvalidTable) "value" = some none) (kp_InvalidTable : PySem.W.keepIn K (.ref c_InvalidTable) = true) (hc_InvalidTable : PySem.W.findIn K (.ref c_InvalidTable) "__class__" = some (some (.builtin "object.__class__"))) (iC_InvalidTable : PySem.W.findIn K (.ref c_InvalidTable) "__init__" = some (some (.ref f_InvalidTable))) (sp_InvalidTable : PySem.W.ks_superIn K c_InvalidTable c_InvalidTable "__init__" = some (some (.builtin "ValueError.__init__")))
    (lf_InvalidTable : K.lookup f_InvalidTable = some ⟨.type "function", od_InvalidTable, .func (PySem.W.fnX "__init__" "InvalidTable.__init__" (defArgs k_InvalidTable) (defBody k_InvalidTable) (defScope k_InvalidTable) [("__class__", cc_InvalidTable)] (.ref td_InvalidTable) kV_InvalidTable dc_InvalidTable pm_InvalidTable an_InvalidTable (.ref cda_InvalidTable) ct_InvalidTable), osl_InvalidTable⟩) (cd_InvalidTable : PySem.W.codeIn K (.ref cda_InvalidTable) "InvalidTable.__init__" = true)
    (lc_InvalidTable : K.lookup cc_InvalidTable = some ⟨c1_InvalidTable, d1_InvalidTable, .cell (some (.ref c_InvalidTable)), sl1_InvalidTable⟩) (lt_InvalidTable : K.lookup td_InvalidTable = some ⟨c2_InvalidTable, d2_InvalidTable, .seq #[.none] tn_InvalidTable, sl2_InvalidTable⟩) (lv_InvalidTable : K.lookup cda_InvalidTable = some ⟨c3_InvalidTable, d3_InvalidTable, .fields vs_InvalidTable, sl3_InvalidTable⟩) (hv_InvalidTable : vs_InvalidTable[2]? = some (.str fi_InvalidTable tf_InvalidTable)) (hf_InvalidTable : (((PySem.Challenge.pw_slitsheets_k65_errors_by_their_classes : Program).main.file : Str) == fi_InvalidTable) = true)
    {c_InvalidFloor f_InvalidFloor n_InvalidFloor cda_InvalidFloor cc_InvalidFloor td_InvalidFloor : Addr} {q_InvalidFloor : Str} {b_InvalidFloor : List Value} {sn_InvalidFloor : List Str} {su_InvalidFloor : List Value} {ab_InvalidFloor : Bool} {co_InvalidFloor : Option Bool} {dd_InvalidFloor : Option Addr} {k0_InvalidFloor k1_InvalidFloor k2_InvalidFloor k3_InvalidFloor k5_InvalidFloor : Option Value} {od_InvalidFloor an_InvalidFloor : Option Addr} {kV_InvalidFloor dc_InvalidFloor pm_InvalidFloor ct_InvalidFloor : Value} {osl_InvalidFloor : Array (Option Value)} {c1_InvalidFloor c2_InvalidFloor c3_InvalidFloor : Value} {d1_InvalidFloor d2_InvalidFloor d3_InvalidFloor : Option Addr} {sl1_InvalidFloor sl2_InvalidFloor sl3_InvalidFloor : Array (Option Value)} {tn_InvalidFloor : Nat} {vs_InvalidFloor : Array Value} {fi_InvalidFloor : Str} {tf_InvalidFloor : Tok}
    (ns_InvalidFloor : PySem.W.nsIn K mainGlobals "InvalidFloor" = some (some (.ref c_InvalidFloor))) (lk_InvalidFloor : K.lookup c_InvalidFloor = some (excClassObj "InvalidFloor" q_InvalidFloor c_InvalidFloor n_InvalidFloor b_InvalidFloor [.ref cS, .type "ValueError", .type "Exception", .type "BaseException", .type "object"] true sn_InvalidFloor su_InvalidFloor ab_InvalidFloor co_InvalidFloor dd_InvalidFloor k0_InvalidFloor k1_InvalidFloor k2_InvalidFloor k3_InvalidFloor k5_InvalidFloor "ValueError.__new__"))
    (sa_InvalidFloor : PySem.W.findIn K (.ref c_InvalidFloor) "__setattr__" = some (some (.builtin "object.__setattr__"))) (ga_InvalidFloor : PySem.W.findIn K (.ref c_InvalidFloor) "__getattribute__" = some (some (.builtin "BaseException.__getattribute__"))) (gg_InvalidFloor : PySem.W.findIn K (.ref c_InvalidFloor) "__getattr__" = some none)
    (nv_InvalidFloor : PySem.W.findIn K (.ref c_InvalidFloor) "value" = some none) (kp_InvalidFloor : PySem.W.keepIn K (.ref c_InvalidFloor) = true) (hc_InvalidFloor : PySem.W.findIn K (.ref c_InvalidFloor) "__class__" = some (some (.builtin "object.__class__"))) (iC_InvalidFloor : PySem.W.findIn K (.ref c_InvalidFloor) "__init__" = some (some (.ref f_InvalidFloor))) (sp_InvalidFloor : PySem.W.ks_superIn K c_InvalidFloor c_InvalidFloor "__init__" = some (some (.builtin "ValueError.__init__")))
    (lf_InvalidFloor : K.lookup f_InvalidFloor = some ⟨.type "function", od_InvalidFloor, .func (PySem.W.fnX "__init__" "InvalidFloor.__init__" (defArgs k_InvalidFloor) (defBody k_InvalidFloor) (defScope k_InvalidFloor) [("__class__", cc_InvalidFloor)] (.ref td_InvalidFloor) kV_InvalidFloor dc_InvalidFloor pm_InvalidFloor an_InvalidFloor (.ref cda_InvalidFloor) ct_InvalidFloor), osl_InvalidFloor⟩) (cd_InvalidFloor : PySem.W.codeIn K (.ref cda_InvalidFloor) "InvalidFloor.__init__" = true)
    (lc_InvalidFloor : K.lookup cc_InvalidFloor = some ⟨c1_InvalidFloor, d1_InvalidFloor, .cell (some (.ref c_InvalidFloor)), sl1_InvalidFloor⟩) (lt_InvalidFloor : K.lookup td_InvalidFloor = some ⟨c2_InvalidFloor, d2_InvalidFloor, .seq #[.none] tn_InvalidFloor, sl2_InvalidFloor⟩) (lv_InvalidFloor : K.lookup cda_InvalidFloor = some ⟨c3_InvalidFloor, d3_InvalidFloor, .fields vs_InvalidFloor, sl3_InvalidFloor⟩) (hv_InvalidFloor : vs_InvalidFloor[2]? = some (.str fi_InvalidFloor tf_InvalidFloor)) (hf_InvalidFloor : (((PySem.Challenge.pw_slitsheets_k65_errors_by_their_classes : Program).main.file : Str) == fi_InvalidFloor) = true)
    {c_Unlike f_Unlike n_Unlike cda_Unlike cc_Unlike td_Unlike : Addr} {q_Unlike : Str} {b_Unlike : List Value} {sn_Unlike : List Str} {su_Unlike : List Value} {ab_Unlike : Bool} {co_Unlike : Option Bool} {dd_Unlike : Option Addr} {k0_Unlike k1_Unlike k2_Unlike k3_Unlike k5_Unlike : Option Value} {od_Unlike an_Unlike : Option Addr} {kV_Unlike dc_Unlike pm_Unlike ct_Unlike : Value} {osl_Unlike : Array (Option Value)} {c1_Unlike c2_Unlike c3_Unlike : Value} {d1_Unlike d2_Unlike d3_Unlike : Option Addr} {sl1_Unlike sl2_Unlike sl3_Unlike : Array (Option Value)} {tn_Unlike : Nat} {vs_Unlike : Array Value} {fi_Unlike : Str} {tf_Unlike : Tok}
    (ns_Unlike : PySem.W.nsIn K mainGlobals "Unlike" = some (some (.ref c_Unlike))) (lk_Unlike : K.lookup c_Unlike = some (excClassObj "Unlike" q_Unlike c_Unlike n_Unlike b_Unlike [.ref cS, .type "ValueError", .type "Exception", .type "BaseException", .type "object"] true sn_Unlike su_Unlike ab_Unlike co_Unlike dd_Unlike k0_Unlike k1_Unlike k2_Unlike k3_Unlike k5_Unlike "ValueError.__new__"))
    (sa_Unlike : PySem.W.findIn K (.ref c_Unlike) "__setattr__" = some (some (.builtin "object.__setattr__"))) (ga_Unlike : PySem.W.findIn K (.ref c_Unlike) "__getattribute__" = some (some (.builtin "BaseException.__getattribute__"))) (gg_Unlike : PySem.W.findIn K (.ref c_Unlike) "__getattr__" = some none)
    (nv_Unlike : PySem.W.findIn K (.ref c_Unlike) "value" = some none) (kp_Unlike : PySem.W.keepIn K (.ref c_Unlike) = true) (hc_Unlike : PySem.W.findIn K (.ref c_Unlike) "__class__" = some (some (.builtin "object.__class__"))) (iC_Unlike : PySem.W.findIn K (.ref c_Unlike) "__init__" = some (some (.ref f_Unlike))) (sp_Unlike : PySem.W.ks_superIn K c_Unlike c_Unlike "__init__" = some (some (.builtin "ValueError.__init__")))
    (lf_Unlike : K.lookup f_Unlike = some ⟨.type "function", od_Unlike, .func (PySem.W.fnX "__init__" "Unlike.__init__" (defArgs k_Unlike) (defBody k_Unlike) (defScope k_Unlike) [("__class__", cc_Unlike)] (.ref td_Unlike) kV_Unlike dc_Unlike pm_Unlike an_Unlike (.ref cda_Unlike) ct_Unlike), osl_Unlike⟩) (cd_Unlike : PySem.W.codeIn K (.ref cda_Unlike) "Unlike.__init__" = true)
    (lc_Unlike : K.lookup cc_Unlike = some ⟨c1_Unlike, d1_Unlike, .cell (some (.ref c_Unlike)), sl1_Unlike⟩) (lt_Unlike : K.lookup td_Unlike = some ⟨c2_Unlike, d2_Unlike, .seq #[.none] tn_Unlike, sl2_Unlike⟩) (lv_Unlike : K.lookup cda_Unlike = some ⟨c3_Unlike, d3_Unlike, .fields vs_Unlike, sl3_Unlike⟩) (hv_Unlike : vs_Unlike[2]? = some (.str fi_Unlike tf_Unlike)) (hf_Unlike : (((PySem.Challenge.pw_slitsheets_k65_errors_by_their_classes : Program).main.file : Str) == fi_Unlike) = true)
    {c_TooMany f_TooMany n_TooMany cda_TooMany cc_TooMany td_TooMany : Addr} {q_TooMany : Str} {b_TooMany : List Value} {sn_TooMany : List Str} {su_TooMany : List Value} {ab_TooMany : Bool} {co_TooMany : Option Bool} {dd_TooMany : Option Addr} {k0_TooMany k1_TooMany k2_TooMany k3_TooMany k5_TooMany : Option Value} {od_TooMany an_TooMany : Option Addr} {kV_TooMany dc_TooMany pm_TooMany ct_TooMany : Value} {osl_TooMany : Array (Option Value)} {c1_TooMany c2_TooMany c3_TooMany : Value} {d1_TooMany d2_TooMany d3_TooMany : Option Addr} {sl1_TooMany sl2_TooMany sl3_TooMany : Array (Option Value)} {tn_TooMany : Nat} {vs_TooMany : Array Value} {fi_TooMany : Str} {tf_TooMany : Tok}
    (ns_TooMany : PySem.W.nsIn K mainGlobals "TooMany" = some (some (.ref c_TooMany))) (lk_TooMany : K.lookup c_TooMany = some (excClassObj "TooMany" q_TooMany c_TooMany n_TooMany b_TooMany [.ref cS, .type "ValueError", .type "Exception", .type "BaseException", .type "object"] true sn_TooMany su_TooMany ab_TooMany co_TooMany dd_TooMany k0_TooMany k1_TooMany k2_TooMany k3_TooMany k5_TooMany "ValueError.__new__"))
    (sa_TooMany : PySem.W.findIn K (.ref c_TooMany) "__setattr__" = some (some (.builtin "object.__setattr__"))) (ga_TooMany : PySem.W.findIn K (.ref c_TooMany) "__getattribute__" = some (some (.builtin "BaseException.__getattribute__"))) (gg_TooMany : PySem.W.findIn K (.ref c_TooMany) "__getattr__" = some none)
    (nv_TooMany : PySem.W.findIn K (.ref c_TooMany) "value" = some none) (kp_TooMany : PySem.W.keepIn K (.ref c_TooMany) = true) (hc_TooMany : PySem.W.findIn K (.ref c_TooMany) "__class__" = some (some (.builtin "object.__class__"))) (iC_TooMany : PySem.W.findIn K (.ref c_TooMany) "__init__" = some (some (.ref f_TooMany))) (sp_TooMany : PySem.W.ks_superIn K c_TooMany c_TooMany "__init__" = some (some (.builtin "ValueError.__init__")))
    (lf_TooMany : K.lookup f_TooMany = some ⟨.type "function", od_TooMany, .func (PySem.W.fnX "__init__" "TooMany.__init__" (defArgs k_TooMany) (defBody k_TooMany) (defScope k_TooMany) [("__class__", cc_TooMany)] (.ref td_TooMany) kV_TooMany dc_TooMany pm_TooMany an_TooMany (.ref cda_TooMany) ct_TooMany), osl_TooMany⟩) (cd_TooMany : PySem.W.codeIn K (.ref cda_TooMany) "TooMany.__init__" = true)
    (lc_TooMany : K.lookup cc_TooMany = some ⟨c1_TooMany, d1_TooMany, .cell (some (.ref c_TooMany)), sl1_TooMany⟩) (lt_TooMany : K.lookup td_TooMany = some ⟨c2_TooMany, d2_TooMany, .seq #[.none] tn_TooMany, sl2_TooMany⟩) (lv_TooMany : K.lookup cda_TooMany = some ⟨c3_TooMany, d3_TooMany, .fields vs_TooMany, sl3_TooMany⟩) (hv_TooMany : vs_TooMany[2]? = some (.str fi_TooMany tf_TooMany)) (hf_TooMany : (((PySem.Challenge.pw_slitsheets_k65_errors_by_their_classes : Program).main.file : Str) == fi_TooMany) = true)
    {f_l_cell_cf3b : Addr} {oc_l_cell_cf3b kV_l_cell_cf3b dc_l_cell_cf3b pm_l_cell_cf3b cd_l_cell_cf3b ct_l_cell_cf3b : Value} {od_l_cell_cf3b an_l_cell_cf3b : Option Addr} {sl_l_cell_cf3b : Array (Option Value)}
    (a_l_cell_cf3b : PySem.W.nsIn K mainGlobals "_law_cell" = some (some (.ref f_l_cell_cf3b))) (l_l_cell_cf3b : K.lookup f_l_cell_cf3b = some ⟨oc_l_cell_cf3b, od_l_cell_cf3b, .func (PySem.W.fnOf "_law_cell" "_law_cell" (defArgs s_l_cell_cf3b) (defBody s_l_cell_cf3b) (defScope s_l_cell_cf3b) .none kV_l_cell_cf3b dc_l_cell_cf3b pm_l_cell_cf3b an_l_cell_cf3b cd_l_cell_cf3b ct_l_cell_cf3b), sl_l_cell_cf3b⟩) (e_l_cell_cf3b : PySem.W.codeIn K cd_l_cell_cf3b "_law_cell" = true) (k_l_cell_cf3b : PySem.W.keepIn K (.ref f_l_cell_cf3b) = true)
    {f_l_generator_b324 : Addr} {oc_l_generator_b324 kV_l_generator_b324 dc_l_generator_b324 pm_l_generator_b324 cd_l_generator_b324 ct_l_generator_b324 : Value} {od_l_generator_b324 an_l_generator_b324 : Option Addr} {sl_l_generator_b324 : Array (Option Value)}
    (a_l_generator_b324 : PySem.W.nsIn K mainGlobals "_law_generator" = some (some (.ref f_l_generator_b324))) (l_l_generator_b324 : K.lookup f_l_generator_b324 = some ⟨oc_l_generator_b324, od_l_generator_b324, .func (PySem.W.fnOf "_law_generator" "_law_generator" (defArgs s_l_generator_b324) (defBody s_l_generator_b324) (defScope s_l_generator_b324) .none kV_l_generator_b324 dc_l_generator_b324 pm_l_generator_b324 an_l_generator_b324 cd_l_generator_b324 ct_l_generator_b324), sl_l_generator_b324⟩) (e_l_generator_b324 : PySem.W.codeIn K cd_l_generator_b324 "_law_generator" = true) (k_l_generator_b324 : PySem.W.keepIn K (.ref f_l_generator_b324) = true)
    {f_l_hash_9cde : Addr} {oc_l_hash_9cde kV_l_hash_9cde dc_l_hash_9cde pm_l_hash_9cde cd_l_hash_9cde ct_l_hash_9cde : Value} {od_l_hash_9cde an_l_hash_9cde : Option Addr} {sl_l_hash_9cde : Array (Option Value)}
    (a_l_hash_9cde : PySem.W.nsIn K mainGlobals "_law_hash" = some (some (.ref f_l_hash_9cde))) (l_l_hash_9cde : K.lookup f_l_hash_9cde = some ⟨oc_l_hash_9cde, od_l_hash_9cde, .func (PySem.W.fnOf "_law_hash" "_law_hash" (defArgs s_l_hash_9cde) (defBody s_l_hash_9cde) (defScope s_l_hash_9cde) .none kV_l_hash_9cde dc_l_hash_9cde pm_l_hash_9cde an_l_hash_9cde cd_l_hash_9cde ct_l_hash_9cde), sl_l_hash_9cde⟩) (e_l_hash_9cde : PySem.W.codeIn K cd_l_hash_9cde "_law_hash" = true) (k_l_hash_9cde : PySem.W.keepIn K (.ref f_l_hash_9cde) = true)
    {f_l_random_7821 : Addr} {oc_l_random_7821 kV_l_random_7821 dc_l_random_7821 pm_l_random_7821 cd_l_random_7821 ct_l_random_7821 : Value} {od_l_random_7821 an_l_random_7821 : Option Addr} {sl_l_random_7821 : Array (Option Value)}
    (a_l_random_7821 : PySem.W.nsIn K mainGlobals "_law_random" = some (some (.ref f_l_random_7821))) (l_l_random_7821 : K.lookup f_l_random_7821 = some ⟨oc_l_random_7821, od_l_random_7821, .func (PySem.W.fnOf "_law_random" "_law_random" (defArgs s_l_random_7821) (defBody s_l_random_7821) (defScope s_l_random_7821) .none kV_l_random_7821 dc_l_random_7821 pm_l_random_7821 an_l_random_7821 cd_l_random_7821 ct_l_random_7821), sl_l_random_7821⟩) (e_l_random_7821 : PySem.W.codeIn K cd_l_random_7821 "_law_random" = true) (k_l_random_7821 : PySem.W.keepIn K (.ref f_l_random_7821) = true)
    {f_l_first_5822 : Addr} {oc_l_first_5822 kV_l_first_5822 dc_l_first_5822 pm_l_first_5822 cd_l_first_5822 ct_l_first_5822 : Value} {od_l_first_5822 an_l_first_5822 : Option Addr} {sl_l_first_5822 : Array (Option Value)}
    (a_l_first_5822 : PySem.W.nsIn K mainGlobals "_law_first" = some (some (.ref f_l_first_5822))) (l_l_first_5822 : K.lookup f_l_first_5822 = some ⟨oc_l_first_5822, od_l_first_5822, .func (PySem.W.fnOf "_law_first" "_law_first" (defArgs s_l_first_5822) (defBody s_l_first_5822) (defScope s_l_first_5822) .none kV_l_first_5822 dc_l_first_5822 pm_l_first_5822 an_l_first_5822 cd_l_first_5822 ct_l_first_5822), sl_l_first_5822⟩) (e_l_first_5822 : PySem.W.codeIn K cd_l_first_5822 "_law_first" = true) (k_l_first_5822 : PySem.W.keepIn K (.ref f_l_first_5822) = true)
    {f_l_second_dbe7 : Addr} {oc_l_second_dbe7 kV_l_second_dbe7 dc_l_second_dbe7 pm_l_second_dbe7 cd_l_second_dbe7 ct_l_second_dbe7 : Value} {od_l_second_dbe7 an_l_second_dbe7 : Option Addr} {sl_l_second_dbe7 : Array (Option Value)}
    (a_l_second_dbe7 : PySem.W.nsIn K mainGlobals "_law_second" = some (some (.ref f_l_second_dbe7))) (l_l_second_dbe7 : K.lookup f_l_second_dbe7 = some ⟨oc_l_second_dbe7, od_l_second_dbe7, .func (PySem.W.fnOf "_law_second" "_law_second" (defArgs s_l_second_dbe7) (defBody s_l_second_dbe7) (defScope s_l_second_dbe7) .none kV_l_second_dbe7 dc_l_second_dbe7 pm_l_second_dbe7 an_l_second_dbe7 cd_l_second_dbe7 ct_l_second_dbe7), sl_l_second_dbe7⟩) (e_l_second_dbe7 : PySem.W.codeIn K cd_l_second_dbe7 "_law_second" = true) (k_l_second_dbe7 : PySem.W.keepIn K (.ref f_l_second_dbe7) = true)
    {f_l_made_94f3 : Addr} {oc_l_made_94f3 kV_l_made_94f3 dc_l_made_94f3 pm_l_made_94f3 cd_l_made_94f3 ct_l_made_94f3 : Value} {od_l_made_94f3 an_l_made_94f3 : Option Addr} {sl_l_made_94f3 : Array (Option Value)}
    (a_l_made_94f3 : PySem.W.nsIn K mainGlobals "_law_made" = some (some (.ref f_l_made_94f3))) (l_l_made_94f3 : K.lookup f_l_made_94f3 = some ⟨oc_l_made_94f3, od_l_made_94f3, .func (PySem.W.fnOf "_law_made" "_law_made" (defArgs s_l_made_94f3) (defBody s_l_made_94f3) (defScope s_l_made_94f3) .none kV_l_made_94f3 dc_l_made_94f3 pm_l_made_94f3 an_l_made_94f3 cd_l_made_94f3 ct_l_made_94f3), sl_l_made_94f3⟩) (e_l_made_94f3 : PySem.W.codeIn K cd_l_made_94f3 "_law_made" = true) (k_l_made_94f3 : PySem.W.keepIn K (.ref f_l_made_94f3) = true)
    {f_l_flags_6e5f : Addr} {oc_l_flags_6e5f kV_l_flags_6e5f dc_l_flags_6e5f pm_l_flags_6e5f cd_l_flags_6e5f ct_l_flags_6e5f : Value} {od_l_flags_6e5f an_l_flags_6e5f : Option Addr} {sl_l_flags_6e5f : Array (Option Value)}
    (a_l_flags_6e5f : PySem.W.nsIn K mainGlobals "_law_flags" = some (some (.ref f_l_flags_6e5f))) (l_l_flags_6e5f : K.lookup f_l_flags_6e5f = some ⟨oc_l_flags_6e5f, od_l_flags_6e5f, .func (PySem.W.fnOf "_law_flags" "_law_flags" (defArgs s_l_flags_6e5f) (defBody s_l_flags_6e5f) (defScope s_l_flags_6e5f) .none kV_l_flags_6e5f dc_l_flags_6e5f pm_l_flags_6e5f an_l_flags_6e5f cd_l_flags_6e5f ct_l_flags_6e5f), sl_l_flags_6e5f⟩) (e_l_flags_6e5f : PySem.W.codeIn K cd_l_flags_6e5f "_law_flags" = true) (k_l_flags_6e5f : PySem.W.keepIn K (.ref f_l_flags_6e5f) = true)
    {f_l_law_5227 : Addr} {oc_l_law_5227 kV_l_law_5227 dc_l_law_5227 pm_l_law_5227 cd_l_law_5227 ct_l_law_5227 : Value} {od_l_law_5227 an_l_law_5227 : Option Addr} {sl_l_law_5227 : Array (Option Value)}
    (a_l_law_5227 : PySem.W.nsIn K mainGlobals "law" = some (some (.ref f_l_law_5227))) (l_l_law_5227 : K.lookup f_l_law_5227 = some ⟨oc_l_law_5227, od_l_law_5227, .func (PySem.W.fnOf "law" "law" (defArgs s_l_law_5227) (defBody s_l_law_5227) (defScope s_l_law_5227) .none kV_l_law_5227 dc_l_law_5227 pm_l_law_5227 an_l_law_5227 cd_l_law_5227 ct_l_law_5227), sl_l_law_5227⟩) (e_l_law_5227 : PySem.W.codeIn K cd_l_law_5227 "law" = true) (k_l_law_5227 : PySem.W.keepIn K (.ref f_l_law_5227) = true)
    (base : Heap) (Xb : K.In base) : Txt PySem.Challenge.pw_slitsheets_k65_errors_by_their_classes K mg base where
  s_SheetError := ⟨_, XA.shC_mk ns_S lk_S, PySem.W.mg_of X G ns_S⟩
  x_SheetError := ⟨_, ⟨XA.shC_mk ns_S lk_S, kp_S, ex_S, ga_S, gg_S, hc_S, gs_S, tk_S⟩, PySem.W.mg_of X G ns_S⟩
  e_InvalidMeasure := XA.erM_mk X G (XA.shC_mk ns_S lk_S) it_InvalidMeasure (by decide) ns_InvalidMeasure lk_InvalidMeasure sa_InvalidMeasure ga_InvalidMeasure gg_InvalidMeasure nv_InvalidMeasure kp_InvalidMeasure hc_InvalidMeasure gs_S tk_S iC_InvalidMeasure (XA.sup_of lk_InvalidMeasure sp_InvalidMeasure) any_S msup_S lf_InvalidMeasure cd_InvalidMeasure lc_InvalidMeasure lt_InvalidMeasure lv_InvalidMeasure hv_InvalidMeasure hf_InvalidMeasure (by decide +kernel)
  e_InvalidNumber := XA.erM_mk X G (XA.shC_mk ns_S lk_S) it_InvalidNumber (by decide) ns_InvalidNumber lk_InvalidNumber sa_InvalidNumber ga_InvalidNumber gg_InvalidNumber nv_InvalidNumber kp_InvalidNumber hc_InvalidNumber gs_S tk_S iC_InvalidNumber (XA.sup_of lk_InvalidNumber sp_InvalidNumber) any_S msup_S lf_InvalidNumber cd_InvalidNumber lc_InvalidNumber lt_InvalidNumber lv_InvalidNumber hv_InvalidNumber hf_InvalidNumber (by decide +kernel)
  e_InvalidRoot := XA.erM_mk X G (XA.shC_mk ns_S lk_S) it_InvalidRoot (by decide) ns_InvalidRoot lk_InvalidRoot sa_InvalidRoot ga_InvalidRoot gg_InvalidRoot nv_InvalidRoot kp_InvalidRoot hc_InvalidRoot gs_S tk_S iC_InvalidRoot (XA.sup_of lk_InvalidRoot sp_InvalidRoot) any_S msup_S lf_InvalidRoot cd_InvalidRoot lc_InvalidRoot lt_InvalidRoot lv_InvalidRoot hv_InvalidRoot hf_InvalidRoot (by decide +kernel)
  e_InvalidCutting := XA.erM_mk X G (XA.shC_mk ns_S lk_S) it_InvalidCutting (by decide) ns_InvalidCutting lk_InvalidCutting sa_InvalidCutting ga_InvalidCutting gg_InvalidCutting nv_InvalidCutting kp_InvalidCutting hc_InvalidCutting gs_S tk_S iC_InvalidCutting (XA.sup_of lk_InvalidCutting sp_InvalidCutting) any_S msup_S lf_InvalidCutting cd_InvalidCutting lc_InvalidCutting lt_InvalidCutting lv_InvalidCutting hv_InvalidCutting hf_InvalidCutting (by decide +kernel)
  e_InvalidDeed := XA.erM_mk X G (XA.shC_mk ns_S lk_S) it_InvalidDeed (by decide) ns_InvalidDeed lk_InvalidDeed sa_InvalidDeed ga_InvalidDeed gg_InvalidDeed nv_InvalidDeed kp_InvalidDeed hc_InvalidDeed gs_S tk_S iC_InvalidDeed (XA.sup_of lk_InvalidDeed sp_InvalidDeed) any_S msup_S lf_InvalidDeed cd_InvalidDeed lc_InvalidDeed lt_InvalidDeed lv_InvalidDeed hv_InvalidDeed hf_InvalidDeed (by decide +kernel)
  e_InvalidWord := XA.erM_mk X G (XA.shC_mk ns_S lk_S) it_InvalidWord (by decide) ns_InvalidWord lk_InvalidWord sa_InvalidWord ga_InvalidWord gg_InvalidWord nv_InvalidWord kp_InvalidWord hc_InvalidWord gs_S tk_S iC_InvalidWord (XA.sup_of lk_InvalidWord sp_InvalidWord) any_S msup_S lf_InvalidWord cd_InvalidWord lc_InvalidWord lt_InvalidWord lv_InvalidWord hv_InvalidWord hf_InvalidWord (by decide +kernel)
  e_InvalidList := XA.erM_mk X G (XA.shC_mk ns_S lk_S) it_InvalidList (by decide) ns_InvalidList lk_InvalidList sa_InvalidList ga_InvalidList gg_InvalidList nv_InvalidList kp_InvalidList hc_InvalidList gs_S tk_S iC_InvalidList (XA.sup_of lk_InvalidList sp_InvalidList) any_S msup_S lf_InvalidList cd_InvalidList lc_InvalidList lt_InvalidList lv_InvalidList hv_InvalidList hf_InvalidList (by decide +kernel)
  e_InvalidPoint := XA.erM_mk X G (XA.shC_mk ns_S lk_S) it_InvalidPoint (by decide) ns_InvalidPoint lk_InvalidPoint sa_InvalidPoint ga_InvalidPoint gg_InvalidPoint nv_InvalidPoint kp_InvalidPoint hc_InvalidPoint gs_S tk_S iC_InvalidPoint (XA.sup_of lk_InvalidPoint sp_InvalidPoint) any_S msup_S lf_InvalidPoint cd_InvalidPoint lc_InvalidPoint lt_InvalidPoint lv_InvalidPoint hv_InvalidPoint hf_InvalidPoint (by decide +kernel)
  e_InvalidTable := XA.erM_mk X G (XA.shC_mk ns_S lk_S) it_InvalidTable (by decide) ns_InvalidTable lk_InvalidTable sa_InvalidTable ga_InvalidTable gg_InvalidTable nv_InvalidTable kp_InvalidTable hc_InvalidTable gs_S tk_S iC_InvalidTable (XA.sup_of lk_InvalidTable sp_InvalidTable) any_S msup_S lf_InvalidTable cd_InvalidTable lc_InvalidTable lt_InvalidTable lv_InvalidTable hv_InvalidTable hf_InvalidTable (by decide +kernel)
  e_InvalidFloor := XA.erM_mk X G (XA.shC_mk ns_S lk_S) it_InvalidFloor (by decide) ns_InvalidFloor lk_InvalidFloor sa_InvalidFloor ga_InvalidFloor gg_InvalidFloor nv_InvalidFloor kp_InvalidFloor hc_InvalidFloor gs_S tk_S iC_InvalidFloor (XA.sup_of lk_InvalidFloor sp_InvalidFloor) any_S msup_S lf_InvalidFloor cd_InvalidFloor lc_InvalidFloor lt_InvalidFloor lv_InvalidFloor hv_InvalidFloor hf_InvalidFloor (by decide +kernel)
  e_Unlike := XA.erM_mk X G (XA.shC_mk ns_S lk_S) it_Unlike (by decide) ns_Unlike lk_Unlike sa_Unlike ga_Unlike gg_Unlike nv_Unlike kp_Unlike hc_Unlike gs_S tk_S iC_Unlike (XA.sup_of lk_Unlike sp_Unlike) any_S msup_S lf_Unlike cd_Unlike lc_Unlike lt_Unlike lv_Unlike hv_Unlike hf_Unlike (by decide +kernel)
  e_TooMany := XA.erM_mk X G (XA.shC_mk ns_S lk_S) it_TooMany (by decide) ns_TooMany lk_TooMany sa_TooMany ga_TooMany gg_TooMany nv_TooMany kp_TooMany hc_TooMany gs_S tk_S iC_TooMany (XA.sup_of lk_TooMany sp_TooMany) any_S msup_S lf_TooMany cd_TooMany lc_TooMany lt_TooMany lv_TooMany hv_TooMany hf_TooMany (by decide +kernel)
  n_ValueError := PySem.W.mg_none_of X G n_ValueError
  n_int := PySem.W.mg_none_of X G n_int
  n_isinstance := PySem.W.mg_none_of X G n_isinstance
  n_len := PySem.W.mg_none_of X G n_len
  n_list := PySem.W.mg_none_of X G n_list
  n_max := PySem.W.mg_none_of X G n_max
  n_range := PySem.W.mg_none_of X G n_range
  n_repr := PySem.W.mg_none_of X G n_repr
  n_sum := PySem.W.mg_none_of X G n_sum
  h_l_cell_cf3b := here_of (st := s_l_cell_cf3b) X G a_l_cell_cf3b l_l_cell_cf3b e_l_cell_cf3b k_l_cell_cf3b fun _ _ _ _ _ _ us hl => match us, hl with | [_, _], _ => rfl
  h_l_generator_b324 := here_of (st := s_l_generator_b324) X G a_l_generator_b324 l_l_generator_b324 e_l_generator_b324 k_l_generator_b324 fun _ _ _ _ _ _ us hl => match us, hl with | [_, _], _ => rfl
  h_l_hash_9cde := here_of (st := s_l_hash_9cde) X G a_l_hash_9cde l_l_hash_9cde e_l_hash_9cde k_l_hash_9cde fun _ _ _ _ _ _ us hl => match us, hl with | [_, _], _ => rfl
  h_l_random_7821 := here_of (st := s_l_random_7821) X G a_l_random_7821 l_l_random_7821 e_l_random_7821 k_l_random_7821 fun _ _ _ _ _ _ us hl => match us, hl with | [_, _], _ => rfl
  h_l_first_5822 := here_of (st := s_l_first_5822) X G a_l_first_5822 l_l_first_5822 e_l_first_5822 k_l_first_5822 fun _ _ _ _ _ _ us hl => match us, hl with | [_, _], _ => rfl
  h_l_second_dbe7 := here_of (st := s_l_second_dbe7) X G a_l_second_dbe7 l_l_second_dbe7 e_l_second_dbe7 k_l_second_dbe7 fun _ _ _ _ _ _ us hl => match us, hl with | [_, _], _ => rfl
  h_l_made_94f3 := here_of (st := s_l_made_94f3) X G a_l_made_94f3 l_l_made_94f3 e_l_made_94f3 k_l_made_94f3 fun _ _ _ _ _ _ us hl => match us, hl with | [_, _], _ => rfl
  h_l_flags_6e5f := here_of (st := s_l_flags_6e5f) X G a_l_flags_6e5f l_l_flags_6e5f e_l_flags_6e5f k_l_flags_6e5f fun _ _ _ _ _ _ us hl => match us, hl with | [_], _ => rfl
  h_l_law_5227 := here_of (st := s_l_law_5227) X G a_l_law_5227 l_l_law_5227 e_l_law_5227 k_l_law_5227 fun _ _ _ _ _ _ us hl => match us, hl with | [_], _ => rfl
end C_k65
open PySem PySem.W PyProof.Rows
set_option maxHeartbeats 0 in
theorem PySem.Challenge.cw_slitsheets_k65_errors_by_their_classes_holds : PySem.Challenge.rw_slitsheets_k65_errors_by_their_classes.Holds := by
  w_on; o_law; k_head; (case hw => w_witness2)
  k_fill
  refine DL.walkD (l := PySem.Challenge.rw_slitsheets_k65_errors_by_their_classes) (n := 63) (k := 3) (x := "_law_script") (st := C_k65.s_l_law_5227) rfl (by decide) rfl ⟨rfl, by decide, by decide⟩ (fun w h Y => PySem.W.kIn_of Y) ?F (fun _ _ _ _ _ _ _ => rfl)
  case F =>
    intro w mg h KX G base Xb Gb
    refine' C_k65.law_ok (C_k65.all_mk KX G ?n_ValueError ?n_int ?n_isinstance ?n_len ?n_list ?n_max ?n_range ?n_repr ?n_sum ?ns_S ?lk_S ?kp_S ?ex_S ?ga_S ?gg_S ?hc_S ?gs_S ?tk_S ?any_S ?msup_S ?ns_InvalidMeasure ?lk_InvalidMeasure ?sa_InvalidMeasure ?ga_InvalidMeasure ?gg_InvalidMeasure ?nv_InvalidMeasure ?kp_InvalidMeasure ?hc_InvalidMeasure ?iC_InvalidMeasure ?sp_InvalidMeasure ?lf_InvalidMeasure ?cd_InvalidMeasure ?lc_InvalidMeasure ?lt_InvalidMeasure ?lv_InvalidMeasure ?hv_InvalidMeasure ?hf_InvalidMeasure ?ns_InvalidNumber ?lk_InvalidNumber ?sa_InvalidNumber ?ga_InvalidNumber ?gg_InvalidNumber ?nv_InvalidNumber ?kp_InvalidNumber ?hc_InvalidNumber ?iC_InvalidNumber ?sp_InvalidNumber ?lf_InvalidNumber ?cd_InvalidNumber ?lc_InvalidNumber ?lt_InvalidNumber ?lv_InvalidNumber ?hv_InvalidNumber ?hf_InvalidNumber ?ns_InvalidRoot ?lk_InvalidRoot ?sa_InvalidRoot ?ga_InvalidRoot ?gg_InvalidRoot ?nv_InvalidRoot ?kp_InvalidRoot ?hc_InvalidRoot ?iC_InvalidRoot ?sp_InvalidRoot ?lf_InvalidRoot ?cd_InvalidRoot ?lc_InvalidRoot ?lt_InvalidRoot ?lv_InvalidRoot ?hv_InvalidRoot ?hf_InvalidRoot ?ns_InvalidCutting ?lk_InvalidCutting ?sa_InvalidCutting ?ga_InvalidCutting ?gg_InvalidCutting ?nv_InvalidCutting ?kp_InvalidCutting ?hc_InvalidCutting ?iC_InvalidCutting ?sp_InvalidCutting ?lf_InvalidCutting ?cd_InvalidCutting ?lc_InvalidCutting ?lt_InvalidCutting ?lv_InvalidCutting ?hv_InvalidCutting ?hf_InvalidCutting ?ns_InvalidDeed ?lk_InvalidDeed ?sa_InvalidDeed ?ga_InvalidDeed ?gg_InvalidDeed ?nv_InvalidDeed ?kp_InvalidDeed ?hc_InvalidDeed ?iC_InvalidDeed ?sp_InvalidDeed ?lf_InvalidDeed ?cd_InvalidDeed ?lc_InvalidDeed ?lt_InvalidDeed ?lv_InvalidDeed ?hv_InvalidDeed ?hf_InvalidDeed ?ns_InvalidWord ?lk_InvalidWord ?sa_InvalidWord ?ga_InvalidWord ?gg_InvalidWord ?nv_InvalidWord ?kp_InvalidWord ?hc_InvalidWord ?iC_InvalidWord ?sp_InvalidWord ?lf_InvalidWord ?cd_InvalidWord ?lc_InvalidWord ?lt_InvalidWord ?lv_InvalidWord ?hv_InvalidWord ?hf_InvalidWord ?ns_InvalidList ?lk_InvalidList ?sa_InvalidList ?ga_InvalidList ?gg_InvalidList ?nv_InvalidList ?kp_InvalidList ?hc_InvalidList ?iC_InvalidList ?sp_InvalidList ?lf_InvalidList ?cd_InvalidList ?lc_InvalidList ?lt_InvalidList ?lv_InvalidList ?hv_InvalidList ?hf_InvalidList ?ns_InvalidPoint ?lk_InvalidPoint ?sa_InvalidPoint ?ga_InvalidPoint ?gg_InvalidPoint ?nv_InvalidPoint ?kp_InvalidPoint ?hc_InvalidPoint ?iC_InvalidPoint ?sp_InvalidPoint ?lf_InvalidPoint ?cd_InvalidPoint ?lc_InvalidPoint ?lt_InvalidPoint ?lv_InvalidPoint ?hv_InvalidPoint ?hf_InvalidPoint ?ns_InvalidTable ?lk_InvalidTable ?sa_InvalidTable ?ga_InvalidTable ?gg_InvalidTable ?nv_InvalidTable ?kp_InvalidTable ?hc_InvalidTable ?iC_InvalidTable ?sp_InvalidTable ?lf_InvalidTable ?cd_InvalidTable ?lc_InvalidTable ?lt_InvalidTable ?lv_InvalidTable ?hv_InvalidTable ?hf_InvalidTable ?ns_InvalidFloor ?lk_InvalidFloor ?sa_InvalidFloor ?ga_InvalidFloor ?gg_InvalidFloor ?nv_InvalidFloor ?kp_InvalidFloor ?hc_InvalidFloor ?iC_InvalidFloor ?sp_InvalidFloor ?lf_InvalidFloor ?cd_InvalidFloor ?lc_InvalidFloor ?lt_InvalidFloor ?lv_InvalidFloor ?hv_InvalidFloor ?hf_InvalidFloor ?ns_Unlike ?lk_Unlike ?sa_Unlike ?ga_Unlike ?gg_Unlike ?nv_Unlike ?kp_Unlike ?hc_Unlike ?iC_Unlike ?sp_Unlike ?lf_Unlike ?cd_Unlike ?lc_Unlike ?lt_Unlike ?lv_Unlike ?hv_Unlike ?hf_Unlike ?ns_TooMany ?lk_TooMany ?sa_TooMany ?ga_TooMany ?gg_TooMany ?nv_TooMany ?kp_TooMany ?hc_TooMany ?iC_TooMany ?sp_TooMany ?lf_TooMany ?cd_TooMany ?lc_TooMany ?lt_TooMany ?lv_TooMany ?hv_TooMany ?hf_TooMany ?a_l_cell_cf3b ?l_l_cell_cf3b ?e_l_cell_cf3b ?k_l_cell_cf3b ?a_l_generator_b324 ?l_l_generator_b324 ?e_l_generator_b324 ?k_l_generator_b324 ?a_l_hash_9cde ?l_l_hash_9cde ?e_l_hash_9cde ?k_l_hash_9cde ?a_l_random_7821 ?l_l_random_7821 ?e_l_random_7821 ?k_l_random_7821 ?a_l_first_5822 ?l_l_first_5822 ?e_l_first_5822 ?k_l_first_5822 ?a_l_second_dbe7 ?l_l_second_dbe7 ?e_l_second_dbe7 ?k_l_second_dbe7 ?a_l_made_94f3 ?l_l_made_94f3 ?e_l_made_94f3 ?k_l_made_94f3 ?a_l_flags_6e5f ?l_l_flags_6e5f ?e_l_flags_6e5f ?k_l_flags_6e5f ?a_l_law_5227 ?l_l_law_5227 ?e_l_law_5227 ?k_l_law_5227 base Xb)
    (case n_ValueError => k_is)
    (case n_int => k_is)
    (case n_isinstance => k_is)
    (case n_len => k_is)
    (case n_list => k_is)
    (case n_max => k_is)
    (case n_range => k_is)
    (case n_repr => k_is)
    (case n_sum => k_is)
    (case ns_S => k_is)
    (case lk_S => k_is)
    (case kp_S => k_is)
    (case ex_S => first | k_exc | k_is | kx_is | decide +kernel)
    (case ga_S => k_is)
    (case gg_S => k_is)
    (case hc_S => k_is)
    (case gs_S => k_is)
    (case tk_S => k_is)
    (case any_S => k_is)
    (case msup_S => k_is)
    (case ns_InvalidMeasure => k_is)
    (case lk_InvalidMeasure => k_is)
    (case sa_InvalidMeasure => k_is)
    (case ga_InvalidMeasure => k_is)
    (case gg_InvalidMeasure => k_is)
    (case nv_InvalidMeasure => k_is)
    (case kp_InvalidMeasure => k_is)
    (case hc_InvalidMeasure => k_is)
    (case iC_InvalidMeasure => k_is)
    (case sp_InvalidMeasure => ks_is)
    (case lf_InvalidMeasure => k_is)
    (case cd_InvalidMeasure => k_is)
    (case lc_InvalidMeasure => k_is)
    (case lt_InvalidMeasure => k_is)
    (case lv_InvalidMeasure => k_is)
    (case hv_InvalidMeasure => first | rfl | decide +kernel)
    (case hf_InvalidMeasure => first | rfl | decide +kernel)
    (case ns_InvalidNumber => k_is)
    (case lk_InvalidNumber => k_is)
    (case sa_InvalidNumber => k_is)
    (case ga_InvalidNumber => k_is)
    (case gg_InvalidNumber => k_is)
    (case nv_InvalidNumber => k_is)
    (case kp_InvalidNumber => k_is)
    (case hc_InvalidNumber => k_is)
    (case iC_InvalidNumber => k_is)
    (case sp_InvalidNumber => ks_is)
    (case lf_InvalidNumber => k_is)
    (case cd_InvalidNumber => k_is)
    (case lc_InvalidNumber => k_is)
    (case lt_InvalidNumber => k_is)
    (case lv_InvalidNumber => k_is)
    (case hv_InvalidNumber => first | rfl | decide +kernel)
    (case hf_InvalidNumber => first | rfl | decide +kernel)
    (case ns_InvalidRoot => k_is)
    (case lk_InvalidRoot => k_is)
    (case sa_InvalidRoot => k_is)
    (case ga_InvalidRoot => k_is)
    (case gg_InvalidRoot => k_is)
    (case nv_InvalidRoot => k_is)
    (case kp_InvalidRoot => k_is)
    (case hc_InvalidRoot => k_is)
    (case iC_InvalidRoot => k_is)
    (case sp_InvalidRoot => ks_is)
    (case lf_InvalidRoot => k_is)
    (case cd_InvalidRoot => k_is)
    (case lc_InvalidRoot => k_is)
    (case lt_InvalidRoot => k_is)
    (case lv_InvalidRoot => k_is)
    (case hv_InvalidRoot => first | rfl | decide +kernel)
    (case hf_InvalidRoot => first | rfl | decide +kernel)
    (case ns_InvalidCutting => k_is)
    (case lk_InvalidCutting => k_is)
    (case sa_InvalidCutting => k_is)
    (case ga_InvalidCutting => k_is)
    (case gg_InvalidCutting => k_is)
    (case nv_InvalidCutting => k_is)
    (case kp_InvalidCutting => k_is)
    (case hc_InvalidCutting => k_is)
    (case iC_InvalidCutting => k_is)
    (case sp_InvalidCutting => ks_is)
    (case lf_InvalidCutting => k_is)
    (case cd_InvalidCutting => k_is)
    (case lc_InvalidCutting => k_is)
    (case lt_InvalidCutting => k_is)
    (case lv_InvalidCutting => k_is)
    (case hv_InvalidCutting => first | rfl | decide +kernel)
    (case hf_InvalidCutting => first | rfl | decide +kernel)
    (case ns_InvalidDeed => k_is)
    (case lk_InvalidDeed => k_is)
    (case sa_InvalidDeed => k_is)
    (case ga_InvalidDeed => k_is)
    (case gg_InvalidDeed => k_is)
    (case nv_InvalidDeed => k_is)
    (case kp_InvalidDeed => k_is)
    (case hc_InvalidDeed => k_is)
    (case iC_InvalidDeed => k_is)
    (case sp_InvalidDeed => ks_is)
    (case lf_InvalidDeed => k_is)
    (case cd_InvalidDeed => k_is)
    (case lc_InvalidDeed => k_is)
    (case lt_InvalidDeed => k_is)
    (case lv_InvalidDeed => k_is)
    (case hv_InvalidDeed => first | rfl | decide +kernel)
    (case hf_InvalidDeed => first | rfl | decide +kernel)
    (case ns_InvalidWord => k_is)
    (case lk_InvalidWord => k_is)
    (case sa_InvalidWord => k_is)
    (case ga_InvalidWord => k_is)
    (case gg_InvalidWord => k_is)
    (case nv_InvalidWord => k_is)
    (case kp_InvalidWord => k_is)
    (case hc_InvalidWord => k_is)
    (case iC_InvalidWord => k_is)
    (case sp_InvalidWord => ks_is)
    (case lf_InvalidWord => k_is)
    (case cd_InvalidWord => k_is)
    (case lc_InvalidWord => k_is)
    (case lt_InvalidWord => k_is)
    (case lv_InvalidWord => k_is)
    (case hv_InvalidWord => first | rfl | decide +kernel)
    (case hf_InvalidWord => first | rfl | decide +kernel)
    (case ns_InvalidList => k_is)
    (case lk_InvalidList => k_is)
    (case sa_InvalidList => k_is)
    (case ga_InvalidList => k_is)
    (case gg_InvalidList => k_is)
    (case nv_InvalidList => k_is)
    (case kp_InvalidList => k_is)
    (case hc_InvalidList => k_is)
    (case iC_InvalidList => k_is)
    (case sp_InvalidList => ks_is)
    (case lf_InvalidList => k_is)
    (case cd_InvalidList => k_is)
    (case lc_InvalidList => k_is)
    (case lt_InvalidList => k_is)
    (case lv_InvalidList => k_is)
    (case hv_InvalidList => first | rfl | decide +kernel)
    (case hf_InvalidList => first | rfl | decide +kernel)
    (case ns_InvalidPoint => k_is)
    (case lk_InvalidPoint => k_is)
    (case sa_InvalidPoint => k_is)
    (case ga_InvalidPoint => k_is)
    (case gg_InvalidPoint => k_is)
    (case nv_InvalidPoint => k_is)
    (case kp_InvalidPoint => k_is)
    (case hc_InvalidPoint => k_is)
    (case iC_InvalidPoint => k_is)
    (case sp_InvalidPoint => ks_is)
    (case lf_InvalidPoint => k_is)
    (case cd_InvalidPoint => k_is)
    (case lc_InvalidPoint => k_is)
    (case lt_InvalidPoint => k_is)
    (case lv_InvalidPoint => k_is)
    (case hv_InvalidPoint => first | rfl | decide +kernel)
    (case hf_InvalidPoint => first | rfl | decide +kernel)
    (case ns_InvalidTable => k_is)
    (case lk_InvalidTable => k_is)
    (case sa_InvalidTable => k_is)
    (case ga_InvalidTable => k_is)
    (case gg_InvalidTable => k_is)
    (case nv_InvalidTable => k_is)
    (case kp_InvalidTable => k_is)
    (case hc_InvalidTable => k_is)
    (case iC_InvalidTable => k_is)
    (case sp_InvalidTable => ks_is)
    (case lf_InvalidTable => k_is)
    (case cd_InvalidTable => k_is)
    (case lc_InvalidTable => k_is)
    (case lt_InvalidTable => k_is)
    (case lv_InvalidTable => k_is)
    (case hv_InvalidTable => first | rfl | decide +kernel)
    (case hf_InvalidTable => first | rfl | decide +kernel)
    (case ns_InvalidFloor => k_is)
    (case lk_InvalidFloor => k_is)
    (case sa_InvalidFloor => k_is)
    (case ga_InvalidFloor => k_is)
    (case gg_InvalidFloor => k_is)
    (case nv_InvalidFloor => k_is)
    (case kp_InvalidFloor => k_is)
    (case hc_InvalidFloor => k_is)
    (case iC_InvalidFloor => k_is)
    (case sp_InvalidFloor => ks_is)
    (case lf_InvalidFloor => k_is)
    (case cd_InvalidFloor => k_is)
    (case lc_InvalidFloor => k_is)
    (case lt_InvalidFloor => k_is)
    (case lv_InvalidFloor => k_is)
    (case hv_InvalidFloor => first | rfl | decide +kernel)
    (case hf_InvalidFloor => first | rfl | decide +kernel)
    (case ns_Unlike => k_is)
    (case lk_Unlike => k_is)
    (case sa_Unlike => k_is)
    (case ga_Unlike => k_is)
    (case gg_Unlike => k_is)
    (case nv_Unlike => k_is)
    (case kp_Unlike => k_is)
    (case hc_Unlike => k_is)
    (case iC_Unlike => k_is)
    (case sp_Unlike => ks_is)
    (case lf_Unlike => k_is)
    (case cd_Unlike => k_is)
    (case lc_Unlike => k_is)
    (case lt_Unlike => k_is)
    (case lv_Unlike => k_is)
    (case hv_Unlike => first | rfl | decide +kernel)
    (case hf_Unlike => first | rfl | decide +kernel)
    (case ns_TooMany => k_is)
    (case lk_TooMany => k_is)
    (case sa_TooMany => k_is)
    (case ga_TooMany => k_is)
    (case gg_TooMany => k_is)
    (case nv_TooMany => k_is)
    (case kp_TooMany => k_is)
    (case hc_TooMany => k_is)
    (case iC_TooMany => k_is)
    (case sp_TooMany => ks_is)
    (case lf_TooMany => k_is)
    (case cd_TooMany => k_is)
    (case lc_TooMany => k_is)
    (case lt_TooMany => k_is)
    (case lv_TooMany => k_is)
    (case hv_TooMany => first | rfl | decide +kernel)
    (case hf_TooMany => first | rfl | decide +kernel)
    (case a_l_cell_cf3b => k_is)
    (case l_l_cell_cf3b => k_is)
    (case e_l_cell_cf3b => k_is)
    (case k_l_cell_cf3b => k_is)
    (case a_l_generator_b324 => k_is)
    (case l_l_generator_b324 => k_is)
    (case e_l_generator_b324 => k_is)
    (case k_l_generator_b324 => k_is)
    (case a_l_hash_9cde => k_is)
    (case l_l_hash_9cde => k_is)
    (case e_l_hash_9cde => k_is)
    (case k_l_hash_9cde => k_is)
    (case a_l_random_7821 => k_is)
    (case l_l_random_7821 => k_is)
    (case e_l_random_7821 => k_is)
    (case k_l_random_7821 => k_is)
    (case a_l_first_5822 => k_is)
    (case l_l_first_5822 => k_is)
    (case e_l_first_5822 => k_is)
    (case k_l_first_5822 => k_is)
    (case a_l_second_dbe7 => k_is)
    (case l_l_second_dbe7 => k_is)
    (case e_l_second_dbe7 => k_is)
    (case k_l_second_dbe7 => k_is)
    (case a_l_made_94f3 => k_is)
    (case l_l_made_94f3 => k_is)
    (case e_l_made_94f3 => k_is)
    (case k_l_made_94f3 => k_is)
    (case a_l_flags_6e5f => k_is)
    (case l_l_flags_6e5f => k_is)
    (case e_l_flags_6e5f => k_is)
    (case k_l_flags_6e5f => k_is)
    (case a_l_law_5227 => k_is)
    (case l_l_law_5227 => k_is)
    (case e_l_law_5227 => k_is)
    (case k_l_law_5227 => k_is)
