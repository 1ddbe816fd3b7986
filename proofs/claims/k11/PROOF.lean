import PyProof.Rows.All
import Wide.All
import OpenK.AllK
import Wide.FinOn
import HandS.ForMost
import HandS.Exc
import HandS.ExcInit
import HandS.ExcField
import HandS.ExcIs
import KE.KExcSuper
import KE.KSuper
import HandS.Wide
import HandS.Flow
import HandS.Style
import HandS.Deep
import HandS.TupAny
import HandS.NoneIn
import HandS.IsInst
import HandS.WideBits
import HandS.Gcd
import HandS.Conv
import HandS.Zip
import HandS.SortRule
import HandS.SortInts
import KE.KSortTupAny
import HandS.TupSets
import KE.KSetDisp
import HandS.SetIn
import KE.KExcIs
import HandS.Iter
import KE.DataFind
import PyProof.ReprRoads
import KE.RegKSuper
import PySem.Challenge.RW_slitsheets_k11_cuttings_refused
set_option Elab.async false
set_option linter.all false
set_option maxRecDepth 100000
set_option maxHeartbeats 4000000
/-! XA: the package's own errors: their classes, and how one is made -/
namespace XA
open PySem PySem.W PySem.Calls PyProof.Rows PySem.HandSPX
/-- the __init__ that stands in a class -/
def initOf : Stmt → Stmt
  | .ClassDef _ _ _ (f :: _) _ _ _ _ _ _ _ => f
  | s => s
/-- the text of __init__(self, value=None): super().__init__(); self.value = value -/
structure InitTxt (A : Arguments) (B : List Stmt) (S : Scope) : Prop where
  ar : ∃ p1 p2 c, A = { posonlyargs := [], args := [{ arg := "self", annotation := none, pos := p1 }, { arg := "value", annotation := none, pos := p2 }], vararg := none, kwonlyargs := [], kw_defaults := [], kwarg := none, defaults := [c] }
  bd : ∃ p0 p1 p2 p3 p4 q1 q2 q3 q4, B = [.Expr (.Call (.Attribute (.Call (.Name "super" p0) [] [] p1) "__init__" p2) [] [] p3) p4, .Assign [.Attribute (.Name "self" q1) "value" q2] (.Name "value" q3) q4] ∧
    (∃ pl : Sem Bool, ∀ env : Env, eval (.Call (.Attribute (.Call (.Name "super" p0) [] [] p1) "__init__" p2) [] [] p3) env = (do
      let ov ← attributeBase (.Call (.Name "super" p0) [] [] p1) "__init__" env (eval (.Call (.Name "super" p0) [] [] p1) env)
      standAt p2.atName
      let (f, first) ← holding [ov] (getMethod ov "__init__" pl)
      callWith p3 f first (backTo p3 (starEach [] env)) [])) ∧
    ∀ env : Env, swapsWith (.Call (.Attribute (.Call (.Name "super" p0) [] [] p1) "__init__" p2) [] [] p3) none p4.line env = pure false
  sc : S = { kind := .function, names := [(PySem.Str.ofString "self", .local), (PySem.Str.ofString "value", .local), (PySem.Str.ofString "__class__", .free), (PySem.Str.ofString "super", .globalImplicit)], isGenerator := false, isCoroutine := false, more := [] }
def sheetTail : List Value := [.type "ValueError", .type "Exception", .type "BaseException", .type "object"]
def errTail (S : Addr) : List Value := .ref S :: sheetTail
/-- the common class of the errors stands at S -/
structure ShC (K : Frag) (S : Addr) : Prop where
  ns : nsIn K mainGlobals "SheetError" = some (some (.ref S))
  cls : ∃ q N bs sn sub ab col dd k0 k1 k2 k3 k5, K.lookup S = some (excClassObj "SheetError" q S N bs sheetTail true sn sub ab col dd k0 k1 k2 k3 k5 "ValueError.__new__")
/-- the error class x stands at C -/
structure ErC (K : Frag) (x : Str) (C S : Addr) : Prop where
  ns : nsIn K mainGlobals x = some (some (.ref C))
  sh : ShC K S
  ne : x ≠ "SheetError"
  cls : ∃ q N bs sn sub ab col dd k0 k1 k2 k3 k5, K.lookup C = some (excClassObj x q C N bs (errTail S) true sn sub ab col dd k0 k1 k2 k3 k5 "ValueError.__new__")
  sa : findIn K (.ref C) "__setattr__" = some (some (.builtin "object.__setattr__"))
  ga : findIn K (.ref C) "__getattribute__" = some (some (.builtin "BaseException.__getattribute__"))
  gg : findIn K (.ref C) "__getattr__" = some none
  nv : findIn K (.ref C) "value" = some none
  kp : keepIn K (.ref C) = true
  hc : findIn K (.ref C) "__class__" = some (some (.builtin "object.__class__"))
  gs : specialIn K (.builtin "object.__class__") "__get__" = some (some (.builtin "getset_descriptor.__get__"))
  tk : takesIn K (.builtin "object.__class__") = some true
/-- .. and may be raised: its __init__ -/
structure ErM (P : Program) (K : Frag) (mg : Str → Option Value) (x : Str) (C S fI : Addr) : Prop where
  er : ErC K x C S
  gC : mg x = some (.ref C)
  iC : findIn K (.ref C) "__init__" = some (some (.ref fI))
  sup : alongIn K "__init__" (errTail S) = some (some (.builtin "ValueError.__init__"))
  any : nsIn K cStatics "thirdparty.any" = some none
  msup : mg "super" = none
  fn : ∃ (oc : Value) (od : Option Addr) (A : Arguments) (B : List Stmt) (Sc : Scope) (q : Str) (dV kV doc pm : Value) (an : Option Addr) (cda cc : Addr) (ct : Value) (osl : Array (Option Value)), InitTxt A B Sc ∧ oc = .type "function" ∧
    K.lookup fI = some ⟨oc, od, .func (fnX "__init__" q A B Sc [("__class__", cc)] dV kV doc pm an (.ref cda) ct), osl⟩ ∧ codeIn K (.ref cda) q = true ∧
    (∃ c d sl, K.lookup cc = some ⟨c, d, .cell (some (.ref C)), sl⟩) ∧ (∃ td c d n sl, dV = .ref td ∧ K.lookup td = some ⟨c, d, .seq #[.none] n, sl⟩) ∧ (∃ c d vs sl file tf, K.lookup cda = some ⟨c, d, .fields vs, sl⟩ ∧ vs[2]? = some (.str file tf) ∧ ((P.main.file : Str) == file) = true)
  top : (P.main.scope.names.lookup ("super" : Str)).isSome = false
theorem refs_err (S : Addr) : refsVE (errTail S) = true := by show refsVE sheetTail = true; decide
section
variable {K : Frag} {x y : Str} {C D S S' : Addr}
theorem ErC.clsIn (T : ErC K x C S) : ∃ cd, PySem.W.clsIn K C = some cd ∧ cd.mro = .ref C :: errTail S ∧ cd.hasDict = true ∧ cd.name = x := by
  obtain ⟨q, N, bs, sn, sub, ab, col, dd, k0, k1, k2, k3, k5, h⟩ := T.cls
  exact ⟨_, by unfold PySem.W.clsIn; rw [h], rfl, rfl, rfl⟩
theorem ShC.clsIn (T : ShC K S) : ∃ cd, PySem.W.clsIn K S = some cd ∧ cd.mro = .ref S :: sheetTail ∧ cd.name = "SheetError" := by
  obtain ⟨q, N, bs, sn, sub, ab, col, dd, k0, k1, k2, k3, k5, h⟩ := T.cls
  exact ⟨_, by unfold PySem.W.clsIn; rw [h], rfl, rfl⟩
theorem ErC.ty (T : ErC K x C S) : typeIn K (.ref C) = some (.type "type") := by
  obtain ⟨q, N, bs, sn, sub, ab, col, dd, k0, k1, k2, k3, k5, h⟩ := T.cls
  show (K.lookup C).map (·.cls) = _
  rw [h]; rfl
theorem ShC.ty (T : ShC K S) : typeIn K (.ref S) = some (.type "type") := by
  obtain ⟨q, N, bs, sn, sub, ab, col, dd, k0, k1, k2, k3, k5, h⟩ := T.cls
  show (K.lookup S).map (·.cls) = _
  rw [h]; rfl
theorem ErC.sub (T : ErC K x C S) (b : Value) : subIn K (.ref C) b = some ((Value.ref C :: errTail S).contains b) := by
  obtain ⟨cd, h, hm, _⟩ := T.clsIn
  show mroIn K C b = _
  unfold mroIn
  rw [h, Option.bind_some, hm]; rfl
theorem ShC.sub (T : ShC K S) (b : Value) : subIn K (.ref S) b = some ((Value.ref S :: sheetTail).contains b) := by
  obtain ⟨cd, h, hm, _⟩ := T.clsIn
  show mroIn K S b = _
  unfold mroIn
  rw [h, Option.bind_some, hm]; rfl
theorem ErC.subT (T : ErC K x C S) (n : String) (h : sheetTail.contains (.type n) = true) : subIn K (.ref C) (.type n) = some true := by
  rw [T.sub]; show some (Value.type n == Value.ref C || (Value.type n == Value.ref S || sheetTail.contains (.type n))) = _
  rw [h, Bool.or_true, Bool.or_true]
theorem ErC.uniq (T : ErC K x C S) (T' : ErC K x D S') : C = D := by
  have := T.ns.symm.trans T'.ns
  exact Value.ref.inj (Option.some.inj (Option.some.inj this))
theorem ShC.uniq (T : ShC K S) (T' : ShC K S') : S = S' := by
  have := T.ns.symm.trans T'.ns
  exact Value.ref.inj (Option.some.inj (Option.some.inj this))
theorem ErC.apart (T : ErC K x C S) (T' : ErC K y D S') (h : x ≠ y) : C ≠ D := fun e => by
  obtain ⟨cd, h1, _, _, h2⟩ := T.clsIn
  obtain ⟨cd', h1', _, _, h2'⟩ := T'.clsIn
  rw [e, h1'] at h1
  cases h1
  exact h (h2.symm.trans h2')
theorem ErC.notS (T : ErC K x C S) : C ≠ S := fun e => by
  obtain ⟨cd, h1, _, _, h2⟩ := T.clsIn
  obtain ⟨cd', h1', _, h2'⟩ := T.sh.clsIn
  rw [e, h1'] at h1
  cases h1
  exact T.ne (h2.symm.trans h2')
/-- is an error of the class x one of the class y -/
def under (x y : Str) : Bool := x == y || y == "SheetError"
theorem ErC.subE (T : ErC K x C S) (T' : ErC K y D S') : subIn K (.ref C) (.ref D) = some (under x y) := by
  have eS := T.sh.uniq T'.sh
  subst eS
  rw [T.sub]
  show some (Value.ref D == Value.ref C || (Value.ref D == Value.ref S || sheetTail.contains (.ref D))) = _
  have h3 : sheetTail.contains (Value.ref D) = false := by simp [sheetTail]
  have h2 : (Value.ref D == Value.ref S) = false := by simp [T'.notS]
  have hy : (y == ("SheetError" : Str)) = false := by simp [T'.ne]
  unfold under
  rw [h3, h2, hy, Bool.or_false, Bool.or_false, Bool.or_false]
  by_cases h : x = y
  · subst h
    have := T.uniq T'
    subst this
    simp
  · have := T.apart T' h
    rw [beq_eq_false_iff_ne.mpr h, beq_eq_false_iff_ne.mpr fun z => this (Value.ref.inj z).symm]
theorem ErC.subS (T : ErC K x C S) (T' : ShC K S') : subIn K (.ref C) (.ref S') = some true := by
  have eS := T.sh.uniq T'
  subst eS
  rw [T.sub]
  show some (Value.ref S == Value.ref C || (Value.ref S == Value.ref S || sheetTail.contains (.ref S))) = _
  simp
/-- a class of errors, with its name: one of them, or their common one -/
def AnyC (K : Frag) (y : Str) (D : Addr) : Prop := (∃ S, ErC K y D S) ∨ (y = "SheetError" ∧ ShC K D)
theorem ErC.subA (T : ErC K x C S) (A : AnyC K y D) : subIn K (.ref C) (.ref D) = some (under x y) := by
  rcases A with ⟨S', T'⟩ | ⟨rfl, T'⟩
  · exact T.subE T'
  · rw [T.subS T']; simp [under]
theorem AnyC.ns (A : AnyC K y D) : nsIn K mainGlobals y = some (some (.ref D)) := by
  rcases A with ⟨S', T'⟩ | ⟨rfl, T'⟩
  · exact T'.ns
  · exact T'.ns
theorem AnyC.ty (A : AnyC K y D) : typeIn K (.ref D) = some (.type "type") := by
  rcases A with ⟨S', T'⟩ | ⟨rfl, T'⟩
  · exact T'.ty
  · exact T'.ty
theorem AnyC.isC (A : AnyC K y D) : (PySem.W.clsIn K D).isSome = true := by
  rcases A with ⟨S', T'⟩ | ⟨rfl, T'⟩
  · obtain ⟨cd, h, _⟩ := T'.clsIn; rw [h]; rfl
  · obtain ⟨cd, h, _⟩ := T'.clsIn; rw [h]; rfl
theorem AnyC.base (A : AnyC K y D) : subIn K (.ref D) (.type "BaseException") = some true := by
  rcases A with ⟨S', T'⟩ | ⟨rfl, T'⟩
  · exact T'.subT "BaseException" (by decide)
  · rw [T'.sub]; show some (Value.type "BaseException" == Value.ref D || sheetTail.contains (.type "BaseException")) = _
    rw [show sheetTail.contains (.type "BaseException") = true by decide, Bool.or_true]
theorem ErC.kit (T : ErC K x C S) (A : AnyC K y D) : kitOne K (.ref C) (.ref D) = some (under x y) := by
  unfold kitOne
  split
  · rename_i h
    have : C = D := Value.ref.inj (beq_iff_eq.mp h)
    subst this
    rcases A with ⟨S', T'⟩ | ⟨rfl, T'⟩
    · have : x = y := Classical.byContradiction fun n => T.apart T' n rfl
      rw [this]; simp [under]
    · simp [under]
  · unfold kitCls
    dsimp only
    rw [if_pos (by rw [A.isC, A.ty]; rfl)]
    exact T.subA A
theorem ErC.exm (T : ErC K x C S) (A : AnyC K y D) : exmOne K (.ref C) (.ref D) = some (under x y) := by
  unfold exmOne
  rw [if_pos (by rw [A.base]; rfl)]
  unfold kitCls
  dsimp only
  rw [if_pos (by rw [A.isC, A.ty]; rfl)]
  exact T.subA A
theorem ErC.kitV (T : ErC K x C S) : kitOne K (.ref C) (.type "ValueError") = some true := by
  unfold kitOne
  rw [if_neg (by simp)]
  unfold kitCls
  dsimp only
  rw [if_pos (by decide +kernel)]
  exact T.subT _ (by decide)
theorem ErC.excC (T : ErC K x C S) : L2.ExcC K C := ⟨T.ga, T.gg, T.subT _ (by decide), by obtain ⟨cd, h, _, hd, _⟩ := T.clsIn; unfold hasDictIn; rw [h]; exact hd, T.hc, T.gs, T.tk, by
  have := T.subT "object" (by decide)
  exact this⟩
theorem ErC.xfC (T : ErC K x C S) : L2.XfC K C := ⟨T.ga, T.gg, T.subT _ (by decide), T.excC.hd⟩
end
/-! ### an error is made -/
/-- what __init__ leaves of a fresh error at x -/
structure InitEnd (h h' : Heap) (x C dx t1 : Addr) (v : Value) : Prop where
  keep : ∀ b o, b ≠ x → h.get? b = some o → h'.get? b = some o
  obj : h'.get? x = some (excO C t1 |> fun o => { o with dict := some dx })
  dbig : h.objs.size ≤ dx
  dne : dx ≠ x
  ns : h'.Ns1 dx (fun y => if y = "value" then some v else none)
/-- a made error -/
structure Made (h h' : Heap) (e C d : Addr) (v : Value) : Prop where
  keep : ∀ b o, h.get? b = some o → h'.get? b = some o
  new : h.objs.size ≤ e
  obj : ∃ oe vs, h'.get? e = some oe ∧ oe.cls = .ref C ∧ oe.dict = some d ∧ oe.data = .fields vs ∧ vs[1]? = some .none
  dbig : h.objs.size ≤ d
  dne : d ≠ e
  ns : h'.Ns1 d (fun y => if y = "value" then some v else none)
section
variable {prog : Program} {w : World} {A : Around} {E : Value → Shared → Prop} {K : Frag} {mg mb : Str → Option Value} {C S fI : Addr} {x : Str}
theorem init_walk (T : ErM prog K mg x C S fI) {R : Result → Shared → Prop} {s : Shared} {e t0 : Addr} {v : Value} (X : K.In s.heap) (hlim : s.heap.NoLimit) (hg : s.heap.Ns mainGlobals mg) (hb : s.heap.Ns builtinsNs mb) (hbb : ∀ y : Str, y ≠ "__name__" → mb y = bootBuiltins y)
    (hx : s.heap.get? e = some (excO C t0)) (hnx : K.lookup e = none) (hroom : A.depth < recursionLimit)
    (hq : ∀ h' tk dx t1, InitEnd s.heap h' e C dx t1 v → R (.ok (.ret .none)) { s with heap := h', toks := tk }) :
    codeAny (model prog w) A (.call (.ref fI) ⟨[.ref e, v], []⟩) R s := by
  obtain ⟨oc, od, Ar, Bd, Sc, q, dV, kV, doc, pm, an, cda, cc, ct, osl, IT, hoc, ho, hcd, ⟨cl, cld, csl, hcell⟩, ⟨td, tc, tdd, tn, tsl, rfl, htd⟩, ⟨c1, d1, vs1, sl1, file, tf, hcode, hvs, hfile⟩⟩ := T.fn
  obtain ⟨⟨p1, p2, dd0, rfl⟩, ⟨b0, b1, b2, b3, b4, b5, b6, b7, b8, rfl, ⟨pl, hev⟩, hsw⟩, rfl⟩ := IT
  have hcl := T.er.clsIn
  obtain ⟨cd, hcd1, hmro, hhd, _⟩ := hcl
  have hb5 : ∀ x ∈ ([(PySem.Str.ofString "self", NameKind.local), (PySem.Str.ofString "value", .local), (PySem.Str.ofString "__class__", .free), (PySem.Str.ofString "super", .globalImplicit)] : List (Str × NameKind)), x.2 ≠ .cell := by decide
  refine ks_codeAny_call_defAt (binds := [("self", .ref e), ("value", v)]) hroom (X _ _ ho) rfl hlim (codeRec_of X hcd) rfl (BindsTo.of_defaults (T := td) rfl (X _ _ htd) rfl (by first | rfl | with_unfolding_all rfl) (by first | rfl | with_unfolding_all rfl)) hb5 (locs rfl) (fun h₁ hn k => ?_)
  have X₁ : K.In h₁ := X.keeps k
  have hx₁ := k _ _ hx
  have hxL : s.heap.objs.size ≠ e := Nat.ne_of_gt (Heap.lt_size hx)
  show _root_.PySem.wpAt _ (A.deeper (ksEnv q { kind := .function, names := [(PySem.Str.ofString "self", .local), (PySem.Str.ofString "value", .local), (PySem.Str.ofString "__class__", .free), (PySem.Str.ofString "super", .globalImplicit)], isGenerator := false, isCoroutine := false, more := [] } s.heap.objs.size fI (.ref cda) cc)) (.func _ (ksEnv q { kind := .function, names := [(PySem.Str.ofString "self", .local), (PySem.Str.ofString "value", .local), (PySem.Str.ofString "__class__", .free), (PySem.Str.ofString "super", .globalImplicit)], isGenerator := false, isCoroutine := false, more := [] } s.heap.objs.size fI (.ref cda) cc)) (execs _ (ksEnv q { kind := .function, names := [(PySem.Str.ofString "self", .local), (PySem.Str.ofString "value", .local), (PySem.Str.ofString "__class__", .free), (PySem.Str.ofString "super", .globalImplicit)], isGenerator := false, isCoroutine := false, more := [] } s.heap.objs.size fI (.ref cda) cc)) _ _ _
  refine ks_wpAt_execs_cons (ks_wpAt_Expr_any (ks_wpAt_MethodCall (pl := pl) ?_ (hev _)) rfl (hsw _))
  refine ks_wpAt_super_base (f := fI) (cc := cda) (by first | rfl | with_unfolding_all rfl) (by first | rfl | with_unfolding_all rfl) (by decide) rfl (X₁ _ _ ho) rfl rfl rfl (X₁ _ _ hcode) rfl hvs hfile T.top ?_
  refine ks_loadName_global rfl (by first | rfl | with_unfolding_all rfl) (loadGlobal_builtin (hg.keeps k) T.msup (hb.keeps k) ((hbb _ (by decide +kernel)).trans PyProof.Rows.Boot.«super») ⟨rfl, ?_⟩)
  refine wpAny_loadName_free rfl (by first | rfl | with_unfolding_all rfl) rfl ⟨_, X₁ _ _ hcell, rfl⟩ ?_
  refine wpAny_loadName_local rfl (by first | rfl | with_unfolding_all rfl) hn (v := .ref e) (by first | rfl | with_unfolding_all rfl | kernel_rfl) ?_
  obtain ⟨oC, hoC, hoC2⟩ : ∃ oC, h₁.get? C = some oC ∧ oC.data = .cls cd := by
    unfold PySem.W.clsIn at hcd1
    split at hcd1
    · rename_i ho'
      cases hcd1
      exact ⟨_, X₁ _ _ ho', rfl⟩
    · cases hcd1
  have hCe : e ≠ C := fun z => by
    rw [z, hoC] at hx₁
    cases hx₁
    cases hoC2
  have hsubC : mroIn K C (.ref C) = some true := by
    have := T.er.sub (.ref C)
    rw [show (Value.ref C :: errTail S).contains (.ref C) = true by simp] at this
    exact this
  refine ks_wpAny_isType_cls hoC hoC2 ⟨rfl, ?_⟩
  refine ks_wpAny_call_super hoC hoC2 hx₁ rfl (fun c z => by cases z) (looks_mroIn X₁ hsubC) (fun h2 hso k2 => ?_)
  have X₂ : K.In h2 := X₁.keeps k2
  have hx₂ := k2 _ _ hx₁
  have hI : Looks (model prog w) h2 (isInstance (.ref e) (.type "ValueError")) true := by
    have I : InstAt h2 e (excO C t0) C none := ⟨hx₂, rfl, rfl, trivial⟩
    exact I.type.andThen (looks_subIn X₂ (T.er.subT "ValueError" (by decide)))
  refine kxs_getMethod kxs_ValueError hso (looks_opaque X₂ T.any) (l₀ := cd.mro) (fun A Q E s k q => wpAny_bind ((looks_clsIn X₂ hcd1) A _ E s k (wpAny_pure q))) rfl X₂ (by rw [hmro]; simpa using T.sup) hI hCe (by decide) ?_
  refine kxs_callWith (i := "ValueError.__init__") (x := e) rfl (evalArgs_empty ⟨Heap.get?_push_at rfl rfl, ?_⟩)
  have hu : (h2.push (kxs_mw "ValueError.__init__" e)).get? h2.objs.size = some (kxs_mw "ValueError.__init__" e) := Heap.get?_push_at rfl rfl
  have k3 : ∀ b o, h2.get? b = some o → (h2.push (kxs_mw "ValueError.__init__" e)).get? b = some o := fun b o z => Heap.get?_push_of_some _ z
  obtain ⟨qn, N, bs, sn, sub, ab, col, dd, m0, m1, m2, m3, m5, hCl⟩ := T.er.cls
  refine wpAny_call (codeAny_of_tree ?_)
  show wpAny _ _ (callAny (.ref h2.objs.size) ⟨[], []⟩) _ _ _
  simp only [callAny]
  refine wpAny_bind (wpAny_load hu ?_)
  refine KFB.if_so (by simp only [kxs_mw]; decide) ?_
  simp only [kxs_mw]
  refine wpAny_bind (check_bound_init F.excBase_ValueError.toExcCallFacts (k3 _ _ (X₂ _ _ hCl)) (k3 _ _ hx₂) rfl ?_)
  refine wpAny_bind (wpAny_pure (wpAny_pure ?_))
  refine ⟨plainId_quiet F.excBase_ValueError.init.plain _, codeAny_builtin F.excBase_ValueError.initEntry ?_⟩
  refine exc_init_tree (cls := .ref C) (t0 := t0) (dv := none) (c2 := .none) (c3 := .none) (b4 := .bool false) (k3 _ _ hx₂) (by rw [sizeLine_eq]; decide) (fun h4 k4 hx4 htup => ?_)
  show _root_.PySem.wpAt _ _ _ (execs _ _) _ _ _
  have kk : ∀ b o, b ≠ e → s.heap.get? b = some o → h4.get? b = some o := fun b o hb z => k4 b o hb (k3 _ _ (k2 _ _ (k _ _ z)))
  have X4 : K.In h4 := fun a o z => kk a o (fun y => by rw [y, hnx] at z; cases z) (X a o z)
  have hn4 : h4.Ns s.heap.objs.size (fun y => ([("self", Value.ref e), ("value", v)] : List (Str × Value)).reverse.lookup y) := by
    obtain ⟨oL, es, ep, z, r⟩ := hn
    exact ⟨oL, es, ep, k4 _ _ hxL (k3 _ _ (k2 _ _ z)), r⟩
  have hz4 : s.heap.objs.size ≤ h4.objs.size := Nat.le_of_lt hn4.lt
  refine wpAt_of_wpAny (wpAny_execs_cons (plainObj_wpAny_Assign_Attribute ?_))
  refine wpAny_Name (wpAny_loadName_local rfl (by first | rfl | with_unfolding_all rfl) hn4 (v := v) rfl ?_) (by decide)
  refine wpAny_Name (wpAny_loadName_local rfl (by first | rfl | with_unfolding_all rfl) hn4 (v := .ref e) rfl ?_) (by decide)
  refine set_plain X4 (od := none) ⟨hx4, rfl, rfl, trivial⟩ T.er.sa ?_
  refine exc_osa X4 hx4 hcd1 (by rw [hmro]; exact refs_err S) hhd T.er.nv (fun h5 tk5 dx k5 dn dne hx5 hn5 => ?_)
  refine wpAny_execs_nil ?_
  exact hq h5 tk5 dx _ ⟨fun b o hb z => k5 b o hb (kk b o hb z), hx5, Nat.le_trans hz4 dn, dne, hn5⟩
end
end XA
/-! XB: errors over the hand layer: one is made and raised; a try whose error stays known behind it -/
namespace XA
open PySem PySem.W PySem.Calls PyProof.Rows PySem.HandSPX
section
variable {prog : Program} {w : World} {A : Around} {E : Value → Shared → Prop} {K : Frag} {mg mb : Str → Option Value} {C S fI : Addr} {x : Str}
theorem err_made (T : ErM prog K mg x C S fI) {R : Result → Shared → Prop} {s : Shared} {v : Value} (tI : typeIn K (.ref fI) = some (.type "function")) (X : K.In s.heap) (hlim : s.heap.NoLimit) (hg : s.heap.Ns mainGlobals mg) (hb : s.heap.Ns builtinsNs mb) (hbb : ∀ y : Str, y ≠ "__name__" → mb y = bootBuiltins y)
    (hroom : A.depth + 1 < recursionLimit) (hq : ∀ h' tk e d, Made s.heap h' e C d v → R (.ok (.ret (.ref e))) { s with heap := h', toks := tk }) :
    codeAny (model prog w) A (.call (.ref C) ⟨[v], []⟩) R s := by
  obtain ⟨qn, N, bs, sn, sub, ab, col, dd, m0, m1, m2, m3, m5, hCl⟩ := T.er.cls
  obtain ⟨hp, g, dr, tk, os⟩ := s
  have hz1 : [v].length ≤ sizeLine := by rw [sizeLine_eq]; exact (by decide : 1 ≤ 16777216)
  have k : ∀ b o, hp.get? b = some o → ((hp.push (kdv_tup [v])).push (excO C hp.objs.size)).get? b = some o := fun b o z => Heap.get?_push_of_some _ (Heap.get?_push_of_some _ z)
  have hget : ((hp.push (kdv_tup [v])).push (excO C hp.objs.size)).get? (hp.objs.size + 1) = some (excO C hp.objs.size) := by heap_get
  have hnx : K.lookup (hp.objs.size + 1) = none := by
    cases z : K.lookup (hp.objs.size + 1) with
    | none => rfl
    | some o =>
      have y : hp.get? (hp.objs.size + 1) = some o := X _ _ z
      exact absurd (Nat.lt_of_succ_lt (Heap.lt_size y)) (Nat.lt_irrefl _)
  refine call_own F.excBase_ValueError (fun Y => refsVE_contains Y (errTail S) (refs_err S)) (X _ _ hCl) (looks_findIn X T.iC) (fun self => bind_fn X self tI) hz1 ?_
  refine init_walk (s := ⟨(hp.push (kdv_tup [v])).push (excO C hp.objs.size), g, dr, tk, os⟩) T (X.keeps k) (hlim.keeps k) (hg.keeps k) (hb.keeps k) hbb hget hnx hroom fun h' tk' dx t1 ⟨k', hx, dn, dne, hns⟩ => ?_
  have old : ∀ b o, hp.get? b = some o → h'.get? b = some o := fun b o z => k' b o (Nat.ne_of_lt (Nat.lt_succ_of_lt (Heap.lt_size z))) (k b o z)
  have z : hp.objs.size + 1 + 1 ≤ dx := by
    have q := dn
    rw [Heap.size_push, Heap.size_push] at q
    exact q
  exact ⟨rfl, hq h' tk' (hp.objs.size + 1) dx ⟨old, Nat.le_succ _, ⟨_, _, hx, rfl, rfl, rfl, rfl⟩, Nat.le_trans (Nat.le_trans (Nat.le_succ _) (Nat.le_succ _)) z, dne, hns⟩⟩
end
theorem fnTy {P : Program} {K : Frag} {mg : Str → Option Value} {x : Str} {C S fI : Addr} (T : ErM P K mg x C S fI) : typeIn K (.ref fI) = some (.type "function") := by
  obtain ⟨oc, od, Ar, Bd, Sc, q, dV, kV, doc, pm, an, cda, cc, ct, osl, IT, hoc, ho, _⟩ := T.fn
  show (K.lookup fI).map (·.cls) = _
  rw [ho, hoc]; rfl
end XA
namespace L2
open PySem PySem.Spec PyProof.Rows XA
theorem relO_one {f0 : Str} {v : V} {u : Value} (r : RelV v u) (f : Str) : RelO (List.lookup f [(f0, v)]) (if f = f0 then some u else none) := by
  by_cases hw : f = f0
  · subst hw
    rw [if_pos rfl, show List.lookup f [(f, v)] = some v by simp [List.lookup]]
    exact r
  · rw [if_neg hw, show List.lookup f [(f0, v)] = none by simp [List.lookup, beq_eq_false_iff_ne.mpr hw]]
    trivial
section
variable {X : Cx} {x : Str} {C S fI : Addr}
/-- x(e) -/
def tMkE (C : Addr) (ta : TA) : St → Hp → XK → Prop := fun σ H Q => ta σ H fun vs H1 => ∃ v, vs = [v] ∧ ∀ d, H1 d = none → Q (.ref C) (some d) (upd H1 d (.xd [(("value" : Str), v)]))
theorem pmk_err {a : Expr} {ta : TA} {p pos : Pos} {k : Nat} (T : XA.ErM X.prog X.K X.mg x C S fI) (hr : Room k X.A) (ha : PA X [a] ta) (hg : Gl X x)
    (he : starEach (a :: []) X.env = (false, eval a X.env) :: starEach [] X.env := by rfl) (hpl : (backTo pos (starEach [] X.env)).any (·.1) = false := by rfl) (hdb : (x == ("__debug__" : Str)) = false := by decide) :
    PMk X (.Call (.Name x p) [a] [] pos) (tMkE C ta) := by
  intro pins s σ H Q I h
  refine wpAny_Call_Name_kw (ld_glob I hg T.gC ?_ hdb)
  refine PySem.W.callWith_K (h₀ := X.base) I.ok.mod.kin T.er.kp (thn (ha.run pos pins s σ H _ I h) fun us s1 ⟨vs, H1, I1, r1, v, ev, q1⟩ => ?_) he hpl
  subst ev
  refine ⟨I1.kIn, ?_⟩
  cases r1 with
  | @cons _ v' _ us' rv rn =>
    cases rn
    show wpAny _ _ (call (.ref C) [v']) _ _ _
    have hlim := I1.nolimit
    obtain ⟨mb, hb1, hb2⟩ := I1.mod.blt
    have hgl := I1.mod.glob.keeps I1.bk
    have hbl := hb1.keeps I1.bk
    obtain ⟨hp, g, dr, tk, os⟩ := s1
    refine wpAny_call (err_made T (fnTy T) I1.kIn hlim hgl hbl hb2 (by have := hr.dp; omega) fun h' tk' e d M => ?_)
    show MkP X pins σ Q (.ref e) ⟨h', g, dr, tk', os⟩
    obtain ⟨oe, fv, hoe, hc, hd, hdat, h1⟩ := M.obj
    have hns := M.ns
    obtain ⟨G', g1, g2⟩ := restrict h' fun b => decide (b ≠ e)
    have gk : ∀ b, b ≠ e → G'.get? b = h'.get? b := fun b hb => g1 b (decide_eq_true hb)
    have ge : G'.get? e = none := g2 e (by simp)
    have old : ∀ b o, hp.get? b = some o → G'.get? b = some o := fun b o q => (gk b (Nat.ne_of_lt (Nat.lt_of_lt_of_le (Heap.lt_size q) M.new))).trans (M.keep b o q)
    have ob : ObjOk X.prog X.w (upd H1 d (.xd [(("value" : Str), v)])) G' d (.xd [(("value" : Str), v)]) :=
      ⟨_, hns.at (fun o q => (gk d M.dne).trans q), fun f => relO_one rv f⟩
    have J : Inv X pins σ (upd H1 d (.xd [(("value" : Str), v)])) ⟨G', g, dr, tk', os⟩ := I1.laid (t' := tk') old M.dbig ob
    refine ⟨e, oe, fv, ⟨G', g, dr, tk', os⟩, _, .ref C, some d, rfl, J, fun b o q => ?_, ge, hoe, ⟨hc, hd⟩, hdat, h1, ?_, rfl, I1.bare, raises_own (T.er.subT "BaseException" (by decide)) T.er.ty, q1 d (I1.hok.fresh M.dbig)⟩
    · by_cases hb : b = e
      · have q' : G'.get? b = some o := q
        rw [hb, ge] at q'; cases q'
      · exact (gk b hb).symm.trans q
    · rw [upd_ne (Ne.symm M.dne)]
      exact I1.hok.fresh M.new
end
/-! ### try: the error is tracked from the suite on -/
/-- at a: an error of the class at C with its own dict at dd -/
def ErAt (a C dd : Addr) (h : Heap) : Prop := ∃ vs sl, h.get? a = some { cls := .ref C, dict := some dd, data := .fields vs, slots := sl }
def erO (a C dd : Addr) : HO := .ext (ErAt a C dd)
section
variable {X : Cx} {pins : List (Addr × Obj)} {σ : St} {H : Hp} {sI s' : Shared} {B : Heap}
theorem adopt {a C dd : Addr} (I : Inv X pins σ H sI) (nb : ∀ b o, sI.heap.get? b = some o → b ∉ frs X.stack → B.get? b = some o) (st : B.StaysIn s'.heap) (up : sI.heap.UpToSlots s'.heap) (os : s'.os = sI.os) (ag : AllBare s'.gens)
    (nB : B.get? a = none) (nF : a ∉ frs X.stack) (na : H a = none) (ha : ErAt a C dd s'.heap) : Inv X pins σ (upd H a (erO a C dd)) s' := by
  have nI : sI.heap.get? a = none := by
    cases z : sI.heap.get? a with
    | none => rfl
    | some o => rw [nb a o z nF] at nB; cases nB
  have ne : ∀ {b : Addr} {o : Obj}, sI.heap.get? b = some o → b ≠ a := fun {b o} z y => by rw [y, nI] at z; cases z
  have nf : ∀ b ∈ frs X.stack, ∀ o, sI.heap.get? b = some o → ∃ sl, s'.heap.get? b = some { o with slots := sl } := fun b hb o e => by
    obtain ⟨_, o', e', hd⟩ := I.stack.mem hb
    rw [e] at e'
    cases e'
    exact up b o e hd
  have hok0 : HOk X.prog X.w H s'.heap := (I.inGround nb).kept st
  have hok : HOk X.prog X.w (upd H a (erO a C dd)) s'.heap := fun b o q => by
    by_cases hb : b = a
    · subst hb
      rw [upd_same] at q
      cases q
      obtain ⟨vs, sl, hv⟩ := ha
      exact ⟨⟨vs, sl, hv⟩, ⟨_, hv⟩, fun h1 h2 z kk => by
        obtain ⟨vs', sl', z'⟩ := z
        exact ⟨vs', sl', kk _ z'⟩⟩
    · rw [upd_ne hb] at q
      refine (hok0 b o q).stay (fun c v _ z => z) (fun c hc => ?_) fun c xs hc => ?_
      · rw [upd_ne (fun z => by rw [z, na] at hc; cases hc)]; exact hc
      · rw [upd_ne (fun z => by rw [z, na] at hc; cases hc)]; exact hc
  have no : ∀ {b : Addr} {o : HO}, H b = some o → upd H a (erO a C dd) b = some o := fun {b o} z => by
    rw [upd_ne (fun y => by rw [y, na] at z; cases z)]; exact z
  have J := I.call (ch := []) (h' := s'.heap) (g' := s'.gens) (t' := s'.toks) (d' := s'.drawn) (H' := upd H a (erO a C dd))
    ⟨fun b o e _ hb _ => st b o (nb b o e hb), fun b o e _ hb _ => nf b hb o e, fun b o e n _ => by rw [upd_ne (ne e)]; exact n, fun b o e _ => by
      by_cases hb : b ∈ frs X.stack
      · obtain ⟨sl, q⟩ := nf b hb o e
        exact ⟨_, q⟩
      · exact ⟨o, st b o (nb b o e hb)⟩, fun _ _ e => no e, fun _ _ _ e => no e, fun b ps e => ⟨#[], by rw [no e]; simp⟩⟩
    hok ag (fun _ z => nomatch z)
  obtain ⟨a1, a2, a3, a4, a5⟩ := s'
  have e5 : a5 = sI.os := os
  subst e5
  exact J
end
/-- the context of a suite, the error being tracked -/
abbrev sui (X : Cx) (a : Addr) (pn : List (Addr × Obj)) : Cx := X.suite a pn
section
variable {X : Cx} {pins : List (Addr × Obj)} {σ : St} {H : Hp} {s : Shared} {a : Addr}
theorem toSui (I : Inv X pins σ H s) : Inv (sui X a (X.pn ++ pins)) [] σ H s :=
  ⟨I.ok.suite _ _, I.os, I.bare, I.base, I.loc, I.cell, I.free, I.freeC, fun p hp => I.pin p (by rw [List.append_nil] at hp; exact hp), I.hok, I.len⟩
theorem ofSui {pn' : List (Addr × Obj)} (I : Inv (sui X a (X.pn ++ pins)) pn' σ H s) (ok : X.Ok) : Inv X pins σ H s :=
  ⟨ok, I.os, I.bare, I.base, I.loc, I.cell, I.free, I.freeC, fun p hp => I.pin p (List.mem_append_left _ hp), I.hok, I.len⟩
end
/-- what 'except c as n' wishes of an error of the body, slot i being n's -/
def wSui (K : PySem.W.Frag) (c : Value) (i : Nat) (ts : TS) (Wout : WX) (D : Ends) : WX := fun cls d σ H => ∃ (C dd : Addr), cls = .ref C ∧ d = some dd ∧
  ∃ b, PySem.W.exmOne K cls c = some b ∧ (b = true → ∀ a, H a = none → ts { nx := fun σ' H' => D.nx (σ'.set i none) H', rt := D.rt, bk := fun σ' H' => D.bk (σ'.set i none) H', ct := fun σ' H' => D.ct (σ'.set i none) H' } (σ.set i (some (.ref a))) (upd H a (erO a C dd))) ∧ (b = false → Wout cls d σ H)
section
variable {X : Cx} {x n : Str} {c : Value} {i : Nat} {body suite : List Stmt} {b₀ : Stmt} {np pos pos' : Pos} {tb : WX → TS} {ts : TS} {Wout : WX}
theorem ps_try_sui (hs : X.stack = X.env :: X.outer) (hf : X.env.frame = some X.env.locals) (hN : X.N.Nodup) (hi : X.N[i]? = some n) (hln : X.env.kindOf n = some .local) (hc : Names X x c) (tk : Takes X Wout)
    (hb : ∀ (W : WX) (pn : List (Addr × Obj)) (xe : Value → Shared → Prop), Takes (X.tr pn xe) W → PassesOwn (model X.prog X.w) X.A X.env xe → PSs (X.tr pn xe) body (tb W))
    (hsu : ∀ (a : Addr) (pn : List (Addr × Obj)), PSs (sui X a pn) (b₀ :: suite) ts) :
    PS X (.Try body [.ExceptHandler (some (.Name x np)) (some n) (b₀ :: suite) pos'] [] [] pos) (fun D σ H => tb (wSui X.K c i ts Wout D) D σ H) := by
  refine ⟨fun pins s σ H D I h => ?_⟩
  have okX := I.ok
  have hfr : X.A.frames = some (X.env :: X.outer) := by rw [okX.frames, hs]
  refine wpAny_Try_except ?_
  refine wpAny_mono ((hb (wSui X.K c i ts Wout D) (X.pn ++ pins) (fun e s₁ => wpAny (model X.prog X.w) X.A (noteFrame e X.env) (fun _ s₂ => wpAny (model X.prog X.w) X.A (setFlight e none) (fun _ s₃ =>
    wpAny (model X.prog X.w) X.A (handleBy e X.env [.ExceptHandler (some (.Name x np)) (some n) (b₀ :: suite) pos']) (SP X pins D) X.xe s₃) X.xe s₂) X.xe s₁) (fun u s1 xx => ?_) PassesOwn.looking).run [] s σ H D (I.toTry _) h)
    (fun fl s1 hsp => ?_) (fun _ _ y => y)
  · obtain ⟨a, B, sI, pins1, σ1, H1, cls, d, rfl, J0, nb, up, sky, na, os, ag, C, dd, rfl, rfl, b, hb1, hyes, hno⟩ := xx
    have J : Inv X pins σ1 H1 sI := J0.ofTry okX
    have skyX : Sky B (X.env :: X.outer) a (Zc (.ref C) (some dd)) X.env.locals s1.heap := by rw [← hs]; exact sky
    refine Sky.land Zc.steady hfr hf skyX fun h3 fly3 up3 => ?_
    have J3 : Inv X pins σ1 H1 { s1 with heap := h3 } := J.landed nb fly3.1 (up.trans up3) os ag
    obtain ⟨oe3, vs3, he3, hz3, hd3⟩ := fly3.there
    have nFr : a ∉ frs (X.env :: X.outer) := fun hm => by
      obtain ⟨_, o', e', hnf⟩ := fly3.2.2.1.mem hm
      rw [he3] at e'
      cases e'
      exact hnf _ hd3
    refine wpAny_handleBy_cons (codeAny_handlers_test ?_) (by intro z; cases z)
    have LT : PySem.W.Looks (model X.prog X.w) h3 (typeOf (.ref a)) (.ref C) := fun A Q E s k q => wpAny_typeOf_ref (k _ _ he3) (by rw [hz3.1]; exact q)
    have LM := PySem.W.exm_one (M := model X.prog X.w) J3.kIn LT hb1
    have test : ∀ {Q : Value → Shared → Prop} {E : Value → Shared → Prop}, Q c { s1 with heap := h3 } → wpAny (model X.prog X.w) (X.A.mark (some (.ref a))) (eval (.Name x np) X.env) Q E { s1 with heap := h3 } := fun {Q E} q => by
      have S3 := toSui (a := a) J3
      obtain ⟨g1, g2, m1 | ⟨m1, m2, m3⟩⟩ := hc
      · exact ld_glob (X := sui X a (X.pn ++ pins)) S3 g1 m1 q g2
      · exact ld_blt (X := sui X a (X.pn ++ pins)) S3 g1 m1 m2 q m3 g2
    refine test (LM.here ?_)
    cases b with
    | true =>
      refine codeAny_handlers_suite_as (HandSPX.lands_againZ fly3 fun h4 fly4 up4 => ?_)
      obtain ⟨oe4, vs4, he4, hz4, hd4⟩ := fly4.there
      have hat : ErAt a C dd h4 := by
        obtain ⟨z1, z2⟩ := hz4
        obtain ⟨q1, q2, q3, q4⟩ := oe4
        dsimp only at z1 z2 hd4
        subst z1 z2 hd4
        exact ⟨_, _, he4⟩
      have J4 : Inv X pins σ1 (upd H1 a (erO a C dd)) { s1 with heap := h4 } := adopt J nb fly4.1 ((up.trans up3).trans up4) os ag fly4.2.1 (by rw [hs]; exact nFr) na hat
      refine store_ok (X := sui X a (X.pn ++ pins)) (v := .ref a) (toSui (a := a) J4) hN hi (.inl hln) rfl (fun s5 S5 => ?_) (.inr hln)
      refine wpAny_mono ((hsu a (X.pn ++ pins)).run [] s5 _ _ _ S5 (hyes rfl a na)) (fun fl s6 hsp => ?_) (fun _ _ z => False.elim z)
      have away : ∀ {σ6 : St} {H6 : Hp} {Q : Shared → Prop}, Inv (sui X a (X.pn ++ pins)) [] σ6 H6 s6 → (∀ s7, Inv X pins (σ6.set i none) H6 s7 → Q s7) →
          wpAny (model X.prog X.w) X.A (do bindName X.env n .none; unbindBehindTheSuite X.env n pos') (fun _ s7 => Q s7) X.xe s6 := fun {σ6 H6 Q} S6 q => gone_ok (ofSui S6 okX) hN hi hln q
      match fl, hsp with
      | .next, ⟨σ6, H6, S6, q6⟩ => exact away S6 fun s7 J7 => ⟨_, _, J7, q6⟩
      | .brk, ⟨σ6, H6, S6, q6⟩ => exact away S6 fun s7 J7 => ⟨_, _, J7, q6⟩
      | .cont, ⟨σ6, H6, S6, q6⟩ => exact away S6 fun s7 J7 => ⟨_, _, J7, q6⟩
      | .ret u, ⟨v6, σ6, H6, S6, r6, q6⟩ => exact away S6 fun s7 J7 => ⟨_, _, _, J7, r6, q6⟩
    | false =>
      show wpAny _ X.A (handleBy (.ref a) X.env []) _ _ _
      refine wpAny_handleBy_nil ?_
      obtain ⟨k1, k2, k3, oe, vs, T, oT, ts', he, hz, hd, h1, hr⟩ := id fly3
      unfold PySem.passOn
      refine wpAny_bind (wpAny_field he hd h1 ?_)
      rw [if_neg (show ¬ ((Value.ref T == Value.none) = true) from by simp)]
      have onward : wpAny (model X.prog X.w) X.A (setFlight (.ref a) X.env.frame) (fun _ s4 => wpAny (model X.prog X.w) X.A (throw (.ref a) : Sem Flow) (SP X pins D) X.xe s4) X.xe { s1 with heap := h3 } := by
        rw [hf]
        refine HandSPX.setFlight_upZ fly3 fun h4 hh4 up4 => wpAny_throw (tk _ _ ⟨a, B, sI, pins, σ1, H1, .ref C, some dd, rfl, J, nb, (up.trans up3).trans up4, .inr (.inr (by rw [hs]; exact hh4)), na, os, ag, hno rfl⟩)
      first
        | exact wpAny_bind (wpAny_pure (wpAny_bind onward))
        | exact wpAny_bind onward
  · match fl, hsp with
    | .next, ⟨σ', H', J', q⟩ => exact wpAny_execs_nil ⟨σ', H', J'.ofTry okX, q⟩
    | .brk, ⟨σ', H', J', q⟩ => exact ⟨σ', H', J'.ofTry okX, q⟩
    | .cont, ⟨σ', H', J', q⟩ => exact ⟨σ', H', J'.ofTry okX, q⟩
    | .ret u, ⟨v, σ', H', J', r, q⟩ => exact ⟨v, σ', H', J'.ofTry okX, r, q⟩
end
end L2
namespace XA
open PySem PySem.W PySem.Calls PyProof.Rows PySem.HandSPX
/-- the common class -/
theorem shC_mk {K : Frag} {S N : Addr} {q : Str} {bs : List Value} {sn : List Str} {sub : List Value} {ab : Bool} {col : Option Bool} {dd : Option Addr} {k0 k1 k2 k3 k5 : Option Value} (ns : nsIn K mainGlobals "SheetError" = some (some (.ref S)))
    (lk : K.lookup S = some (excClassObj "SheetError" q S N bs [.type "ValueError", .type "Exception", .type "BaseException", .type "object"] true sn sub ab col dd k0 k1 k2 k3 k5 "ValueError.__new__")) : ShC K S :=
  ⟨ns, ⟨q, N, bs, sn, sub, ab, col, dd, k0, k1, k2, k3, k5, lk⟩⟩
/-- an error's class, from what the top has left -/
theorem erM_mk {P : Program} {K : Frag} {h : Heap} {mg : Str → Option Value} {x : Str} {C S fI N cda cc td : Addr} {q qf : Str} {bs : List Value} {sn : List Str} {sub : List Value} {ab : Bool} {col : Option Bool} {dd : Option Addr} {k0 k1 k2 k3 k5 : Option Value}
    {A : Arguments} {B : List Stmt} {Sc : Scope} {od an : Option Addr} {kV doc pm ct : Value} {osl : Array (Option Value)} {c1 c2 c3 : Value} {d1 d2 d3 : Option Addr} {sl1 sl2 sl3 : Array (Option Value)} {n : Nat} {vs : Array Value} {file : Str} {tf : Tok}
    (X : K.In h) (G : h.Ns mainGlobals mg) (sh : ShC K S) (it : InitTxt A B Sc) (ne : x ≠ "SheetError")
    (ns : nsIn K mainGlobals x = some (some (.ref C)))
    (lk : K.lookup C = some (excClassObj x q C N bs [.ref S, .type "ValueError", .type "Exception", .type "BaseException", .type "object"] true sn sub ab col dd k0 k1 k2 k3 k5 "ValueError.__new__"))
    (sa : findIn K (.ref C) "__setattr__" = some (some (.builtin "object.__setattr__"))) (ga : findIn K (.ref C) "__getattribute__" = some (some (.builtin "BaseException.__getattribute__"))) (gg : findIn K (.ref C) "__getattr__" = some none)
    (nv : findIn K (.ref C) "value" = some none) (kp : keepIn K (.ref C) = true) (hc : findIn K (.ref C) "__class__" = some (some (.builtin "object.__class__")))
    (gs : specialIn K (.builtin "object.__class__") "__get__" = some (some (.builtin "getset_descriptor.__get__"))) (tk : takesIn K (.builtin "object.__class__") = some true)
    (iC : findIn K (.ref C) "__init__" = some (some (.ref fI))) (sup : alongIn K "__init__" [.ref S, .type "ValueError", .type "Exception", .type "BaseException", .type "object"] = some (some (.builtin "ValueError.__init__")))
    (any : nsIn K cStatics "thirdparty.any" = some none) (msup : nsIn K mainGlobals "super" = some none)
    (lf : K.lookup fI = some ⟨.type "function", od, .func (fnX "__init__" qf A B Sc [("__class__", cc)] (.ref td) kV doc pm an (.ref cda) ct), osl⟩) (cd : codeIn K (.ref cda) qf = true)
    (lc : K.lookup cc = some ⟨c1, d1, .cell (some (.ref C)), sl1⟩) (lt : K.lookup td = some ⟨c2, d2, .seq #[.none] n, sl2⟩) (lv : K.lookup cda = some ⟨c3, d3, .fields vs, sl3⟩) (hv : vs[2]? = some (.str file tf)) (hf : ((P.main.file : Str) == file) = true)
    (top : (P.main.scope.names.lookup ("super" : Str)).isSome = false) : ∃ C S fI, ErM P K mg x C S fI :=
  ⟨C, S, fI, ⟨⟨ns, sh, ne, ⟨q, N, bs, sn, sub, ab, col, dd, k0, k1, k2, k3, k5, lk⟩, sa, ga, gg, nv, kp, hc, gs, tk⟩, mg_of X G ns, iC, sup, any, mg_none_of X G msup,
    ⟨_, od, A, B, Sc, qf, _, kV, doc, pm, an, cda, cc, ct, osl, it, rfl, lf, cd, ⟨c1, d1, sl1, lc⟩, ⟨td, c2, d2, n, sl2, rfl, lt⟩, ⟨c3, d3, vs, sl3, file, tf, lv, hv, hf⟩⟩, top⟩⟩
end XA
/-! DL1: data D, what represents it, the state of a def as plain data, the judgements -/
namespace DL
open PySem PySem.Spec PyProof.Rows L2
inductive D where
  | non
  | bl (b : Bool)
  | int (i : Int)
  | str (x : Str)
  | tup (l : List D)
  | lst (l : List D)
  | dct0
  | scr (ns : List Int)
  | own (k : Nat)
  | exc (x : Str) (d : D)
  | glb (x : Str)
  | val (v : V)
abbrev St := L2.St
abbrev Env := List (Option D)
inductive Own where
  | lst (ds : List D)
  | dead
abbrev Mem := List Own
/-- where the owned cells stand; the lists that are being made out of sight -/
structure Ph where
  cells : List Addr
  hid : List (Addr × HO)
abbrev Ph.add (ph : Ph) (p : Addr) : Ph := { ph with cells := ph.cells ++ [p] }
abbrev Ph.cut (ph : Ph) (n : Nat) : Ph := { ph with cells := ph.cells.take n }
abbrev fVal : Str := "value"
mutual
inductive Rep (K : PySem.W.Frag) (ph : Ph) (S : Hp) : V → D → Prop
  | non : Rep K ph S .non .non
  | bl (b : Bool) : Rep K ph S (.bl b) (.bl b)
  | int (i : Int) : Rep K ph S (.int i) (.int i)
  | str (x : Str) : Rep K ph S (.str x) (.str x)
  | tup {a : Addr} {xs : List V} {ds : List D} : S a = some (.tup xs) → RepAll K ph S xs ds → Rep K ph S (.ref a) (.tup ds)
  | lst {a : Addr} {xs : List V} {ds : List D} : S a = some (.lst xs) → RepAll K ph S xs ds → Rep K ph S (.ref a) (.lst ds)
  | scr {a : Addr} {ns : List Int} : SqL K S a (ns.map V.int) → Rep K ph S (.ref a) (.scr ns)
  | dct0 {a : Addr} : S a = some (.dK []) → Rep K ph S (.ref a) .dct0
  | own {a : Addr} {k : Nat} : ph.cells[k]? = some a → Rep K ph S (.ref a) (.own k)
  | exc {a C T dd : Addr} {x : Str} {v : V} {d : D} : XA.ErC K x C T → S a = some (erO a C dd) → S dd = some (.xd [(fVal, v)]) → Rep K ph S v d → Rep K ph S (.ref a) (.exc x d)
  | glb {a : Addr} {x : Str} : PySem.W.nsIn K mainGlobals x = some (some (.ref a)) → Rep K ph S (.ref a) (.glb x)
  | val (v : V) : Rep K ph S v (.val v)
inductive RepAll (K : PySem.W.Frag) (ph : Ph) (S : Hp) : List V → List D → Prop
  | nil : RepAll K ph S [] []
  | cons {v : V} {vs : List V} {d : D} {ds : List D} : Rep K ph S v d → RepAll K ph S vs ds → RepAll K ph S (v :: vs) (d :: ds)
end
structure Ext (ph : Ph) (S : Hp) (ph' : Ph) (S' : Hp) : Prop where
  pre : ∀ (k : Nat) (a : Addr), ph.cells[k]? = some a → ph'.cells[k]? = some a
  same : Same S S'
  hid : ph'.hid = ph.hid
theorem Ext.refl {ph : Ph} {S : Hp} : Ext ph S ph S := ⟨fun _ _ h => h, fun _ _ h => h, rfl⟩
theorem Ext.trans {ph ph1 ph2 : Ph} {S S1 S2 : Hp} (a : Ext ph S ph1 S1) (b : Ext ph1 S1 ph2 S2) : Ext ph S ph2 S2 :=
  ⟨fun k x h => b.pre k x (a.pre k x h), a.same.trans b.same, b.hid.trans a.hid⟩
section
variable {K : PySem.W.Frag} {ph ph' : Ph} {S S' : Hp}
mutual
theorem Rep.ext (x : Ext ph S ph' S') : ∀ (d : D) (v : V), Rep K ph S v d → Rep K ph' S' v d
  | .non, _, h => by cases h; exact .non
  | .bl _, _, h => by cases h; exact .bl _
  | .int _, _, h => by cases h; exact .int _
  | .str _, _, h => by cases h; exact .str _
  | .tup ds, _, h => by
    cases h with
    | tup h1 h2 => exact .tup (x.same _ _ h1) (RepAll.ext x ds _ h2)
  | .lst ds, _, h => by
    cases h with
    | lst h1 h2 => exact .lst (x.same _ _ h1) (RepAll.ext x ds _ h2)
  | .dct0, _, h => by
    cases h with
    | dct0 h1 => exact .dct0 (x.same _ _ h1)
  | .scr ns, _, h => by
    cases h with
    | scr h1 => exact .scr (x.same.seq h1)
  | .own k, _, h => by
    cases h with
    | own h1 => exact .own (x.pre _ _ h1)
  | .glb _, _, h => by
    cases h with
    | glb h1 => exact .glb h1
  | .exc C d, _, h => by
    cases h with
    | exc h0 h1 h2 h3 => exact .exc h0 (x.same _ _ h1) (x.same _ _ h2) (Rep.ext x d _ h3)
  | .val v, _, h => by cases h; exact .val _
theorem RepAll.ext (x : Ext ph S ph' S') : ∀ (ds : List D) (vs : List V), RepAll K ph S vs ds → RepAll K ph' S' vs ds
  | [], _, h => by cases h; exact .nil
  | d :: ds, _, h => by
    cases h with
    | cons h1 h2 => exact .cons (Rep.ext x d _ h1) (RepAll.ext x ds _ h2)
end
theorem Rep.up {d : D} {v : V} (h : Rep K ph S v d) (x : Ext ph S ph' S') : Rep K ph' S' v d := Rep.ext x d v h
theorem RepAll.up {ds : List D} {vs : List V} (h : RepAll K ph S vs ds) (x : Ext ph S ph' S') : RepAll K ph' S' vs ds := RepAll.ext x ds vs h
theorem RepAll.len : ∀ {vs : List V} {ds : List D}, RepAll K ph S vs ds → vs.length = ds.length
  | _, _, .nil => rfl
  | _, _, .cons _ t => by rw [List.length_cons, List.length_cons, RepAll.len t]
theorem RepAll.get : ∀ {vs : List V} {ds : List D} {i : Nat} {d : D}, RepAll K ph S vs ds → ds[i]? = some d → ∃ v, vs[i]? = some v ∧ Rep K ph S v d
  | _, _, _, _, .nil, e => by simp at e
  | _, _, 0, _, .cons r _, e => by simp at e; subst e; exact ⟨_, rfl, r⟩
  | _, _, i + 1, _, .cons _ t, e => by
    obtain ⟨v, e1, r⟩ := RepAll.get (i := i) t (by simpa using e)
    exact ⟨v, by simpa using e1, r⟩
theorem RepAll.app : ∀ {vs ws : List V} {ds es : List D}, RepAll K ph S vs ds → RepAll K ph S ws es → RepAll K ph S (vs ++ ws) (ds ++ es)
  | _, _, _, _, .nil, q => q
  | _, _, _, _, .cons r t, q => .cons r (RepAll.app t q)
theorem RepAll.take : ∀ {vs : List V} {ds : List D} (n : Nat), RepAll K ph S vs ds → RepAll K ph S (vs.take n) (ds.take n)
  | _, _, 0, _ => .nil
  | _, _, _ + 1, .nil => .nil
  | _, _, n + 1, .cons r t => .cons r (RepAll.take n t)
theorem RepAll.drop : ∀ {vs : List V} {ds : List D} (n : Nat), RepAll K ph S vs ds → RepAll K ph S (vs.drop n) (ds.drop n)
  | _, _, 0, r => r
  | _, _, _ + 1, .nil => .nil
  | _, _, n + 1, .cons r t => RepAll.drop n t
theorem RepAll.set {v : V} {d : D} (r : Rep K ph S v d) : ∀ {vs : List V} {ds : List D} (i : Nat), RepAll K ph S vs ds → RepAll K ph S (vs.set i v) (ds.set i d)
  | _, _, _, .nil => .nil
  | _, _, 0, .cons _ t => .cons r t
  | _, _, i + 1, .cons q t => .cons q (RepAll.set r i t)
theorem RepAll.rep {v : V} {d : D} (r : Rep K ph S v d) : ∀ n : Nat, RepAll K ph S (List.replicate n v) (List.replicate n d)
  | 0 => .nil
  | n + 1 => .cons r (RepAll.rep r n)
theorem RepAll.ints : ∀ ns : List Int, RepAll K ph S (ns.map V.int) (ns.map D.int)
  | [] => .nil
  | n :: ns => .cons (.int n) (RepAll.ints ns)
end
/-- the state (σ, H) is told by the names' data ρ and the owned cells M -/
structure Sat (K : PySem.W.Frag) (ph : Ph) (S : Hp) (r : Env) (M : Mem) (σ : St) (H : Hp) : Prop where
  sub : Same S H
  len : ph.cells.length = M.length
  nd : ph.cells.Nodup
  trk : ∀ (k : Nat) (a : Addr), ph.cells[k]? = some a → ∃ o, H a = some o
  cell : ∀ (k : Nat) (ds : List D), M[k]? = some (.lst ds) → ∃ a xs, ph.cells[k]? = some a ∧ S a = none ∧ H a = some (.lst xs) ∧ RepAll K ph S xs ds
  hid : ∀ p ∈ ph.hid, H p.1 = some p.2 ∧ S p.1 = none ∧ p.1 ∉ ph.cells
  hnd : (ph.hid.map (·.1)).Nodup
  el : r.length = σ.length
  env : ∀ (i : Nat) (d : D), r[i]? = some (some d) → ∃ v, σ[i]? = some (some v) ∧ Rep K ph S v d
abbrev DQ := D → Mem → Prop
abbrev DTE := Env → Mem → DQ → Prop
abbrev DTT := Env → Mem → (Bool → Mem → Prop) → Prop
abbrev DTA := Env → Mem → (List D → Mem → Prop) → Prop
structure DEnds where
  nx : Env → Mem → Prop
  rt : DQ
  bk : Env → Mem → Prop := fun _ _ => False
  ct : Env → Mem → Prop := fun _ _ => False
abbrev DTS := DEnds → Env → Mem → Prop
/-- behind a piece, from (ph, S): the state as it is then, and what is wanted of it -/
def Aft (K : PySem.W.Frag) (ph : Ph) (S : Hp) (r : Env) (σ : St) (H : Hp) (Q : Ph → Hp → Mem → Prop) : Prop :=
  ∃ ph' S' M, Ext ph S ph' S' ∧ Sat K ph' S' r M σ H ∧ Q ph' S' M
def post (K : PySem.W.Frag) (ph : Ph) (S : Hp) (r : Env) (σ : St) (Q : DQ) : VK := fun v H => Aft K ph S r σ H fun ph' S' M => ∃ d, Rep K ph' S' v d ∧ Q d M
def postT (K : PySem.W.Frag) (ph : Ph) (S : Hp) (r : Env) (σ : St) (Q : Bool → Mem → Prop) : Bool → Hp → Prop := fun b H => Aft K ph S r σ H fun _ _ M => Q b M
def postA (K : PySem.W.Frag) (ph : Ph) (S : Hp) (r : Env) (σ : St) (Q : List D → Mem → Prop) : List V → Hp → Prop := fun vs H => Aft K ph S r σ H fun ph' S' M => ∃ ds, RepAll K ph' S' vs ds ∧ Q ds M
def postN (K : PySem.W.Frag) (ph : Ph) (S : Hp) (Q : Env → Mem → Prop) : St → Hp → Prop := fun σ H => ∃ r, Aft K ph S r σ H fun _ _ M => Q r M
/-- behind a return the names are gone -/
def postR (K : PySem.W.Frag) (ph : Ph) (S : Hp) (Q : DQ) : VK := fun v H => ∃ r σ, post K ph S r σ Q v H
structure DE (X : Cx) (e : Expr) (t : DTE) : Prop where
  pe : PE X e (fun σ H Q => ∃ ph S r M Q0, Sat X.K ph S r M σ H ∧ t r M Q0 ∧ ∀ v H', post X.K ph S r σ Q0 v H' → Q v H')
structure DT (X : Cx) (e : Expr) (t : DTT) : Prop where
  pt : PT X e (fun σ H Q => ∃ ph S r M Q0, Sat X.K ph S r M σ H ∧ t r M Q0 ∧ ∀ b H', postT X.K ph S r σ Q0 b H' → Q b H')
structure DW (X : Cx) (e : Expr) (t : DTT) : Prop where
  pw : PW X e (fun σ H Q => ∃ ph S r M Q0, Sat X.K ph S r M σ H ∧ t r M Q0 ∧ ∀ b H', postT X.K ph S r σ Q0 b H' → Q b H')
structure DA (X : Cx) (es : List Expr) (t : DTA) : Prop where
  pa : PA X es (fun σ H Q => ∃ ph S r M Q0, Sat X.K ph S r M σ H ∧ t r M Q0 ∧ ∀ vs H', postA X.K ph S r σ Q0 vs H' → Q vs H')
def lfS (K : PySem.W.Frag) (t : DTS) : TS := fun E σ H => ∃ ph S r M E0, Sat K ph S r M σ H ∧ t E0 r M ∧ (∀ σ' H', postN K ph S E0.nx σ' H' → E.nx σ' H') ∧ (∀ v H', postR K ph S E0.rt v H' → E.rt v H') ∧ (∀ σ' H', postN K ph S E0.bk σ' H' → E.bk σ' H') ∧ (∀ σ' H', postN K ph S E0.ct σ' H' → E.ct σ' H')
structure DS (X : Cx) (st : Stmt) (t : DTS) : Prop where
  ps : PS X st (lfS X.K t)
structure DSs (X : Cx) (sts : List Stmt) (t : DTS) : Prop where
  pss : PSs X sts (lfS X.K t)
/-! ### weakening the hand layer's judgements -/
section
variable {X : Cx}
theorem PE.weak {e : Expr} {t t' : TE} (h : PE X e t) (w : ∀ σ H Q, t' σ H Q → t σ H Q) : PE X e t' := ⟨fun pins s σ H Q I q => h.run pins s σ H Q I (w _ _ _ q)⟩
theorem PT.weak {e : Expr} {t t' : TT} (h : PT X e t) (w : ∀ σ H Q, t' σ H Q → t σ H Q) : PT X e t' := ⟨fun pins s σ H Q I q => h.run pins s σ H Q I (w _ _ _ q)⟩
theorem PW.weak {e : Expr} {t t' : TT} (h : PW X e t) (w : ∀ σ H Q, t' σ H Q → t σ H Q) : PW X e t' := ⟨fun wh pins s σ H Q I q => h.run wh pins s σ H Q I (w _ _ _ q)⟩
theorem PA.weak {e : List Expr} {t t' : TA} (h : PA X e t) (w : ∀ σ H Q, t' σ H Q → t σ H Q) : PA X e t' := ⟨fun pos pins s σ H Q I q => h.run pos pins s σ H Q I (w _ _ _ q)⟩
theorem PS.weak {e : Stmt} {t t' : TS} (h : PS X e t) (w : ∀ E σ H, t' E σ H → t E σ H) : PS X e t' := ⟨fun pins s σ H Q I q => h.run pins s σ H Q I (w _ _ _ q)⟩
theorem PSs.weak {e : List Stmt} {t t' : TS} (h : PSs X e t) (w : ∀ E σ H, t' E σ H → t E σ H) : PSs X e t' := ⟨fun pins s σ H Q I q => h.run pins s σ H Q I (w _ _ _ q)⟩
/-- from a rule of the hand layer -/
theorem DE.of {e : Expr} {t' : TE} {t : DTE} (h : PE X e t') (w : ∀ ph S r M σ H Q, Sat X.K ph S r M σ H → t r M Q → ∀ Q', (∀ v H', post X.K ph S r σ Q v H' → Q' v H') → t' σ H Q') : DE X e t :=
  ⟨PE.weak h fun σ H Q ⟨ph, S, r, M, Q0, hs, ht, hq⟩ => w ph S r M σ H Q0 hs ht Q hq⟩
theorem DT.of {e : Expr} {t' : TT} {t : DTT} (h : PT X e t') (w : ∀ ph S r M σ H Q, Sat X.K ph S r M σ H → t r M Q → ∀ Q', (∀ v H', postT X.K ph S r σ Q v H' → Q' v H') → t' σ H Q') : DT X e t :=
  ⟨PT.weak h fun σ H Q ⟨ph, S, r, M, Q0, hs, ht, hq⟩ => w ph S r M σ H Q0 hs ht Q hq⟩
theorem DW.of {e : Expr} {t' : TT} {t : DTT} (h : PW X e t') (w : ∀ ph S r M σ H Q, Sat X.K ph S r M σ H → t r M Q → ∀ Q', (∀ v H', postT X.K ph S r σ Q v H' → Q' v H') → t' σ H Q') : DW X e t :=
  ⟨PW.weak h fun σ H Q ⟨ph, S, r, M, Q0, hs, ht, hq⟩ => w ph S r M σ H Q0 hs ht Q hq⟩
theorem DA.of {e : List Expr} {t' : TA} {t : DTA} (h : PA X e t') (w : ∀ ph S r M σ H Q, Sat X.K ph S r M σ H → t r M Q → ∀ Q', (∀ v H', postA X.K ph S r σ Q v H' → Q' v H') → t' σ H Q') : DA X e t :=
  ⟨PA.weak h fun σ H Q ⟨ph, S, r, M, Q0, hs, ht, hq⟩ => w ph S r M σ H Q0 hs ht Q hq⟩
/-- the end of a reading: this value, this state -/
theorem Aft.here {K : PySem.W.Frag} {ph : Ph} {S : Hp} {r : Env} {σ : St} {H : Hp} {M : Mem} {Q : Ph → Hp → Mem → Prop} (h : Sat K ph S r M σ H) (q : Q ph S M) : Aft K ph S r σ H Q := ⟨ph, S, M, .refl, h, q⟩
theorem Aft.up {K : PySem.W.Frag} {ph ph1 : Ph} {S S1 : Hp} {r : Env} {σ : St} {H : Hp} {Q : Ph → Hp → Mem → Prop} (x : Ext ph S ph1 S1) (h : Aft K ph1 S1 r σ H Q) : Aft K ph S r σ H Q :=
  let ⟨ph', S', M, x', hs, q⟩ := h
  ⟨ph', S', M, x.trans x', hs, q⟩
/-! ### the simplest expressions -/
def dC (d : D) : DTE := fun _ M Q => Q d M
theorem de_c {e : Expr} {v : V} {d : D} (h : PE X e (tC v)) (hr : ∀ ph S, Rep X.K ph S v d) : DE X e (dC d) :=
  DE.of h fun ph S r M σ H Q hs ht Q' hq => hq _ _ (Aft.here hs ⟨d, hr _ _, ht⟩)
theorem de_int {i j pos} : DE X (.Constant (.int i) j pos) (dC (.int i)) := de_c pe_int fun _ _ => .int _
theorem de_bl {b j pos} : DE X (.Constant (.bool b) j pos) (dC (.bl b)) := de_c pe_bl fun _ _ => .bl _
theorem de_non {j pos} : DE X (.Constant .none j pos) (dC .non) := de_c pe_non fun _ _ => .non
theorem de_str {x j pos} : DE X (.Constant (.str x) j pos) (dC (.str x)) := de_c pe_str fun _ _ => .str _
def dVar (i : Nat) : DTE := fun r M Q => match r[i]? with
  | some (some d) => Q d M
  | _ => False
theorem de_var {e : Expr} (i : Nat) (h : PE X e (tVar i)) : DE X e (dVar i) :=
  DE.of h fun ph S r M σ H Q hs ht Q' hq => by
    unfold dVar at ht
    split at ht
    · rename_i d e
      obtain ⟨v, e1, rv⟩ := hs.env i d e
      exact ⟨v, e1, hq _ _ (Aft.here hs ⟨d, rv, ht⟩)⟩
    · exact ht.elim
/-- the name in slot i -/
theorem dv (i : Nat) {x : Str} {pos : Pos} (hN : X.N[i]? = some x := by rfl) (hv : Vis X.env.scope x := by first | exact Or.inl rfl | exact Or.inr (Or.inl rfl) | exact Or.inr (Or.inr rfl)) (hd : (x == ("__debug__" : Str)) = false := by decide)
    (hcd : (x == ("__classdict__" : Str)) = false := by decide) : DE X (.Name x pos) (dVar i) := de_var i (pe_var hN hv hd hcd)
theorem de_globI {x : Str} {i : Int} {t : Tok} {pos : Pos} (hg : Gl X x) (hm : X.mg x = some (.int i t)) (hd : (x == ("__debug__" : Str)) = false := by decide) : DE X (.Name x pos) (dC (.int i)) :=
  de_c (pe_glob (v := .int i) hg hm ⟨t, rfl⟩ hd) fun _ _ => .int _
end
end DL
/-! DL2: heaps that change; data as PyData; operators -/
namespace DL
open PySem PySem.Spec PyProof.Rows L2
mutual
def toPy : D → Option PyData
  | .non => some .none
  | .bl b => some (.bool b)
  | .int i => some (.int i)
  | .str x => some (.str x)
  | .tup l => match toPyAll l with
    | some ps => some (.tuple ps)
    | none => none
  | .lst l => match toPyAll l with
    | some ps => some (.list ps)
    | none => none
  | .dct0 => some (.dict [])
  | .scr _ => none
  | .own _ => none
  | .exc _ _ => none
  | .glb _ => none
  | .val _ => none
def toPyAll : List D → Option (List PyData)
  | [] => some []
  | d :: ds => match toPy d, toPyAll ds with
    | some p, some ps => some (p :: ps)
    | _, _ => none
end
section
variable {K : PySem.W.Frag} {ph ph' : Ph} {S S' : Hp} {r : Env} {M : Mem} {σ : St} {H : Hp} {p : Addr}
mutual
theorem Rep.hidP {c : List Addr} {l l' : List (Addr × HO)} : ∀ (d : D) (v : V), Rep K ⟨c, l⟩ S v d → Rep K ⟨c, l'⟩ S v d
  | .non, _, h => by cases h; exact .non
  | .bl _, _, h => by cases h; exact .bl _
  | .int _, _, h => by cases h; exact .int _
  | .str _, _, h => by cases h; exact .str _
  | .tup ds, _, h => by
    cases h with
    | tup h1 h2 => exact .tup h1 (RepAll.hidP ds _ h2)
  | .lst ds, _, h => by
    cases h with
    | lst h1 h2 => exact .lst h1 (RepAll.hidP ds _ h2)
  | .dct0, _, h => by
    cases h with
    | dct0 h1 => exact .dct0 h1
  | .scr ns, _, h => by
    cases h with
    | scr h1 => exact .scr h1
  | .own k, _, h => by
    cases h with
    | own h1 => exact .own h1
  | .glb _, _, h => by
    cases h with
    | glb h1 => exact .glb h1
  | .exc C d, _, h => by
    cases h with
    | exc h0 h1 h2 h3 => exact .exc h0 h1 h2 (Rep.hidP d _ h3)
  | .val v, _, h => by cases h; exact .val _
theorem RepAll.hidP {c : List Addr} {l l' : List (Addr × HO)} : ∀ (ds : List D) (vs : List V), RepAll K ⟨c, l⟩ S vs ds → RepAll K ⟨c, l'⟩ S vs ds
  | [], _, h => by cases h; exact .nil
  | d :: ds, _, h => by
    cases h with
    | cons h1 h2 => exact .cons (Rep.hidP d _ h1) (RepAll.hidP ds _ h2)
end
theorem Rep.hid {c : List Addr} {l l' : List (Addr × HO)} {d : D} {v : V} (h : Rep K ⟨c, l⟩ S v d) : Rep K ⟨c, l'⟩ S v d := Rep.hidP d v h
theorem RepAll.hid {c : List Addr} {l l' : List (Addr × HO)} {d : List D} {v : List V} (h : RepAll K ⟨c, l⟩ S v d) : RepAll K ⟨c, l'⟩ S v d := RepAll.hidP d v h
theorem Sat.read {d : D} {v : V} (h : Sat K ph S r M σ H) (q : Rep K ph S v d) : Rep K ph H v d := q.up ⟨fun _ _ e => e, h.sub, rfl⟩
theorem Sat.readAll {d : List D} {v : List V} (h : Sat K ph S r M σ H) (q : RepAll K ph S v d) : RepAll K ph H v d := q.up ⟨fun _ _ e => e, h.sub, rfl⟩
theorem Sat.noS (h : Sat K ph S r M σ H) (hp : H p = none) : S p = none := h.sub.free hp
theorem Sat.notin (h : Sat K ph S r M σ H) (hp : H p = none) : ∀ (k : Nat), ph.cells[k]? ≠ some p := fun k e => by
  obtain ⟨o, ho⟩ := h.trk k p e
  rw [hp] at ho; cases ho
theorem sameUpd {p : Addr} {o : HO} (h : H p = none) : Same H (upd H p o) := fun b x e => by
  rw [upd_ne (ne_of_none e h)]
  exact e
/-- a new object that is only read -/
theorem Sat.frz (h : Sat K ph S r M σ H) (hp : H p = none) (o : HO) : Ext ph S ph (upd S p o) ∧ Sat K ph (upd S p o) r M σ (upd H p o) := by
  have x : Ext ph S ph (upd S p o) := ⟨fun _ _ e => e, sameUpd (h.noS hp), rfl⟩
  refine ⟨x, fun b y e => ?_, h.len, h.nd, fun k a e => ?_, fun k ds e => ?_, fun q hq => ?_, h.hnd, h.el, fun i d e => ?_⟩
  · by_cases hb : b = p
    · rw [hb, upd_same] at e ⊢
      exact e
    · rw [upd_ne hb] at e ⊢
      exact h.sub b y e
  · obtain ⟨u, hu⟩ := h.trk k a e
    exact ⟨u, sameUpd hp _ _ hu⟩
  · obtain ⟨a, xs, h1, h2, h3, h4⟩ := h.cell k ds e
    have ne : a ≠ p := fun z => by rw [z, hp] at h3; cases h3
    refine ⟨a, xs, h1, ?_, ?_, h4.up x⟩
    · rw [upd_ne ne]; exact h2
    · rw [upd_ne ne]; exact h3
  · obtain ⟨h1, h2, h3⟩ := h.hid q hq
    have ne : q.1 ≠ p := fun z => by rw [z, hp] at h1; cases h1
    exact ⟨by rw [upd_ne ne]; exact h1, by rw [upd_ne ne]; exact h2, h3⟩
  · obtain ⟨v, e1, q⟩ := h.env i d e
    exact ⟨v, e1, q.up x⟩
/-- a new list that may be changed -/
theorem Sat.new (h : Sat K ph S r M σ H) (hp : H p = none) {xs : List V} {ds : List D} (hr : RepAll K ph S xs ds) :
    Ext ph S (ph.add p) S ∧ Sat K (ph.add p) S r (M ++ [.lst ds]) σ (upd H p (.lst xs)) ∧ (ph.add p).cells[M.length]? = some p := by
  have x : Ext ph S (ph.add p) S := ⟨fun k a e => by
    rw [List.getElem?_append_left (List.getElem?_eq_some_iff.mp e).1]; exact e, fun _ _ e => e, rfl⟩
  have here : (ph.add p).cells[M.length]? = some p := by
    rw [← h.len, List.getElem?_append_right (Nat.le_refl _), Nat.sub_self]; rfl
  have old : ∀ (k : Nat) (a : Addr), (ph.add p).cells[k]? = some a → ph.cells[k]? = some a ∨ (k = ph.cells.length ∧ a = p) := fun k a e => by
    by_cases hk : k < ph.cells.length
    · rw [List.getElem?_append_left hk] at e
      exact .inl e
    · rw [List.getElem?_append_right (by omega)] at e
      cases hk' : k - ph.cells.length with
      | zero =>
        rw [hk'] at e
        exact .inr ⟨by omega, (Option.some.inj e).symm⟩
      | succ n => rw [hk'] at e; simp at e
  refine ⟨x, ⟨fun b y e => sameUpd hp _ _ (h.sub b y e), by rw [List.length_append, List.length_append, h.len]; rfl, ?_, fun k a e => ?_, fun k es e => ?_, fun q hq => ?_, h.hnd, h.el, fun i d e => ?_⟩, here⟩
  · rw [List.nodup_append]
    refine ⟨h.nd, by simp, fun a ha b hb z => ?_⟩
    have hb' : b = p := by simpa using hb
    obtain ⟨k, hk⟩ := List.mem_iff_getElem?.mp ha
    exact h.notin hp k (by rw [hk, z, hb'])
  · rcases old k a e with q | ⟨_, q⟩
    · obtain ⟨u, hu⟩ := h.trk k a q
      exact ⟨u, sameUpd hp _ _ hu⟩
    · exact ⟨_, by rw [q, upd_same]⟩
  · by_cases hk : k < M.length
    · rw [List.getElem?_append_left hk] at e
      obtain ⟨a, ys, h1, h2, h3, h4⟩ := h.cell k es e
      exact ⟨a, ys, x.pre _ _ h1, h2, sameUpd hp _ _ h3, h4.up x⟩
    · rw [List.getElem?_append_right (by omega)] at e
      cases hk' : k - M.length with
      | succ n => rw [hk'] at e; simp at e
      | zero =>
        rw [hk'] at e
        have e' : ds = es := by simpa using e
        have k' : k = M.length := by omega
        subst e'
        subst k'
        exact ⟨p, xs, here, h.noS hp, upd_same, hr.up x⟩
  · obtain ⟨h1, h2, h3⟩ := h.hid q hq
    have ne : q.1 ≠ p := fun z => by rw [z, hp] at h1; cases h1
    exact ⟨by rw [upd_ne ne]; exact h1, h2, fun z => (List.mem_append.mp z).elim h3 fun z => ne (by simpa using z)⟩
  · obtain ⟨v, e1, q⟩ := h.env i d e
    exact ⟨v, e1, q.up x⟩
theorem nd_ix {l : List Addr} (hN : l.Nodup) {i j : Nat} {x : Addr} (a : l[i]? = some x) (b : l[j]? = some x) : i = j := by
  obtain ⟨h1, e1⟩ := List.getElem?_eq_some_iff.mp a
  obtain ⟨h2, e2⟩ := List.getElem?_eq_some_iff.mp b
  exact (List.getElem_inj hN).mp (e1.trans e2.symm)
/-- an owned list is changed -/
theorem Sat.put (h : Sat K ph S r M σ H) {k : Nat} {ds es : List D} {xs : List V} (hk : M[k]? = some (.lst ds)) {a : Addr} (ha : ph.cells[k]? = some a) (hr : RepAll K ph S xs es) :
    Sat K ph S r (M.set k (.lst es)) σ (upd H a (.lst xs)) := by
  obtain ⟨a', ys, h1, h2, h3, h4⟩ := h.cell k ds hk
  rw [ha] at h1
  cases h1
  have kl : k < M.length := (List.getElem?_eq_some_iff.mp hk).1
  refine ⟨fun b y e => ?_, by rw [List.length_set]; exact h.len, h.nd, fun j b e => ?_, fun j fs e => ?_, fun q hq => ?_, h.hnd, h.el, h.env⟩
  · rw [upd_ne (fun z => by rw [z, h2] at e; cases e)]
    exact h.sub b y e
  · by_cases hb : b = a
    · exact ⟨_, by rw [hb, upd_same]⟩
    · rw [upd_ne hb]; exact h.trk j b e
  · by_cases hj : j = k
    · subst hj
      rw [List.getElem?_set_self kl] at e
      cases e
      exact ⟨a, xs, ha, h2, upd_same, hr⟩
    · rw [List.getElem?_set_ne (Ne.symm hj)] at e
      obtain ⟨b, zs, q1, q2, q3, q4⟩ := h.cell j fs e
      have nb : b ≠ a := fun z => by rw [z] at q1; exact hj (nd_ix h.nd q1 ha)
      exact ⟨b, zs, q1, q2, by rw [upd_ne nb]; exact q3, q4⟩
  · obtain ⟨h1, h2, h3⟩ := h.hid q hq
    have ne : q.1 ≠ a := fun z => h3 (by rw [z]; exact List.mem_of_getElem? ha)
    exact ⟨by rw [upd_ne ne]; exact h1, h2, h3⟩
/-- an owned list is changed no more -/
theorem Sat.freeze (h : Sat K ph S r M σ H) {k : Nat} {ds : List D} (hk : M[k]? = some (.lst ds)) :
    ∃ a xs, ph.cells[k]? = some a ∧ Ext ph S ph (upd S a (.lst xs)) ∧ Sat K ph (upd S a (.lst xs)) r (M.set k .dead) σ H ∧ Rep K ph (upd S a (.lst xs)) (.ref a) (.lst ds) := by
  obtain ⟨a, xs, h1, h2, h3, h4⟩ := h.cell k ds hk
  have x : Ext ph S ph (upd S a (.lst xs)) := ⟨fun _ _ e => e, sameUpd h2, rfl⟩
  refine ⟨a, xs, h1, x, ⟨fun b y e => ?_, by rw [List.length_set]; exact h.len, h.nd, h.trk, fun j fs e => ?_, fun q hq => ?_, h.hnd, h.el, fun i d e => ?_⟩, .lst upd_same (h4.up x)⟩
  · by_cases hb : b = a
    · rw [hb, upd_same] at e
      rw [hb, ← e]; exact h3
    · rw [upd_ne hb] at e
      exact h.sub b y e
  · have kl : k < M.length := (List.getElem?_eq_some_iff.mp hk).1
    by_cases hj : j = k
    · subst hj
      rw [List.getElem?_set_self kl] at e
      cases e
    · rw [List.getElem?_set_ne (Ne.symm hj)] at e
      obtain ⟨b, zs, q1, q2, q3, q4⟩ := h.cell j fs e
      have nb : b ≠ a := fun z => by rw [z] at q1; exact hj (nd_ix h.nd q1 h1)
      exact ⟨b, zs, q1, by rw [upd_ne nb]; exact q2, q3, q4.up x⟩
  · obtain ⟨g1, g2, g3⟩ := h.hid q hq
    have ne : q.1 ≠ a := fun z => g3 (by rw [z]; exact List.mem_of_getElem? h1)
    exact ⟨g1, by rw [upd_ne ne]; exact g2, g3⟩
  · obtain ⟨v, e1, q⟩ := h.env i d e
    exact ⟨v, e1, q.up x⟩
/-- the names change -/
theorem Sat.setN (h : Sat K ph S r M σ H) {i : Nat} {d : D} {v : V} (q : Rep K ph S v d) : Sat K ph S (r.set i (some d)) M (σ.set i (some v)) H := by
  refine ⟨h.sub, h.len, h.nd, h.trk, h.cell, h.hid, h.hnd, by rw [List.length_set, List.length_set]; exact h.el, fun j e hj => ?_⟩
  by_cases hi : j = i
  · subst hi
    have jl : j < r.length := by
      have := (List.getElem?_eq_some_iff.mp hj).1
      rwa [List.length_set] at this
    rw [List.getElem?_set_self jl] at hj
    cases hj
    exact ⟨v, by rw [List.getElem?_set_self (by rw [← h.el]; exact jl)], q⟩
  · rw [List.getElem?_set_ne (Ne.symm hi)] at hj
    rw [List.getElem?_set_ne (Ne.symm hi)]
    exact h.env j e hj
/-- a new list, out of sight while it is made -/
theorem Sat.hide (h : Sat K ph S r M σ H) (hp : H p = none) (o : HO) : Sat K { ph with hid := (p, o) :: ph.hid } S r M σ (upd H p o) := by
  refine ⟨fun b y e => sameUpd hp _ _ (h.sub b y e), h.len, h.nd, fun k a e => ?_, fun k ds e => ?_, fun q hq => ?_, ?_, h.el, fun i d e => ?_⟩
  · obtain ⟨u, hu⟩ := h.trk k a e
    exact ⟨u, sameUpd hp _ _ hu⟩
  · obtain ⟨a, xs, h1, h2, h3, h4⟩ := h.cell k ds e
    exact ⟨a, xs, h1, h2, sameUpd hp _ _ h3, RepAll.hid h4⟩
  · rcases List.mem_cons.mp hq with e | hq
    · rw [e]
      exact ⟨upd_same, h.noS hp, fun z => by
        obtain ⟨k, hk⟩ := List.mem_iff_getElem?.mp z
        exact h.notin hp k hk⟩
    · obtain ⟨h1, h2, h3⟩ := h.hid q hq
      exact ⟨sameUpd hp _ _ h1, h2, h3⟩
  · refine List.nodup_cons.mpr ⟨fun z => ?_, h.hnd⟩
    obtain ⟨q, hq, e⟩ := List.mem_map.mp z
    obtain ⟨h1, _, _⟩ := h.hid q hq
    have e' : q.1 = p := e
    rw [e', hp] at h1; cases h1
  · obtain ⟨v, e1, q⟩ := h.env i d e
    exact ⟨v, e1, Rep.hid q⟩
theorem hid_ne {p : Addr} {o : HO} {l : List (Addr × HO)} (h : ((p, o) :: l).map (·.1) |>.Nodup) : ∀ q ∈ l, q.1 ≠ p := fun q hq e =>
  (List.nodup_cons.mp h).1 (List.mem_map.mpr ⟨q, hq, e⟩)
/-- the hidden list changes -/
theorem Sat.hset {o o' : HO} {l : List (Addr × HO)} {c : List Addr} (h : Sat K ⟨c, (p, o) :: l⟩ S r M σ H) : Sat K ⟨c, (p, o') :: l⟩ S r M σ (upd H p o') := by
  obtain ⟨g1, g2, g3⟩ := h.hid _ List.mem_cons_self
  have nS : ∀ b y, S b = some y → b ≠ p := fun b y e z => by rw [z, g2] at e; cases e
  have nc : ∀ (k : Nat) (a : Addr), c[k]? = some a → a ≠ p := fun k a e z => g3 (by rw [← z]; exact List.mem_of_getElem? e)
  refine ⟨fun b y e => by rw [upd_ne (nS b y e)]; exact h.sub b y e, h.len, h.nd, fun k a e => ?_, fun k ds e => ?_, fun q hq => ?_, h.hnd, h.el, fun i d e => ?_⟩
  · obtain ⟨u, hu⟩ := h.trk k a e
    exact ⟨u, by rw [upd_ne (nc k a e)]; exact hu⟩
  · obtain ⟨a, xs, h1, h2, h3, h4⟩ := h.cell k ds e
    exact ⟨a, xs, h1, h2, by rw [upd_ne (nc k a h1)]; exact h3, RepAll.hid h4⟩
  · rcases List.mem_cons.mp hq with e | hq
    · rw [e]
      exact ⟨upd_same, g2, g3⟩
    · obtain ⟨h1, h2, h3⟩ := h.hid q (List.mem_cons_of_mem _ hq)
      exact ⟨by rw [upd_ne (hid_ne h.hnd q hq)]; exact h1, h2, h3⟩
  · obtain ⟨v, e1, q⟩ := h.env i d e
    exact ⟨v, e1, Rep.hid q⟩
/-- the hidden list is done: it is only read from now on -/
theorem Sat.hfrz {o : HO} {l : List (Addr × HO)} {c : List Addr} (h : Sat K ⟨c, (p, o) :: l⟩ S r M σ H) : Ext ⟨c, l⟩ S ⟨c, l⟩ (upd S p o) ∧ Sat K ⟨c, l⟩ (upd S p o) r M σ H := by
  obtain ⟨g1, g2, g3⟩ := h.hid _ List.mem_cons_self
  have x : Ext ⟨c, l⟩ S ⟨c, l⟩ (upd S p o) := ⟨fun _ _ e => e, sameUpd g2, rfl⟩
  refine ⟨x, fun b y e => ?_, h.len, h.nd, h.trk, fun k ds e => ?_, fun q hq => ?_, (List.nodup_cons.mp h.hnd).2, h.el, fun i d e => ?_⟩
  · by_cases hb : b = p
    · rw [hb, upd_same] at e
      rw [hb, ← e]; exact g1
    · rw [upd_ne hb] at e
      exact h.sub b y e
  · obtain ⟨a, xs, h1, h2, h3, h4⟩ := h.cell k ds e
    have ne : a ≠ p := fun z => g3 (by rw [← z]; exact List.mem_of_getElem? h1)
    exact ⟨a, xs, h1, by rw [upd_ne ne]; exact h2, h3, (RepAll.hid h4).up x⟩
  · obtain ⟨h1, h2, h3⟩ := h.hid q (List.mem_cons_of_mem _ hq)
    exact ⟨h1, by rw [upd_ne (hid_ne h.hnd q hq)]; exact h2, h3⟩
  · obtain ⟨v, e1, q⟩ := h.env i d e
    exact ⟨v, e1, (Rep.hid q).up x⟩
/-- .. or it is owned from now on -/
theorem Sat.hown {xs : List V} {ds : List D} {l : List (Addr × HO)} {c : List Addr} (h : Sat K ⟨c, (p, .lst xs) :: l⟩ S r M σ H) (q : RepAll K ⟨c, l⟩ S xs ds) :
    Ext ⟨c, l⟩ S ⟨c ++ [p], l⟩ S ∧ Sat K ⟨c ++ [p], l⟩ S r (M ++ [.lst ds]) σ H ∧ (c ++ [p])[M.length]? = some p := by
  obtain ⟨g1, g2, g3⟩ := h.hid _ List.mem_cons_self
  have hl : c.length = M.length := h.len
  have x : Ext ⟨c, l⟩ S ⟨c ++ [p], l⟩ S := ⟨fun k a e => by
    show (c ++ [p])[k]? = _
    rw [List.getElem?_append_left (List.getElem?_eq_some_iff.mp e).1]; exact e, fun _ _ e => e, rfl⟩
  have here : (c ++ [p])[M.length]? = some p := by rw [← hl, List.getElem?_append_right (Nat.le_refl _), Nat.sub_self]; rfl
  have old : ∀ (k : Nat) (a : Addr), (c ++ [p])[k]? = some a → c[k]? = some a ∨ a = p := fun k a e => by
    by_cases hk : k < c.length
    · rw [List.getElem?_append_left hk] at e
      exact .inl e
    · rw [List.getElem?_append_right (by omega)] at e
      cases hk' : k - c.length with
      | zero => rw [hk'] at e; exact .inr (Option.some.inj e).symm
      | succ n => rw [hk'] at e; simp at e
  refine ⟨x, ⟨h.sub, ?_, ?_, fun k a e => ?_, fun k es e => ?_, fun q hq => ?_, (List.nodup_cons.mp h.hnd).2, h.el, fun i d e => ?_⟩, here⟩
  · show (c ++ [p]).length = _
    rw [List.length_append, List.length_append, hl]; rfl
  · show (c ++ [p]).Nodup
    rw [List.nodup_append]
    exact ⟨h.nd, by simp, fun a ha b hb z => g3 (by rw [show b = p by simpa using hb] at z; rw [← z]; exact ha)⟩
  · rcases old k a e with z | z
    · exact h.trk k a z
    · exact ⟨_, by rw [z]; exact g1⟩
  · by_cases hk : k < M.length
    · rw [List.getElem?_append_left hk] at e
      obtain ⟨a, ys, h1, h2, h3, h4⟩ := h.cell k es e
      exact ⟨a, ys, x.pre _ _ h1, h2, h3, (RepAll.hid h4).up x⟩
    · rw [List.getElem?_append_right (by omega)] at e
      cases hk' : k - M.length with
      | succ n => rw [hk'] at e; simp at e
      | zero =>
        rw [hk'] at e
        have e' : ds = es := by simpa using e
        have k' : k = M.length := by omega
        subst e'
        subst k'
        exact ⟨p, xs, here, g2, g1, q.up x⟩
  · obtain ⟨h1, h2, h3⟩ := h.hid q (List.mem_cons_of_mem _ hq)
    exact ⟨h1, h2, fun z => by
      rcases List.mem_append.mp z with z | z
      · exact h3 z
      · exact hid_ne h.hnd q hq (by simpa using z)⟩
  · obtain ⟨v, e1, q⟩ := h.env i d e
    exact ⟨v, e1, (Rep.hid q).up x⟩
/-! ### data as the library's data -/
variable {X : Cx} {pins : List (Addr × Obj)} {s : Shared}
mutual
theorem Rep.reads (I : Inv X pins σ H s) : ∀ (d : D) (v : V) (u : Value) (p : PyData), Rep X.K ph H v d → RelV v u → toPy d = some p → ∃ as, Reads s.heap u p as ∧ ∀ a ∈ as, H a ≠ none
  | .non, _, _, _, h, rv, e => by cases h; cases rv; cases e; exact ⟨_, .none, fun _ z => nomatch z⟩
  | .bl _, _, _, _, h, rv, e => by cases h; cases rv; cases e; exact ⟨_, .bool _, fun _ z => nomatch z⟩
  | .int _, _, _, _, h, rv, e => by cases h; obtain ⟨t, rfl⟩ := rv; cases e; exact ⟨_, .int _ _, fun _ z => nomatch z⟩
  | .str _, _, _, _, h, rv, e => by cases h; obtain ⟨t, rfl⟩ := rv; cases e; exact ⟨_, .str _ _, fun _ z => nomatch z⟩
  | .tup ds, _, _, _, h, rv, e => by
    cases h with
    | tup h1 h2 =>
      cases rv
      simp only [toPy] at e
      split at e
      · rename_i ps ep
        cases e
        obtain ⟨its, rx, ⟨o, ho, hc, n, hd⟩, _⟩ := I.tuple (SqT.of h1)
        obtain ⟨as, q, qa⟩ := RepAll.reads I ds _ its ps h2 rx ep
        exact ⟨_, .tuple ho hc hd q, qa⟩
      · cases e
  | .lst ds, _, _, _, h, rv, e => by
    cases h with
    | lst h1 h2 =>
      cases rv
      simp only [toPy] at e
      split at e
      · rename_i ps ep
        cases e
        obtain ⟨its, rx, ⟨o, n, ho, hc, _, hd⟩, _⟩ := I.list (SqL.of h1)
        obtain ⟨as, q, qa⟩ := RepAll.reads I ds _ its ps h2 rx ep
        refine ⟨_, .list ho hc hd q, fun a ha => ?_⟩
        rcases List.mem_cons.mp ha with e | ha
        · rw [e, h1]; exact fun z => nomatch z
        · exact qa a ha
      · cases e
  | .dct0, _, _, _, h, rv, e => by
    cases h with
    | dct0 h1 =>
      cases rv
      cases e
      obtain ⟨_, _, vs, hk, o, es, ep, ho, hx, hd, _, he, _⟩ := I.hok _ _ h1
      cases hk
      have e0 : es = #[] := by
        cases es with
        | mk l =>
          cases l with
          | nil => rfl
          | cons x l => exact nomatch he
      subst e0
      refine ⟨_, .dict ho hx.1 hd .nil .nil, fun a ha => ?_⟩
      simp at ha
      rw [ha, h1]; exact fun z => nomatch z
  | .scr ns, _, _, _, _, _, e => by cases e
  | .own _, _, _, _, _, _, e => by cases e
  | .exc _ _, _, _, _, _, _, e => by cases e
  | .glb _, _, _, _, _, _, e => by cases e
  | .val _, _, _, _, _, _, e => by cases e
theorem RepAll.reads (I : Inv X pins σ H s) : ∀ (ds : List D) (vs : List V) (us : List Value) (ps : List PyData), RepAll X.K ph H vs ds → Vals vs us → toPyAll ds = some ps → ∃ as, ReadsAll s.heap us ps as ∧ ∀ a ∈ as, H a ≠ none
  | [], _, _, _, h, rv, e => by cases h; cases rv; cases e; exact ⟨_, .nil, fun _ z => nomatch z⟩
  | d :: ds, _, _, _, h, rv, e => by
    cases h with
    | cons h1 h2 =>
      cases rv with
      | cons r1 r2 =>
        simp only [toPyAll] at e
        split at e
        · rename_i p ps ep eps
          cases e
          obtain ⟨as, q1, a1⟩ := Rep.reads I d _ _ p h1 r1 ep
          obtain ⟨bs, q2, a2⟩ := RepAll.reads I ds _ _ ps h2 r2 eps
          refine ⟨_, .cons q1 q2, fun a ha => ?_⟩
          rcases List.mem_append.mp ha with ha | ha
          · exact a1 a ha
          · exact a2 a ha
        · cases e
end
end
end DL
/-! DL3: operators, comparisons, truth, displays -/
namespace DL
open PySem PySem.Spec PyProof.Rows L2
variable {X : Cx}
/-! ### two values -/
abbrev G2 := D → D → Mem → DQ → Prop
def OpD (X : Cx) (f : Value → Value → Sem Value) (g : G2) : Prop :=
  ∀ (pins : List (Addr × Obj)) (s : Shared) (σ : St) (H : Hp) (ph : Ph) (S : Hp) (r : Env) (M : Mem) (x y : V) (dx dy : D) (v u : Value) (Q : DQ),
    Inv X pins σ H s → Sat X.K ph S r M σ H → RelV x v → RelV y u → Rep X.K ph S x dx → Rep X.K ph S y dy → g dx dy M Q →
    wpAny (model X.prog X.w) X.A (f v u) (EP X pins σ (post X.K ph S r σ Q)) X.xe s
theorem OpD.of {f : Value → Value → Sem Value} {r2 : R2} {g : G2} (h : OpR X f r2)
    (w : ∀ (σ : St) (H : Hp) (ph : Ph) (S : Hp) (r : Env) (M : Mem) (x y : V) (dx dy : D) (Q : DQ), Sat X.K ph S r M σ H → Rep X.K ph S x dx → Rep X.K ph S y dy → g dx dy M Q → r2 x y H (post X.K ph S r σ Q)) : OpD X f g :=
  fun pins s σ H ph S r M x y dx dy v u Q I hs rx ry qx qy hg => h pins s σ H x y v u _ I rx ry (w σ H ph S r M x y dx dy Q hs qx qy hg)
theorem binD {a b : Expr} {ta tb : DTE} (ha : DE X a ta) (hb : DE X b tb) {pins : List (Addr × Obj)} {s : Shared} {σ : St} {H : Hp} {ph : Ph} {S : Hp} {r : Env} {M : Mem} {g : D → D → Mem → Prop}
    (I : Inv X pins σ H s) (hs : Sat X.K ph S r M σ H) (h : ta r M fun x M1 => tb r M1 fun y M2 => g x y M2) {α : Type} {Q : α → Shared → Prop} {f : Value → Value → Sem α}
    (hf : ∀ v u s2 x y dx dy H2 ph2 S2 M2, Ext ph S ph2 S2 → Inv X pins σ H2 s2 → Sat X.K ph2 S2 r M2 σ H2 → RelV x v → RelV y u → Rep X.K ph2 S2 x dx → Rep X.K ph2 S2 y dy → g dx dy M2 → wpAny (model X.prog X.w) X.A (f v u) Q X.xe s2) :
    wpAny (model X.prog X.w) X.A (eval a X.env) (fun v s1 => wpAny (model X.prog X.w) X.A (eval b X.env) (fun u s2 => wpAny (model X.prog X.w) X.A (f v u) Q X.xe s2) X.xe s1) X.xe s := by
  refine thn (ha.pe.run pins s σ H _ I ⟨ph, S, r, M, _, hs, h, fun _ _ q => q⟩) fun v s1 ⟨x, H1, I1, r1, ph1, S1, M1, x1, hs1, dx, q1, h1⟩ => ?_
  refine thn (hb.pe.run pins s1 σ H1 _ I1 ⟨ph1, S1, r, M1, _, hs1, h1, fun _ _ q => q⟩) fun u s2 ⟨y, H2, I2, r2, ph2, S2, M2, x2, hs2, dy, q2, h2⟩ => ?_
  exact hf v u s2 x y dx dy H2 ph2 S2 M2 (x1.trans x2) I2 hs2 r1 r2 (q1.up x2) q2 h2
def dOp (g : G2) (ta tb : DTE) : DTE := fun r M Q => ta r M fun x M1 => tb r M1 fun y M2 => g x y M2 Q
theorem EP.up {pins : List (Addr × Obj)} {σ : St} {ph ph1 : Ph} {S S1 : Hp} {r : Env} {Q : DQ} {u : Value} {s : Shared} (x : Ext ph S ph1 S1) (h : EP X pins σ (post X.K ph1 S1 r σ Q) u s) {Q' : VK} (w : ∀ v H', post X.K ph S r σ Q v H' → Q' v H') : EP X pins σ Q' u s :=
  let ⟨v, H', I, rv, q⟩ := h
  ⟨v, H', I, rv, w _ _ (Aft.up x q)⟩
theorem de_op {a b : Expr} {ta tb : DTE} {op : Operator} {g : G2} {pos : Pos} (ho : OpD X (binaryOp op) g) (ha : DE X a ta) (hb : DE X b tb) : DE X (.BinOp a op b pos) (dOp g ta tb) :=
  ⟨⟨fun pins s σ H Q I ⟨ph, S, r, M, Q0, hs, ht, hq⟩ => wpAny_BinOp (binD ha hb I hs ht fun v u s2 x y dx dy H2 ph2 S2 M2 x2 I2 hs2 rx ry qx qy h =>
    thn (ho pins s2 σ H2 ph2 S2 r M2 x y dx dy v u Q0 I2 hs2 rx ry qx qy h) fun _ _ q => EP.up x2 q hq)⟩⟩
theorem de_cmp {a b : Expr} {ta tb : DTE} {op : CmpOp} {g : G2} {pos : Pos} (ho : OpD X (compareOp op) g) (ha : DE X a ta) (hb : DE X b tb) (hm : behindInMarks op b = false) : DE X (.Compare a [op] [b] pos) (dOp g ta tb) :=
  ⟨⟨fun pins s σ H Q I ⟨ph, S, r, M, Q0, hs, ht, hq⟩ => wpAny_Compare1 (binD ha hb I hs ht fun v u s2 x y dx dy H2 ph2 S2 M2 x2 I2 hs2 rx ry qx qy h =>
    thn (ho pins s2 σ H2 ph2 S2 r M2 x y dx dy v u Q0 I2 hs2 rx ry qx qy h) fun _ _ q => EP.up x2 q hq) hm⟩⟩
/-! ### arithmetic -/
/-- of moderate size -/
def Sm (i : Int) : Prop := i.natAbs.log2 < 400000
theorem Sm.of {i : Int} (n : Nat) (h : i.natAbs < 2 ^ n) (hn : n ≤ 400000 := by decide) : Sm i := by
  unfold Sm
  by_cases h0 : i.natAbs = 0
  · rw [h0]; decide
  · exact Nat.lt_of_lt_of_le ((Nat.log2_lt h0).mpr h) hn
def rBin (C : Int → Int → Prop) (f : Int → Int → Int) : G2 := fun x y M Q => match x, y with
  | .int i, .int j => C i j ∧ Q (.int (f i j)) M
  | _, _ => False
theorem opd_int {F : Value → Value → Sem Value} {C : Int → Int → Prop} {f : Int → Int → Int} (h : OpR X F (rI C fun i j => .int (f i j))) : OpD X F (rBin C f) :=
  OpD.of h fun σ H ph S r M x y dx dy Q hs rx ry hg => by
    cases dx <;> cases dy <;> first | exact hg.elim | skip
    cases rx; cases ry
    exact ⟨_, _, rfl, rfl, hg.1, Aft.here hs ⟨_, .int _, hg.2⟩⟩
theorem opd_sub : OpD X (binaryOp .Sub) (rBin (fun _ _ => True) fun i j => i - j) := opd_int (fun pins s σ H x y v u Q I r1 r2 ⟨i, j, e1, e2, _, q⟩ => op_sub pins s σ H x y v u Q I r1 r2 ⟨i, j, e1, e2, q⟩)
def CMul (i j : Int) : Prop := Sm i ∧ Sm j
def CDiv (_ j : Int) : Prop := j ≠ 0 ∧ j.natAbs.log2 < 9000
def CMod (_ j : Int) : Prop := j ≠ 0
def CPow (a n : Int) : Prop := 0 ≤ n ∧ (Builtin.Int.intBits a : Int) * n ≤ 2 ^ 27
theorem opd_mulI : OpD X (binaryOp .Mult) (rBin CMul fun i j => i * j) := opd_int (fun pins s σ H x y v u Q I r1 r2 ⟨i, j, e1, e2, c, q⟩ => op_mulW pins s σ H x y v u Q I r1 r2 ⟨i, j, e1, e2, by have h1 := c.1; have h2 := c.2; unfold Sm at h1 h2; unfold L2.CMulW; omega, q⟩)
theorem op_fdivG : OpR X (binaryOp .FloorDiv) (rI CDiv fun i j => .int (i.fdiv j)) := opI fun i j _ _ _ _ _ hc q => floordiv_int hc.1 q (.inl (PyProof.noPylong_of_log2 hc.2))
theorem opd_fdiv : OpD X (binaryOp .FloorDiv) (rBin CDiv fun i j => i.fdiv j) := opd_int op_fdivG
theorem opd_mod : OpD X (binaryOp .Mod) (rBin CMod fun i j => i.fmod j) := opd_int op_modN
theorem op_powG : OpR X (binaryOp .Pow) (rI CPow fun i j => .int (i ^ j.toNat)) := opI fun i j _ _ _ _ _ hc q => pow_int hc.1 hc.2 q
theorem opd_pow : OpD X (binaryOp .Pow) (rBin CPow fun i j => i ^ j.toNat) := opd_int op_powG
/-- x + y -/
def gAdd : G2 := fun x y M Q => match x, y with
  | .int i, .int j => Q (.int (i + j)) M
  | .str a, .str b => a.length + b.length ≤ sizeLine ∧ Q (.str (a ++ b)) M
  | .lst a, .lst b => a.length + b.length ≤ sizeLine ∧ Q (.lst (a ++ b)) M
  | .tup a, .tup b => a.length + b.length ≤ sizeLine ∧ Q (.tup (a ++ b)) M
  | .own k, .lst b => match M[k]? with
    | some (.lst a) => a.length + b.length ≤ sizeLine ∧ Q (.lst (a ++ b)) M
    | _ => False
  | .lst b, .own k => match M[k]? with
    | some (.lst a) => b.length + a.length ≤ sizeLine ∧ Q (.lst (b ++ a)) M
    | _ => False
  | _, _ => False
theorem Aft.frz {K : PySem.W.Frag} {ph : Ph} {S : Hp} {r : Env} {σ : St} {H : Hp} {M : Mem} {p : Addr} {o : HO} {Q : Ph → Hp → Mem → Prop} (h : Sat K ph S r M σ H) (hp : H p = none) (q : Ext ph S ph (upd S p o) → Q ph (upd S p o) M) : Aft K ph S r σ (upd H p o) Q :=
  let ⟨x, hs⟩ := h.frz hp o
  ⟨ph, _, M, x, hs, q x⟩
theorem opd_add : OpD X (binaryOp .Add) gAdd := by
  intro pins s σ H ph S r M x y dx dy v u Q I hs rx ry qx qy hg
  cases dx <;> cases dy <;> first | exact hg.elim | skip
  · cases qx; cases qy
    exact op_add pins s σ H _ _ v u _ I rx ry ⟨_, _, rfl, rfl, Aft.here hs ⟨_, .int _, hg⟩⟩
  · cases qx; cases qy
    exact op_add_str pins s σ H _ _ v u _ I rx ry ⟨_, _, rfl, rfl, hg.1, Aft.here hs ⟨_, .str _, hg.2⟩⟩
  · cases qx with
    | tup h1 h2 =>
      cases qy with
      | tup h3 h4 =>
        obtain ⟨hz, q⟩ := hg
        rename_i xs _ ys
        have e1 := h2.len
        have e2 := h4.len
        refine op_catA pins s σ H _ _ v u _ I rx ry ⟨_, _, xs, ys, rfl, rfl, SqT.of (hs.sub _ _ h1), SqT.of (hs.sub _ _ h3), by omega, fun z => ?_, fun _ z => ?_, fun _ _ p hp => Aft.frz hs hp fun x => ⟨_, .tup upd_same ((h2.app h4).up x), q⟩⟩
        · refine Aft.here hs ⟨_, .tup h3 ?_, q⟩
          rw [z] at h2
          cases h2
          exact h4
        · refine Aft.here hs ⟨_, .tup h1 ?_, q⟩
          rw [z] at h4
          cases h4
          rw [List.append_nil]; exact h2
  · cases qx with
    | lst h1 h2 =>
      cases qy with
      | lst h3 h4 =>
        have e1 := h2.len
        have e2 := h4.len
        exact op_cat pins s σ H _ _ v u _ I rx ry ⟨_, _, _, _, rfl, rfl, hs.sub _ _ h1, hs.sub _ _ h3, by have := hg.1; omega, fun p hp => Aft.frz hs hp fun x => ⟨_, .lst upd_same ((h2.app h4).up x), hg.2⟩⟩
  · cases qx with
    | lst h1 h2 =>
      cases qy with
      | own h3 =>
        rename_i b k _ _ _
        simp only [gAdd] at hg
        split at hg
        · rename_i a hk
          obtain ⟨a1, xs1, c1, c2, c3, c4⟩ := hs.cell k a hk
          rw [h3] at c1; cases c1
          have e1 := h2.len
          have e2 := c4.len
          exact op_cat pins s σ H _ _ v u _ I rx ry ⟨_, _, _, _, rfl, rfl, hs.sub _ _ h1, c3, by have := hg.1; omega, fun p hp => Aft.frz hs hp fun x => ⟨_, .lst upd_same ((h2.app c4).up x), hg.2⟩⟩
        · exact hg.elim
  · cases qx with
    | own h3 =>
      cases qy with
      | lst h1 h2 =>
        rename_i k b _ _ _
        simp only [gAdd] at hg
        split at hg
        · rename_i a hk
          obtain ⟨a1, xs1, c1, c2, c3, c4⟩ := hs.cell k a hk
          rw [h3] at c1; cases c1
          have e1 := h2.len
          have e2 := c4.len
          exact op_cat pins s σ H _ _ v u _ I rx ry ⟨_, _, _, _, rfl, rfl, c3, hs.sub _ _ h1, by have := hg.1; omega, fun p hp => Aft.frz hs hp fun x => ⟨_, .lst upd_same ((c4.app h2).up x), hg.2⟩⟩
        · exact hg.elim
/-! ### comparisons -/
def gCmpI (p : Int → Int → Bool) : G2 := fun x y M Q => match x, y with
  | .int i, .int j => Q (.bl (p i j)) M
  | _, _ => False
theorem opd_cmpI {F : Value → Value → Sem Value} {p : Int → Int → Bool} (h : OpR X F (rI0 fun i j => .bl (p i j))) : OpD X F (gCmpI p) :=
  OpD.of h fun σ H ph S r M x y dx dy Q hs rx ry hg => by
    cases dx <;> cases dy <;> first | exact hg.elim | skip
    cases rx; cases ry
    exact ⟨_, _, rfl, rfl, Aft.here hs ⟨_, .bl _, hg⟩⟩
theorem opd_lt : OpD X (compareOp .Lt) (gCmpI fun i j => decide (i < j)) := opd_cmpI op_lt
theorem opd_le : OpD X (compareOp .LtE) (gCmpI fun i j => decide (i ≤ j)) := opd_cmpI op_le
theorem opd_gt : OpD X (compareOp .Gt) (gCmpI fun i j => decide (j < i)) := opd_cmpI op_gt
theorem opd_ge : OpD X (compareOp .GtE) (gCmpI fun i j => decide (j ≤ i)) := opd_cmpI op_ge
/-- an owned list as it stands -/
def res (M : Mem) : D → D
  | .own k => match M[k]? with
    | some (.lst ds) => .lst ds
    | _ => .own k
  | d => d
theorem Rep.res {K : PySem.W.Frag} {ph : Ph} {S : Hp} {r : Env} {M : Mem} {σ : St} {H : Hp} {v : V} {d : D} (hs : Sat K ph S r M σ H) (q : Rep K ph S v d) : Rep K ph H v (res M d) := by
  cases d <;> first | exact hs.read q | skip
  rename_i k
  unfold DL.res
  dsimp only
  split
  · rename_i ds hk
    cases q with
    | own h =>
      obtain ⟨a, xs, c1, c2, c3, c4⟩ := hs.cell k ds hk
      rw [h] at c1; cases c1
      exact .lst c3 (hs.readAll c4)
  · exact hs.read q
/-- data that may be compared -/
def cmpd (d : D) : Option PyData := match toPy d with
  | some p => if SeqAt.shaped p = true then some p else none
  | none => none
theorem cmpd_some {d : D} {p : PyData} (h : cmpd d = some p) : toPy d = some p ∧ SeqAt.shaped p = true := by
  unfold cmpd at h
  split at h
  · rename_i p' e
    by_cases hs : SeqAt.shaped p' = true
    · rw [if_pos hs] at h; cases h; exact ⟨e, hs⟩
    · rw [if_neg hs] at h; cases h
  · cases h
/-- x == y of two data read; none: not covered -/
def eqB (x y : D) : Option Bool := match x, y with
  | .str a, .str b => some (a == b)
  | x, y => match cmpd x, cmpd y with
    | some p, some q => some (PyData.eqv p q)
    | _, _ => none
theorem eqB_of {x y : D} {b : Bool} (h : eqB x y = some b) : (∃ p q, x = .str p ∧ y = .str q ∧ b = (p == q)) ∨ ∃ p q, cmpd x = some p ∧ cmpd y = some q ∧ b = PyData.eqv p q := by
  unfold eqB at h
  split at h
  · exact .inl ⟨_, _, rfl, rfl, (Option.some.inj h).symm⟩
  · split at h
    · rename_i e1 e2; exact .inr ⟨_, _, e1, e2, (Option.some.inj h).symm⟩
    · cases h
def gEq : G2 := fun x y M Q => match eqB (res M x) (res M y) with
  | some b => Q (.bl b) M
  | none => False
def gNe : G2 := fun x y M Q => match eqB (res M x) (res M y) with
  | some b => Q (.bl (!b)) M
  | none => False
theorem res_str {M : Mem} {d : D} {z : Str} (h : res M d = .str z) : d = .str z := by
  cases d <;> first | exact h | skip
  rename_i k
  unfold res at h
  dsimp only at h
  split at h <;> cases h
theorem opd_eq (hu : X.A.units + 64 < cLine) : OpD X (compareOp .Eq) gEq := by
  intro pins s σ H ph S r M x y dx dy v u Q I hs rx ry qx qy hg
  unfold gEq at hg
  split at hg
  · rename_i b e
    rcases eqB_of e with ⟨p, q, e1, e2, rfl⟩ | ⟨p, q, e1, e2, rfl⟩
    · cases res_str e1; cases res_str e2
      cases qx; cases qy
      obtain ⟨_, rfl⟩ := rx
      obtain ⟨_, rfl⟩ := ry
      exact PyProof.Rows.eq_str ⟨.bl _, H, I, rfl, Aft.here hs ⟨_, .bl _, hg⟩⟩
    · obtain ⟨as, h1, _⟩ := Rep.reads I _ _ _ _ (Rep.res hs qx) rx (cmpd_some e1).1
      obtain ⟨bs, h2, _⟩ := Rep.reads I _ _ _ _ (Rep.res hs qy) ry (cmpd_some e2).1
      exact SeqAt.compareEq_shaped h1 h2 (cmpd_some e1).2 (cmpd_some e2).2 hu ⟨.bl _, H, I, rfl, Aft.here hs ⟨_, .bl _, hg⟩⟩
  · exact hg.elim
theorem opd_ne (hu : X.A.units + 64 < cLine) : OpD X (compareOp .NotEq) gNe := by
  intro pins s σ H ph S r M x y dx dy v u Q I hs rx ry qx qy hg
  unfold gNe at hg
  split at hg
  · rename_i b e
    rcases eqB_of e with ⟨p, q, e1, e2, rfl⟩ | ⟨p, q, e1, e2, rfl⟩
    · cases res_str e1; cases res_str e2
      cases qx; cases qy
      obtain ⟨_, rfl⟩ := rx
      obtain ⟨_, rfl⟩ := ry
      exact PyProof.Rows.ne_str ⟨.bl _, H, I, rfl, Aft.here hs ⟨_, .bl _, hg⟩⟩
    · obtain ⟨as, h1, _⟩ := Rep.reads I _ _ _ _ (Rep.res hs qx) rx (cmpd_some e1).1
      obtain ⟨bs, h2, _⟩ := Rep.reads I _ _ _ _ (Rep.res hs qy) ry (cmpd_some e2).1
      exact SeqAt.compareNe_shaped h1 h2 (cmpd_some e1).2 (cmpd_some e2).2 hu ⟨.bl _, H, I, rfl, Aft.here hs ⟨_, .bl _, hg⟩⟩
  · exact hg.elim
/-- x in y, y a list -/
def gIn (neg : Bool) : G2 := fun x y M Q => match cmpd (res M x), cmpd (res M y) with
  | some p, some (.list ps) => Q (.bl ((ps.any fun z => PyData.eqv z p) != neg)) M
  | _, _ => False
theorem opd_in (hu : X.A.units + 65 < cLine) : OpD X (compareOp .In) (gIn false) := by
  intro pins s σ H ph S r M x y dx dy v u Q I hs rx ry qx qy hg
  unfold gIn at hg
  split at hg
  · rename_i p ps e1 e2
    obtain ⟨as, h1, _⟩ := Rep.reads I _ _ _ _ (Rep.res hs qx) rx (cmpd_some e1).1
    obtain ⟨bs, h2, _⟩ := Rep.reads I _ _ _ _ (Rep.res hs qy) ry (cmpd_some e2).1
    refine SeqAt.in_list_reads h2 h1 (SeqAt.canLay_of_shaped (cmpd_some e2).2) (SeqAt.canLay_of_shaped (cmpd_some e1).2) (room_in_shaped (cmpd_some e1).2 hu) ⟨.bl _, H, I, rfl, Aft.here hs ⟨_, .bl _, ?_⟩⟩
    rw [Bool.bne_false] at hg; exact hg
  · exact hg.elim
end DL
/-! DL4: is, truth, chains, and/or/not, displays, subscripts, argument lists -/
namespace DL
open PySem PySem.Spec PyProof.Rows L2
variable {X : Cx}
/-! ### is -/
/-- x is y, y written None, True or False -/
def isB (x y : D) : Option Bool := match x, y with
  | .non, .non => some true
  | .bl b, .non => some false
  | .int _, .non => some false
  | .str _, .non => some false
  | .tup _, .non => some false
  | .lst _, .non => some false
  | .own _, .non => some false
  | .dct0, .non => some false
  | .exc _ _, .non => some false
  | .bl a, .bl b => some (decide (a = b))
  | .non, .bl _ => some false
  | .int _, .bl _ => some false
  | .str _, .bl _ => some false
  | .tup _, .bl _ => some false
  | .lst _, .bl _ => some false
  | .own _, .bl _ => some false
  | .dct0, .bl _ => some false
  | _, _ => none
def gIs (neg : Bool) : G2 := fun x y M Q => match isB x y with
  | some b => Q (.bl (b != neg)) M
  | none => False
theorem opd_is : OpD X (compareOp .Is) (gIs false) := by
  intro pins s σ H ph S r M x y dx dy v u Q I hs rx ry qx qy hg
  have fin : ∀ b : Bool, Q (.bl (b != false)) M → EP X pins σ (post X.K ph S r σ Q) (.bool b) s := fun b q => ⟨.bl b, H, I, rfl, Aft.here hs ⟨_, .bl _, by rwa [Bool.bne_false] at q⟩⟩
  cases dy <;> cases dx <;> first | exact hg.elim | skip
  all_goals cases qx <;> cases qy
  all_goals (first | (obtain ⟨t, rfl⟩ := rx) | cases rx)
  all_goals cases ry
  all_goals first
    | exact wpAny_is_other rfl (fun z => nomatch z) (fin false hg)
    | exact wpAny_is_self rfl (fin true hg)
    | skip
  rename_i b c
  by_cases e : c = b
  · subst e
    exact wpAny_is_self rfl (fin true (by simpa [gIs, isB] using hg))
  · exact wpAny_is_other rfl (fun z => e (Value.bool.inj z)) (fin false (by simpa [gIs, isB, e] using hg))
theorem opd_isnot : OpD X (compareOp .IsNot) (gIs true) := by
  intro pins s σ H ph S r M x y dx dy v u Q I hs rx ry qx qy hg
  have fin : ∀ b : Bool, Q (.bl (b != true)) M → EP X pins σ (post X.K ph S r σ Q) (.bool (!b)) s := fun b q => ⟨.bl (!b), H, I, rfl, Aft.here hs ⟨_, .bl _, by rwa [Bool.bne_true] at q⟩⟩
  cases dy <;> cases dx <;> first | exact hg.elim | skip
  all_goals cases qx <;> cases qy
  all_goals (first | (obtain ⟨t, rfl⟩ := rx) | cases rx)
  all_goals cases ry
  all_goals first
    | exact wpAny_isNot_other rfl (fun z => nomatch z) (fin false hg)
    | exact wpAny_isNot_self rfl (fin true hg)
    | skip
  rename_i b c
  by_cases e : c = b
  · subst e
    exact wpAny_isNot_self rfl (fin true (by simpa [gIs, isB] using hg))
  · exact wpAny_isNot_other rfl (fun z => e (Value.bool.inj z)) (fin false (by simpa [gIs, isB, e] using hg))
/-! ### truth -/
def tru (M : Mem) : D → Option Bool
  | .non => some false
  | .bl b => some b
  | .int i => some (i != 0)
  | .str x => if x.length ≤ sizeLine then some ((x.length : Int) != 0) else none
  | .tup l => some (!l.isEmpty)
  | .lst l => some (!l.isEmpty)
  | .own k => match M[k]? with
    | some (.lst l) => some (!l.isEmpty)
    | _ => none
  | .dct0 => some false
  | _ => none
theorem isEmp {K : PySem.W.Frag} {ph : Ph} {S : Hp} {xs : List V} {ds : List D} (h : RepAll K ph S xs ds) : (!ds.isEmpty) = !xs.isEmpty := by cases h <;> rfl
theorem tru_V {K : PySem.W.Frag} {ph : Ph} {S : Hp} {r : Env} {M : Mem} {σ : St} {H : Hp} {x : V} {d : D} {k : Bool} (hs : Sat K ph S r M σ H) (q : Rep K ph S x d) (h : tru M d = some k) : TruV K x H k := by
  cases d with
  | non => cases q; exact (Option.some.inj h).symm
  | bl b => cases q; exact (Option.some.inj h).symm
  | int i => cases q; exact (Option.some.inj h).symm
  | str z =>
    cases q
    have h' : (if z.length ≤ sizeLine then some ((z.length : Int) != 0) else none) = some k := h
    by_cases hz : z.length ≤ sizeLine
    · rw [if_pos hz] at h'
      exact ⟨hz, (Option.some.inj h').symm⟩
    · rw [if_neg hz] at h'; cases h'
  | tup l =>
    cases q with
    | tup h1 h2 => exact .inr (.inl ⟨_, SqT.of (hs.sub _ _ h1), by rw [← isEmp h2]; exact (Option.some.inj h).symm⟩)
  | lst l =>
    cases q with
    | lst h1 h2 => exact .inl ⟨_, SqL.of (hs.sub _ _ h1), by rw [← isEmp h2]; exact (Option.some.inj h).symm⟩
  | dct0 =>
    cases q with
    | dct0 h1 => exact .inr (.inr ⟨_, hs.sub _ _ h1, (Option.some.inj h).symm⟩)
  | own j =>
    cases q with
    | own h1 =>
      unfold tru at h
      dsimp only at h
      split at h
      · rename_i l hk
        obtain ⟨a, xs, c1, c2, c3, c4⟩ := hs.cell j l hk
        rw [h1] at c1; cases c1
        exact .inl ⟨_, SqL.of c3, by rw [← isEmp c4]; exact (Option.some.inj h).symm⟩
      · cases h
  | scr ns => cases h
  | exc C d => cases h
  | glb x => cases h
  | val v => cases h
/-- what d's truth is -/
def gTru (d : D) (M : Mem) (Q : Bool → Prop) : Prop := match tru M d with
  | some b => Q b
  | none => False
def dTru (t : DTE) : DTT := fun r M Q => t r M fun d M1 => gTru d M1 fun b => Q b M1
theorem gTru_some {d : D} {M : Mem} {Q : Bool → Prop} (h : gTru d M Q) : ∃ b, tru M d = some b ∧ Q b := by
  unfold gTru at h
  split at h
  · rename_i b e; exact ⟨b, e, h⟩
  · exact h.elim
/-- an expression as a test -/
theorem dt_tru {e : Expr} {t : DTE} (h : DE X e t) (he : ∀ whole, isTrue e X.env whole = (do let v ← whole; standAt e.pos; holding [v] (truthy v)) := by intro _; rfl) : DT X e (dTru t) :=
  DT.of (pt_truth h.pe he) fun ph S r M σ H Q hs ht Q' hq => ⟨ph, S, r, M, _, hs, ht, fun v H1 h1 => by
    obtain ⟨ph1, S1, M1, x1, hs1, d, q1, g1⟩ := h1
    obtain ⟨b, eb, qb⟩ := gTru_some g1
    exact ⟨b, tru_V hs1 q1 eb, hq _ _ ⟨ph1, S1, M1, x1, hs1, qb⟩⟩⟩
/-- a comparison as a test -/
theorem dt_cmp {a b : Expr} {ta tb : DTE} {op : CmpOp} {g : G2} {pos : Pos} (ho : OpD X (compareOp op) g) (ha : DE X a ta) (hb : DE X b tb) (hm : behindInMarks op b = false) : DT X (.Compare a [op] [b] pos) (dTru (dOp g ta tb)) :=
  ⟨⟨fun pins s σ H Q I ⟨ph, S, r, M, Q0, hs, ht, hq⟩ => wpAny_isTrue_Compare1 (binD ha hb I hs ht fun v u s2 x y dx dy H2 ph2 S2 M2 x2 I2 hs2 rx ry qx qy h =>
    thn (ho pins s2 σ H2 ph2 S2 r M2 x y dx dy v u _ I2 hs2 rx ry qx qy h) fun c s3 ⟨z, H3, I3, r3, ph3, S3, M3, x3, hs3, d, q3, g3⟩ => by
      obtain ⟨k, ek, qk⟩ := gTru_some g3
      exact tru_ok pins s3 σ H3 z c Q I3 r3 ⟨k, tru_V hs3 q3 ek, hq _ _ ⟨ph3, S3, M3, x2.trans x3, hs3, qk⟩⟩) hm⟩⟩
/-! ### a < b < c -/
def dChain (g g' : G2) (ta tb tc : DTE) : DTE := fun r M Q => ta r M fun x M1 => tb r M1 fun y M2 => g x y M2 fun z M3 => gTru z M3 fun k => if k = true then tc r M3 fun w M4 => g' y w M4 Q else Q z M3
theorem dt_chain {a b c : Expr} {ta tb tc : DTE} {op op' : CmpOp} {g g' : G2} {pos : Pos} (ho : OpD X (compareOp op) g) (ho' : OpD X (compareOp op') g') (ha : DE X a ta) (hb : DE X b tb) (hc : DE X c tc)
    (hm : lastMarks [op, op'] [b, c] = false := by with_unfolding_all rfl) : DT X (.Compare a [op, op'] [b, c] pos) (dTru (dChain g g' ta tb tc)) := by
  refine ⟨⟨fun pins s σ H Q I ⟨ph, S, r, M, Q0, hs, ht, hq⟩ => ?_⟩⟩
  refine isTrue_chain (thn (ha.pe.run pins s σ H _ I ⟨ph, S, r, M, _, hs, ht, fun _ _ q => q⟩) fun v s1 ⟨x, H1, I1, r1, ph1, S1, M1, x1, hs1, dx, q1, h1⟩ =>
    test_link (thn (hb.pe.run pins s1 σ H1 _ I1 ⟨ph1, S1, r, M1, _, hs1, h1, fun _ _ q => q⟩) fun u s2 ⟨y, H2, I2, r2, ph2, S2, M2, x2, hs2, dy, q2, h2⟩ =>
      thn (ho pins s2 σ H2 ph2 S2 r M2 x y dx dy v u _ I2 hs2 r1 r2 (q1.up x2) q2 h2) fun d s3 ⟨z, H3, I3, r3, ph3, S3, M3, x3, hs3, dz, q3, h3⟩ => ?_)) hm
  obtain ⟨k, ek, qk⟩ := gTru_some h3
  refine thn (tru_ok pins s3 σ H3 z d (fun b H' => b = k ∧ H' = H3) I3 r3 ⟨k, tru_V hs3 q3 ek, rfl, rfl⟩) fun b s4 ⟨H4, I4, eb, eH⟩ => ?_
  rw [eH] at I4
  rw [← eb] at qk ek
  cases b with
  | false =>
    have qk' : gTru dz M3 fun b => Q0 b M3 := qk
    obtain ⟨k2, e2, q2'⟩ := gTru_some qk'
    rw [ek] at e2
    cases e2
    exact ite_ff ⟨H3, I4, hq _ _ ⟨ph3, S3, M3, x1.trans (x2.trans x3), hs3, q2'⟩⟩
  | true =>
    refine ite_tt (test_last (thn (hc.pe.run pins s4 σ H3 _ I4 ⟨ph3, S3, r, M3, _, hs3, qk, fun _ _ q => q⟩) fun w' s5 ⟨z', H5, I5, r5, ph5, S5, M5, x5, hs5, dw, q5, h5⟩ =>
      thn (ho' pins s5 σ H5 ph5 S5 r M5 y z' dy dw u w' _ I5 hs5 r2 r5 (q2.up (x3.trans x5)) q5 h5) fun d' s6 ⟨z2, H6, I6, r6, ph6, S6, M6, x6, hs6, d6, q6, h6⟩ => ?_))
    obtain ⟨k2, e2, q2'⟩ := gTru_some h6
    exact tru_ok pins s6 σ H6 z2 d' Q I6 r6 ⟨k2, tru_V hs6 q6 e2, hq _ _ ⟨ph6, S6, M6, x1.trans (x2.trans (x3.trans (x5.trans x6))), hs6, q2'⟩⟩
theorem de_chain {a b c : Expr} {ta tb tc : DTE} {op op' : CmpOp} {g g' : G2} {pos : Pos} (ho : OpD X (compareOp op) g) (ho' : OpD X (compareOp op') g') (ha : DE X a ta) (hb : DE X b tb) (hc : DE X c tc)
    (hm : lastMarks [op, op'] [b, c] = false := by with_unfolding_all rfl) : DE X (.Compare a [op, op'] [b, c] pos) (dChain g g' ta tb tc) := by
  refine ⟨⟨fun pins s σ H Q I ⟨ph, S, r, M, Q0, hs, ht, hq⟩ => ?_⟩⟩
  refine Compare_chain (thn (ha.pe.run pins s σ H _ I ⟨ph, S, r, M, _, hs, ht, fun _ _ q => q⟩) fun v s1 ⟨x, H1, I1, r1, ph1, S1, M1, x1, hs1, dx, q1, h1⟩ =>
    chain_link (thn (hb.pe.run pins s1 σ H1 _ I1 ⟨ph1, S1, r, M1, _, hs1, h1, fun _ _ q => q⟩) fun u s2 ⟨y, H2, I2, r2, ph2, S2, M2, x2, hs2, dy, q2, h2⟩ =>
      thn (ho pins s2 σ H2 ph2 S2 r M2 x y dx dy v u _ I2 hs2 r1 r2 (q1.up x2) q2 h2) fun d s3 ⟨z, H3, I3, r3, ph3, S3, M3, x3, hs3, dz, q3, h3⟩ => ?_)) hm
  obtain ⟨k, ek, qk⟩ := gTru_some h3
  refine thn (tru_ok pins s3 σ H3 z d (fun b H' => b = k ∧ H' = H3) I3 r3 ⟨k, tru_V hs3 q3 ek, rfl, rfl⟩) fun b s4 ⟨H4, I4, eb, eH⟩ => ?_
  rw [eH] at I4
  rw [← eb] at qk
  cases b with
  | false => exact ite_ff ⟨z, H3, I4, r3, hq _ _ ⟨ph3, S3, M3, x1.trans (x2.trans x3), hs3, _, q3, qk⟩⟩
  | true =>
    exact ite_tt (chain_last (thn (hc.pe.run pins s4 σ H3 _ I4 ⟨ph3, S3, r, M3, _, hs3, qk, fun _ _ q => q⟩) fun w' s5 ⟨z', H5, I5, r5, ph5, S5, M5, x5, hs5, dw, q5, h5⟩ =>
      thn (ho' pins s5 σ H5 ph5 S5 r M5 y z' dy dw u w' _ I5 hs5 r2 r5 (q2.up (x3.trans x5)) q5 h5) fun d' s6 q6 => EP.up (x1.trans (x2.trans (x3.trans x5))) q6 hq))
/-! ### and, or, not -/
def dAnd (t u : DTT) : DTT := fun r M Q => t r M fun c M1 => if c = true then u r M1 Q else Q false M1
def dOr (t u : DTT) : DTT := fun r M Q => t r M fun c M1 => if c = true then Q true M1 else u r M1 Q
def dNot (t : DTT) : DTT := fun r M Q => t r M fun c M1 => Q (!c) M1
variable {a b : Expr} {rest : List Expr} {pos : Pos}
theorem DW.dt {e : Expr} {t : DTT} (h : DW X e t) : DT X e t := ⟨h.pw.pt⟩
theorem dw_and1 {t : DTT} (h : DT X a t) : DW X (.BoolOp .And [a] pos) t := ⟨pw_and1 h.pt⟩
theorem dw_or1 {t : DTT} (h : DT X a t) : DW X (.BoolOp .Or [a] pos) t := ⟨pw_or1 h.pt⟩
theorem dw_and {t u : DTT} (h : DT X a t) (h2 : DW X (.BoolOp .And (b :: rest) pos) u) : DW X (.BoolOp .And (a :: b :: rest) pos) (dAnd t u) :=
  DW.of (pw_and h.pt h2.pw) fun ph S r M σ H Q hs ht Q' hq => ⟨ph, S, r, M, _, hs, ht, fun c H1 ⟨ph1, S1, M1, x1, hs1, h1⟩ => by
    cases c with
    | true => exact ⟨ph1, S1, r, M1, _, hs1, h1, fun c' H2 h2 => hq _ _ (Aft.up x1 h2)⟩
    | false => exact hq _ _ ⟨ph1, S1, M1, x1, hs1, h1⟩⟩
theorem dw_or {t u : DTT} (h : DT X a t) (h2 : DW X (.BoolOp .Or (b :: rest) pos) u) : DW X (.BoolOp .Or (a :: b :: rest) pos) (dOr t u) :=
  DW.of (pw_or h.pt h2.pw) fun ph S r M σ H Q hs ht Q' hq => ⟨ph, S, r, M, _, hs, ht, fun c H1 ⟨ph1, S1, M1, x1, hs1, h1⟩ => by
    cases c with
    | false => exact ⟨ph1, S1, r, M1, _, hs1, h1, fun c' H2 h2 => hq _ _ (Aft.up x1 h2)⟩
    | true => exact hq _ _ ⟨ph1, S1, M1, x1, hs1, h1⟩⟩
theorem dt_not {t : DTT} (h : DT X a t) : DT X (.UnaryOp .Not a pos) (dNot t) :=
  DT.of (pt_not h.pt) fun ph S r M σ H Q hs ht Q' hq => ⟨ph, S, r, M, _, hs, ht, fun c H1 h1 => hq _ _ h1⟩
/-- as values -/
def dAndV (t u : DTE) : DTE := fun r M Q => t r M fun d M1 => gTru d M1 fun c => if c = true then u r M1 Q else Q d M1
def dOrV (t u : DTE) : DTE := fun r M Q => t r M fun d M1 => gTru d M1 fun c => if c = true then Q d M1 else u r M1 Q
def dNotV (t : DTE) : DTE := fun r M Q => t r M fun d M1 => gTru d M1 fun c => Q (.bl (!c)) M1
theorem de_one {op} {t : DTE} (h : DE X a t) : DE X (.BoolOp op [a] pos) t := ⟨pe_one h.pe⟩
theorem de_and {t u : DTE} (h : DE X a t) (h2 : DE X (.BoolOp .And (b :: rest) pos) u) : DE X (.BoolOp .And (a :: b :: rest) pos) (dAndV t u) :=
  DE.of (pe_andT h.pe h2.pe) fun ph S r M σ H Q hs ht Q' hq => ⟨ph, S, r, M, _, hs, ht, fun v H1 ⟨ph1, S1, M1, x1, hs1, d, q1, g1⟩ => by
    obtain ⟨c, ec, qc⟩ := gTru_some g1
    refine ⟨c, tru_V hs1 q1 ec, ?_⟩
    cases c with
    | true => exact ⟨ph1, S1, r, M1, _, hs1, qc, fun c' H2 h2 => hq _ _ (Aft.up x1 h2)⟩
    | false => exact hq _ _ ⟨ph1, S1, M1, x1, hs1, _, q1, qc⟩⟩
theorem de_or {t u : DTE} (h : DE X a t) (h2 : DE X (.BoolOp .Or (b :: rest) pos) u) : DE X (.BoolOp .Or (a :: b :: rest) pos) (dOrV t u) :=
  DE.of (pe_orT h.pe h2.pe) fun ph S r M σ H Q hs ht Q' hq => ⟨ph, S, r, M, _, hs, ht, fun v H1 ⟨ph1, S1, M1, x1, hs1, d, q1, g1⟩ => by
    obtain ⟨c, ec, qc⟩ := gTru_some g1
    refine ⟨c, tru_V hs1 q1 ec, ?_⟩
    cases c with
    | false => exact ⟨ph1, S1, r, M1, _, hs1, qc, fun c' H2 h2 => hq _ _ (Aft.up x1 h2)⟩
    | true => exact hq _ _ ⟨ph1, S1, M1, x1, hs1, _, q1, qc⟩⟩
theorem de_not {t : DTE} (h : DE X a t) : DE X (.UnaryOp .Not a pos) (dNotV t) :=
  DE.of (pe_notT h.pe) fun ph S r M σ H Q hs ht Q' hq => ⟨ph, S, r, M, _, hs, ht, fun v H1 ⟨ph1, S1, M1, x1, hs1, d, q1, g1⟩ => by
    obtain ⟨c, ec, qc⟩ := gTru_some g1
    exact ⟨c, tru_V hs1 q1 ec, hq _ _ ⟨ph1, S1, M1, x1, hs1, _, .bl _, qc⟩⟩⟩
/-- a if t else b -/
def dIf (t : DTT) (u w : DTE) : DTE := fun r M Q => t r M fun c M1 => if c = true then u r M1 Q else w r M1 Q
theorem de_if {c : Expr} {t : DTT} {u w : DTE} (h : DT X c t) (h1 : DE X a u) (h2 : DE X b w) : DE X (.IfExp c a b pos) (dIf t u w) :=
  DE.of (pe_ifExp h.pt h1.pe h2.pe) fun ph S r M σ H Q hs ht Q' hq => ⟨ph, S, r, M, _, hs, ht, fun c H1 ⟨ph1, S1, M1, x1, hs1, g1⟩ => by
    cases c with
    | true => exact ⟨ph1, S1, r, M1, _, hs1, g1, fun c' H2 h2 => hq _ _ (Aft.up x1 h2)⟩
    | false => exact ⟨ph1, S1, r, M1, _, hs1, g1, fun c' H2 h2 => hq _ _ (Aft.up x1 h2)⟩⟩
/-- -a -/
def gNeg (d : D) (M : Mem) (Q : DQ) : Prop := match d with
  | .int i => Q (.int (-i)) M
  | _ => False
def dNeg (t : DTE) : DTE := fun r M Q => t r M fun d M1 => gNeg d M1 Q
theorem de_neg {t : DTE} (h : DE X a t) : DE X (.UnaryOp .USub a pos) (dNeg t) :=
  DE.of (pe_un un_neg h.pe) fun ph S r M σ H Q hs ht Q' hq => ⟨ph, S, r, M, _, hs, ht, fun v H1 ⟨ph1, S1, M1, x1, hs1, d, q1, g1⟩ => by
    cases d <;> first | exact g1.elim | skip
    cases q1
    exact ⟨_, rfl, hq _ _ ⟨ph1, S1, M1, x1, hs1, _, .int _, g1⟩⟩⟩
/-! ### argument lists, displays -/
def dNil : DTA := fun _ M Q => Q [] M
def dCons (t : DTE) (u : DTA) : DTA := fun r M Q => t r M fun d M1 => u r M1 fun ds M2 => Q (d :: ds) M2
theorem da_nil : DA X [] dNil := DA.of pa_nil fun ph S r M σ H Q hs ht Q' hq => hq _ _ (Aft.here hs ⟨_, .nil, ht⟩)
theorem da_cons {e : Expr} {es : List Expr} {t : DTE} {u : DTA} (h : DE X e t) (h2 : DA X es u) (hs : starEach (e :: es) X.env = (false, eval e X.env) :: starEach es X.env := by rfl) : DA X (e :: es) (dCons t u) :=
  DA.of (pa_cons h.pe h2.pa hs) fun ph S r M σ H Q hs ht Q' hq => ⟨ph, S, r, M, _, hs, ht, fun v H1 ⟨ph1, S1, M1, x1, hs1, d, q1, g1⟩ =>
    ⟨ph1, S1, r, M1, _, hs1, g1, fun vs H2 ⟨ph2, S2, M2, x2, hs2, ds, q2, g2⟩ => hq _ _ ⟨ph2, S2, M2, x1.trans x2, hs2, _, .cons (q1.up x2) q2, g2⟩⟩⟩
def dTup (t : DTA) : DTE := fun r M Q => t r M fun ds M1 => ds.length ≤ sizeLine ∧ Q (.tup ds) M1
def dLst (t : DTA) : DTE := fun r M Q => t r M fun ds M1 => ds.length ≤ sizeLine ∧ Q (.lst ds) M1
/-- a list that will be changed -/
def dOwn (t : DTA) : DTE := fun r M Q => t r M fun ds M1 => ds.length ≤ sizeLine ∧ Q (.own M1.length) (M1 ++ [.lst ds])
theorem de_tup {es : List Expr} {x1} {t : DTA} (h : DA X es t) : DE X (.Tuple es x1 pos) (dTup t) :=
  DE.of (pe_tup h.pa) fun ph S r M σ H Q hs ht Q' hq => ⟨ph, S, r, M, _, hs, ht, fun vs H1 ⟨ph1, S1, M1, x1, hs1, ds, q1, hz, g1⟩ =>
    ⟨by rw [q1.len]; exact hz, fun p hp => hq _ _ (Aft.up x1 (Aft.frz hs1 hp fun x => ⟨_, .tup upd_same (q1.up x), g1⟩))⟩⟩
theorem de_lst {es : List Expr} {t : DTA} (h : DA X es t) : DE X (.List es pos) (dLst t) :=
  DE.of (pe_lst h.pa) fun ph S r M σ H Q hs ht Q' hq => ⟨ph, S, r, M, _, hs, ht, fun vs H1 ⟨ph1, S1, M1, x1, hs1, ds, q1, hz, g1⟩ =>
    ⟨by rw [q1.len]; exact hz, fun p hp => hq _ _ (Aft.up x1 (Aft.frz hs1 hp fun x => ⟨_, .lst upd_same (q1.up x), g1⟩))⟩⟩
theorem Aft.own {K : PySem.W.Frag} {ph : Ph} {S : Hp} {r : Env} {σ : St} {H : Hp} {M : Mem} {p : Addr} {xs : List V} {ds : List D} {Q : DQ} (h : Sat K ph S r M σ H) (hp : H p = none) (hr : RepAll K ph S xs ds) (q : Q (.own M.length) (M ++ [.lst ds])) :
    post K ph S r σ Q (.ref p) (upd H p (.lst xs)) :=
  let ⟨x, hs, e⟩ := h.new hp hr
  ⟨_, _, _, x, hs, _, .own e, q⟩
theorem de_own {es : List Expr} {t : DTA} (h : DA X es t) : DE X (.List es pos) (dOwn t) :=
  DE.of (pe_lst h.pa) fun ph S r M σ H Q hs ht Q' hq => ⟨ph, S, r, M, _, hs, ht, fun vs H1 ⟨ph1, S1, M1, x1, hs1, ds, q1, hz, g1⟩ =>
    ⟨by rw [q1.len]; exact hz, fun p hp => hq _ _ (Aft.up x1 (Aft.own hs1 hp q1 g1))⟩⟩
theorem de_dct0 : DE X (.Dict [] [] pos) (dC .dct0) :=
  DE.of pe_dnewK fun ph S r M σ H Q hs ht Q' hq p hp => hq _ _ (Aft.frz hs hp fun x => ⟨_, .dct0 upd_same, ht⟩)
/-! ### subscripts -/
/-- d's item at i, for every kind of sequence -/
def gIx : G2 := fun x y M Q => match res M x, y with
  | .lst l, .int i => match atI l i with
    | some d => Q d M
    | none => False
  | .tup l, .int i => match atI l i with
    | some d => Q d M
    | none => False
  | .scr ns, .int i => match atI ns i with
    | some n => Q (.int n) M
    | none => False
  | _, _ => False
theorem atI_rep {K : PySem.W.Frag} {ph : Ph} {S : Hp} {vs : List V} {ds : List D} {i : Int} {d : D} (h : RepAll K ph S vs ds) (e : atI ds i = some d) : ∃ v, atI vs i = some v ∧ Rep K ph S v d := by
  unfold atI at e ⊢
  rw [h.len]
  cases q : ixN ds.length i with
  | none => rw [q] at e; cases e
  | some j =>
    rw [q] at e
    exact h.get e
theorem atI_map {α β : Type} {f : α → β} {l : List α} {i : Int} {x : α} (e : atI l i = some x) : atI (l.map f) i = some (f x) := by
  unfold atI at e ⊢
  rw [List.length_map]
  cases q : ixN l.length i with
  | none => rw [q] at e; cases e
  | some j =>
    rw [q] at e
    show (l.map f)[j]? = _
    rw [List.getElem?_map]
    rw [show l[j]? = some x from e]
    rfl
/-- an owned list's items represent over S -/
theorem res_lst {K : PySem.W.Frag} {ph : Ph} {S : Hp} {r : Env} {M : Mem} {σ : St} {H : Hp} {v : V} {d : D} {l : List D} (hs : Sat K ph S r M σ H) (q : Rep K ph S v d) (e : res M d = .lst l) : ∃ a xs, v = .ref a ∧ H a = some (.lst xs) ∧ RepAll K ph S xs l := by
  cases d <;> first | (unfold res at e; cases e; done) | skip
  · cases e
    cases q with
    | lst h1 h2 => exact ⟨_, _, rfl, hs.sub _ _ h1, h2⟩
  · rename_i k
    unfold res at e
    dsimp only at e
    split at e
    · rename_i ds hk
      cases e
      cases q with
      | own h =>
        obtain ⟨a, xs, c1, c2, c3, c4⟩ := hs.cell k _ hk
        rw [h] at c1; cases c1
        exact ⟨_, _, rfl, c3, c4⟩
    · cases e
theorem res_tup {M : Mem} {d : D} {l : List D} (e : res M d = .tup l) : d = .tup l := by
  cases d <;> first | exact e | skip
  unfold res at e
  dsimp only at e
  split at e <;> cases e
theorem res_scr {M : Mem} {d : D} {l : List Int} (e : res M d = .scr l) : d = .scr l := by
  cases d <;> first | exact e | skip
  unfold res at e
  dsimp only at e
  split at e <;> cases e
theorem de_ix {ta tb : DTE} (ha : DE X a ta) (hb : DE X b tb) (hs : PlainIx b := by exact fun _ _ => rfl) : DE X (.Subscript a b pos) (dOp gIx ta tb) :=
  DE.of (pe_ix (ix_list.or ix_tup) ha.pe hb.pe hs) fun ph S r M σ H Q hs ht Q' hq => ⟨ph, S, r, M, _, hs, ht, fun v H1 ⟨ph1, S1, M1, x1, hs1, d, q1, g1⟩ =>
    ⟨ph1, S1, r, M1, _, hs1, g1, fun u H2 ⟨ph2, S2, M2, x2, hs2, e, q2, g2⟩ => by
      have q1' := q1.up x2
      have xx := x1.trans x2
      replace g2 : gIx d e M2 Q := g2
      unfold gIx at g2
      split at g2
      · rename_i l i er
        cases q2
        split at g2
        · rename_i d' ei
          obtain ⟨p, xs, rfl, hp, hx⟩ := res_lst hs2 q1' er
          obtain ⟨w, ew, qw⟩ := atI_rep hx ei
          exact .inl ⟨p, xs, i, w, rfl, rfl, SqL.of hp, ew, hq _ _ ⟨ph2, S2, M2, xx, hs2, _, qw, g2⟩⟩
        · exact g2.elim
      · rename_i l i er
        cases q2
        split at g2
        · rename_i d' ei
          cases res_tup er
          cases q1' with
          | tup h1 h2 =>
            obtain ⟨w, ew, qw⟩ := atI_rep h2 ei
            exact .inr ⟨_, _, i, w, rfl, rfl, SqT.of (hs2.sub _ _ h1), ew, hq _ _ ⟨ph2, S2, M2, xx, hs2, _, qw, g2⟩⟩
        · exact g2.elim
      · rename_i ns i er
        cases q2
        split at g2
        · rename_i n ei
          cases res_scr er
          cases q1' with
          | scr h1 => exact .inl ⟨_, _, i, _, rfl, rfl, hs2.sub.seq h1, atI_map ei, hq _ _ ⟨ph2, S2, M2, xx, hs2, _, .int _, g2⟩⟩
        · exact g2.elim
      · exact g2.elim⟩⟩
end DL
/-! DL5: defs and their calls -/
namespace DL
open PySem PySem.Spec PyProof.Rows L2
/-! ### a def's promise over the hand layer, where no guard runs -/
structure FnG (P : Program) (w : World) (K : PySem.W.Frag) (mg : Str → Option Value) (base : Heap) (CX : CXT) (k : Nat) (f : Addr) (fd : FuncData) (ps : List Str) (sp : Sp) : Prop where
  len : ∀ vs H Q E, sp vs H Q E → vs.length = ps.length
  run : ∀ (A : Around) (outer : List PySem.Env) (s : Shared) (H : Hp) (args : Args) (us : List Value) (vs : List V) (Q : VK) (E : XK), Room k A → A.guards = some [] → Env0 P w K mg base A outer s H → BindsTo s fd args (ps.zip us) → Vals vs us → sp vs H Q E →
    codeAny (model P w) A (.call (.ref f) args) (CR CX outer P w H s Q E) s
theorem FnG.mono {P : Program} {w : World} {K : PySem.W.Frag} {mg : Str → Option Value} {base : Heap} {CX : CXT} {j k : Nat} {f : Addr} {fd : FuncData} {ps : List Str} {sp : Sp} (F : FnG P w K mg base CX j f fd ps sp) (h : j ≤ k) :
    FnG P w K mg base CX k f fd ps sp := ⟨F.len, fun A outer s H args us vs Q E hr => F.run A outer s H args us vs Q E (hr.mono h)⟩
section
variable {X : Cx} {CX : CXT} {k : Nat} {f : Addr} {fd : FuncData} {ps : List Str} {sp : Sp} {dvs : List V} {ds : List Value} {E : XK} {x : Str} {p pos : Pos} {e : Expr} {es : List Expr} {t : TA}
theorem run_fnG {pins : List (Addr × Obj)} {σ : St} {H : Hp} {s : Shared} {Q : VK} {us : List Value} {vs : List V} (F : FnG X.prog X.w X.K X.mg X.base CX k f fd ps sp) (hr : Room k X.A) (gd : X.A.guards = some []) (hb : Binds X.K fd ps ds) (hd : Vals dvs ds) (hx : Passes CX X E)
    (I : Inv X pins σ H s) (r : Vals vs us) (h : sp (vs ++ dvs) H Q E) : wpAny (model X.prog X.w) X.A (call (.ref f) us) (EP X pins σ Q) X.xe s := by
  have r2 : Vals (vs ++ dvs) (us ++ ds) := r.append hd
  have hl : (us ++ ds).length = ps.length := by rw [← r2.length]; exact F.len _ _ _ _ h
  refine wpAny_call (codeAny_mono (F.run X.A X.stack s H ⟨us, []⟩ (us ++ ds) (vs ++ dvs) Q E hr gd I.env0 (hb s us I.kIn hl) r2 h) fun r s' hq => ?_)
  match r, hq with
  | .error e, hq => exact hx pins σ H s e s' I hq
  | .ok (.ret u), hq => exact I.after hq
  | .ok .next, hq => exact False.elim hq
  | .ok .brk, hq => exact False.elim hq
  | .ok .cont, hq => exact False.elim hq
theorem pe_callG (F : FnG X.prog X.w X.K X.mg X.base CX k f fd ps sp) (hr : Room k X.A) (gd : X.A.guards = some []) (hg : Gl X x) (hm : X.mg x = some (.ref f)) (hk : PySem.W.keepIn X.K (.ref f) = true) (hb : Binds X.K fd ps ds) (hd : Vals dvs ds) (hx : Passes CX X E)
    (ha : PA X (e :: es) t) (hdb : (x == ("__debug__" : Str)) = false := by decide) (he : starEach (e :: es) X.env = (false, eval e X.env) :: starEach es X.env := by rfl) (hpl : (backTo pos (starEach es X.env)).any (·.1) = false := by rfl) :
    PE X (.Call (.Name x p) (e :: es) [] pos) (tCall sp dvs E t) :=
  ⟨fun pins s σ H Q I h => wpAny_Call_Name_kw (ld_glob I hg hm (PySem.W.callWith_K (h₀ := X.base) I.ok.mod.kin hk (thn (ha.run pos pins s σ H _ I h) fun us s1 ⟨vs, H1, I1, r, q⟩ => ⟨I1.kIn, run_fnG F hr gd hb hd hx I1 r q⟩) he hpl) hdb)⟩
end
/-- a def by its body -/
theorem fnG_of {CX : CXT} {P : Program} {w : World} {K : PySem.W.Frag} {mg : Str → Option Value} {base : Heap} {k : Nat} {f : Addr} {name qual : Str} {params : Arguments} {body : List Stmt} {scope : Scope} {dV kV doc pm cdv ct oc : Value} {an od : Option Addr}
    {osl : Array (Option Value)} {N ps : List Str} {sp : Sp} (lk : K.lookup f = some ⟨oc, od, .func (PySem.W.fnOf name qual params body scope dV kV doc pm an cdv ct), osl⟩) (hcd : PySem.W.codeIn K cdv qual = true) (S : FnScope N ps scope)
    (len : ∀ vs H Q E, sp vs H Q E → vs.length = ps.length)
    (hbody : ∀ (A : Around) (outer : List PySem.Env) (s : Shared) (H : Hp) (vs : List V) (Q : VK) (E : XK), Room k (A.deeper (envOfC qual scope s.heap.objs.size f cdv)) → A.guards = some [] → sp vs H Q E →
      ∃ t, PSs (cxOf CX P w K mg base N qual scope f cdv A outer s H E) body t ∧ t { nx := fun _ H' => Q .non H', rt := Q } (start N vs) H) :
    FnG P w K mg base CX (k + 1) f (PySem.W.fnOf name qual params body scope dV kV doc pm an cdv ct) ps sp := by
  refine ⟨len, fun A outer s H args us vs Q E hr gd e0 hb r hsp => ?_⟩
  have hl := len _ _ _ _ hsp
  have KX : K.In s.heap := e0.mod.kin.keeps fun b o e => (e0.bs b o e).1
  have lim : s.heap.NoLimit := e0.mod.nolimit.keeps fun b o e => (e0.bs b o e).1
  refine codeAny_call_function hr.depth (KX _ _ lk) rfl S.co S.gen rfl (PySem.W.codeRec_of KX hcd) (hb _ _ _ _ ?_)
  refine wpAny_newFunctionEnv_cells S.kind (fun y hy => ?_) fun env he s1 x => ?_
  · rcases S.par y.1 (List.of_mem_zip (a := y.1) (b := y.2) hy).1 with q | q
    · exact .inl q
    · exact .inr ⟨q, PySem.W.cellsFrom_some _ _ _ (.inl q)⟩
  subst he
  refine ⟨lim.keeps x.toInCall.keep, codeAny_func ?_⟩
  obtain ⟨t, ht, hq⟩ := hbody A outer s H vs Q E (hr.deeper _) gd hsp
  have I : Inv (cxOf CX P w K mg base N qual scope f cdv A outer s H E) [] (start N vs) H s1 := inv_start S hr.hd e0 hl r x
  refine wpAny_mono (ht.run [] s1 (start N vs) H _ I hq) (fun fl s' hs => ?_) fun e s' hs => hs
  match fl, hs with
  | .ret u, ⟨v, σ', H', J, rv, q⟩ => exact ⟨v, H', J.os, J.bare, J.base, J.hok, rv, q⟩
  | .next, ⟨σ', H', J, q⟩ => exact ⟨V.non, H', J.os, J.bare, J.base, J.hok, rfl, q⟩
  | .brk, ⟨_, _, _, q⟩ => exact False.elim q
  | .cont, ⟨_, _, _, q⟩ => exact False.elim q
/-! ### a def's promise over data -/
/-- what is wanted of an exception: its class, its value, the cells -/
abbrev DX := Str → D → Mem → Prop
abbrev DSp := List D → Mem → DQ → DX → Prop
def DX0 : DX := fun _ _ _ => False
def postM (K : PySem.W.Frag) (ph : Ph) (S : Hp) (Q : DQ) : VK := post K ph S [] [] Q
def postX (K : PySem.W.Frag) (ph : Ph) (S : Hp) (E : DX) : XK := fun cls d H => ∃ (x : Str) (C T dd : Addr) (v : V) (dv : D), XA.ErC K x C T ∧ cls = .ref C ∧ d = some dd ∧
  Aft K ph S [] [] H fun ph' S' M => S' dd = some (.xd [(fVal, v)]) ∧ Rep K ph' S' v dv ∧ E x dv M
def lfSp (K : PySem.W.Frag) (n : Nat) (sp : DSp) : Sp := fun vs H Q E => ∃ ph S M ds Q0 E0, ds.length = n ∧ Sat K ph S [] M [] H ∧ RepAll K ph S vs ds ∧ sp ds M Q0 E0 ∧ (∀ v H', postM K ph S Q0 v H' → Q v H') ∧ (∀ cls d H', postX K ph S E0 cls d H' → E cls d H')
abbrev FnD (P : Program) (w : World) (K : PySem.W.Frag) (mg : Str → Option Value) (base : Heap) (CX : CXT) (k : Nat) (f : Addr) (fd : FuncData) (ps : List Str) (sp : DSp) : Prop :=
  FnG P w K mg base CX k f fd ps (lfSp K ps.length sp)
theorem Sat.drop {K : PySem.W.Frag} {ph : Ph} {S : Hp} {r : Env} {M : Mem} {σ : St} {H : Hp} (h : Sat K ph S r M σ H) : Sat K ph S [] M [] H :=
  ⟨h.sub, h.len, h.nd, h.trk, h.cell, h.hid, h.hnd, rfl, fun i d e => by simp at e⟩
/-- behind a call the names are as they were -/
theorem Sat.back {K : PySem.W.Frag} {ph ph' : Ph} {S S' : Hp} {r : Env} {M M' : Mem} {σ : St} {H H' : Hp} (h : Sat K ph S r M σ H) (x : Ext ph S ph' S') (h' : Sat K ph' S' [] M' [] H') : Sat K ph' S' r M' σ H' :=
  ⟨h'.sub, h'.len, h'.nd, h'.trk, h'.cell, h'.hid, h'.hnd, h.el, fun i d e => let ⟨v, e1, q⟩ := h.env i d e; ⟨v, e1, q.up x⟩⟩
section
variable {X : Cx} {CX : CXT} {k : Nat} {f : Addr} {fd : FuncData} {ps : List Str} {sp : DSp} {x : Str} {p pos : Pos} {e : Expr} {es : List Expr} {t : DTA}
/-- f(..), then the defaults -/
def dCall (n : Nat) (sp : DSp) (dvs : List D) (E : DX) (t : DTA) : DTE := fun r M Q => t r M fun ds M1 => (ds ++ dvs).length = n ∧ sp (ds ++ dvs) M1 Q E
/-- a value that is the same everywhere -/
def Cst (K : PySem.W.Frag) (v : V) (d : D) : Prop := ∀ ph S, Rep K ph S v d
inductive Csts (K : PySem.W.Frag) : List V → List D → Prop
  | nil : Csts K [] []
  | cons {v : V} {d : D} {vs : List V} {ds : List D} : Cst K v d → Csts K vs ds → Csts K (v :: vs) (d :: ds)
theorem Csts.rep {K : PySem.W.Frag} {ph : Ph} {S : Hp} : ∀ {vs : List V} {ds : List D}, Csts K vs ds → RepAll K ph S vs ds
  | _, _, .nil => .nil
  | _, _, .cons h t => .cons (h _ _) t.rep
theorem lf_call {t' : TA} {dvs : List V} {dds : List D} {E' : XK} {E : DX} (hE : ∀ ph S cls d H', postX X.K ph S E cls d H' → E' cls d H') (hc : Csts X.K dvs dds) {ph : Ph} {S : Hp} {r : Env} {M : Mem} {σ : St} {H : Hp} {Q : DQ} {Q' : VK} (hs : Sat X.K ph S r M σ H) (ht : dCall ps.length sp dds E t r M Q) (hq : ∀ v H', post X.K ph S r σ Q v H' → Q' v H')
    (w : ∀ Q1 : List V → Hp → Prop, (∀ vs H', postA X.K ph S r σ (fun ds M1 => (ds ++ dds).length = ps.length ∧ sp (ds ++ dds) M1 Q E) vs H' → Q1 vs H') → t' σ H Q1) : tCall (lfSp X.K ps.length sp) dvs E' t' σ H Q' :=
  w _ fun vs H1 ⟨ph1, S1, M1, x1, hs1, ds, q1, hl, h1⟩ => ⟨ph1, S1, M1, ds ++ dds, Q, E, hl, hs1.drop, q1.app hc.rep, h1, fun v H2 ⟨ph2, S2, M2, x2, hs2, d, q2, h2⟩ => hq _ _ ⟨ph2, S2, M2, x1.trans x2, hs1.back x2 hs2, d, q2, h2⟩, fun cls d H2 h2 => hE _ _ _ _ _ h2⟩
theorem de_callX {dvs : List V} {dds : List D} {ds : List Value} {E' : XK} {E : DX} (F : FnD X.prog X.w X.K X.mg X.base CX k f fd ps sp) (hr : Room k X.A) (gd : X.A.guards = some []) (hm : X.mg x = some (.ref f)) (hk : PySem.W.keepIn X.K (.ref f) = true) (hb : Binds X.K fd ps ds) (hd : Vals dvs ds) (hc : Csts X.K dvs dds) (hx : Passes CX X E') (hE : ∀ ph S cls d H', postX X.K ph S E cls d H' → E' cls d H')
    (ha : DA X (e :: es) t) (hg : Gl X x := by rfl) (hdb : (x == ("__debug__" : Str)) = false := by decide) (he : starEach (e :: es) X.env = (false, eval e X.env) :: starEach es X.env := by rfl) (hpl : (backTo pos (starEach es X.env)).any (·.1) = false := by rfl) :
    DE X (.Call (.Name x p) (e :: es) [] pos) (dCall ps.length sp dds E t) :=
  DE.of (pe_callG F hr gd hg hm hk hb hd hx ha.pa hdb he hpl) fun ph S r M σ H Q hs ht Q' hq => lf_call hE hc hs ht hq fun Q1 hQ1 => ⟨ph, S, r, M, _, hs, ht, hQ1⟩
theorem pX0 : ∀ ph S cls d H', postX X.K ph S DX0 cls d H' → E0 cls d H' := fun _ _ _ _ _ ⟨_, _, _, _, _, _, _, _, _, _, _, _, _, _, _, _, z⟩ => z
/-- what is told of a def of the module, for its callers -/
structure Def (P : Program) (w : World) (K : PySem.W.Frag) (mg : Str → Option Value) (base : Heap) (CX : CXT) (k : Nat) (x : Str) (st : Stmt) (ps : List Str) (sp : DSp) : Prop where
  ex : ∃ (f : Addr) (fd : FuncData), FnD P w K mg base CX k f fd ps sp ∧ mg x = some (.ref f) ∧ PySem.W.keepIn K (.ref f) = true ∧ Binds K fd ps [] ∧ Fun K x x st f fd
/-- a call of a def from which nothing is raised -/
theorem dcall {n : Nat} {st : Stmt} {P : Program} {w : World} {K : PySem.W.Frag} {mg : Str → Option Value} {base : Heap} (F : Def P w K mg base CX0 k x st ps sp) {j : Nat} (hr : Room j X.A) (gd : X.A.guards = some []) (ha : DA X (e :: es) t) (hj : k ≤ j := by decide) (hn : ps.length = n := by rfl)
    (h1 : P = X.prog := by rfl) (h2 : w = X.w := by rfl) (h3 : K = X.K := by rfl) (h4 : mg = X.mg := by rfl) (h5 : base = X.base := by rfl) (hg : Gl X x := by rfl) (hdb : (x == ("__debug__" : Str)) = false := by decide) (he : starEach (e :: es) X.env = (false, eval e X.env) :: starEach es X.env := by rfl)
    (hpl : (backTo pos (starEach es X.env)).any (·.1) = false := by rfl) : DE X (.Call (.Name x p) (e :: es) [] pos) (dCall n sp [] DX0 t) := by
  subst h1 h2 h3 h4 h5 hn
  obtain ⟨f, fd, h1, h2, h3, h4, _⟩ := F.ex
  exact de_callX h1 (hr.mono hj) gd h2 h3 h4 .nil .nil pass0 pX0 ha hg hdb he hpl
end
/-! ### at the end of a def: the cells that it made are left behind -/
mutual
def below (n : Nat) : D → Bool
  | .tup l => belowAll n l
  | .lst l => belowAll n l
  | .own k => decide (k < n)
  | .exc _ d => below n d
  | _ => true
def belowAll (n : Nat) : List D → Bool
  | [] => true
  | d :: ds => below n d && belowAll n ds
end
def belowO (n : Nat) : Own → Bool
  | .lst l => belowAll n l
  | .dead => true
section
variable {K : PySem.W.Frag} {ph : Ph} {S : Hp} {n : Nat}
mutual
theorem Rep.take : ∀ (d : D) (v : V), below n d = true → Rep K ph S v d → Rep K (ph.cut n) S v d
  | .non, _, _, h => by cases h; exact .non
  | .bl _, _, _, h => by cases h; exact .bl _
  | .int _, _, _, h => by cases h; exact .int _
  | .str _, _, _, h => by cases h; exact .str _
  | .tup ds, _, e, h => by
    cases h with
    | tup h1 h2 => exact .tup h1 (RepAll.takeP ds _ (by simpa only [below] using e) h2)
  | .lst ds, _, e, h => by
    cases h with
    | lst h1 h2 => exact .lst h1 (RepAll.takeP ds _ (by simpa only [below] using e) h2)
  | .dct0, _, _, h => by
    cases h with
    | dct0 h1 => exact .dct0 h1
  | .scr ns, _, _, h => by
    cases h with
    | scr h1 => exact .scr h1
  | .own k, _, e, h => by
    cases h with
    | own h1 =>
      have e' : k < n := of_decide_eq_true (by simpa only [below] using e)
      exact .own (by show (ph.cells.take n)[k]? = _; rw [List.getElem?_take_of_lt e']; exact h1)
  | .glb _, _, _, h => by
    cases h with
    | glb h1 => exact .glb h1
  | .exc C d, _, e, h => by
    cases h with
    | exc h0 h1 h2 h3 => exact .exc h0 h1 h2 (Rep.take d _ (by simpa only [below] using e) h3)
  | .val v, _, _, h => by cases h; exact .val _
theorem RepAll.takeP : ∀ (ds : List D) (vs : List V), belowAll n ds = true → RepAll K ph S vs ds → RepAll K (ph.cut n) S vs ds
  | [], _, _, h => by cases h; exact .nil
  | d :: ds, _, e, h => by
    have e' : below n d = true ∧ belowAll n ds = true := by simpa only [belowAll, Bool.and_eq_true] using e
    cases h with
    | cons h1 h2 => exact .cons (Rep.take d _ e'.1 h1) (RepAll.takeP ds _ e'.2 h2)
end
mutual
theorem Rep.belowP : ∀ (d : D) (v : V), Rep K ph S v d → below ph.cells.length d = true
  | .non, _, _ => by simp only [below]
  | .bl _, _, _ => by simp only [below]
  | .int _, _, _ => by simp only [below]
  | .str _, _, _ => by simp only [below]
  | .tup ds, _, h => by
    cases h with
    | tup h1 h2 => simp only [below]; exact RepAll.belowP ds _ h2
  | .lst ds, _, h => by
    cases h with
    | lst h1 h2 => simp only [below]; exact RepAll.belowP ds _ h2
  | .dct0, _, _ => by simp only [below]
  | .scr ns, _, _ => by simp only [below]
  | .own k, _, h => by
    cases h with
    | own h1 => simp only [below]; exact decide_eq_true (List.getElem?_eq_some_iff.mp h1).1
  | .glb _, _, _ => by simp only [below]
  | .exc C d, _, h => by
    cases h with
    | exc h0 h1 h2 h3 => simp only [below]; exact Rep.belowP d _ h3
  | .val v, _, _ => by simp only [below]
theorem RepAll.belowP : ∀ (ds : List D) (vs : List V), RepAll K ph S vs ds → belowAll ph.cells.length ds = true
  | [], _, _ => by simp only [belowAll]
  | d :: ds, _, h => by
    cases h with
    | cons h1 h2 => simp only [belowAll, Bool.and_eq_true]; exact ⟨Rep.belowP d _ h1, RepAll.belowP ds _ h2⟩
end
end
mutual
theorem below.mono {m n : Nat} (hmn : m ≤ n) : ∀ d : D, below m d = true → below n d = true
  | .non, _ => by simp only [below]
  | .bl _, _ => by simp only [below]
  | .int _, _ => by simp only [below]
  | .str _, _ => by simp only [below]
  | .tup ds, h => by
    simp only [below] at h ⊢
    exact belowAll.mono hmn ds h
  | .lst ds, h => by
    simp only [below] at h ⊢
    exact belowAll.mono hmn ds h
  | .dct0, _ => by simp only [below]
  | .scr _, _ => by simp only [below]
  | .own k, h => by
    simp only [below] at h ⊢
    have := of_decide_eq_true h
    exact decide_eq_true (by omega)
  | .glb _, _ => by simp only [below]
  | .exc _ d, h => by
    simp only [below] at h ⊢
    exact below.mono hmn d h
  | .val _, _ => by simp only [below]
theorem belowAll.mono {m n : Nat} (hmn : m ≤ n) : ∀ ds : List D, belowAll m ds = true → belowAll n ds = true
  | [], _ => by simp only [belowAll]
  | d :: ds, h => by
    simp only [belowAll, Bool.and_eq_true] at h ⊢
    exact ⟨below.mono hmn d h.1, belowAll.mono hmn ds h.2⟩
end
/-- d and the cells M1 are what stays of M': all else was made by the def -/
def Rtq (M : Mem) (Q : DQ) : DQ := fun d M' => ∃ M1 G, M' = M1 ++ G ∧ M.length ≤ M1.length ∧ below M1.length d = true ∧ (∀ (i : Nat) (c : Own), M1[i]? = some c → M[i]? = some c ∨ belowO M1.length c = true) ∧ Q d M1
theorem Sat.leave {K : PySem.W.Frag} {ph ph1 : Ph} {S S1 : Hp} {r : Env} {M M1 G : Mem} {σ : St} {H H1 : Hp} (h0 : Sat K ph S [] M [] H) (x : Ext ph S ph1 S1) (h : Sat K ph1 S1 r (M1 ++ G) σ H1) (hl : M.length ≤ M1.length) (hc : ∀ (i : Nat) (c : Own), M1[i]? = some c → M[i]? = some c ∨ belowO M1.length c = true) :
    Ext ph S (ph1.cut M1.length) S1 ∧ Sat K (ph1.cut M1.length) S1 [] M1 [] H1 := by
  have hpl : M1.length ≤ ph1.cells.length := by have := h.len; rw [List.length_append] at this; omega
  have up : ∀ (k : Nat) (a : Addr), k < M1.length → ph1.cells[k]? = some a → (ph1.cut M1.length).cells[k]? = some a := fun k a hk e => by show (ph1.cells.take M1.length)[k]? = _; rw [List.getElem?_take_of_lt hk]; exact e
  have dn : ∀ (k : Nat) (a : Addr), (ph1.cut M1.length).cells[k]? = some a → ph1.cells[k]? = some a := fun k a e => by
    replace e : (ph1.cells.take M1.length)[k]? = some a := e
    have hk : k < M1.length := by
      have := (List.getElem?_eq_some_iff.mp e).1
      rw [List.length_take] at this; omega
    rw [List.getElem?_take_of_lt hk] at e; exact e
  refine ⟨⟨fun k a e => up k a ?_ (x.pre k a e), x.same, x.hid⟩, h.sub, ?_, h.nd.sublist (List.take_sublist _ _), fun k a e => h.trk k a (dn k a e), fun k ds e => ?_, fun q hq => ?_, h.hnd, rfl, fun i d e => by simp at e⟩
  · refine Nat.lt_of_lt_of_le ?_ hl
    rw [← h0.len]; exact (List.getElem?_eq_some_iff.mp e).1
  · show (ph1.cells.take M1.length).length = _
    rw [List.length_take]; omega
  · have kl : k < M1.length := (List.getElem?_eq_some_iff.mp e).1
    obtain ⟨a, xs, c1, c2, c3, c4⟩ := h.cell k ds (by rw [List.getElem?_append_left kl]; exact e)
    refine ⟨a, xs, up k a (by omega) c1, c2, c3, RepAll.takeP ds xs ?_ c4⟩
    rcases hc k _ e with q | q
    · obtain ⟨_, _, _, _, _, b4⟩ := h0.cell k ds q
      refine belowAll.mono hl _ ?_
      rw [← h0.len]; exact RepAll.belowP _ _ b4
    · simpa only [belowO] using q
  · obtain ⟨h1, h2, h3⟩ := h.hid q hq
    exact ⟨h1, h2, fun z => h3 (List.mem_of_mem_take z)⟩
theorem Rtq.out {K : PySem.W.Frag} {ph : Ph} {S : Hp} {M : Mem} {H : Hp} {Q : DQ} (h0 : Sat K ph S [] M [] H) {v : V} {H1 : Hp} (h : postR K ph S (Rtq M Q) v H1) : postM K ph S Q v H1 := by
  obtain ⟨r, σ, ph1, S1, M', x, hs, d, q, M1, G, rfl, hl, hb, hc, hq⟩ := h
  obtain ⟨x2, hs2⟩ := Sat.leave h0 x hs hl hc
  exact ⟨_, _, _, x2, hs2, d, Rep.take d v hb q, hq⟩
/-- the names at the entry -/
def startD (n : Nat) (ds : List D) : Env := ds.map some ++ List.replicate (n - ds.length) none
theorem Sat.start {K : PySem.W.Frag} {ph : Ph} {S : Hp} {M : Mem} {H : Hp} {vs : List V} {ds : List D} (h : Sat K ph S [] M [] H) (q : RepAll K ph S vs ds) (N : List Str) : Sat K ph S (startD N.length ds) M (L2.start N vs) H := by
  refine ⟨h.sub, h.len, h.nd, h.trk, h.cell, h.hid, h.hnd, ?_, fun i d e => ?_⟩
  · unfold startD L2.start
    rw [List.length_append, List.length_append, List.length_map, List.length_map, List.length_replicate, List.length_replicate, q.len]
  · unfold startD at e
    by_cases hi : i < ds.length
    · rw [List.getElem?_append_left (by rw [List.length_map]; exact hi), List.getElem?_map] at e
      cases e' : ds[i]? with
      | none => rw [e'] at e; cases e
      | some d' =>
        rw [e'] at e
        have e2 : d' = d := by simpa using e
        subst e2
        obtain ⟨v, ev, qv⟩ := q.get e'
        refine ⟨v, ?_, qv⟩
        unfold L2.start
        rw [List.getElem?_append_left (by rw [List.length_map, q.len]; exact hi), List.getElem?_map, ev]
        rfl
    · rw [List.getElem?_append_right (by rw [List.length_map]; omega), List.getElem?_replicate] at e
      split at e <;> cases e
/-- what the body's end is for the def -/
def dEnds (M : Mem) (Q : DQ) : DEnds := { nx := fun _ M' => Rtq M Q .non M', rt := Rtq M Q }
section
variable {P : Program} {w : World} {K : PySem.W.Frag} {mg : Str → Option Value} {base : Heap}
/-- THE RULE: a def from which nothing is raised, by its body; its end leaves its own cells behind -/
theorem Fun.okD {x qual : Str} {st : Stmt} {f : Addr} {fd : FuncData} {N ps : List Str} {k : Nat} {sp : DSp} {t : DTS} (F : Fun K x qual st f fd) (S : FnScope N ps (defScope st))
    (hder : ∀ (cdv : Value) (A : Around) (outer : List PySem.Env) (s : Shared) (H : Hp) (E : XK), Room k (A.deeper (envOfC qual (defScope st) s.heap.objs.size f cdv)) → (A.deeper (envOfC qual (defScope st) s.heap.objs.size f cdv)).guards = some [] →
      DSs (cxOf CX0 P w K mg base N qual (defScope st) f cdv A outer s H E).nox (defBody st) t)
    (hread : ∀ ds M Q, ds.length = ps.length → sp ds M Q DX0 → t (dEnds M Q) (startD N.length ds) M)
    (hX : ∀ ds M Q E, sp ds M Q E → sp ds M Q DX0 := by exact fun _ _ _ _ h => h) : FnD P w K mg base CX0 (k + 1) f fd ps sp := by
  obtain ⟨oc, od, kV, doc, pm, an, cdv, ct, osl, rfl, lk, hcd⟩ := F.ex
  refine fnG_of lk hcd S (fun vs H Q E h => ?_) fun A outer s H vs Q E hr gd hsp => ?_
  · obtain ⟨_, _, _, _, _, _, hl, _, q, _⟩ := h
    rw [q.len]; exact hl
  · obtain ⟨ph, S0, M, ds, Q0, E0, hl, hs, hq, h, h1, h2⟩ := hsp
    refine ⟨_, (hder cdv A outer s H E hr gd).pss.nox, ph, S0, startD N.length ds, M, dEnds M Q0, hs.start hq N, hread ds M Q0 hl (hX _ _ _ _ h), ?_, ?_, ?_, ?_⟩
    · rintro σ' H' ⟨r, ph1, S1, M1, x, hs1, z⟩
      exact h1 _ _ (Rtq.out hs ⟨r, σ', ph1, S1, M1, x, hs1, .non, .non, z⟩)
    · exact fun v H' z => h1 _ _ (Rtq.out hs z)
    · rintro σ' H' ⟨r, ph1, S1, M1, x, hs1, z⟩
      exact z.elim
    · rintro σ' H' ⟨r, ph1, S1, M1, x, hs1, z⟩
      exact z.elim
end
end DL
/-! DL6: statements, loops, comprehensions -/
namespace DL
open PySem PySem.Spec PyProof.Rows L2
variable {X : Cx}
theorem DS.of {st : Stmt} {t' : TS} {t : DTS} (h : PS X st t') (w : ∀ ph S r M σ H E, Sat X.K ph S r M σ H → t E r M → ∀ E', (∀ σ' H', postN X.K ph S E.nx σ' H' → E'.nx σ' H') → (∀ v H', postR X.K ph S E.rt v H' → E'.rt v H') → (∀ σ' H', postN X.K ph S E.bk σ' H' → E'.bk σ' H') → (∀ σ' H', postN X.K ph S E.ct σ' H' → E'.ct σ' H') → t' E' σ H) : DS X st t :=
  ⟨PS.weak h fun E σ H ⟨ph, S, r, M, E0, hs, ht, h1, h2, h3, h4⟩ => w ph S r M σ H E0 hs ht E h1 h2 h3 h4⟩
theorem postN.up {K : PySem.W.Frag} {ph ph1 : Ph} {S S1 : Hp} {Q : Env → Mem → Prop} {σ : St} {H : Hp} (x : Ext ph S ph1 S1) (h : postN K ph1 S1 Q σ H) : postN K ph S Q σ H := let ⟨r, q⟩ := h; ⟨r, Aft.up x q⟩
theorem postR.up {K : PySem.W.Frag} {ph ph1 : Ph} {S S1 : Hp} {Q : DQ} {v : V} {H : Hp} (x : Ext ph S ph1 S1) (h : postR K ph1 S1 Q v H) : postR K ph S Q v H := let ⟨r, σ, q⟩ := h; ⟨r, σ, Aft.up x q⟩
/-! ### blocks -/
def dNext : DTS := fun E r M => E.nx r M
def dSeq (t u : DTS) : DTS := fun E r M => t { E with nx := u E } r M
theorem dss_nil : DSs X [] dNext := ⟨PSs.weak pss_nil fun E σ H ⟨ph, S, r, M, E0, hs, ht, h1, _, _, _⟩ => h1 _ _ ⟨r, Aft.here hs ht⟩⟩
theorem lf_on {ph ph1 : Ph} {S S1 : Hp} {r : Env} {M : Mem} {σ : St} {H : Hp} {t : DTS} {E : DEnds} {E' : Ends} (x : Ext ph S ph1 S1) (hs : Sat X.K ph1 S1 r M σ H) (ht : t E r M)
    (h1 : ∀ σ' H', postN X.K ph S E.nx σ' H' → E'.nx σ' H') (h2 : ∀ v H', postR X.K ph S E.rt v H' → E'.rt v H') (h3 : ∀ σ' H', postN X.K ph S E.bk σ' H' → E'.bk σ' H') (h4 : ∀ σ' H', postN X.K ph S E.ct σ' H' → E'.ct σ' H') : lfS X.K t E' σ H :=
  ⟨ph1, S1, r, M, E, hs, ht, fun _ _ z => h1 _ _ (z.up x), fun _ _ z => h2 _ _ (z.up x), fun _ _ z => h3 _ _ (z.up x), fun _ _ z => h4 _ _ (z.up x)⟩
theorem dss_cons {st : Stmt} {rest : List Stmt} {t u : DTS} (h : DS X st t) (h' : DSs X rest u) : DSs X (st :: rest) (dSeq t u) :=
  ⟨PSs.weak (pss_cons h.ps h'.pss) fun E σ H ⟨ph, S, r, M, E0, hs, ht, h1, h2, h3, h4⟩ =>
    ⟨ph, S, r, M, { E0 with nx := u E0 }, hs, ht, fun σ' H' ⟨r1, ph1, S1, M1, x, hs1, z⟩ => lf_on x hs1 z h1 h2 h3 h4, h2, h3, h4⟩⟩
theorem dss_one {st : Stmt} {t : DTS} (h : DS X st t) : DSs X [st] t := ⟨pss_one h.ps⟩
def dNever : DTS := fun _ _ _ => False
section
variable {pos : Pos}
/-- an expression whose value is dropped -/
def dDrop (t : DTE) : DTS := fun E r M => t r M fun _ M1 => E.nx r M1
theorem ds_expr {e : Expr} {t : DTE} (he : DE X e t) (hs : swapsWith e none pos.line X.env = pure false := by rfl) : DS X (.Expr e pos) (dDrop t) :=
  DS.of (ps_expr he.pe hs) fun ph S r M σ H E hs ht E' h1 _ _ _ => ⟨ph, S, r, M, _, hs, ht, fun v H' ⟨ph1, S1, M1, x, hs1, d, _, z⟩ => h1 _ _ ⟨r, ph1, S1, M1, x, hs1, z⟩⟩
def dRet (t : DTE) : DTS := fun E r M => t r M E.rt
theorem ds_ret {e : Expr} {t : DTE} (he : DE X e t) : DS X (.Return (some e) pos) (dRet t) :=
  DS.of (ps_ret he.pe) fun ph S r M σ H E hs ht E' _ h2 _ _ => ⟨ph, S, r, M, _, hs, ht, fun v H' z => h2 _ _ ⟨r, σ, z⟩⟩
def dRetN : DTS := fun E _ M => E.rt .non M
def dIfS (c : DTT) (t u : DTS) : DTS := fun E r M => c r M fun b M1 => if b = true then t E r M1 else u E r M1
theorem ds_if {c : Expr} {a b : List Stmt} {tc : DTT} {t u : DTS} (hc : DT X c tc) (ha : DSs X a t) (hb : DSs X b u) : DS X (.If c a b pos) (dIfS tc t u) :=
  DS.of (ps_if hc.pt ha.pss hb.pss) fun ph S r M σ H E hs ht E' h1 h2 h3 h4 => ⟨ph, S, r, M, _, hs, ht, fun k H1 ⟨ph1, S1, M1, x, hs1, z⟩ => by
    cases k with
    | true => exact lf_on x hs1 z h1 h2 h3 h4
    | false => exact lf_on x hs1 z h1 h2 h3 h4⟩
end
/-! ### targets -/
abbrev DTG := D → Env → Mem → (Env → Mem → Prop) → Prop
structure DG (X : Cx) (target : Expr) (g : DTG) : Prop where
  pg : PG X target (fun v σ H Q => ∃ ph S r M d Q0, Sat X.K ph S r M σ H ∧ Rep X.K ph S v d ∧ g d r M Q0 ∧ ∀ σ' H', postN X.K ph S Q0 σ' H' → Q σ' H')
def dName (i : Nat) : DTG := fun d r M Q => Q (r.set i (some d)) M
theorem dg_name {i : Nat} {x : Str} {pos : Pos} (hN : X.N.Nodup) (hi : X.N[i]? = some x := by rfl) (hx : Loc X.env.scope x := by first | exact Or.inl rfl | exact Or.inr rfl) (hf : X.fn x = true ∨ X.env.scope.names.lookup x = some .local := by first | exact .inl rfl | exact .inr rfl | assumption) : DG X (.Name x pos) (dName i) :=
  ⟨⟨fun pins s σ H v u Q I rv ⟨ph, S, r, M, d, Q0, hs, q, hg, h1⟩ => (pg_name hN hi hx hf).run pins s σ H v u Q I rv (h1 _ _ ⟨_, Aft.here (hs.setN q) hg⟩)⟩⟩
abbrev DTGs := List D → Env → Mem → (Env → Mem → Prop) → Prop
structure DGs (X : Cx) (ts : List Expr) (g : DTGs) : Prop where
  pgs : PGs X ts (fun vs σ H Q => ∃ ph S r M ds Q0, Sat X.K ph S r M σ H ∧ RepAll X.K ph S vs ds ∧ g ds r M Q0 ∧ ∀ σ' H', postN X.K ph S Q0 σ' H' → Q σ' H')
def dGNil : DTGs := fun ds r M Q => match ds with
  | [] => Q r M
  | _ => False
def dGCons (g : DTG) (u : DTGs) : DTGs := fun ds r M Q => match ds with
  | d :: rest => g d r M fun r1 M1 => u rest r1 M1 Q
  | _ => False
theorem dgs_nil : DGs X [] dGNil := ⟨⟨fun pins s σ H vs us Q I rv ⟨ph, S, r, M, ds, Q0, hs, q, hg, h1⟩ => pgs_nil.run pins s σ H vs us Q I rv (by
  cases ds with
  | cons d ds => exact hg.elim
  | nil =>
    cases q
    exact ⟨rfl, h1 _ _ ⟨r, Aft.here hs hg⟩⟩)⟩⟩
theorem dgs_cons {e : Expr} {es : List Expr} {g : DTG} {u : DTGs} (h : DG X e g) (h' : DGs X es u) (hst : (assignEach (e :: es) X.env).map (·.2) = assign e X.env :: (assignEach es X.env).map (·.2) := by rfl) : DGs X (e :: es) (dGCons g u) :=
  ⟨⟨fun pins s σ H vs us Q I rv ⟨ph, S, r, M, ds, Q0, hs, q, hg, h1⟩ => (pgs_cons h.pg h'.pgs hst).run pins s σ H vs us Q I rv (by
    cases ds with
    | nil => exact hg.elim
    | cons d ds =>
      cases q with
      | cons q1 q2 => exact ⟨_, _, rfl, ph, S, r, M, d, _, hs, q1, hg, fun σ1 H1 ⟨r1, ph1, S1, M1, x1, hs1, z⟩ => ⟨ph1, S1, r1, M1, ds, Q0, hs1, q2.up x1, z, fun σ2 H2 z2 => h1 _ _ (z2.up x1)⟩⟩)⟩⟩
/-- (a, b, ..) = a tuple, or a list -/
def dGTup (n : Nat) (u : DTGs) : DTG := fun d r M Q => match res M d with
  | .tup ds => ds.length = n ∧ u ds r M Q
  | .lst ds => ds.length = n ∧ u ds r M Q
  | _ => False
theorem dg_tup {es : List Expr} {k : Nat} {u : DTGs} {n : Nat} {pos : Pos} (hc : X.calm = true) (h : DGs X es u) (hn : (assignEach es X.env).length = n := by rfl) (hst : (assignEach es X.env).findIdx? (·.1) = none := by rfl) : DG X (.Tuple es k pos) (dGTup n u) :=
  ⟨⟨fun pins s σ H v u' Q I rv ⟨ph, S, r, M, d, Q0, hs, q, hg, h1⟩ => by
    unfold dGTup at hg
    split at hg
    · rename_i ds e
      have e' := res_tup e
      subst e'
      refine (pg_tup hc h.pgs hn hst).run pins s σ H v u' Q I rv ?_
      cases q with
      | tup q1 q2 => exact ⟨_, _, rfl, SqT.of (hs.sub _ _ q1), by rw [q2.len]; exact hg.1, ph, S, r, M, _, Q0, hs, q2, hg.2, h1⟩
    · rename_i ds e
      obtain ⟨a, xs, e1, e2, q2⟩ := res_lst hs q e
      refine (pg_unl hc h.pgs hn hst).run pins s σ H v u' Q I rv ?_
      exact ⟨a, xs, e1, SqL.of e2, by rw [q2.len]; exact hg.1, ph, S, r, M, _, Q0, hs, q2, hg.2, h1⟩
    · exact hg.elim⟩⟩
/-- o[i] = .., o an owned list -/
def gSetL (o i d : D) (M : Mem) (Q : Mem → Prop) : Prop := match o, i with
  | .own k, .int j => match M[k]? with
    | some (.lst l) => match ixN l.length j with
      | some n => Q (M.set k (.lst (l.set n d)))
      | none => False
    | _ => False
  | _, _ => False
def dSub (to ti : DTE) : DTG := fun d r M Q => to r M fun o M1 => ti r M1 fun i M2 => gSetL o i d M2 fun M3 => Q r M3
theorem dg_sub {o i : Expr} {to ti : DTE} {pos : Pos} (ho : DE X o to) (hi : DE X i ti)
    (ha : ∀ v, assign (.Subscript o i pos) X.env v = (do
      let ov ← holding [v] (eval o X.env)
      let iv ← holding [v, ov] (eval i X.env)
      standAt pos
      holding [v, ov, iv] (setItem ov iv v)
      release [v, ov, iv] []) := by intro _; rfl) : DG X (.Subscript o i pos) (dSub to ti) :=
  ⟨⟨fun pins s σ H v u Q I rv ⟨ph, S, r, M, d, Q0, hs, q, hg, h1⟩ => (pg_sub ho.pe hi.pe set_list ha).run pins s σ H v u Q I rv
    ⟨ph, S, r, M, _, hs, hg, fun ov H1 ⟨ph1, S1, M1, x1, hs1, od, q1, g1⟩ => ⟨ph1, S1, r, M1, _, hs1, g1, fun iv H2 ⟨ph2, S2, M2, x2, hs2, id', q2, g2⟩ => by
      replace g2 : gSetL od id' d M2 fun M3 => Q0 r M3 := g2
      cases od with
      | own k =>
        cases id' with
        | int j =>
          unfold gSetL at g2
          dsimp only at g2
          split at g2
          · rename_i l hk
            split at g2
            · rename_i n hn
              cases q2
              cases q1 with
              | own hp =>
                have hp2 := x2.pre _ _ hp
                obtain ⟨a, xs, c1, c2, c3, c4⟩ := hs2.cell k l hk
                rw [hp2] at c1; cases c1
                exact ⟨_, xs, j, n, rfl, rfl, c3, by rw [c4.len]; exact hn, h1 _ _ ⟨r, ph2, S2, _, x1.trans x2, hs2.put hk hp2 (RepAll.set (q.up (x1.trans x2)) n c4), g2⟩⟩
            · exact g2.elim
          · exact g2.elim
        | _ => exact g2.elim
      | _ => exact g2.elim⟩⟩⟩⟩
/-- target = value -/
def dAsg (t : DTE) (g : DTG) : DTS := fun E r M => t r M fun d M1 => g d r M1 E.nx
section
variable {pos : Pos}
theorem ds_asg {tg e : Expr} {t : DTE} {g : DTG} (he : DE X e t) (hg : DG X tg g) (hs : swapsWithSole [tg] e pos.line X.env = pure false := by rfl) (hw : swappedStores [tg] e X.env = pure none := by rfl)
    (h1 : (assignEach [tg] X.env).map (·.2) = [assign tg X.env] := by rfl) : DS X (.Assign [tg] e pos) (dAsg t g) :=
  DS.of (ps_asg he.pe hg.pg hs hw h1) fun ph S r M σ H E hs ht E' h1 _ _ _ => ⟨ph, S, r, M, _, hs, ht, fun v H' ⟨ph1, S1, M1, x, hs1, d, q, z⟩ => ⟨ph1, S1, r, M1, d, E.nx, hs1, q, z, fun σ2 H2 z2 => h1 _ _ (z2.up x)⟩⟩
/-- name = value -/
theorem ds_set {i : Nat} {x : Str} {e : Expr} {t : DTE} {pos' : Pos} (hN : X.N.Nodup) (he : DE X e t) (hi : X.N[i]? = some x := by rfl) (hx : Loc X.env.scope x := by first | exact Or.inl rfl | exact Or.inr rfl) (hs : swapsWith e (some (.Name x pos')) pos.line X.env = pure false := by rfl) (hf : X.fn x = true ∨ X.env.scope.names.lookup x = some .local := by first | exact .inl rfl | exact .inr rfl | assumption) :
    DS X (.Assign [.Name x pos'] e pos) (dAsg t (dName i)) :=
  DS.of (ps_set hN hi hx he.pe hs hf) fun ph S r M σ H E hs ht E' h1 _ _ _ => ⟨ph, S, r, M, _, hs, ht, fun v H' ⟨ph1, S1, M1, x, hs1, d, q, z⟩ => h1 _ _ ⟨_, ph1, S1, M1, x, hs1.setN q, z⟩⟩
/-- a, b = x, y -/
def dPar (i j : Nat) (t : DTA) : DTS := fun E r M => t r M fun ds M1 => match ds with
  | [d, e] => E.nx ((r.set i (some d)).set j (some e)) M1
  | _ => False
theorem ds_par {i j : Nat} {x y : Str} {a b : Expr} {t : DTA} {px py pt : Pos} {kt k2 pt2} (hc : X.calm = true) (hN : X.N.Nodup) (ha : DA X [a, b] t) (hi : X.N[i]? = some x := by rfl) (hj : X.N[j]? = some y := by rfl) (hij : i ≠ j := by decide)
    (hx : X.env.scope.names.lookup x = some .local := by rfl) (hy : X.env.scope.names.lookup y = some .local := by rfl)
    (hw : swappedStores [.Tuple [.Name x px, .Name y py] kt pt] (.Tuple [a, b] k2 pt2) X.env = pure (some [x, y]) := by rfl)
    (hs : swapsWithSole [.Tuple [.Name x px, .Name y py] kt pt] (.Tuple [a, b] k2 pt2) pos.line X.env = pure false := by rfl) :
    DS X (.Assign [.Tuple [.Name x px, .Name y py] kt pt] (.Tuple [a, b] k2 pt2) pos) (dPar i j t) :=
  DS.of (ps_par hc hN hi hj hij hx hy ha.pa hw hs) fun ph S r M σ H E hs ht E' h1 _ _ _ => ⟨ph, S, r, M, _, hs, ht, fun vs H' ⟨ph1, S1, M1, x, hs1, ds, q, z⟩ => by
    match ds, q, z with
    | [d, e], .cons q1 (.cons q2 .nil), z => exact ⟨_, _, rfl, h1 _ _ ⟨_, ph1, S1, M1, x, (hs1.setN q1).setN q2, z⟩⟩⟩
def dPar3 (i j l : Nat) (t : DTA) : DTS := fun E r M => t r M fun ds M1 => match ds with
  | [d, e, f] => E.nx (((r.set i (some d)).set j (some e)).set l (some f)) M1
  | _ => False
/-- name op= e (ints) -/
def gIpI (f : Int → Int → Int) (x y : D) (M : Mem) (Q : DQ) : Prop := match x, y with
  | .int i, .int j => Q (.int (f i j)) M
  | _, _ => False
def dAug (i : Nat) (t : DTE) (f : Int → Int → Int) : DTS := fun E r M => match r[i]? with
  | some (some (.int a)) => t r M fun d M1 => gIpI f (.int a) d M1 fun z M2 => E.nx (r.set i (some z)) M2
  | _ => False
/-! ### while -/
def dWhile (c : DTT) (t : DTS) : DTS := fun E r M => ∃ W : Nat → Env → Mem → Prop, (∃ m, W m r M) ∧ ∀ m r M, W m r M →
  c r M fun b M1 => if b = true then t { E with nx := fun r' M' => ∃ m', m' < m ∧ W m' r' M', ct := fun r' M' => ∃ m', m' < m ∧ W m' r' M', bk := E.nx } r M1 else E.nx r M1
theorem ds_while {c : Expr} {body : List Stmt} {tc : DTT} {t : DTS} (hc : DT X c tc) (hb : DSs X body t) (hp : PassesOwn (model X.prog X.w) X.A X.env X.xe := by exact PassesOwn.never) : DS X (.While c body [] pos) (dWhile tc t) :=
  DS.of (ps_while hp hc.pt hb.pss) fun ph S r M σ H E hs ht E' h1 h2 h3 h4 => by
    obtain ⟨W, ⟨m0, w0⟩, turn⟩ := ht
    refine ⟨fun m σ H => postN X.K ph S (W m) σ H, ⟨m0, r, Aft.here hs w0⟩, fun m σ1 H1 ⟨r1, ph1, S1, M1, x1, hs1, w1⟩ => ?_⟩
    refine ⟨ph1, S1, r1, M1, _, hs1, turn m r1 M1 w1, fun b H2 ⟨ph2, S2, M2, x2, hs2, z⟩ => ?_⟩
    cases b with
    | false =>
      rw [if_neg Bool.false_ne_true] at z ⊢
      exact h1 _ _ ⟨r1, ph2, S2, M2, x1.trans x2, hs2, z⟩
    | true =>
      rw [if_pos rfl] at z ⊢
      refine ⟨fun σ' H' => ∃ m', m' < m ∧ postN X.K ph S (W m') σ' H', fun _ _ q => q, ?_⟩
      exact lf_on (x1.trans x2) hs2 z (fun σ' H' ⟨r', ph', S', M', x', hs', m', hm, w'⟩ => ⟨m', hm, r', ph', S', M', x', hs', w'⟩) h2 h1 (fun σ' H' ⟨r', ph', S', M', x', hs', m', hm, w'⟩ => ⟨m', hm, r', ph', S', M', x', hs', w'⟩)
end
/-! ### what is walked -/
/-- J walks the items ds, while C holds of the cells -/
def Wlk (K : PySem.W.Frag) (ph : Ph) (S : Hp) (J : It) (ds : List D) (C : Mem → Prop) : Prop :=
  ∀ (ph' : Ph) S' r M σ H, (∀ (k : Nat) (a : Addr), ph.cells[k]? = some a → ph'.cells[k]? = some a) → Same S S' → Sat K ph' S' r M σ H → C M →
    (∀ i, ds.length ≤ i → J.stop i H) ∧ ∀ i d, ds[i]? = some d → J.go i H ∧ ∀ x H', J.yld i H x H' → Aft K ph' S' r σ H' fun ph2 S2 M2 => M2 = M ∧ Rep K ph2 S2 x d
abbrev DTI := Env → Mem → (List D → (Mem → Prop) → Mem → Prop) → Prop
structure DI (X : Cx) (tg iter : Expr) (t : DTI) : Prop where
  pi : PI X tg iter (fun σ H R => ∃ ph S r M Q0, Sat X.K ph S r M σ H ∧ t r M Q0 ∧ ∀ J H', (Aft X.K ph S r σ H' fun ph' S' M' => ∃ ds C, Wlk X.K ph' S' J ds C ∧ Q0 ds C M') → R J H')
/-- for: W holds ahead of turn i -/
def forW (ds : List D) (C : Mem → Prop) (g : DTG) (t : DTS) (E : DEnds) (r : Env) (M0 : Mem) : Prop := ∃ W : Nat → Env → Mem → Prop, W 0 r M0 ∧ ∀ i r M, W i r M → C M ∧ (ds.length ≤ i → E.nx r M) ∧
  ∀ d, ds[i]? = some d → g d r M fun r2 M2 => t { E with nx := W (i + 1), ct := W (i + 1), bk := E.nx } r2 M2
def dFor (wi : DTI) (g : DTG) (t : DTS) : DTS := fun E r M => wi r M fun ds C M0 => forW ds C g t E r M0
theorem ds_for {tg iter : Expr} {body : List Stmt} {wi : DTI} {g : DTG} {t : DTS} {pos : Pos} (hc : X.calm = true) (hi : DI X tg iter wi) (hg : DG X tg g) (hb : DSs X body t)
    (hs : ∀ x, foldedSetIterable iter X.env x = pure x := by intro _; rfl) (hp : PassesOwn (model X.prog X.w) X.A X.env X.xe := by exact PassesOwn.never) : DS X (.For tg iter body [] pos) (dFor wi g t) :=
  DS.of (ps_for hp hc hi.pi hg.pg hb.pss hs) fun ph S r M σ H E hs ht E' h1 h2 h3 h4 => by
    refine ⟨ph, S, r, M, _, hs, ht, fun J H1 ⟨ph1, S1, M1, x1, hs1, ds, C, wk, W, w0, turn⟩ => ?_⟩
    refine ⟨fun i m σ H => m = ds.length - i ∧ ∃ r', Aft X.K ph1 S1 r' σ H fun _ _ M => W i r' M, ⟨ds.length, by omega, r, Aft.here hs1 w0⟩, ?_⟩
    rintro i m σ3 H3 ⟨rfl, r3, ph3, S3, M3, x3, hs3, w3⟩
    obtain ⟨c3, f3, g3⟩ := turn i r3 M3 w3
    obtain ⟨k1, k2⟩ := wk ph3 S3 r3 M3 σ3 H3 x3.pre x3.same hs3 c3
    by_cases hl : ds.length ≤ i
    · exact .inl ⟨k1 i hl, h1 _ _ ⟨r3, ph3, S3, M3, x1.trans x3, hs3, f3 hl⟩⟩
    · obtain ⟨d, ed⟩ : ∃ d, ds[i]? = some d := ⟨ds[i]'(by omega), List.getElem?_eq_getElem (by omega)⟩
      obtain ⟨k3, k4⟩ := k2 i d ed
      refine .inr ⟨k3, fun σ' H' => ∃ r', Aft X.K ph1 S1 r' σ' H' fun _ _ M => W (i + 1) r' M, fun σ' H' z => ⟨ds.length - (i + 1), by omega, rfl, z⟩, fun x H4 hy => ?_⟩
      obtain ⟨ph4, S4, M4, x4, hs4, rfl, q4⟩ := k4 x H4 hy
      refine ⟨ph4, S4, r3, M4, d, _, hs4, q4, g3 d ed, fun σ5 H5 ⟨r5, ph5, S5, M5, x5, hs5, z5⟩ => ?_⟩
      have xx : Ext ph1 S1 ph5 S5 := x3.trans (x4.trans x5)
      refine ⟨ph5, S5, r5, M5, _, hs5, z5, ?_, ?_, ?_, ?_⟩
      · exact fun σ6 H6 ⟨r6, z6⟩ => ⟨r6, Aft.up xx z6⟩
      · exact fun v H6 z6 => h2 _ _ (z6.up (x1.trans xx))
      · exact fun σ6 H6 z6 => h1 _ _ (z6.up (x1.trans xx))
      · exact fun σ6 H6 ⟨r6, z6⟩ => ⟨r6, Aft.up xx z6⟩
/-! ### comprehensions -/
/-- the tests behind if -/
def dYes : DTT := fun _ M Q => Q true M
structure DTs (X : Cx) (ifs : List Expr) (t : DTT) : Prop where
  pts : PTs X ifs (fun σ H Q => ∃ ph S r M Q0, Sat X.K ph S r M σ H ∧ t r M Q0 ∧ ∀ b H', postT X.K ph S r σ Q0 b H' → Q b H')
theorem dts_nil : DTs X [] dYes := ⟨⟨fun pins s σ H Q I ⟨ph, S, r, M, Q0, hs, ht, hq⟩ => pts_nil.run pins s σ H Q I (hq _ _ (Aft.here hs ht))⟩⟩
theorem dts_one {c : Expr} {t : DTT} (h : DT X c t) : DTs X [c] t := ⟨pts_one h.pt⟩
def wipeD (r : Env) : List Nat → Env
  | [] => r
  | v :: vs => (wipeD r vs).set v none
theorem Sat.clr {K : PySem.W.Frag} {ph : Ph} {S : Hp} {r : Env} {M : Mem} {σ : St} {H : Hp} (h : Sat K ph S r M σ H) (i : Nat) : Sat K ph S (r.set i none) M (σ.set i none) H := by
  refine ⟨h.sub, h.len, h.nd, h.trk, h.cell, h.hid, h.hnd, by rw [List.length_set, List.length_set]; exact h.el, fun j e hj => ?_⟩
  by_cases hi : j = i
  · subst hi
    have jl : j < r.length := by
      have := (List.getElem?_eq_some_iff.mp hj).1
      rwa [List.length_set] at this
    rw [List.getElem?_set_self jl] at hj
    cases hj
  · rw [List.getElem?_set_ne (Ne.symm hi)] at hj
    rw [List.getElem?_set_ne (Ne.symm hi)]
    exact h.env j e hj
theorem Sat.wipe {K : PySem.W.Frag} {ph : Ph} {S : Hp} {r : Env} {M : Mem} {σ : St} {H : Hp} (h : Sat K ph S r M σ H) : ∀ vs : List Nat, Sat K ph S (wipeD r vs) M (L2.wipe σ vs) H
  | [] => h
  | v :: vs => (Sat.wipe h vs).clr v
/-- a target whose names are the comprehension's own (places vs) -/
structure DCG (X : Cx) (target : Expr) (vs : List Nat) (g : DTG) : Prop where
  pg : PG X target (fun v σ H Q => ∃ ph S r M d Q0, Sat X.K ph S r M σ H ∧ Rep X.K ph S v d ∧ g d r M Q0 ∧ ∀ σ' H', postN X.K ph S Q0 σ' H' → L2.wipe σ' vs = L2.wipe σ vs → Q σ' H')
theorem wipe_set {σ : St} {i : Nat} {x : Option V} : ∀ {vs : List Nat}, i ∈ vs → L2.wipe (σ.set i x) vs = L2.wipe σ vs
  | [], h => by cases h
  | v :: vs, h => by
    unfold L2.wipe
    by_cases hv : i ∈ vs
    · rw [wipe_set hv]
    · have e : i = v := (List.mem_cons.mp h).resolve_right hv
      subst e
      have key : ∀ (us : List Nat), i ∉ us → L2.wipe (σ.set i x) us = (L2.wipe σ us).set i x := by
        intro us
        induction us with
        | nil => intro _; rfl
        | cons u us ih =>
          intro hu
          unfold L2.wipe
          rw [ih (fun z => hu (List.mem_cons_of_mem _ z)), List.set_comm _ _ (fun e => hu (by rw [e]; exact List.mem_cons_self))]
      rw [key vs hv, List.set_set]
theorem dcg_name {i : Nat} {x : Str} {pos : Pos} {vs : List Nat} (hN : X.N.Nodup) (hi : X.N[i]? = some x := by rfl) (hv : i ∈ vs := by decide) (hx : Loc X.env.scope x := by first | exact Or.inl rfl | exact Or.inr rfl) (hf : X.fn x = true ∨ X.env.scope.names.lookup x = some .local := by first | exact .inl rfl | exact .inr rfl | assumption) : DCG X (.Name x pos) vs (dName i) :=
  ⟨⟨fun pins s σ H v u Q I rv ⟨ph, S, r, M, d, Q0, hs, q, hg, h1⟩ => (pg_name hN hi hx hf).run pins s σ H v u Q I rv (h1 _ _ ⟨_, Aft.here (hs.setN q) hg⟩ (wipe_set hv))⟩⟩
/-- [e for target in iter if ..]: W holds ahead of turn i with the items made so far; own: the list will be changed -/
def lcW (own : Bool) (ds : List D) (C : Mem → Prop) (g : DTG) (tt : DTT) (te : DTE) (r : Env) (M0 : Mem) (Q : DQ) : Prop := ∃ W : Nat → List D → Mem → Prop, W 0 [] M0 ∧ ∀ i acc M, W i acc M → C M ∧
  (ds.length ≤ i → if own = true then Q (.own M.length) (M ++ [.lst acc]) else Q (.lst acc) M) ∧
  ∀ d, ds[i]? = some d → g d r M fun r2 M2 => tt r2 M2 fun b M3 => if b = true then te r2 M3 fun e M4 => acc.length < sizeLine ∧ W (i + 1) (acc ++ [e]) M4 else W (i + 1) acc M3
def dLc (own : Bool) (wi : DTI) (g : DTG) (tt : DTT) (te : DTE) (vs : List Nat) : DTE := fun r M Q => wi r M fun ds C M0 => lcW own ds C g tt te (wipeD r vs) M0 Q
theorem wipe_at {σ : St} {i : Nat} : ∀ {vs : List Nat}, i ∈ vs → i < σ.length → (L2.wipe σ vs)[i]? = some none
  | [], h, _ => by cases h
  | v :: vs, h, hl => by
    unfold L2.wipe
    by_cases e : v = i
    · subst e
      rw [List.getElem?_set_self (by rw [wipe_length]; exact hl)]
    · rw [List.getElem?_set_ne e]
      exact wipe_at ((List.mem_cons.mp h).resolve_left (fun z => e z.symm)) hl
theorem wipe_wipe (σ : St) (vs : List Nat) : L2.wipe (L2.wipe σ vs) vs = L2.wipe σ vs := by
  refine List.ext_getElem? fun i => ?_
  by_cases hi : i ∈ vs
  · by_cases hl : i < σ.length
    · rw [wipe_at hi (by rw [wipe_length]; exact hl), wipe_at hi hl]
    · rw [List.getElem?_eq_none (by rw [wipe_length, wipe_length]; omega), List.getElem?_eq_none (by rw [wipe_length]; omega)]
  · rw [wipe_out hi]
theorem lc_read (o : Bool) {wi : DTI} {g : DTG} {tt : DTT} {te : DTE} {vs : List Nat} {ph : Ph} {S : Hp} {r : Env} {M : Mem} {σ : St} {H : Hp} {Q : DQ} (hs : Sat X.K ph S r M σ H) (ht : dLc o wi g tt te vs r M Q) (Q' : VK) (hq : ∀ v H', post X.K ph S r σ Q v H' → Q' v H') :
    tLc (fun σ H R => ∃ ph S r M Q0, Sat X.K ph S r M σ H ∧ wi r M Q0 ∧ ∀ J H', (Aft X.K ph S r σ H' fun ph' S' M' => ∃ ds C, Wlk X.K ph' S' J ds C ∧ Q0 ds C M') → R J H')
      (fun v σ H Q => ∃ ph S r M d Q0, Sat X.K ph S r M σ H ∧ Rep X.K ph S v d ∧ g d r M Q0 ∧ ∀ σ' H', postN X.K ph S Q0 σ' H' → L2.wipe σ' vs = L2.wipe σ vs → Q σ' H')
      (fun σ H Q => ∃ ph S r M Q0, Sat X.K ph S r M σ H ∧ tt r M Q0 ∧ ∀ b H', postT X.K ph S r σ Q0 b H' → Q b H')
      (fun σ H Q => ∃ ph S r M Q0, Sat X.K ph S r M σ H ∧ te r M Q0 ∧ ∀ v H', post X.K ph S r σ Q0 v H' → Q v H') vs σ H Q' := by
  refine ⟨ph, S, r, M, _, hs, ht, fun J H1 ⟨ph1, S1, M1, x1, hs1, ds, C, wk, W, w0, turn⟩ => ?_⟩
  intro p hp
  refine ⟨fun i m H => m = ds.length - i ∧ ∃ (ph2 : Ph) (S2 : Hp) (M2 : Mem) (xs : List V) (acc : List D), Ext ph1 S1 ⟨ph2.cells, ph1.hid⟩ S2 ∧ ph2.hid = (p, .lst xs) :: ph1.hid ∧ Sat X.K ph2 S2 r M2 σ H ∧ RepAll X.K ph2 S2 xs acc ∧ W i acc M2,
    ⟨ds.length, by omega, { ph1 with hid := (p, .lst []) :: ph1.hid }, S1, M1, [], [], .refl, rfl, hs1.hide hp _, .nil, w0⟩, ?_⟩
  rintro i m H3 ⟨rfl, ph3, S3, M3, xs, acc, x3, eh, hs3, qa, w3⟩
  obtain ⟨c3, f3, g3⟩ := turn i acc M3 w3
  obtain ⟨k1, k2⟩ := wk ph3 S3 r M3 σ H3 x3.pre x3.same hs3 c3
  by_cases hl : ds.length ≤ i
  · refine .inl ⟨k1 i hl, ?_⟩
    have f := f3 hl
    obtain ⟨c, hd⟩ := ph3
    cases eh
    cases o with
    | false =>
      rw [if_neg Bool.false_ne_true] at f
      obtain ⟨x4, hs4⟩ := hs3.hfrz
      exact hq _ _ ⟨⟨c, ph1.hid⟩, _, M3, x1.trans (x3.trans x4), hs4, _, .lst upd_same ((RepAll.hid qa).up x4), f⟩
    | true =>
      rw [if_pos rfl] at f
      obtain ⟨x4, hs4, e4⟩ := hs3.hown (RepAll.hid qa)
      exact hq _ _ ⟨⟨c ++ [p], ph1.hid⟩, _, _, x1.trans (x3.trans x4), hs4, _, .own e4, f⟩
  · obtain ⟨d, ed⟩ : ∃ d, ds[i]? = some d := ⟨ds[i]'(by omega), List.getElem?_eq_getElem (by omega)⟩
    obtain ⟨k3, k4⟩ := k2 i d ed
    refine .inr ⟨k3, fun H' => ∃ (ph2 : Ph) (S2 : Hp) (M2 : Mem) (xs : List V) (acc : List D), Ext ph1 S1 ⟨ph2.cells, ph1.hid⟩ S2 ∧ ph2.hid = (p, .lst xs) :: ph1.hid ∧ Sat X.K ph2 S2 r M2 σ H' ∧ RepAll X.K ph2 S2 xs acc ∧ W (i + 1) acc M2, fun H' z => ⟨ds.length - (i + 1), by omega, rfl, z⟩, fun x H4 hy => ?_⟩
    obtain ⟨ph4, S4, M4, x4, hs4, rfl, q4⟩ := k4 x H4 hy
    refine ⟨ph4, S4, wipeD r vs, M4, d, _, hs4.wipe vs, q4, g3 d ed, fun σ5 H5 ⟨r5, ph5, S5, M5, x5, hs5, z5⟩ e5 => ⟨e5.trans (wipe_wipe σ vs), ?_⟩⟩
    refine ⟨ph5, S5, r5, M5, _, hs5, z5, fun b H6 ⟨ph6, S6, M6, x6, hs6, z6⟩ => ?_⟩
    cases b with
    | false =>
      have xx := x4.trans (x5.trans x6)
      rw [if_neg Bool.false_ne_true] at z6 ⊢
      exact ⟨ph6, S6, M6, xs, acc, ⟨fun k a e => xx.pre k a (x3.pre k a e), x3.same.trans xx.same, rfl⟩, xx.hid.trans eh, hs3.back xx hs6.drop, qa.up xx, z6⟩
    | true =>
      rw [if_pos rfl] at z6 ⊢
      refine ⟨ph6, S6, r5, M6, _, hs6, z6, fun v H7 ⟨ph7, S7, M7, x7, hs7, e, q7, hlt, w7⟩ => ?_⟩
      have xx := x4.trans (x5.trans (x6.trans x7))
      have eh7 : ph7.hid = (p, .lst xs) :: ph1.hid := xx.hid.trans eh
      obtain ⟨c, hd⟩ := ph7
      cases eh7
      have hb : Sat X.K ⟨c, (p, .lst xs) :: ph1.hid⟩ S7 r M7 σ H7 := hs3.back xx hs7.drop
      obtain ⟨g1, _, _⟩ := hb.hid _ List.mem_cons_self
      refine ⟨xs, g1, by rw [qa.len]; exact hlt, ⟨c, (p, .lst (xs ++ [v])) :: ph1.hid⟩, S7, M7, xs ++ [v], acc ++ [e], ⟨fun k a e => xx.pre k a (x3.pre k a e), x3.same.trans xx.same, rfl⟩, rfl, hb.hset, ?_, w7⟩
      exact (RepAll.hid (qa.up xx)).app (.cons (Rep.hid q7) .nil)
theorem de_lc (o : Bool) {elt tg iter : Expr} {ifs : List Expr} {scope : Scope} {own : List (Str × Nat)} {pos : Pos} {wi : DTI} {g : DTG} {tt : DTT} {te : DTE} (hc : X.calm = true) (hN : X.N.Nodup) (ok : BlkOk X.N X.env.scope scope own) (hi : DI X tg iter wi)
    (hg : ∀ (s : Shared) (H : Hp) (C : Addr) (cl : List (Str × Addr)) (fp : List Addr), DCG (X.blk s H scope (compEnvC scope cl C X.env) fp) tg (own.map (·.2)) g)
    (ht : ∀ (s : Shared) (H : Hp) (C : Addr) (cl : List (Str × Addr)) (fp : List Addr), DTs (X.blk s H scope (compEnvC scope cl C X.env) fp) ifs tt)
    (he : ∀ (s : Shared) (H : Hp) (C : Addr) (cl : List (Str × Addr)) (fp : List Addr), DE (X.blk s H scope (compEnvC scope cl C X.env) fp) elt te)
    (hs : ∀ x, foldedSetIterable iter X.env x = pure x := by intro _; rfl) : DE X (.ListComp elt [⟨tg, iter, ifs, 0⟩] scope pos) (dLc o wi g tt te (own.map (·.2))) :=
  DE.of (pe_lc hc hN hi.pi ok (fun s H C cl fp => (hg s H C cl fp).pg) (fun s H C cl fp => (ht s H C cl fp).pts) (fun s H C cl fp => (he s H C cl fp).pe) hs) fun ph S r M σ H Q hs ht Q' hq => lc_read (X := X) o hs ht Q' hq
end DL
/-! DL7: what is walked; built-ins; methods; slices; repr -/
namespace DL
open PySem PySem.Spec PyProof.Rows L2
variable {X : Cx}
/-! ### what is walked -/
theorem Wlk.list {K : PySem.W.Frag} {ph : Ph} {S : Hp} {a : Addr} {ds : List D} {C : Mem → Prop} (h : ∀ (ph' : Ph) (S' : Hp) (r : Env) (M : Mem) (σ : St) (H : Hp), (∀ (k : Nat) (a : Addr), ph.cells[k]? = some a → ph'.cells[k]? = some a) → Same S S' → Sat K ph' S' r M σ H → C M → ∃ xs, SqL K H a xs ∧ RepAll K ph' S' xs ds) : Wlk K ph S (Itl K a) ds C :=
  fun ph' S' r M σ H h1 h2 hs hc => by
    obtain ⟨xs, q, qa⟩ := h ph' S' r M σ H h1 h2 hs hc
    refine ⟨fun i hi => ⟨xs, q, by rw [qa.len]; exact hi⟩, fun i d e => ?_⟩
    obtain ⟨x, ex, qx⟩ := qa.get e
    refine ⟨⟨xs, x, q, ex⟩, fun y H' ⟨e1, e2⟩ => ?_⟩
    subst e1
    have ey := e2 xs q
    rw [ex] at ey
    cases ey
    exact Aft.here hs ⟨rfl, qx⟩
theorem Wlk.tup {K : PySem.W.Frag} {ph : Ph} {S : Hp} {a : Addr} {ds : List D} {C : Mem → Prop} (h : ∀ (ph' : Ph) (S' : Hp) (r : Env) (M : Mem) (σ : St) (H : Hp), (∀ (k : Nat) (a : Addr), ph.cells[k]? = some a → ph'.cells[k]? = some a) → Same S S' → Sat K ph' S' r M σ H → C M → ∃ xs, SqT K H a xs ∧ RepAll K ph' S' xs ds) : Wlk K ph S (Itt K a) ds C :=
  fun ph' S' r M σ H h1 h2 hs hc => by
    obtain ⟨xs, q, qa⟩ := h ph' S' r M σ H h1 h2 hs hc
    refine ⟨fun i hi => ⟨xs, q, by rw [qa.len]; exact hi⟩, fun i d e => ?_⟩
    obtain ⟨x, ex, qx⟩ := qa.get e
    refine ⟨⟨xs, x, q, ex⟩, fun y H' ⟨e1, e2⟩ => ?_⟩
    subst e1
    have ey := e2 xs q
    rw [ex] at ey
    cases ey
    exact Aft.here hs ⟨rfl, qx⟩
theorem RepAll.ext0 {K : PySem.W.Frag} {ph ph' : Ph} {S S' : Hp} {d : List D} {v : List V} (h1 : ∀ (k : Nat) (a : Addr), ph.cells[k]? = some a → ph'.cells[k]? = some a) (h2 : Same S S') (q : RepAll K ph S v d) : RepAll K ph' S' v d :=
  RepAll.hid (c := ph'.cells) (l := ph.hid) (l' := ph'.hid) (q.up (ph' := ⟨ph'.cells, ph.hid⟩) ⟨h1, h2, rfl⟩)
/-- a list, a tuple, the script -/
def gSeqI (d : D) (M : Mem) (R : List D → (Mem → Prop) → Mem → Prop) : Prop := match d with
  | .lst ds => R ds (fun _ => True) M
  | .tup ds => R ds (fun _ => True) M
  | .scr ns => R (ns.map D.int) (fun _ => True) M
  | .own k => match M[k]? with
    | some (.lst ds) => R ds (fun M' => M'[k]? = some (.lst ds)) M
    | _ => False
  | _ => False
def dSeqI (t : DTE) : DTI := fun r M R => t r M fun d M1 => gSeqI d M1 R
/-- it is a list at a, or a tuple -/
theorem pi_seq {tg l : Expr} {tl : TE} (hl : PE X l tl) : PI X tg l (fun σ H R => tl σ H fun x H1 => ∃ a, x = .ref a ∧ (((∃ xs, SqL X.K H1 a xs) ∧ R (Itl X.K a) H1) ∨ ((∃ xs, SqT X.K H1 a xs) ∧ R (Itt X.K a) H1))) := by
  refine ⟨fun pins s σ H R I h => thn (hl.run pins s σ H _ I h) fun v s1 ⟨x, H1, I1, r1, a, ex, q1⟩ => ?_⟩
  subst ex
  cases r1
  have fp : ∀ b ∈ [s1.heap.objs.size], FpOk X pins H1 b := fun b hb => by
    have e : b = s1.heap.objs.size := by simpa using hb
    rw [e]
    exact I1.fpOk (Nat.le_refl _) (I1.hok.fresh (Nat.le_refl _))
  rcases q1 with ⟨⟨xs, hq⟩, q⟩ | ⟨⟨xs, hq⟩, q⟩
  · obtain ⟨its, rv, p, hz⟩ := I1.list hq
    exact wpAny_pyIter_list p.isList ⟨s1.heap.objs.size, [s1.heap.objs.size], _, _, H1, rfl, I1.kept (t' := s1.toks) fun b o e => Heap.get?_push_of_some _ e, turn_list a _, ⟨_, Heap.get?_push_size _ rfl, rfl, rfl⟩, fp, q⟩
  · obtain ⟨its, rv, p, hz⟩ := I1.tuple hq
    exact wpAny_pyIter_tuple (show s1.heap.IsTuple a its.toArray from p) ⟨s1.heap.objs.size, [s1.heap.objs.size], _, _, H1, rfl, I1.kept (t' := s1.toks) fun b o e => Heap.get?_push_of_some _ e, turn_tuple a _, ⟨_, Heap.get?_push_size _ rfl, rfl, rfl⟩, fp, q⟩
theorem PI.weak {tg l : Expr} {t t' : TI} (h : PI X tg l t) (w : ∀ σ H R, t' σ H R → t σ H R) : PI X tg l t' := ⟨fun pins s σ H R I q => h.run pins s σ H R I (w _ _ _ q)⟩
theorem di_seq {tg l : Expr} {t : DTE} (h : DE X l t) : DI X tg l (dSeqI t) :=
  ⟨PI.weak (pi_seq h.pe) fun σ H R ⟨ph, S, r, M, Q0, hs, ht, hq⟩ => ⟨ph, S, r, M, _, hs, ht, fun v H1 ⟨ph1, S1, M1, x1, hs1, d, q1, g1⟩ => by
    cases d <;> first | exact g1.elim | skip
    · cases q1 with
      | tup h1 h2 => exact ⟨_, rfl, .inr ⟨⟨_, SqT.of (hs1.sub _ _ h1)⟩, hq _ _ ⟨ph1, S1, M1, x1, hs1, _, _, Wlk.tup (fun ph' S' r' M' σ' H' e1 e2 hs' _ => ⟨_, SqT.of (hs'.sub _ _ (e2 _ _ h1)), h2.ext0 e1 e2⟩), g1⟩⟩⟩
    · cases q1 with
      | lst h1 h2 => exact ⟨_, rfl, .inl ⟨⟨_, SqL.of (hs1.sub _ _ h1)⟩, hq _ _ ⟨ph1, S1, M1, x1, hs1, _, _, Wlk.list (fun ph' S' r' M' σ' H' e1 e2 hs' _ => ⟨_, SqL.of (hs'.sub _ _ (e2 _ _ h1)), h2.ext0 e1 e2⟩), g1⟩⟩⟩
    · cases q1 with
      | scr h1 => exact ⟨_, rfl, .inl ⟨⟨_, hs1.sub.seq h1⟩, hq _ _ ⟨ph1, S1, M1, x1, hs1, _, _, Wlk.list (fun ph' S' r' M' σ' H' e1 e2 hs' _ => ⟨_, hs'.sub.seq (e2.seq h1), RepAll.ints _⟩), g1⟩⟩⟩
    · rename_i k
      cases q1 with
      | own h1 =>
        replace g1 : gSeqI (.own k) M1 Q0 := g1
        unfold gSeqI at g1
        dsimp only at g1
        split at g1
        · rename_i ds hk
          obtain ⟨a, xs, c1, c2, c3, c4⟩ := hs1.cell k ds hk
          rw [h1] at c1; cases c1
          refine ⟨_, rfl, .inl ⟨⟨_, SqL.of c3⟩, hq _ _ ⟨ph1, S1, M1, x1, hs1, _, _, Wlk.list (fun ph' S' r' M' σ' H' e1 e2 hs' hc => ?_), g1⟩⟩⟩
          obtain ⟨a', xs', b1, b2, b3, b4⟩ := hs'.cell k ds hc
          rw [e1 _ _ h1] at b1; cases b1
          exact ⟨xs', SqL.of b3, b4⟩
        · exact g1.elim⟩⟩
/-- lo, lo + 1, .. -/
def rng (lo : Int) (n : Nat) : List D := (List.range n).map fun i => D.int (lo + (i : Nat))
theorem rng_len (lo : Int) (n : Nat) : (rng lo n).length = n := by unfold rng; rw [List.length_map, List.length_range]
theorem rng_get {lo : Int} {n i : Nat} {d : D} : (rng lo n)[i]? = some d ↔ i < n ∧ d = .int (lo + (i : Nat)) := by
  unfold rng
  rw [List.getElem?_map]
  constructor
  · intro e
    cases h : (List.range n)[i]? with
    | none => rw [h] at e; cases e
    | some j =>
      rw [h] at e
      obtain ⟨h1, h2⟩ := List.getElem?_eq_some_iff.mp h
      rw [List.length_range] at h1
      rw [List.getElem_range] at h2
      exact ⟨h1, by rw [h2]; exact (Option.some.inj e).symm⟩
  · rintro ⟨h1, rfl⟩
    rw [List.getElem?_eq_getElem (by rw [List.length_range]; exact h1), List.getElem_range]
    rfl
theorem Wlk.range {K : PySem.W.Frag} {ph : Ph} {S : Hp} {lo : Int} {n : Nat} {C : Mem → Prop} : Wlk K ph S (Itr lo n) (rng lo n) C := fun ph' S' r M σ H h1 h2 hs hc => by
  refine ⟨fun i hi => by rw [rng_len] at hi; exact hi, fun i d e => ?_⟩
  obtain ⟨hi, rfl⟩ := rng_get.mp e
  refine ⟨hi, fun x H' ⟨e1, e2⟩ => ?_⟩
  subst e1 e2
  exact Aft.here hs ⟨rfl, .int _⟩
def Rg (i : Int) : Prop := -(2 ^ 62) ≤ i ∧ i < 2 ^ 62
def gRng1 (ds : List D) (M : Mem) (R : List D → (Mem → Prop) → Mem → Prop) : Prop := match ds with
  | [.int n] => Rg n ∧ R (rng 0 n.toNat) (fun _ => True) M
  | _ => False
def gRng2 (ds : List D) (M : Mem) (R : List D → (Mem → Prop) → Mem → Prop) : Prop := match ds with
  | [.int a, .int b] => (Rg a ∧ Rg b) ∧ R (rng a (b - a).toNat) (fun _ => True) M
  | _ => False
def dRngI (g : List D → Mem → (List D → (Mem → Prop) → Mem → Prop) → Prop) (t : DTA) : DTI := fun r M R => t r M fun ds M1 => g ds M1 R
theorem di_range1 {tg a : Expr} {t : DTA} {p pos : Pos} (hm : X.mg "range" = none) (ha : DA X [a] t) (hg : Gl X "range" := by rfl) (hst : starEach [a] X.env = [(false, eval a X.env)] := by rfl) : DI X tg (.Call (.Name "range" p) [a] [] pos) (dRngI gRng1 t) :=
  ⟨PI.weak (pi_range1 hg hm ha.pa hst) fun σ H R ⟨ph, S, r, M, Q0, hs, ht, hq⟩ => ⟨ph, S, r, M, _, hs, ht, fun vs H1 ⟨ph1, S1, M1, x1, hs1, ds, q1, g1⟩ => by
    match ds, q1, g1 with
    | [.int n], .cons q .nil, ⟨⟨h1, h2⟩, g⟩ =>
      cases q
      exact ⟨n, rfl, h1, h2, hq _ _ ⟨ph1, S1, M1, x1, hs1, _, _, Wlk.range, g⟩⟩⟩⟩
theorem di_range2 {tg a b : Expr} {t : DTA} {p pos : Pos} (hm : X.mg "range" = none) (ha : DA X [a, b] t) (hg : Gl X "range" := by rfl) (hst : starEach [a, b] X.env = [(false, eval a X.env), (false, eval b X.env)] := by rfl) (hs2 : starEach [b] X.env = [(false, eval b X.env)] := by rfl) : DI X tg (.Call (.Name "range" p) [a, b] [] pos) (dRngI gRng2 t) :=
  ⟨PI.weak (pi_range2 hg hm ha.pa hst hs2) fun σ H R ⟨ph, S, r, M, Q0, hs, ht, hq⟩ => ⟨ph, S, r, M, _, hs, ht, fun vs H1 ⟨ph1, S1, M1, x1, hs1, ds, q1, g1⟩ => by
    match ds, q1, g1 with
    | [.int a, .int b], .cons q (.cons q' .nil), ⟨⟨⟨h1, h2⟩, h3, h4⟩, g⟩ =>
      cases q
      cases q'
      exact ⟨a, b, rfl, ⟨h1, h2, h3, h4⟩, hq _ _ ⟨ph1, S1, M1, x1, hs1, _, _, Wlk.range, g⟩⟩⟩⟩
/-! ### calls of what is built in -/
abbrev GA := List D → Mem → DQ → Prop
def CallD (X : Cx) (f : Value) (g : GA) : Prop :=
  ∀ (pins : List (Addr × Obj)) (s : Shared) (σ : St) (H : Hp) (ph : Ph) (S : Hp) (r : Env) (M : Mem) (vs : List V) (us : List Value) (ds : List D) (Q : DQ), Inv X pins σ H s → Sat X.K ph S r M σ H → Vals vs us → RepAll X.K ph S vs ds → g ds M Q →
    wpAny (model X.prog X.w) X.A (call f us) (EP X pins σ (post X.K ph S r σ Q)) X.xe s
theorem CallD.of {f : Value} {r' : List V → Hp → VK → Prop} {g : GA} (h : CallR X f r')
    (w : ∀ (σ : St) (H : Hp) (ph : Ph) (S : Hp) (r : Env) (M : Mem) (vs : List V) (ds : List D) (Q : DQ), Sat X.K ph S r M σ H → RepAll X.K ph S vs ds → g ds M Q → r' vs H (post X.K ph S r σ Q)) : CallD X f g :=
  fun pins s σ H ph S r M vs us ds Q I hs rv q hg => h pins s σ H vs us _ I rv (w σ H ph S r M vs ds Q hs q hg)
def dCB (g : GA) (t : DTA) : DTE := fun r M Q => t r M fun ds M1 => g ds M1 Q
section
variable {x : Str} {p pos : Pos} {e : Expr} {es : List Expr} {t : DTA} {id T : String} {g : GA}
theorem de_blt (hc : CallD X (.builtin id) g) (hm : X.mg x = none) (ha : DA X (e :: es) t) (hv : bootBuiltins x = some (.builtin id) := by decide +kernel) (hg : Gl X x := by rfl) (hn : x ≠ "__name__" := by decide) (hdb : (x == ("__debug__" : Str)) = false := by decide)
    (he : starEach (e :: es) X.env = (false, eval e X.env) :: starEach es X.env := by rfl) (hpl : (backTo pos (starEach es X.env)).any (·.1) = false := by rfl) : DE X (.Call (.Name x p) (e :: es) [] pos) (dCB g t) :=
  ⟨⟨fun pins s σ H Q I ⟨ph, S, r, M, Q0, hs, ht, hq⟩ => wpAny_Call_Name_kw (ld_blt I hg hm hv (PyProof.Rows.callWith_builtin1 (thn (ha.pa.run pos pins s σ H _ I ⟨ph, S, r, M, _, hs, ht, fun _ _ z => z⟩)
    fun us s1 ⟨vs, H1, I1, r1, ph1, S1, M1, x1, hs1, ds, q1, g1⟩ => thn (hc pins s1 σ H1 ph1 S1 r M1 vs us ds Q0 I1 hs1 r1 q1 g1) fun _ _ z => EP.up x1 z hq) he hpl) hn hdb)⟩⟩
theorem de_ty (hc : CallD X (.type T) g) (hm : X.mg x = none) (ha : DA X (e :: es) t) (hv : bootBuiltins x = some (.type T) := by decide +kernel) (hg : Gl X x := by rfl) (hn : x ≠ "__name__" := by decide) (hdb : (x == ("__debug__" : Str)) = false := by decide)
    (he : starEach (e :: es) X.env = (false, eval e X.env) :: starEach es X.env := by rfl) (hpl : (backTo pos (starEach es X.env)).any (·.1) = false := by rfl) : DE X (.Call (.Name x p) (e :: es) [] pos) (dCB g t) :=
  ⟨⟨fun pins s σ H Q I ⟨ph, S, r, M, Q0, hs, ht, hq⟩ => wpAny_Call_Name_kw (ld_blt I hg hm hv (PyProof.Rows.callWith_type1 (thn (ha.pa.run pos pins s σ H _ I ⟨ph, S, r, M, _, hs, ht, fun _ _ z => z⟩)
    fun us s1 ⟨vs, H1, I1, r1, ph1, S1, M1, x1, hs1, ds, q1, g1⟩ => thn (hc pins s1 σ H1 ph1 S1 r M1 vs us ds Q0 I1 hs1 r1 q1 g1) fun _ _ z => EP.up x1 z hq) he hpl) hn hdb)⟩⟩
/-- a built-in name as a value -/
theorem de_bltn {v : V} {u : Value} (hm : X.mg x = none) (r : RelV v u) (hv : bootBuiltins x = some u := by decide +kernel) (hg : Gl X x := by rfl) (hn : x ≠ "__name__" := by decide) (hd : (x == ("__debug__" : Str)) = false := by decide) : DE X (.Name x pos) (dC (.val v)) :=
  de_c (pe_bltn hg hm hv r hn hd) fun _ _ => .val _
end
def gAbs : GA := fun ds M Q => match ds with
  | [.int i] => Q (.int (if i < 0 then -i else i)) M
  | _ => False
theorem cd_abs : CallD X (.builtin "abs") gAbs := CallD.of call_abs fun σ H ph S r M vs ds Q hs q hg => by
  match ds, q, hg with
  | [.int i], .cons q .nil, hg => cases q; exact ⟨_, rfl, Aft.here hs ⟨_, .int _, hg⟩⟩
def gInt : GA := fun ds M Q => match ds with
  | [.int i] => Q (.int i) M
  | [.bl b] => Q (.int (if b then 1 else 0)) M
  | _ => False
theorem cd_int : CallD X (.type "int") gInt := CallD.of call_int1 fun σ H ph S r M vs ds Q hs q hg => by
  match ds, q, hg with
  | [.int i], .cons q .nil, hg => cases q; exact .inl ⟨_, rfl, Aft.here hs ⟨_, .int _, hg⟩⟩
  | [.bl i], .cons q .nil, hg => cases q; exact .inr ⟨_, rfl, Aft.here hs ⟨_, .int _, hg⟩⟩
def gMax : GA := fun ds M Q => match ds with
  | [.int i, .int j] => Q (.int (if j > i then j else i)) M
  | _ => False
theorem cd_max (hc : X.calm = true) : CallD X (.builtin "max") gMax := CallD.of (call_max2 hc) fun σ H ph S r M vs ds Q hs q hg => by
  match ds, q, hg with
  | [.int i, .int j], .cons q (.cons q' .nil), hg => cases q; cases q'; exact ⟨_, _, rfl, Aft.here hs ⟨_, .int _, hg⟩⟩
def gMin : GA := fun ds M Q => match ds with
  | [.int i, .int j] => Q (.int (if j < i then j else i)) M
  | _ => False
def gGcd : GA := fun ds M Q => match ds with
  | [.int i, .int j] => Q (.int (Int.gcd i j)) M
  | _ => False
/-- the length of a list, a tuple, a text -/
def lenD (M : Mem) : D → Option Nat
  | .lst l => some l.length
  | .tup l => some l.length
  | .scr l => some l.length
  | .own k => match M[k]? with
    | some (.lst l) => some l.length
    | _ => none
  | .str x => if x.length ≤ sizeLine then some x.length else none
  | _ => none
def gLen : GA := fun ds M Q => match ds with
  | [d] => match lenD M d with
    | some n => Q (.int n) M
    | none => False
  | _ => False
theorem len_V {K : PySem.W.Frag} {ph : Ph} {S : Hp} {r : Env} {M : Mem} {σ : St} {H : Hp} {v : V} {d : D} {n : Nat} (hs : Sat K ph S r M σ H) (q : Rep K ph S v d) (e : lenD M d = some n) : LenV K v H n := by
  cases d <;> first | (cases e; done) | skip
  · rename_i x
    cases q
    have e' : (if x.length ≤ sizeLine then some x.length else none) = some n := e
    by_cases h : x.length ≤ sizeLine
    · rw [if_pos h] at e'
      exact ⟨h, (Option.some.inj e').symm⟩
    · rw [if_neg h] at e'; cases e'
  · cases q with
    | tup h1 h2 => exact .inr ⟨_, SqT.of (hs.sub _ _ h1), by rw [h2.len]; exact (Option.some.inj e).symm⟩
  · cases q with
    | lst h1 h2 => exact .inl ⟨_, SqL.of (hs.sub _ _ h1), by rw [h2.len]; exact (Option.some.inj e).symm⟩
  · cases q with
    | scr h1 => exact .inl ⟨_, hs.sub.seq h1, by rw [List.length_map]; exact (Option.some.inj e).symm⟩
  · rename_i k
    cases q with
    | own h1 =>
      unfold lenD at e
      dsimp only at e
      split at e
      · rename_i l hk
        obtain ⟨a, xs, c1, c2, c3, c4⟩ := hs.cell k l hk
        rw [h1] at c1; cases c1
        exact .inl ⟨_, SqL.of c3, by rw [c4.len]; exact (Option.some.inj e).symm⟩
      · cases e
theorem cd_len : CallD X (.builtin "len") gLen := CallD.of call_len fun σ H ph S r M vs ds Q hs q hg => by
  match ds, q, hg with
  | [d], .cons q .nil, hg =>
    unfold gLen at hg
    dsimp only at hg
    split at hg
    · rename_i n e
      exact ⟨_, n, rfl, len_V hs q e, Aft.here hs ⟨_, .int _, hg⟩⟩
    · exact hg.elim
/-- the ints of a list of ints -/
def intsD : List D → Option (List Int)
  | [] => some []
  | .int i :: ds => match intsD ds with
    | some is => some (i :: is)
    | none => none
  | _ :: _ => none
theorem intsD_rep {K : PySem.W.Frag} {ph : Ph} {S : Hp} : ∀ {vs : List V} {ds : List D} {is : List Int}, RepAll K ph S vs ds → intsD ds = some is → vs = is.map V.int
  | _, [], _, .nil, e => by cases e; rfl
  | _, d :: ds, is, .cons q t, e => by
    cases d <;> first | (cases e; done) | skip
    unfold intsD at e
    split at e
    · rename_i is' e'
      cases e
      cases q
      rw [intsD_rep t e']; rfl
    · cases e
def gSum : GA := fun ds M Q => match ds with
  | [d] => match res M d with
    | .lst l => match intsD l with
      | some is => Q (.int is.sum) M
      | none => False
    | .scr ns => Q (.int ns.sum) M
    | _ => False
  | _ => False
theorem cd_sum (hc : X.calm = true) : CallD X (.builtin "sum") gSum := CallD.of (cr_sum hc) fun σ H ph S r M vs ds Q hs q hg => by
  match ds, q, hg with
  | [d], .cons q .nil, hg =>
    unfold gSum at hg
    dsimp only at hg
    split at hg
    · rename_i l e
      split at hg
      · rename_i is e2
        obtain ⟨a, xs, rfl, h1, h2⟩ := res_lst hs q e
        exact ⟨a, is, rfl, by rw [← intsD_rep h2 e2]; exact SqL.of h1, Aft.here hs ⟨_, .int _, hg⟩⟩
      · exact hg.elim
    · rename_i ns e
      cases res_scr e
      cases q with
      | scr h1 => exact ⟨_, ns, rfl, hs.sub.seq h1, Aft.here hs ⟨_, .int _, hg⟩⟩
    · exact hg.elim
/-- isinstance(x, T), T a built-in class -/
def tyD : D → Option String
  | .non => some "NoneType"
  | .bl _ => some "bool"
  | .int _ => some "int"
  | .str _ => some "str"
  | .tup _ => some "tuple"
  | .lst _ => some "list"
  | .dct0 => some "dict"
  | _ => none
def tyM (M : Mem) : D → Option String
  | .own k => match M[k]? with
    | some (.lst _) => some "list"
    | _ => none
  | d => tyD d
def gIsi : GA := fun ds M Q => match ds with
  | [d, .val (.ty n)] => match tyM M d with
    | some T => match kitB T n with
      | some b => Q (.bl b) M
      | none => False
    | none => False
  | _ => False
theorem ty_V {K : PySem.W.Frag} {ph : Ph} {S : Hp} {r : Env} {M : Mem} {σ : St} {H : Hp} {v : V} {d : D} {T : String} (hs : Sat K ph S r M σ H) (q : Rep K ph S v d) (e : tyM M d = some T) : TyX K H v (.type T) := by
  cases d <;> first | (cases e; done) | skip
  · cases q; cases e; exact .base .non
  · cases q; cases e; exact .base (.bl _)
  · cases q; cases e; exact .base (.int _)
  · cases q; cases e; exact .base (.str _)
  · cases q with
    | tup h1 h2 => cases e; exact .base (.tup (hs.sub _ _ h1))
  · cases q with
    | lst h1 h2 => cases e; exact .base (.lst (hs.sub _ _ h1))
  · cases q with
    | dct0 h1 => cases e; exact .base (.dK (hs.sub _ _ h1))
  · rename_i k
    cases q with
    | own h1 =>
      unfold tyM at e
      dsimp only at e
      split at e
      · rename_i l hk
        cases e
        obtain ⟨a, xs, c1, c2, c3, c4⟩ := hs.cell k l hk
        rw [h1] at c1; cases c1
        exact .base (.lst c3)
      · cases e
theorem cd_isi : CallD X (.builtin "isinstance") gIsi := CallD.of call_isi fun σ H ph S r M vs ds Q hs q hg => by
  match ds, q, hg with
  | [d, .val (.ty n)], .cons q (.cons q' .nil), hg =>
    unfold gIsi at hg
    dsimp only at hg
    split at hg
    · rename_i T e
      split at hg
      · rename_i b eb
        cases q'
        exact ⟨_, _, _, _, b, rfl, .ty n, ty_V hs q e, kit_ty eb, Aft.here hs ⟨_, .bl _, hg⟩⟩
      · exact hg.elim
    · exact hg.elim
/-- n.bit_length() -/
def gBits (d : D) (M : Mem) (Q : DQ) : Prop := match d with
  | .int i => Q (.int (Builtin.Int.intBits i : Nat)) M
  | _ => False
def dBits (t : DTE) : DTE := fun r M Q => t r M fun d M1 => gBits d M1 Q
theorem de_bits {o : Expr} {t : DTE} {apos pos : Pos} (ho : DE X o t) (hbase : attributeBase o "bit_length" X.env (eval o X.env) = eval o X.env := by rfl) (hline : (apos.endLine == pos.line) = true := by rfl) : DE X (.Call (.Attribute o "bit_length" apos) [] [] pos) (dBits t) :=
  DE.of (pe_bits ho.pe hbase hline) fun ph S r M σ H Q hs ht Q' hq => ⟨ph, S, r, M, _, hs, ht, fun v H1 ⟨ph1, S1, M1, x1, hs1, d, q1, g1⟩ => by
    cases d <;> first | exact g1.elim | skip
    cases q1
    exact ⟨_, rfl, hq _ _ ⟨ph1, S1, M1, x1, hs1, _, .int _, g1⟩⟩⟩
/-! ### methods of lists -/
def gAppend (o : D) (ds : List D) (M : Mem) (Q : DQ) : Prop := match o, ds with
  | .own k, [d] => match M[k]? with
    | some (.lst l) => l.length < sizeLine ∧ Q .non (M.set k (.lst (l ++ [d])))
    | _ => False
  | _, _ => False
def dMet (g : D → List D → Mem → DQ → Prop) (to : DTE) (t : DTA) : DTE := fun r M Q => to r M fun o M1 => (∃ k l, o = .own k ∧ M1[k]? = some (.lst l)) ∧ t r M1 fun ds M2 => g o ds M2 Q
theorem de_append {o e : Expr} {to : DTE} {t : DTA} {apos cpos : Pos} (ho : DE X o to) (ha : DA X [e] t) (h1 : attributeBase o "append" X.env (eval o X.env) = eval o X.env := by rfl)
    (h2 : (((backTo cpos (starEach [e] X.env)).all fun x => !x.1) && (backToKw cpos (keywordEach [] X.env)).all (fun x => x.1.isSome) && decide (([e] : List Expr).length + ([] : List Keyword).length + (if ([] : List Keyword).isEmpty then 0 else 1) < 30)) = true := by rfl) (h3 : (apos.endLine == cpos.line) = true := by rfl)
    (h4 : starEach [e] X.env = (false, eval e X.env) :: starEach [] X.env := by rfl) (h5 : (backTo cpos (starEach [] X.env)).any (·.1) = false := by rfl) : DE X (.Call (.Attribute o "append" apos) [e] [] cpos) (dMet gAppend to t) :=
  DE.of (pe_bm PySem.F.plainAttrs_list PySem.F.slot_list_append PySem.F.type_list_append mt_append ho.pe ha.pa h1 h2 h3 h4 h5) fun ph S r M σ H Q hs ht Q' hq => ⟨ph, S, r, M, _, hs, ht, fun v H1 ⟨ph1, S1, M1, x1, hs1, d, q1, ⟨k, l, e1, ek⟩, g1⟩ => by
    subst e1
    cases q1 with
    | own hp =>
      obtain ⟨a, xs, c1, c2, c3, c4⟩ := hs1.cell k l ek
      rw [hp] at c1; cases c1
      refine ⟨.inl ⟨rfl, _, SqL.of c3⟩, ph1, S1, r, M1, _, hs1, g1, fun vs H2 ⟨ph2, S2, M2, x2, hs2, ds, q2, g2⟩ => ?_⟩
      match ds, q2, g2 with
      | [d], .cons q3 .nil, g2 =>
        replace g2 : gAppend (.own k) [d] M2 Q := g2
        unfold gAppend at g2
        dsimp only at g2
        split at g2
        · rename_i l2 hk2
          have hp2 := x2.pre _ _ hp
          obtain ⟨a2, xs2, d1, d2, d3, d4⟩ := hs2.cell k l2 hk2
          rw [hp2] at d1; cases d1
          exact ⟨_, xs2, _, rfl, rfl, d3, by rw [d4.len]; exact g2.1, hq _ _ ⟨ph2, S2, _, x1.trans x2, hs2.put hk2 hp2 (d4.app (.cons q3 .nil)), _, .non, g2.2⟩⟩
        · exact g2.elim⟩
/-! ### slices -/
def cutD (l : List D) (lo hi : Option Int) : List D := List.take (HT.sIx l.length l.length hi - HT.sIx l.length 0 lo) (List.drop (HT.sIx l.length 0 lo) l)
abbrev DTO := Env → Mem → (Option Int → Mem → Prop) → Prop
structure DO (X : Cx) (e : Option Expr) (t : DTO) : Prop where
  po : PO X e (fun σ H Q => ∃ ph S r M Q0, Sat X.K ph S r M σ H ∧ t r M Q0 ∧ ∀ o H', (Aft X.K ph S r σ H' fun _ _ M' => Q0 o M') → Q o H')
def dPart (t : DTE) : DTO := fun r M Q => t r M fun d M1 => match d with
  | .int i => Q (some i) M1
  | _ => False
def dNoPart : DTO := fun _ M Q => Q none M
theorem do_some {e : Expr} {t : DTE} (h : DE X e t) : DO X (some e) (dPart t) :=
  ⟨⟨fun pins s σ H Q I ⟨ph, S, r, M, Q0, hs, ht, hq⟩ => (po_some h.pe).run pins s σ H Q I ⟨ph, S, r, M, _, hs, ht, fun v H1 ⟨ph1, S1, M1, x1, hs1, d, q1, g1⟩ => by
    cases d <;> first | exact g1.elim | skip
    cases q1
    exact ⟨_, rfl, hq _ _ ⟨ph1, S1, M1, x1, hs1, g1⟩⟩⟩⟩⟩
theorem do_none : DO X none dNoPart := ⟨⟨fun pins s σ H Q I ⟨ph, S, r, M, Q0, hs, ht, hq⟩ => po_none.run pins s σ H Q I (hq _ _ (Aft.here hs ht))⟩⟩
/-- l[a:b], a list -/
def gSlL (own : Bool) (d : D) (lo hi : Option Int) (M : Mem) (Q : DQ) : Prop := match res M d with
  | .lst l => if own = true then Q (.own M.length) (M ++ [.lst (cutD l lo hi)]) else Q (.lst (cutD l lo hi)) M
  | .scr ns => if own = true then Q (.own M.length) (M ++ [.lst (cutD (ns.map D.int) lo hi)]) else Q (.lst (cutD (ns.map D.int) lo hi)) M
  | _ => False
def dSl (g : D → Option Int → Option Int → Mem → DQ → Prop) (t : DTE) (tl th : DTO) : DTE := fun r M Q => t r M fun d M1 => tl r M1 fun lo M2 => th r M2 fun hi M3 => g d lo hi M3 Q
theorem cut_rep {K : PySem.W.Frag} {ph : Ph} {S : Hp} {xs : List V} {l : List D} {lo hi : Option Int} (q : RepAll K ph S xs l) : RepAll K ph S (cutV xs lo hi) (cutD l lo hi) := by
  unfold cutV cutD
  rw [q.len]
  exact (q.drop _).take _
theorem de_slL (own : Bool) {e : Expr} {lo hi : Option Expr} {t : DTE} {tl th : DTO} {pos p2 : Pos} (h : DE X e t) (h1 : DO X lo tl) (h2 : DO X hi th) : DE X (.Subscript e (.Slice lo hi none p2) pos) (dSl (gSlL own) t tl th) :=
  DE.of (pe_slice sl_list h.pe h1.po h2.po) fun ph S r M σ H Q hs ht Q' hq => ⟨ph, S, r, M, _, hs, ht, fun v H1 ⟨ph1, S1, M1, x1, hs1, d, q1, g1⟩ =>
    ⟨ph1, S1, r, M1, _, hs1, g1, fun lo H2 ⟨ph2, S2, M2, x2, hs2, g2⟩ => ⟨ph2, S2, r, M2, _, hs2, g2, fun hi H3 ⟨ph3, S3, M3, x3, hs3, g3⟩ => by
      replace g3 : gSlL own d lo hi M3 Q := g3
      have xx := x1.trans (x2.trans x3)
      have q3 := q1.up (x2.trans x3)
      unfold gSlL at g3
      split at g3
      · rename_i l er
        obtain ⟨p, xs, rfl, hp, hx⟩ := res_lst hs3 q3 er
        refine ⟨p, xs, rfl, SqL.of hp, fun b hb => ?_⟩
        cases own with
        | false => exact hq _ _ (Aft.up xx (Aft.frz hs3 hb fun x => ⟨_, .lst upd_same ((cut_rep hx).up x), g3⟩))
        | true => exact hq _ _ (Aft.up xx (Aft.own hs3 hb (cut_rep hx) g3))
      · rename_i ns er
        cases res_scr er
        cases q3 with
        | scr h1 =>
          refine ⟨_, _, rfl, hs3.sub.seq h1, fun b hb => ?_⟩
          cases own with
          | false => exact hq _ _ (Aft.up xx (Aft.frz hs3 hb fun x => ⟨_, .lst upd_same (cut_rep (RepAll.ints _)), g3⟩))
          | true => exact hq _ _ (Aft.up xx (Aft.own hs3 hb (cut_rep (RepAll.ints _)) g3))
      · exact g3.elim⟩⟩⟩
/-! ### repr -/
/-- data whose repr may be told -/
def shwn (d : D) : Option Str := match toPy d with
  | some p => if p.showable = true ∧ p.depth ≤ 64 ∧ p.shown.length ≤ sizeLine ∧ p.hasDict = false then some p.shown else none
  | none => none
def gRepr : GA := fun ds M Q => match ds with
  | [d] => match shwn (res M d) with
    | some z => Q (.str z) M
    | none => False
  | _ => False
theorem shown_flat {p : PyData} {u : Value} {h : Heap} {as : List Addr} (r : Reads h u p as) (hn : ∀ a, u ≠ .ref a) {A : Around} {P : Program} {w : World} {E : Value → Shared → Prop} {s : Shared} {Q : Value → Shared → Prop} (hs : p.showable = true) (hz : p.shown.length ≤ sizeLine)
    (q : ∀ tk tk', Q (.str p.shown tk) { s with toks := tk' }) : wpAny (model P w) A (call (.builtin "repr") [u]) Q E s := by
  cases r with
  | none => exact PySem.P.repr_of_none (q _ _)
  | bool b => exact PySem.P.repr_of_bool (q _ _)
  | int i t => exact PySem.P.repr_of_int (of_decide_eq_true hs) (q _ _)
  | str x t => exact PySem.P.repr_of_str (q _ _) hz
  | list _ _ _ _ => exact absurd rfl (hn _)
  | tuple _ _ _ _ => exact absurd rfl (hn _)
  | dict _ _ _ _ _ => exact absurd rfl (hn _)
end DL
/-! DL8: calls with keywords alone; a def for its callers; the end of a law -/
namespace DL
open PySem PySem.Spec PyProof.Rows L2
section
variable {X : Cx}
theorem PK.weak {kws : List Keyword} {t t' : TA} (h : PK X kws t) (w : ∀ σ H Q, t' σ H Q → t σ H Q) : PK X kws t' := ⟨fun pos pins s σ H Q I q => h.run pos pins s σ H Q I (w _ _ _ q)⟩
/-- the values by place -/
def pick {α : Type} (l : List Nat) (xs : List α) : List α := l.filterMap fun i => xs[i]?
def dCallK (m n : Nat) (sp : DSp) (l : List Nat) (E : DX) (t : DTA) : DTE := fun r M Q => t r M fun ds M1 => ds.length = m ∧ (pick l ds).length = n ∧ sp (pick l ds) M1 Q E
variable {k : Nat} {ps ks : List Str} {sp : DSp} {x : Str} {p pos : Pos} {kws : List Keyword} {t : DTA}
end
/-! ### a def, made known to its callers -/
theorem Def.mk' {P : Program} {w : World} {K : PySem.W.Frag} {mg : Str → Option Value} {base : Heap} {k : Nat} {x : Str} {st : Stmt} {ps : List Str} {sp : DSp} {f : Addr} {fd : FuncData} (F : Fun K x x st f fd) (h : FnD P w K mg base CX0 k f fd ps sp) (hm : mg x = some (.ref f)) (hb : Binds K fd ps []) : Def P w K mg base CX0 k x st ps sp :=
  ⟨f, fd, h, hm, F.kp, hb, F⟩
/-- a def that stands in the module -/
structure Here (K : PySem.W.Frag) (mg : Str → Option Value) (x : Str) (st : Stmt) (ps : List Str) : Prop where
  ex : ∃ (f : Addr) (fd : FuncData), Fun K x x st f fd ∧ mg x = some (.ref f) ∧ Binds K fd ps []
theorem here_of {K : PySem.W.Frag} {h : Heap} {mg : Str → Option Value} {x : Str} {st : Stmt} {ps : List Str} {f : Addr} {oc : Value} {od an : Option Addr} {osl : Array (Option Value)} {kV doc pm cdv ct : Value} (X : K.In h) (G : h.Ns mainGlobals mg)
    (a : PySem.W.nsIn K mainGlobals x = some (some (.ref f))) (l : K.lookup f = some ⟨oc, od, .func (PySem.W.fnOf x x (defArgs st) (defBody st) (defScope st) .none kV doc pm an cdv ct), osl⟩) (c : PySem.W.codeIn K cdv x = true) (k : PySem.W.keepIn K (.ref f) = true)
    (hb : ∀ (kV doc pm : Value) (an : Option Addr) (cdv ct : Value) (us : List Value), us.length = ps.length → bindArgs (PySem.W.fnOf x x (defArgs st) (defBody st) (defScope st) .none kV doc pm an cdv ct) ⟨us, []⟩ = pure (ps.zip us)) : Here K mg x st ps :=
  ⟨f, _, fun_mk (st := st) l c k, PySem.W.mg_of X G a, (fun_mk (st := st) l c k).binds hb⟩
section
variable {P : Program} {w : World} {K : PySem.W.Frag} {mg : Str → Option Value} {base : Heap}
/-- THE RULE for a def of the module -/
theorem Here.ok {x : Str} {st : Stmt} {N ps : List Str} {k : Nat} {sp : DSp} {t : DTS} (F : Here K mg x st ps) (S : FnScope N ps (defScope st))
    (hder : ∀ (f : Addr) (cdv : Value) (A : Around) (outer : List PySem.Env) (s : Shared) (H : Hp) (E : XK), Room k (A.deeper (envOfC x (defScope st) s.heap.objs.size f cdv)) → (A.deeper (envOfC x (defScope st) s.heap.objs.size f cdv)).guards = some [] →
      DSs (cxOf CX0 P w K mg base N x (defScope st) f cdv A outer s H E).nox (defBody st) t)
    (hread : ∀ ds M Q, ds.length = ps.length → sp ds M Q DX0 → t (dEnds M Q) (startD N.length ds) M)
    (hX : ∀ ds M Q E, sp ds M Q E → sp ds M Q DX0 := by exact fun _ _ _ _ h => h) : Def P w K mg base CX0 (k + 1) x st ps sp :=
  let ⟨f, fd, h1, h2, h3⟩ := F.ex
  Def.mk' h1 (Fun.okD h1 S (hder f) hread hX) h2 h3
end
/-! ### the end of a law -/
def spLaw : DSp := fun ds M Q _ => M = [] ∧ (∃ ns, ds = [.scr ns]) ∧ Q (.bl true) []
theorem law_callG {P : Program} {w : World} {K : PySem.W.Frag} {mg mb : Str → Option Value} {k : Nat} {fa a : Addr} {fd : FuncData} {x : Str} {s1 : Shared} {vs : List Value} {ns : List Int}
    (KX : K.In s1.heap) (hns : s1.heap.Ns mainGlobals mg) (hb : s1.heap.Ns builtinsNs mb) (hbb : ∀ x : Str, x ≠ "__name__" → mb x = bootBuiltins x) (hlim : s1.heap.NoLimit) (hg : s1.gens = #[])
    (ha : s1.heap.get? a = some { cls := .type "list", data := .seq vs.toArray }) (hi : IntsAre vs ns) (hl : ns.length ≤ sizeLine) (hr : Room k callerA)
    (F : ∀ base : Heap, K.In base → base.Ns mainGlobals mg → FnD P w K mg base CX0 k fa fd [x] spLaw) (hbind : ∀ (s : Shared) (u : Value), BindsTo s fd ⟨[u], []⟩ [(x, u)]) :
    codeAny (model P w) callerA (.call (.ref fa) ⟨[.ref a], []⟩) (fun r s' => r = .ok (.ret (.bool true)) ∧ OldK s1.heap s'.heap ∧ s'.os = s1.os ∧ AllBare s'.gens) s1 := by
  have rv := vals_ints hi
  have lenV := hi.length
  have core : ∀ H : Hp, Only H → SqL K H a (ns.map V.int) → HOk P w H s1.heap → (∀ b, H b ≠ none → b = a) → (H a ≠ none → K.lookup a = none) →
      codeAny (model P w) callerA (.call (.ref fa) ⟨[.ref a], []⟩) (fun r s' => r = .ok (.ret (.bool true)) ∧ OldK s1.heap s'.heap ∧ s'.os = s1.os ∧ AllBare s'.gens) s1 := by
    intro H hO hS hok hA hK
    have at_ : ∀ {b : Addr}, H b ≠ none → b = a := fun {b} z => hA b z
    have noA : ∀ {b : Addr} {o : Obj} {es : Array DictEntry} {ep : Nat}, s1.heap.get? b = some o → o.data = .dict es ep → H b = none := fun {b o es ep} e d => by
      by_cases z : H b = none
      · exact z
      · have e' := at_ z
        rw [e', ha] at e
        rw [← Option.some.inj e] at d
        exact nomatch d
    have nsK : ∀ {b : Addr} {m : Str → Option Value}, s1.heap.Ns b m → (hidT s1.heap H).Ns b m := fun {b m} ⟨o, es, ep, e, d, r⟩ => ⟨o, es, ep, hidT_get e (noA e d), d, r⟩
    have hKb : K.In (hidT s1.heap H) := fun b o e => hidT_get (KX b o e) (by
      by_cases z : H b = none
      · exact z
      · have e' := at_ z
        rw [e'] at e z
        rw [hK z] at e
        cases e)
    have hM : Mod K mg (hidT s1.heap H) := ⟨hKb, nsK hns, ⟨mb, nsK hb, hbb⟩, let ⟨mc, g1, g2⟩ := hlim; ⟨mc, nsK g1, g2⟩⟩
    have e0 : Env0 P w K mg (hidT s1.heap H) callerA [] s1 H := ⟨rfl, hM, fun b o e => of_hidT e, Nat.le_of_eq (hidT_size _ _), trivial, fun b hb => absurd (show b ∈ ([] : List Addr) from hb) (by simp), hok, .of_eq hg⟩
    have st0 : Sat K ⟨[], []⟩ H [] [] [] H := ⟨fun _ _ e => e, rfl, List.nodup_nil, fun k a e => by simp at e, fun k ds e => by simp at e, fun _ hp => (nomatch hp), List.nodup_nil, rfl, fun i d e => by simp at e⟩
    have sp0 : lfSp K 1 spLaw [.ref a] H (fun v _ => v = .bl true) E0 := ⟨⟨[], []⟩, H, [], [.scr ns], fun d M => d = .bl true, DX0, rfl, st0, .cons (.scr hS) .nil, ⟨rfl, ⟨ns, rfl⟩, rfl⟩, fun v H' ⟨_, _, _, _, _, d, q, e⟩ => by
      rw [e] at q
      cases q
      rfl, fun cls d H' ⟨_, _, _, _, _, _, _, _, _, _, _, _, _, _, _, _, z⟩ => z⟩
    refine codeAny_mono ((F _ hKb (nsK hns)).run callerA [] s1 H ⟨[.ref a], []⟩ [.ref a] [.ref a] _ _ hr rfl e0 (hbind s1 (.ref a)) (.cons rfl .nil) sp0) fun r s' h => ?_
    match r, h with
    | .error e, h => exact False.elim h
    | .ok .next, h => exact False.elim h
    | .ok .brk, h => exact False.elim h
    | .ok .cont, h => exact False.elim h
    | .ok (.ret u), ⟨v, H', os, bare, un, hok', r', q⟩ =>
      have q' : v = .bl true := q
      subst q'
      obtain rfl : u = Value.bool true := r'
      refine ⟨rfl, OldK.of_keep fun b o e => ?_, os, bare⟩
      rcases hO b with q | ⟨ob, xs, q⟩
      · exact un.keep b o e q (fun z => nomatch z) (fun z => nomatch z)
      · obtain ⟨e1, _⟩ := hok b _ q
        obtain ⟨e2, _⟩ := hok' b _ (un.frzs b ob _ q)
        rw [e] at e1
        cases e1
        exact e2
  cases hk : K.lookup a with
  | some o =>
    have e := KX a o hk
    rw [ha] at e
    cases e
    exact core (fun _ => none) (fun _ => .inl rfl) (.inr ⟨_, vs.toArray, _, hk, rfl, rfl, rfl, by rw [List.size_toArray, lenV]; exact hl, by simpa using rv⟩) (fun b u z => (nomatch z)) (fun b z => absurd rfl z) fun z => absurd rfl z
  | none =>
    refine core (fun b => if b = a then some (.frz { cls := .type "list", data := .seq vs.toArray } (.lst (ns.map V.int))) else none) (fun b => ?_) (.inl (.inr ⟨{ cls := .type "list", data := .seq vs.toArray }, if_pos rfl⟩)) (fun b u z => ?_) (fun b z => ?_) fun _ => hk
    · by_cases hb : b = a
      · exact .inr ⟨_, _, if_pos hb⟩
      · exact .inl (if_neg hb)
    · by_cases hb : b = a
      · have z := (if_pos hb).symm.trans z
        cases z
        rw [hb]
        exact ⟨ha, by rw [List.length_map]; exact hl, vs, _, rv, ha⟩
      · have z := (if_neg hb).symm.trans z
        cases z
    · by_cases hb : b = a
      · exact hb
      · exact absurd (if_neg hb) z
/-- the goal that k_head leaves -/
theorem walkD {l : PySem.W.OpenLaw} {n k : Nat} {q : Program} {loose : List Str} {XP : (Str → Option Value) → Heap → Prop} {YP : World → Heap → Prop} {d : DefRec} {K : Params → PySem.W.Frag} {x : Str} {st : Stmt}
    (hn : l.most = some n) (hn2 : n ≤ sizeLine) (hdf : d.params.defaults = []) (hr : Room k callerA) (hY : ∀ (w : World) (h : Heap), YP w h → (K w.params).In h)
    (F : ∀ (w : World) (mg : Str → Option Value) (h : Heap), (K w.params).In h → h.Ns mainGlobals mg → ∀ base : Heap, (K w.params).In base → base.Ns mainGlobals mg → Def l.prog w (K w.params) mg base CX0 k d.name st [x] spLaw)
    (hb : ∀ (kV doc pm : Value) (an : Option Addr) (cdv ct : Value) (u : Value), bindArgs (PySem.W.fnOf d.name d.name (defArgs st) (defBody st) (defScope st) .none kV doc pm an cdv ct) ⟨[u], []⟩ = pure [(x, u)]) :
    PySem.W.WalkO q loose XP YP l.row.toRowW d [] (fun f vs => PySem.call f vs) := by
  refine Att.attach_call hn hdf fun w s0 s1 mg mb fa o pm cd doc a vs ns G Y ho hd hcd hmg hobj hints hlen hg => ?_
  have KX := hY w _ Y
  obtain ⟨f0, fd, g1, g2, g3, g4, g5⟩ := (F w mg _ KX G.T.g _ KX G.T.g).ex
  have ef : f0 = fa := by
    rw [g2] at hmg
    exact Value.ref.inj (Option.some.inj hmg)
  subst ef
  obtain ⟨oc, od, kV, doc', pm', an, cdv, ct, osl, efd, lk, hcd'⟩ := g5.ex
  refine law_callG (fd := fd) (k := k) (x := x) KX G.T.g G.T.b G.T.builtins G.T.nolimit hg hobj hints (Nat.le_trans hlen hn2) hr (fun base h1 h2 => ?_) fun s u => ?_
  · obtain ⟨f1, fd1, k1, k2, k3, k4, k5⟩ := (F w mg _ KX G.T.g base h1 h2).ex
    have e1 : f1 = f0 := by
      rw [g2] at k2
      exact (Value.ref.inj (Option.some.inj k2)).symm
    subst e1
    obtain ⟨_, _, _, _, _, _, _, _, _, _, lk1, _⟩ := k5.ex
    rw [lk] at lk1
    have e2 : fd = fd1 := by
      have := Option.some.inj lk1
      injection this with _ _ z _
      exact Data.func.inj z
    rw [e2]
    exact k1
  · rw [efd]
    exact .of_eq (hb kV doc' pm' an cdv ct u)
end DL
/-! DL9: further rules; lemmas for readings -/
namespace DL
open PySem PySem.Spec PyProof.Rows L2
theorem u64 {A : Around} {k : Nat} (hr : Room k A) : A.units + 64 < cLine := hr.units
theorem u65 {A : Around} {k : Nat} (hr : Room k A) : A.units + 65 < cLine := by have := hr.un; omega
theorem ux {A : Around} {k : Nat} (hr : Room k A) : A.units + 200 < cLine := by have := hr.un; omega
section
variable {X : Cx}
/-- an owned list is handed on: it is changed no more -/
def gFrz (d : D) (M : Mem) (Q : DQ) : Prop := match d with
  | .own k => match M[k]? with
    | some (.lst l) => Q (.lst l) (M.set k .dead)
    | _ => False
  | d => Q d M
def dFrz (t : DTE) : DTE := fun r M Q => t r M fun d M1 => gFrz d M1 Q
theorem de_frz {e : Expr} {t : DTE} (h : DE X e t) : DE X e (dFrz t) :=
  DE.of h.pe fun ph S r M σ H Q hs ht Q' hq => ⟨ph, S, r, M, _, hs, ht, fun v H1 ⟨ph1, S1, M1, x1, hs1, d, q1, g1⟩ => by
    cases d with
    | own k =>
      replace g1 : gFrz (.own k) M1 Q := g1
      unfold gFrz at g1
      dsimp only at g1
      split at g1
      · rename_i l hk
        cases q1 with
        | own hp =>
          obtain ⟨a, xs, e1, x2, hs2, q2⟩ := hs1.freeze hk
          rw [hp] at e1
          cases e1
          exact hq _ _ ⟨ph1, _, _, x1.trans x2, hs2, _, q2, g1⟩
      · exact g1.elim
    | _ => exact hq _ _ ⟨ph1, S1, M1, x1, hs1, _, q1, g1⟩⟩
/-- a list, n times -/
def gMulL : G2 := fun x y M Q => match x, y with
  | .lst a, .int j => (-(2 ^ 63) ≤ j ∧ j < 2 ^ 63 ∧ a.length * j.toNat ≤ sizeLine) ∧ Q (.lst (List.flatten (List.replicate j.toNat a))) M
  | _, _ => False
end
variable {X : Cx}
/-! ### zip, enumerate -/
def pairD (x y : D) : D := .tup [x, y]
theorem RepAll.two {K : PySem.W.Frag} {ph : Ph} {S : Hp} {x y : V} {d e : D} (h : Rep K ph S x d) (g : Rep K ph S y e) : RepAll K ph S [x, y] [d, e] := .cons h (.cons g .nil)
theorem zip_get {l1 l2 : List D} {i : Nat} {d : D} (h : (List.zipWith pairD l1 l2)[i]? = some d) : ∃ x y, l1[i]? = some x ∧ l2[i]? = some y ∧ d = pairD x y := by
  rw [List.getElem?_zipWith] at h
  cases e1 : l1[i]? with
  | none => rw [e1] at h; cases h
  | some x =>
    cases e2 : l2[i]? with
    | none => rw [e1, e2] at h; cases h
    | some y =>
      rw [e1, e2] at h
      exact ⟨x, y, rfl, rfl, (Option.some.inj h).symm⟩
theorem Wlk.zip {K : PySem.W.Frag} {ph : Ph} {S : Hp} {a b : Addr} {d1 d2 : List D} {C1 C2 : Mem → Prop}
    (h1 : ∀ (ph' : Ph) (S' : Hp) (r' : Env) (M' : Mem) (σ' : St) (H' : Hp), (∀ (k : Nat) (a : Addr), ph.cells[k]? = some a → ph'.cells[k]? = some a) → Same S S' → Sat K ph' S' r' M' σ' H' → C1 M' → ∃ xs, SqL K H' a xs ∧ RepAll K ph' S' xs d1)
    (h2 : ∀ (ph' : Ph) (S' : Hp) (r' : Env) (M' : Mem) (σ' : St) (H' : Hp), (∀ (k : Nat) (a : Addr), ph.cells[k]? = some a → ph'.cells[k]? = some a) → Same S S' → Sat K ph' S' r' M' σ' H' → C2 M' → ∃ xs, SqL K H' b xs ∧ RepAll K ph' S' xs d2) :
    Wlk K ph S (Itz K a b) (List.zipWith pairD d1 d2) (fun M => C1 M ∧ C2 M) := fun ph' S' r M σ H e1 e2 hs hc => by
  obtain ⟨xs, q1, qa1⟩ := h1 ph' S' r M σ H e1 e2 hs hc.1
  obtain ⟨ys, q2, qa2⟩ := h2 ph' S' r M σ H e1 e2 hs hc.2
  refine ⟨fun i hi => ⟨xs, ys, q1, q2, by rw [qa1.len, qa2.len]; rw [List.length_zipWith] at hi; omega⟩, fun i d e => ?_⟩
  obtain ⟨x, y, ex, ey, rfl⟩ := zip_get e
  obtain ⟨u, eu, qu⟩ := qa1.get ex
  obtain ⟨w, ew, qw⟩ := qa2.get ey
  refine ⟨⟨xs, ys, u, w, q1, q2, eu, ew⟩, fun z H' ⟨T, u', w', ez, hT, eH, f1, f2⟩ => ?_⟩
  have e3 := f1 xs q1
  have e4 := f2 ys q2
  rw [eu] at e3; cases e3
  rw [ew] at e4; cases e4
  subst ez eH
  obtain ⟨x1, hs1⟩ := hs.frz hT (.tup [u, w])
  exact ⟨_, _, _, x1, hs1, rfl, .tup upd_same ((RepAll.two qu qw).up x1)⟩
end DL
namespace DL
open PySem PySem.Spec PyProof.Rows L2
def t_is_whole : DTS :=
 (dRet (dAndV (dCB gIsi (dCons (dVar 0) (dCons (dC (.val (.ty "int"))) dNil))) (dNotV (dCB gIsi (dCons (dVar 0) (dCons (dC (.val (.ty "bool"))) dNil))))))
def t_is_between (c_is_whole : DSp) : DTS :=
 (dRet (dAndV (dCall 1 c_is_whole [] DX0 (dCons (dVar 0) dNil)) (dAndV (dOp (gCmpI fun i j => decide (j ≤ i)) (dVar 0) (dVar 1)) (dOrV (dOp (gIs false) (dVar 2) (dC .non)) (dOp (gCmpI fun i j => decide (i ≤ j)) (dVar 0) (dVar 2))))))
def t_is_measure_by (c_is_between : DSp) : DTS :=
 (dRet (dAndV (dCall 3 c_is_between [] DX0 (dCons (dVar 0) (dCons (dC (.int 5)) (dCons (dC .non) dNil)))) (dOp (gIn false) (dOp (rBin CMod fun i j => i.fmod j) (dVar 0) (dC (.int 4))) (dLst (dCons (dC (.int 0)) (dCons (dC (.int 1)) dNil))))))
def t_root_floor_by : DTS :=
 (dSeq (dIfS (dTru (dOp (gCmpI fun i j => decide (i < j)) (dVar 0) (dC (.int 2)))) (dRet (dVar 0)) dNext)
 (dSeq (dAsg (dC (.int 1)) (dName 1))
 (dSeq (dWhile (dTru (dOp (gCmpI fun i j => decide (i ≤ j)) (dOp (rBin CMul fun i j => i * j) (dVar 1) (dVar 1)) (dVar 0))) (dAsg (dOp (rBin CMul fun i j => i * j) (dC (.int 2)) (dVar 1)) (dName 1)))
 (dSeq (dAsg (dOp (rBin CDiv fun i j => i.fdiv j) (dOp gAdd (dVar 1) (dOp (rBin CDiv fun i j => i.fdiv j) (dVar 0) (dVar 1))) (dC (.int 2))) (dName 2))
 (dSeq (dWhile (dTru (dOp (gCmpI fun i j => decide (i < j)) (dVar 2) (dVar 1))) (dPar 1 2 (dCons (dVar 2) (dCons (dOp (rBin CDiv fun i j => i.fdiv j) (dOp gAdd (dVar 2) (dOp (rBin CDiv fun i j => i.fdiv j) (dVar 0) (dVar 2))) (dC (.int 2))) dNil))))
 (dRet (dVar 1)))))))
def t_common_by : DTS :=
 (dSeq (dPar 2 3 (dCons (dCB gAbs (dCons (dVar 0) dNil)) (dCons (dCB gAbs (dCons (dVar 1) dNil)) dNil)))
 (dSeq (dWhile (dTru (dOp gNe (dVar 3) (dC (.int 0)))) (dPar 2 3 (dCons (dVar 3) (dCons (dOp (rBin CMod fun i j => i.fmod j) (dVar 2) (dVar 3)) dNil))))
 (dRet (dVar 2))))
def t_l_random_7821 (c_l_hash_9cde : DSp) : DTS :=
 (dSeq (dIfS (dTru (dOp (gCmpI fun i j => decide (j < i)) (dOp gIx (dVar 0) (dC (.int 0))) (dC (.int 0)))) (dSeq (dAsg (dOp (rBin CMod fun i j => i.fmod j) (dCB gInt (dCons (dOp gIx (dVar 0) (dC (.int 0))) dNil)) (dVar 1)) (dName 2))
 (dSeq (dAsg (dOp (rBin CDiv fun i j => i.fdiv j) (dOp gIx (dVar 0) (dC (.int 0))) (dVar 1)) (dSub (dVar 0) (dC (.int 0))))
 (dRet (dVar 2)))) dNext)
 (dSeq (dAsg (dC (.int 0)) (dName 2))
 (dSeq (dFor (dRngI gRng1 (dCons (dOp gAdd (dC (.int 1)) (dOp (rBin CDiv fun i j => i.fdiv j) (dBits (dVar 1)) (dC (.int 30)))) dNil)) (dName 3) (dSeq (dAsg (dOp gAdd (dOp gIx (dVar 0) (dC (.int 2))) (dC (.int 1))) (dSub (dVar 0) (dC (.int 2))))
 (dAsg (dOp gAdd (dOp (rBin CMul fun i j => i * j) (dVar 2) (dC (.int 2147483587))) (dCall 2 c_l_hash_9cde [] DX0 (dCons (dOp gIx (dVar 0) (dC (.int 1))) (dCons (dOp gIx (dVar 0) (dC (.int 2))) dNil)))) (dName 2))))
 (dRet (dOp (rBin CMod fun i j => i.fmod j) (dCB gInt (dCons (dVar 2) dNil)) (dVar 1))))))
def t_l_cell_cf3b : DTS :=
 (dSeq (dIfS (dTru (dOp (gCmpI fun i j => decide (i < j)) (dVar 1) (dCB gLen (dCons (dVar 0) dNil)))) (dRet (dOp gIx (dVar 0) (dVar 1))) dNext)
 (dRet (dOp (rBin CMod fun i j => i.fmod j) (dCB gSum (dCons (dSl (gSlL false) (dVar 0) dNoPart (dPart (dC (.int 1)))) dNil)) (dC (.int 1000003)))))
def t_l_generator_b324 (c_l_cell_cf3b : DSp) : DTS :=
 (dSeq (dAsg (dCall 2 c_l_cell_cf3b [] DX0 (dCons (dVar 0) (dCons (dVar 1) dNil))) (dName 2))
 (dRet (dOwn (dCons (dOp (rBin CMod fun i j => i.fmod j) (dCB gInt (dCons (dCB gMax (dCons (dOp (rBin (fun _ _ => True) fun i j => i - j) (dVar 2) (dOp (rBin CPow fun i j => i ^ j.toNat) (dC (.int 10)) (dC (.int 18)))) (dCons (dC (.int 0)) dNil))) dNil)) (dOp (rBin CPow fun i j => i ^ j.toNat) (dOp (rBin CPow fun i j => i ^ j.toNat) (dC (.int 10)) (dC (.int 60))) (dC (.int 10)))) (dCons (dOp (rBin CMod fun i j => i.fmod j) (dCB gInt (dCons (dVar 2) dNil)) (dC (.int 2147483647))) (dCons (dOp (rBin CMul fun i j => i * j) (dC (.int 1000)) (dVar 1)) dNil))))))
end DL
namespace DL
open PySem PySem.Spec PyProof.Rows L2
end DL
namespace DL
open PySem PySem.Spec PyProof.Rows L2
end DL
namespace DL
open PySem PySem.Spec PyProof.Rows L2
def t_l_hash_d8d1 : DTS :=
 (dSeq (dAsg (dOp (rBin CMod fun i j => i.fmod j) (dCB gInt (dCons (dOp gAdd (dOp gAdd (dOp gAdd (dOp (rBin CMul fun i j => i * j) (dVar 0) (dC (.int 1140671))) (dOp (rBin CMul fun i j => i * j) (dOp (rBin CMul fun i j => i * j) (dC (.int 27644437)) (dVar 1)) (dVar 1))) (dOp (rBin CMul fun i j => i * j) (dC (.int 131)) (dVar 1))) (dC (.int 19))) dNil)) (dC (.int 2147483629))) (dName 2))
 (dSeq (dAsg (dOp (rBin CMod fun i j => i.fmod j) (dCB gInt (dCons (dOp gAdd (dOp gAdd (dOp (rBin CMul fun i j => i * j) (dVar 2) (dVar 2)) (dOp (rBin CMul fun i j => i * j) (dC (.int 62089)) (dVar 1))) (dC (.int 32416187))) dNil)) (dC (.int 2147483587))) (dName 2))
 (dRet (dOp (rBin CMod fun i j => i.fmod j) (dCB gInt (dCons (dOp (rBin CMul fun i j => i * j) (dVar 2) (dC (.int 48271))) dNil)) (dC (.int 2147483647))))))
def t_l_common_7348 : DTS :=
 (dSeq (dPar 0 1 (dCons (dCB gAbs (dCons (dVar 0) dNil)) (dCons (dCB gAbs (dCons (dVar 1) dNil)) dNil)))
 (dSeq (dWhile (dTru (dOp gNe (dVar 1) (dC (.int 0)))) (dPar 0 1 (dCons (dVar 1) (dCons (dOp (rBin CMod fun i j => i.fmod j) (dCB gInt (dCons (dVar 0) dNil)) (dVar 1)) dNil))))
 (dRet (dVar 0))))
def t_l_is_cutting_19aa (c_l_common_7348 : DSp) : DTS :=
 (dSeq (dIfS (dOr (dTru (dOp (gCmpI fun i j => decide (i < j)) (dVar 1) (dC (.int 1)))) (dOr (dTru (dOp (gCmpI fun i j => decide (i < j)) (dVar 2) (dC (.int 1)))) (dOr (dTru (dOp (gCmpI fun i j => decide (j ≤ i)) (dOp gAdd (dVar 2) (dVar 3)) (dVar 1))) (dNot (dTru (dChain (gCmpI fun i j => decide (i ≤ j)) (gCmpI fun i j => decide (i < j)) (dC (.int 0)) (dVar 0) (dCall 2 c_l_common_7348 [] DX0 (dCons (dVar 1) (dCons (dVar 2) dNil))))))))) (dRet (dC (.bl false))) dNext)
 (dRet (dOp gEq (dCall 2 c_l_common_7348 [] DX0 (dCons (dCall 2 c_l_common_7348 [] DX0 (dCons (dVar 0) (dCons (dVar 1) dNil))) (dCons (dCall 2 c_l_common_7348 [] DX0 (dCons (dVar 2) (dCons (dVar 3) dNil))) dNil))) (dC (.int 1)))))
def t_is_cutting_by (c_is_whole : DSp) (c_common_by : DSp) : DTS :=
 (dSeq (dIfS (dOr (dNot (dTru (dCB gIsi (dCons (dVar 0) (dCons (dC (.val (.ty "tuple"))) dNil))))) (dOr (dTru (dOp gNe (dCB gLen (dCons (dVar 0) dNil)) (dC (.int 4)))) (dTru (dOp gNe (dLc false (dSeqI (dVar 0)) (dName 1) (dNot (dTru (dCall 1 c_is_whole [] DX0 (dCons (dVar 1) dNil)))) (dVar 1) [1]) (dLst dNil))))) (dRet (dC (.bl false))) dNext)
 (dSeq (dAsg (dVar 0) (dGTup 4 (dGCons (dName 2) (dGCons (dName 3) (dGCons (dName 4) (dGCons (dName 5) dGNil))))))
 (dSeq (dIfS (dOr (dTru (dOp (gCmpI fun i j => decide (i < j)) (dVar 3) (dC (.int 1)))) (dOr (dTru (dOp (gCmpI fun i j => decide (i < j)) (dVar 4) (dC (.int 1)))) (dNot (dTru (dOp (gCmpI fun i j => decide (i < j)) (dOp gAdd (dVar 4) (dVar 5)) (dVar 3)))))) (dRet (dC (.bl false))) dNext)
 (dSeq (dAsg (dCall 2 c_common_by [] DX0 (dCons (dVar 3) (dCons (dVar 4) dNil))) (dName 6))
 (dRet (dAndV (dChain (gCmpI fun i j => decide (i ≤ j)) (gCmpI fun i j => decide (i < j)) (dC (.int 0)) (dVar 2) (dVar 6)) (dOp gEq (dCall 2 c_common_by [] DX0 (dCons (dCall 2 c_common_by [] DX0 (dCons (dVar 2) (dCons (dVar 6) dNil))) (dCons (dVar 5) dNil))) (dC (.int 1)))))))))
def t_l_measure_919a : DTS :=
 (dRet (dOp gAdd (dOp (rBin CMul fun i j => i * j) (dOp gIx (dVar 0) (dC (.int 3))) (dOp gIx (dVar 0) (dC (.int 3)))) (dOp (rBin CMul fun i j => i * j) (dOp (rBin CMul fun i j => i * j) (dC (.int 4)) (dOp gIx (dVar 0) (dC (.int 1)))) (dOp gIx (dVar 0) (dC (.int 2))))))
def t_measure_by : DTS :=
 (dRet (dOp gAdd (dOp (rBin CMul fun i j => i * j) (dOp gIx (dVar 0) (dC (.int 3))) (dOp gIx (dVar 0) (dC (.int 3)))) (dOp (rBin CMul fun i j => i * j) (dOp (rBin CMul fun i j => i * j) (dC (.int 4)) (dOp gIx (dVar 0) (dC (.int 1)))) (dOp gIx (dVar 0) (dC (.int 2))))))
end DL
namespace DL
open PySem PySem.Spec PyProof.Rows L2
end DL
/-! DLS: sorted of ints, of tuples of ints -/
namespace DL
open PySem PySem.Spec PyProof.Rows L2
/-- by the first unlike number -/
def lexL : List Int → List Int → Bool
  | [], [] => false
  | [], _ :: _ => true
  | _ :: _, [] => false
  | x :: xs, y :: ys => if x = y then lexL xs ys else decide (x < y)
theorem lexL_asym : ∀ x y, lexL x y = true → lexL y x = false
  | [], [], h => by cases h
  | [], _ :: _, _ => rfl
  | _ :: _, [], h => by cases h
  | x :: xs, y :: ys, h => by
    unfold lexL at h ⊢
    by_cases e : x = y
    · rw [if_pos e] at h
      rw [if_pos e.symm]
      exact lexL_asym xs ys h
    · rw [if_neg e] at h
      rw [if_neg (Ne.symm e)]
      have := of_decide_eq_true h
      exact decide_eq_false (by omega)
theorem lexL_tr : ∀ x y z, lexL y x = false → lexL z y = false → lexL z x = false
  | [], [], z, _, h => h
  | [], _ :: _, [], _, h => by cases h
  | [], _ :: _, _ :: _, _, _ => rfl
  | _ :: _, [], _, h, _ => by cases h
  | _ :: _, _ :: _, [], _, h => by cases h
  | x :: xs, y :: ys, z :: zs, h1, h2 => by
    unfold lexL at h1 h2 ⊢
    by_cases e1 : y = x
    · rw [if_pos e1] at h1
      by_cases e2 : z = y
      · rw [if_pos e2] at h2
        rw [if_pos (e2.trans e1)]
        exact lexL_tr xs ys zs h1 h2
      · rw [if_neg e2] at h2
        rw [if_neg (fun z => e2 (z.trans e1.symm)), ← e1]
        exact h2
    · rw [if_neg e1] at h1
      have a1 := of_decide_eq_false h1
      by_cases e2 : z = y
      · rw [if_neg (fun z => e1 (e2.symm.trans z)), e2]
        exact h1
      · rw [if_neg e2] at h2
        have a2 := of_decide_eq_false h2
        rw [if_neg (by omega)]
        exact decide_eq_false (by omega)
theorem lexL_conn : ∀ x y, lexL x y = false → lexL y x = false → x = y
  | [], [], _, _ => rfl
  | [], _ :: _, h, _ => by cases h
  | _ :: _, [], _, h => by cases h
  | x :: xs, y :: ys, h1, h2 => by
    unfold lexL at h1 h2
    by_cases e : x = y
    · rw [if_pos e] at h1
      rw [if_pos e.symm] at h2
      rw [e, lexL_conn xs ys h1 h2]
    · rw [if_neg e] at h1
      rw [if_neg (Ne.symm e)] at h2
      have a1 := of_decide_eq_false h1
      have a2 := of_decide_eq_false h2
      omega
theorem lexL_swo {α : Type} (k : α → List Int) : SrtO.Swo fun v u => lexL (k v) (k u) := ⟨fun _ _ => lexL_asym _ _, fun _ _ _ => lexL_tr _ _ _⟩
/-- at v: a tuple of these ints -/
def IsTupI (h : Heap) (v : Value) (ns : List Int) : Prop := ∃ a o us n, v = .ref a ∧ h.get? a = some o ∧ o.cls = .type "tuple" ∧ o.data = .seq (List.toArray us) n ∧ Vals (ns.map V.int) us
theorem IsTupI.keeps {h h' : Heap} {v : Value} {ns : List Int} (p : IsTupI h v ns) (k : ∀ b o, h.get? b = some o → o.cls = .type "tuple" → h'.get? b = some o) : IsTupI h' v ns := by
  obtain ⟨a, o, us, n, e, ho, hc, hd, r⟩ := p
  exact ⟨a, o, us, n, e, k _ _ ho hc, hc, hd, r⟩
theorem lex_run {prog : Program} {w : World} {A : Around} {Q : Bool → Shared → Prop} {s : Shared} : ∀ (ns ms : List Int) (us vs : List Value) (i : Nat), Vals (ns.map V.int) us → Vals (ms.map V.int) vs → ns.length = ms.length → Q (lexL ns ms) s → PySem.W.KatLex prog w A true false Q (us.zip vs) i s
  | [], [], us, vs, i, r1, r2, _, q => by
    cases r1; cases r2
    exact PySem.W.kat_nil q
  | [], _ :: _, _, _, _, _, _, h, _ => by cases h
  | _ :: _, [], _, _, _, _, _, h, _ => by cases h
  | n :: ns, m :: ms, _, _, i, .cons rn r1, .cons rm r2, h, q => by
    obtain ⟨t1, rfl⟩ := rn
    obtain ⟨t2, rfl⟩ := rm
    unfold lexL at q
    refine PySem.W.kat_cons (SeqAt.EqAt.int_int n t1 m t2 prog w _ _ (PySem.W.kat_go (fun e => ?_) fun e => ?_))
    · have e' : n = m := by simpa using e
      rw [if_pos e'] at q
      exact PySem.W.kat_yes (lex_run ns ms _ _ _ r1 r2 (by simpa using h) q)
    · have e' : ¬ n = m := by simpa using e
      rw [if_neg e'] at q
      exact PySem.W.kat_no (oneLt_any_int q)
theorem tup_cmpI {prog : Program} {w : World} {A : Around} {s : Shared} {vs : List Value} {k : Value → List Int} {d : Nat} (hp : ∀ v ∈ vs, IsTupI s.heap v (k v) ∧ (k v).length = d) : SrtO.Cmp prog w A s (tuples' true) (fun p => p.1 ∈ vs) (SrtO.lt2 fun v u => lexL (k v) (k u)) := by
  intro p q hm hm'
  obtain ⟨⟨a, o, us, n, e, ho, hc, hd, r⟩, l1⟩ := hp _ hm
  obtain ⟨⟨a', o', us', n', e', ho', hc', hd', r'⟩, l2⟩ := hp _ hm'
  show wpAny (model prog w) A (keyLt' (tuples' true) p.1 q.1) (fun r s' => s' = s ∧ r = lexL (k p.1) (k q.1)) (fun _ _ => False) s
  generalize k p.1 = ns at r l1 ⊢
  generalize k q.1 = ms at r' l2 ⊢
  rw [e, e']
  refine PySem.W.kat_lt ho hd ho' hd' ?_
  have z1 : us.length = ns.length := by rw [← r.length, List.length_map]
  have z2 : us'.length = ms.length := by rw [← r'.length, List.length_map]
  have z : decide ((List.toArray us).size < (List.toArray us').size) = false := by
    rw [List.size_toArray, List.size_toArray, z1, z2, l1, l2]
    exact decide_eq_false (Nat.lt_irrefl _)
  rw [z]
  exact lex_run ns ms us us' 0 r r' (l1.trans l2.symm) ⟨rfl, rfl⟩
theorem firsts_ofI {h : Heap} {k : Value → List Int} {d : Nat} (hd : 1 ≤ d) : ∀ {vs : List Value}, (∀ v ∈ vs, IsTupI h v (k v) ∧ (k v).length = d) → ∃ fs : List Value, PySem.W.KatTups h vs fs ∧ fs.length = vs.length ∧ ∀ f ∈ fs, ∃ x t, f = Value.int x t
  | [], _ => ⟨[], .nil, rfl, fun f hf => by cases hf⟩
  | v :: vs, hp => by
    obtain ⟨fs, h1, h2, h3⟩ := firsts_ofI hd fun v' hm => hp v' (List.mem_cons_of_mem _ hm)
    obtain ⟨⟨a, o, us, n, e, ho, hc, hdt, r⟩, l⟩ := hp v List.mem_cons_self
    generalize k v = ns at r l
    match ns, us, r, l with
    | [], _, _, l => exact absurd (show (0 : Nat) = d from l) (by omega)
    | x :: xs, _, .cons rx r, l =>
      obtain ⟨t, rfl⟩ := rx
      subst e
      refine ⟨.int x t :: fs, .cons ho hc hdt (by simp) h1, by rw [List.length_cons, List.length_cons, h2], fun f hf => ?_⟩
      rcases List.mem_cons.mp hf with rfl | hf
      · exact ⟨x, t, rfl⟩
      · exact h3 f hf
theorem tups_sortableI {prog : Program} {w : World} {A : Around} {s : Shared} {a : Addr} {vs : List Value} {k : Value → List Int} {d : Nat} (hd : 1 ≤ d) (h0 : 0 < vs.length) (hp : ∀ v ∈ vs, IsTupI s.heap v (k v) ∧ (k v).length = d) (ha : ∀ o, s.heap.get? a = some o → o.cls ≠ .type "tuple") :
    SrtO.SortableO prog w A s a vs fun v u => lexL (k v) (k u) := by
  intro h' keep
  have hp' : ∀ v ∈ vs, IsTupI h' v (k v) ∧ (k v).length = d := fun v hm => ⟨(hp v hm).1.keeps fun b o e c => keep b o (fun z => ha o (by rw [← z]; exact e) c) e, (hp v hm).2⟩
  obtain ⟨fs, h1, h2, h3⟩ := firsts_ofI hd hp'
  refine ⟨tuples' true, fun Q E hq => PySem.W.kat_kind (T := .type "int") h1 (by omega) (fun f hm => ?_) (by rfl) ?_, tup_cmpI hp'⟩
  · obtain ⟨x, t, rfl⟩ := h3 f hm
    exact PySem.W.Looks.now
  · have e : (Value.type "int" != Value.type "tuple") = true := by decide +kernel
    rw [e]
    exact hq
theorem sorted_tupsI {prog : Program} {w : World} {A : Around} {E : Value → Shared → Prop} {s : Shared} {l : Addr} {vs : List Value} {k : Value → List Int} {d : Nat} {Q : Value → Shared → Prop} (hd : 1 ≤ d) (hl : s.heap.IsList l vs.toArray) (hz : vs.length ≤ sizeLine) (hp : ∀ v ∈ vs, IsTupI s.heap v (k v) ∧ (k v).length = d)
    (h : ∀ (h' : Heap) (b : Addr) (out : List Value), SrtO.Srtd (fun v u => lexL (k v) (k u)) out → out.Perm vs → (∀ c o, s.heap.get? c = some o → h'.get? c = some o) → s.heap.objs.size ≤ b → (∃ n, h'.get? b = some (seqObj "list" out.toArray n)) → Q (.ref b) { s with heap := h' }) :
    wpAny (model prog w) A (call (.builtin "sorted") [.ref l]) Q E s := by
  refine SrtO.sorted_ord (lexL_swo k) hl hz (fun h2 h₁ a ha kk => ?_) fun out hs hb => ?_
  · refine tups_sortableI (s := { s with heap := h₁ }) hd (by omega) (fun v hm => ⟨(hp v hm).1.keeps fun b o e _ => (kk b o e).2, (hp v hm).2⟩) fun o e c => ?_
    have e' : some o = some (seqObj "list" vs.toArray 0) := e.symm.trans ha
    cases e'
    exact absurd (Value.type.inj c) (by decide)
  · exact h _ _ out hs hb.perm (fun b o e => sortedAll_old e) (Nat.le_succ _) (sortedAll_at s.heap vs out.toArray)
/-- the ints of a tuple, as H tells -/
def kV (H : Hp) (v : V) : List Int := match v with
  | .ref t => match H t with
    | some (.tup xs) => xs.map fun x => match x with
      | .int i => i
      | _ => 0
    | _ => []
  | _ => []
theorem kV_at {H : Hp} {t : Addr} {ns : List Int} (h : H t = some (.tup (ns.map V.int))) : kV H (.ref t) = ns := by
  unfold kV
  dsimp only
  rw [h]
  dsimp only
  rw [List.map_map]
  exact (List.map_congr_left fun x _ => rfl).trans (List.map_id ns)
def rSortedIT (K : PySem.W.Frag) : List V → Hp → VK → Prop := fun vs H Q => ∃ (a : Addr) (xs : List V) (d : Nat), vs = [V.ref a] ∧ SqL K H a xs ∧ 1 ≤ d ∧ (∀ x ∈ xs, (∃ t, x = V.ref t ∧ H t = some (.tup ((kV H x).map V.int))) ∧ (kV H x).length = d) ∧
  ∀ ys p, ys.Pairwise (fun x y => lexL (kV H y) (kV H x) = false) → ys.Perm xs → H p = none → Q (.ref p) (upd H p (.lst ys))
theorem cr_sortedIT {X : Cx} : CallR X (.builtin "sorted") (rSortedIT X.K) := by
  intro pins s σ H vs us Q I r h
  obtain ⟨a, xs, d, rfl, hs, hd, hx, q⟩ := h
  obtain ⟨its, rv, hl, hz⟩ := I.list hs
  match us, r with
  | [u], .cons ru .nil =>
    obtain rfl : u = Value.ref a := ru
    obtain ⟨e1, e2⟩ := refs_back rv fun x m => by
      obtain ⟨⟨t, e, _⟩, _⟩ := hx x m
      exact ⟨t, e⟩
    refine sorted_tupsI (k := fun u => kV H (backV u)) hd hl.isList (by rw [← rv.length]; exact hz) (fun v hv => ?_) fun h' b out h1 h2 kp hb hn => ?_
    · obtain ⟨t, rfl⟩ := e2 v hv
      have hm : V.ref t ∈ xs := by rw [e1]; exact List.mem_map.mpr ⟨_, hv, rfl⟩
      obtain ⟨⟨t', e, ht⟩, hl'⟩ := hx _ hm
      cases e
      obtain ⟨_, its2, r2, o, ho, hc, n, hd'⟩ := I.hok _ _ ht
      exact ⟨⟨t, o, its2, n, rfl, ho, hc, hd', r2⟩, hl'⟩
    · have h3 : ∀ u ∈ out, ∃ a, u = Value.ref a := fun u hu => e2 u (h2.mem_iff.mp hu)
      obtain ⟨n, hn⟩ := hn
      have hp : (out.map backV).Perm xs := by
        rw [e1]
        exact h2.map _
      have hlen : (out.map backV).length ≤ sizeLine := by rw [hp.length_eq]; exact hz
      exact ⟨.ref b, upd H b (.lst (out.map backV)), I.laid (t' := s.toks) kp hb ⟨hlen, out, n, vals_back h3, hn⟩, rfl, q _ b (List.pairwise_map.mpr h1) hp (I.hok.fresh hb)⟩
/-! ### as a rule for data -/
def tI (ns : List Int) : D := .tup (ns.map D.int)
theorem RepAll.ofMem {K : PySem.W.Frag} {ph : Ph} {S : Hp} {f : V → D} : ∀ {ys : List V}, (∀ y ∈ ys, Rep K ph S y (f y)) → RepAll K ph S ys (ys.map f)
  | [], _ => .nil
  | y :: ys, h => .cons (h y List.mem_cons_self) (RepAll.ofMem fun z hz => h z (List.mem_cons_of_mem _ hz))
theorem RepAll.intsV {K : PySem.W.Frag} {ph : Ph} {S : Hp} : ∀ {xs : List V} {ns : List Int}, RepAll K ph S xs (ns.map D.int) → xs = ns.map V.int
  | _, [], .nil => rfl
  | _, _ :: _, .cons h t => by
    cases h
    rw [RepAll.intsV t]
    rfl
def ownOr (own : Bool) (l : List D) (M : Mem) (Q : DQ) : Prop := if own = true then Q (.own M.length) (M ++ [.lst l]) else Q (.lst l) M
/-- sorted(l), l a list of ints or of tuples of ints of one length -/
def gSorted (own : Bool) : GA := fun ds M Q => match ds with
  | [d] => (∃ l : List Int, res M d = .lst (l.map D.int) ∧ ∀ l' : List Int, l'.Perm l → l'.Pairwise (· ≤ ·) → ownOr own (l'.map D.int) M Q) ∨
    ∃ (k : Nat) (l : List (List Int)), res M d = .lst (l.map tI) ∧ 1 ≤ k ∧ (∀ ns ∈ l, ns.length = k) ∧ ∀ l' : List (List Int), l'.Perm l → l'.Pairwise (fun x y => lexL y x = false) → ownOr own (l'.map tI) M Q
  | _ => False
theorem RepAll.tups {K : PySem.W.Frag} {ph : Ph} {S H : Hp} (hsub : Same S H) : ∀ {xs : List V} {l : List (List Int)}, RepAll K ph S xs (l.map tI) → (∀ x ∈ xs, (∃ t, x = V.ref t ∧ H t = some (.tup ((kV H x).map V.int))) ∧ kV H x ∈ l ∧ Rep K ph S x (tI (kV H x))) ∧ xs.map (kV H) = l
  | _, [], .nil => ⟨fun x h => (by cases h), rfl⟩
  | _, n :: l, .cons h t => by
    obtain ⟨i1, i2⟩ := RepAll.tups hsub t
    have h0 := h
    cases h with
    | tup h1 h2 =>
      have e := RepAll.intsV h2
      subst e
      have e2 := kV_at (hsub _ _ h1)
      refine ⟨fun x hx => ?_, by rw [List.map_cons, e2, i2]⟩
      rcases List.mem_cons.mp hx with rfl | hx
      · rw [e2]
        exact ⟨⟨_, rfl, hsub _ _ h1⟩, List.mem_cons_self, h0⟩
      · obtain ⟨j1, j2, j3⟩ := i1 x hx
        exact ⟨j1, List.mem_cons_of_mem _ j2, j3⟩
theorem cd_sorted {X : Cx} (own : Bool) : CallD X (.builtin "sorted") (gSorted own) := by
  intro pins s σ H ph S r M vs us ds Q I hs rv q hg
  match ds, vs, us, rv, q, hg with
  | [d], [v], [u], .cons ru .nil, .cons q .nil, hg =>
    rcases hg with ⟨l, er, g⟩ | ⟨k, l, er, hk, hl, g⟩
    · obtain ⟨p, xs, rfl, hp, hx⟩ := res_lst hs q er
      have e := RepAll.intsV hx
      subst e
      refine cr_sortedI pins s σ H _ _ _ I (.cons ru .nil) ⟨p, l, rfl, SqL.of hp, fun l' b pm sd hb => ?_⟩
      have g' := g l' pm sd
      cases own with
      | false => exact Aft.frz hs hb fun x => ⟨_, .lst upd_same (RepAll.ints _), g'⟩
      | true => exact Aft.own hs hb (RepAll.ints _) g'
    · obtain ⟨p, xs, rfl, hp, hx⟩ := res_lst hs q er
      obtain ⟨i1, i2⟩ := RepAll.tups hs.sub hx
      refine cr_sortedIT pins s σ H _ _ _ I (.cons ru .nil) ⟨p, xs, k, rfl, SqL.of hp, hk, fun x hx => ⟨(i1 x hx).1, hl _ (i1 x hx).2.1⟩, fun ys b sd pm hb => ?_⟩
      have ry : RepAll X.K ph S ys ((ys.map (kV H)).map tI) := by
        rw [List.map_map]
        exact RepAll.ofMem fun y hy => (i1 y (pm.mem_iff.mp hy)).2.2
      have g' := g (ys.map (kV H)) (by rw [← i2]; exact pm.map _) (List.pairwise_map.mpr sd)
      cases own with
      | false => exact Aft.frz hs hb fun x => ⟨_, .lst upd_same (ry.up x), g'⟩
      | true => exact Aft.own hs hb ry g'
/-! ### slices of lists and tuples alike -/
section
variable {X : Cx}
def gSl (own : Bool) (d : D) (lo hi : Option Int) (M : Mem) (Q : DQ) : Prop := match d with
  | .tup l => Q (.tup (cutD l lo hi)) M
  | d => gSlL own d lo hi M Q
theorem gSl_tup {own : Bool} {l : List D} {lo hi : Option Int} {M : Mem} {Q : DQ} : gSl own (.tup l) lo hi M Q = Q (.tup (cutD l lo hi)) M := rfl
theorem gSl_lst {l : List D} {lo hi : Option Int} {M : Mem} {Q : DQ} : gSl false (.lst l) lo hi M Q = Q (.lst (cutD l lo hi)) M := rfl
theorem cut_1 {a : D} {l : List D} : cutD (a :: l) (some 1) none = l := by
  unfold cutD
  have e1 : HT.sIx (a :: l).length 0 (some 1) = 1 := by
    have := HT.sIx_nat (a :: l).length 0 1
    rw [show ((1 : Nat) : Int) = 1 from rfl] at this
    rw [this, List.length_cons]
    omega
  have e2 : HT.sIx (a :: l).length (a :: l).length none = (a :: l).length := rfl
  rw [e1, e2]
  simp
end
/-! ### x + y, lists, the sum to be changed -/
end DL
namespace DL
open PySem PySem.Spec PyProof.Rows L2
end DL
namespace DL
open PySem PySem.Spec PyProof.Rows L2
end DL
namespace DL
open PySem PySem.Spec PyProof.Rows L2
end DL
namespace DL
open PySem PySem.Spec PyProof.Rows L2
end DL
/-! DLU: max and min of a list of ints -/
namespace DL
open PySem PySem.Spec PyProof.Rows L2
end DL
namespace DL
open PySem PySem.Spec PyProof.Rows L2
end DL
namespace DL
open PySem PySem.Spec PyProof.Rows L2
end DL
/-! DLV: sorted({(a, b), (c, d)}) -/
namespace DL
open PySem PySem.Spec PyProof.Rows L2
section
variable {P : Program} {w : World} {A : Around} {E : Value → Shared → Prop} {s : Shared}
abbrev set0 (w : World) : Obj := { cls := .type "set", dict := none, data := .set #[] 0 (.fresh 0 0 (!w.params.followText "set-order")) }
theorem set_made {Q : Value → Shared → Prop} (h : Q (.ref s.heap.objs.size) { s with heap := s.heap.push (set0 w) }) : wpAny (model P w) A (newSet (.type "set")) Q E s := by
  unfold newSet setsByText
  exact wpAny_bind (wpAny_bind (wpAny_askSetting (wpAny_pure (by
    dsimp only
    simp only [newObj]
    exact wpAny_bind (wpAny_alloc (wpAny_pure h))))))
theorem disp2 {e1 e2 : Expr} {env : PySem.Env} {pos : Pos} {b : Bool} {Q : Value → Shared → Prop}
    (h : PySem.W.KdsAll (model P w) A E env [e1, e2] (fun vs s' => PySem.W.KdsFill (model P w) A E false s.heap.objs.size Q vs s') { s with heap := s.heap.push (set0 w) }) :
    wpAny (model P w) A (setDisplay .oneByOne b ((evalEach [e1, e2] env).map fun t => (false, do let v ← t; standAt pos; pure v))) Q E s := by
  unfold setDisplay
  rw [if_neg (by decide)]
  refine wpAny_bind (set_made ?_)
  have hall := PySem.W.kds_all pos [e1, e2] _ _ h
  refine wpAny_bind (wpAny_holding (wpAny_bind (wpAny_mono hall (fun vs s' h' => ?_) fun _ _ x => x)))
  have hfill := PySem.W.kds_for (f := fun x (_ : PUnit) => (do let _ ← setAdd s.heap.objs.size x; pure (ForInStep.yield PUnit.unit))) (fun x P0 s0 hx => wpAny_bind (wpAny_mono hx (fun _ s2 h2 => wpAny_pure ⟨rfl, h2⟩) fun _ _ x => x)) vs s' h'
  refine wpAny_bind (wpAny_holding (wpAny_bind (wpAny_mono hfill (fun _ s1 h1 => ?_) fun _ _ x => x)))
  have h2 : Q (.ref s.heap.objs.size) s1 := by simpa [PySem.W.KdsFill] using h1
  rw [if_neg (by decide)]
  refine wpAny_pure ?_
  have hd : ∀ l : List (Bool × Sem Value), l.length = 2 → l.findIdx? (fun x => x.fst) = none → l.drop (if l.length > 30 then 0 else (l.findIdx? (fun x => x.fst)).getD l.length) = [] := fun l l1 l2 => by
    rw [l2, l1]
    exact List.drop_eq_nil_of_le (by rw [l1]; decide)
  rw [hd _ rfl rfl, List.forIn_nil]
  exact wpAny_bind (wpAny_pure (wpAny_pure (wpAny_pure h2)))
/-- two tuples put into a new set -/
theorem add2 {a x1 x2 : Addr} {k1 k2 : List Int} {es : Array (Int × Value)} {ep : Nat} {t : SetTable} (R : SetTR P w s.heap a [] es ep t) (h1 : IsT P w s.heap k1 x1) (h2 : IsT P w s.heap k2 x2) (n1 : x1 ≠ a) (n2 : x2 ≠ a) (hu : A.units < cLine) {Q : Value → Shared → Prop}
    (hQ : ∀ h' tk L es ep t, SetTR P w h' a L es ep t → Got [(x1, k1), (x2, k2)] 2 L → (∀ b o, b ≠ a → s.heap.get? b = some o → h'.get? b = some o) → Q (.ref a) { s with heap := h', toks := tk }) :
    PySem.W.KdsFill (model P w) A E false a Q [.ref x1, .ref x2] s := by
  refine PySem.W.kds_fill_cons ?_
  unfold setAdd
  refine wpAny_holding (wpAny_bind (wpAny_pyHash_tuple hu h1 ?_))
  refine add_at (s := { s with toks := s.toks + (k1.length + 1) }) R h1 hu (by decide) fun b h' L1 es1 ep1 t1 sb R1 c1 c2 => ?_
  have kp1 : ∀ b o, b ≠ a → s.heap.get? b = some o → h'.get? b = some o := fun b o hb e => (sb.2 b hb).trans e
  have g0 := Got.zero [(x1, k1), (x2, k2)]
  have g1 : Got [(x1, k1), (x2, k2)] 1 L1 := g0.more (i := 0) rfl (c2 (by simp))
  have h2' : IsT P w h' k2 x2 := by
    obtain ⟨o, items, n, ho, r⟩ := h2
    exact ⟨o, items, n, kp1 _ _ n2 ho, r⟩
  refine PySem.W.kds_fill_cons ?_
  unfold setAdd
  refine wpAny_holding (wpAny_bind (wpAny_pyHash_tuple hu h2' ?_))
  refine add_at (s := { s with heap := h', toks := s.toks + (k1.length + 1) + (k2.length + 1) }) R1 h2' hu (by have := g1.len; omega) fun b2 h'' L2 es2 ep2 t2 sb2 R2 c3 c4 => ?_
  have g2 : Got [(x1, k1), (x2, k2)] 2 L2 := by
    rcases Classical.em (k2 ∈ L1.map (·.2)) with c | c
    · rw [c3 c]; exact g1.same (i := 1) rfl c
    · exact g1.more (i := 1) rfl (c4 c)
  refine PySem.W.kds_fill_nil rfl ?_
  exact hQ h'' _ L2 es2 ep2 t2 R2 g2 fun b o hb e => (sb2.2 b hb).trans (kp1 b o hb e)
end
section
variable {X : Cx}
/-- sorted({a, b}), a and b pairs of ints from 0 on -/
def dSort2 (t1 t2 : DTE) : DTE := fun r M Q => t1 r M fun d1 M1 => t2 r M1 fun d2 M2 => ∃ x y : List Int, d1 = tI x ∧ d2 = tI y ∧ x.length = 2 ∧ y.length = 2 ∧ (∀ i ∈ x ++ y, 0 ≤ i) ∧
  ∀ l : List (List Int), l.Nodup → (∀ z, z ∈ l ↔ z = x ∨ z = y) → l.Pairwise (fun x y => lexL y x = false) → Q (.lst (l.map tI)) M2
theorem rep_tI {K : PySem.W.Frag} {ph : Ph} {S : Hp} {v : V} {x : List Int} (h : Rep K ph S v (tI x)) : ∃ a, v = .ref a ∧ S a = some (.tup (x.map V.int)) := by
  cases h with
  | tup h1 h2 =>
    have e := RepAll.intsV h2
    subst e
    exact ⟨_, rfl, h1⟩
theorem lex_code {B : Int} {x y : List Int} (hx : x.length = 2) (hy : y.length = 2) (bx : TS.Bd B x) (bY : TS.Bd B y) (h : TS.code B x ≤ TS.code B y) : lexL y x = false := by
  match x, y, hx, hy with
  | [a, b], [c, d], _, _ =>
    have a0 := bx a (by simp)
    have b0 := bx b (by simp)
    have c0 := bY c (by simp)
    have d0 := bY d (by simp)
    have e1 : ∀ u v : Int, TS.code B [u, v] = u * B + v := fun u v => by
      show u * B ^ 1 + (v * B ^ 0 + 0) = _
      rw [Int.pow_succ, Int.pow_zero, Int.one_mul, Int.mul_one, Int.add_zero]
    rw [e1, e1] at h
    have hac : a ≤ c := by
      by_cases z : a ≤ c
      · exact z
      · have : (c + 1) * B ≤ a * B := Int.mul_le_mul_of_nonneg_right (by omega) (by omega)
        rw [Int.add_mul, Int.one_mul] at this
        omega
    unfold lexL
    by_cases e : c = a
    · rw [if_pos e]
      subst e
      unfold lexL
      by_cases e' : d = b
      · rw [if_pos e']; rfl
      · rw [if_neg e']
        exact decide_eq_false (by omega)
    · rw [if_neg e]
      exact decide_eq_false (by omega)
theorem set2_run {e1 e2 : Expr} {t1 t2 : DTE} {p2 : Pos} (d1 : DE X e1 t1) (d2 : DE X e2 t2) (hcd : PySem.W.kdsCode X.K X.env.code = true) (hu : X.A.units < cLine) (hp : [e1, e2].all PySem.W.kdsPlain = true)
    {pins : List (Addr × Obj)} {s : Shared} {σ : L2.St} {H : Hp} {ph : Ph} {S : Hp} {r : Env} {M : Mem} {G : List Int → List Int → Mem → Prop} (I : L2.Inv X pins σ H s) (hs : Sat X.K ph S r M σ H)
    (ht : t1 r M fun a M1 => t2 r M1 fun b M2 => ∃ x y : List Int, a = tI x ∧ b = tI y ∧ G x y M2) :
    wpAny (model X.prog X.w) X.A (eval (.Set [e1, e2] 0 p2) X.env) (fun u s' => ∃ (a : Addr) (L : List (Addr × List Int)) (x y : List Int) (ph' : Ph) (S' : Hp) (M' : Mem) (H' : Hp), u = .ref a ∧ L2.Inv X pins σ H' s' ∧ Ext ph S ph' S' ∧ Sat X.K ph' S' r M' σ H' ∧ H' a = some (SetTO X.prog X.w a L) ∧
      (∀ p ∈ L, S' p.1 = some (.tup (p.2.map V.int)) ∧ (p.2 = x ∨ p.2 = y)) ∧ x ∈ L.map (·.2) ∧ y ∈ L.map (·.2) ∧ G x y M') X.xe s := by
  rw [arm_eval_Set]
  refine wpAny_bind (wpAny_standAt ?_)
  refine wpAny_bind (PySem.W.kds_main I.kIn hcd fun b => ?_)
  rw [PySem.W.kds_star [e1, e2] hp, List.map_map]
  refine disp2 ?_
  have hn : H s.heap.objs.size = none := I.hok.fresh (Nat.le_refl _)
  have I0 : L2.Inv X pins σ (upd H s.heap.objs.size (SetTO X.prog X.w s.heap.objs.size [])) { s with heap := s.heap.push (set0 X.w), toks := s.toks } :=
    I.laid (t' := s.toks) (fun b u e => Heap.get?_push_of_some _ e) (Nat.le_refl _) (setTO_new (setTR_fresh (Heap.get?_push_size _ rfl)).t0)
  have hs0 := hs.hide hn (SetTO X.prog X.w s.heap.objs.size [])
  refine thn (d1.pe.run pins _ σ _ _ I0 ⟨_, S, r, M, _, hs0, ht, fun _ _ z => z⟩) fun u1 s1 ⟨v1, H1, I1, r1, ph1, S1, M1, x1, hs1, dd1, q1, g1⟩ => ?_
  refine thn (d2.pe.run pins s1 σ H1 _ I1 ⟨ph1, S1, r, M1, _, hs1, g1, fun _ _ z => z⟩) fun u2 s2 ⟨v2, H2, I2, r2, ph2, S2, M2, x2, hs2, dd2, q2, x, y, ex, ey, g2⟩ => ?_
  subst ex ey
  obtain ⟨b1, rfl, f1⟩ := rep_tI (q1.up x2)
  obtain ⟨b2, rfl, f2⟩ := rep_tI q2
  have hh := (x1.trans x2).hid
  have hpre := (x1.trans x2).pre
  have hsame := (x1.trans x2).same
  obtain ⟨c2, l2⟩ := ph2
  dsimp only at hh
  subst hh
  obtain ⟨j1, j2, j3⟩ := hs2.hid _ List.mem_cons_self
  dsimp only at j1 j2
  have n1 : b1 ≠ s.heap.objs.size := fun z => by rw [z, j2] at f1; cases f1
  have n2 : b2 ≠ s.heap.objs.size := fun z => by rw [z, j2] at f2; cases f2
  have R0 : SetT0 X.prog X.w s2.heap s.heap.objs.size [] := (I2.hok _ _ j1).1
  obtain ⟨es, ep, t, R⟩ := R0.full (fun p hp => by cases hp)
  have ru1 : u1 = .ref b1 := r1
  have ru2 : u2 = .ref b2 := r2
  subst ru1 ru2
  show PySem.W.KdsFill _ _ _ _ _ _ [Value.ref b1, Value.ref b2] s2
  refine add2 R (I2.isT (SqT.of (hs2.sub _ _ f1))) (I2.isT (SqT.of (hs2.sub _ _ f2))) n1 n2 hu fun h' tk L es' ep' t' R2 g k => ?_
  obtain ⟨ob, hob, _⟩ := R2.ob
  have I3 : L2.Inv X pins σ (upd H2 s.heap.objs.size (SetTO X.prog X.w s.heap.objs.size L)) { s2 with heap := h', toks := tk } :=
    I2.write (by rw [j1]; trivial) (.inl rfl) k ⟨ob, hob⟩ (setTO_new R2.t0)
  obtain ⟨xf, hs4⟩ := (hs2.hset (o' := SetTO X.prog X.w s.heap.objs.size L)).hfrz
  have hL : ∀ p ∈ L, p = (b1, x) ∨ p = (b2, y) := fun p hp => by
    have := List.mem_of_mem_take (g.sub p hp)
    simpa using this
  refine ⟨s.heap.objs.size, L, x, y, ⟨c2, ph.hid⟩, _, M2, _, rfl, I3, ⟨fun k' a' e => hpre k' a' e, fun b' o' e => ?_, rfl⟩, hs4, upd_same, fun p hp => ?_, ?_, ?_, g2⟩
  · have e' := hsame b' o' e
    have nb : b' ≠ s.heap.objs.size := fun z => by rw [z, j2] at e'; cases e'
    rw [upd_ne nb]; exact e'
  · rcases hL p hp with rfl | rfl
    · exact ⟨by rw [upd_ne n1]; exact f1, .inl rfl⟩
    · exact ⟨by rw [upd_ne n2]; exact f2, .inr rfl⟩
  · exact g.all (b1, x) (by simp)
  · exact g.all (b2, y) (by simp)
theorem de_sort2 {e1 e2 : Expr} {t1 t2 : DTE} {x : Str} {p p2 pos : Pos} (d1 : DE X e1 t1) (d2 : DE X e2 t2) (hcd : PySem.W.kdsCode X.K X.env.code = true) (hu : X.A.units + 64 < cLine) (hcalm : X.calm = true) (hm : X.mg x = none)
    (hp : [e1, e2].all PySem.W.kdsPlain = true := by rfl) (hv : bootBuiltins x = some (.builtin "sorted") := by decide +kernel) (hg : Gl X x := by rfl) (hn : x ≠ "__name__" := by decide) (hdb : (x == ("__debug__" : Str)) = false := by decide)
    (he : starEach [.Set [e1, e2] 0 p2] X.env = (false, eval (.Set [e1, e2] 0 p2) X.env) :: starEach [] X.env := by rfl) (hpl : (backTo pos (starEach [] X.env)).any (·.1) = false := by rfl) : DE X (.Call (.Name x p) [.Set [e1, e2] 0 p2] [] pos) (dSort2 t1 t2) := by
  refine ⟨⟨fun pins s σ H Q I ⟨ph, S, r, M, Q0, hs, ht, hq⟩ => wpAny_Call_Name_kw (ld_blt I hg hm hv (PyProof.Rows.callWith_builtin1 ?_ he hpl) hn hdb)⟩⟩
  rw [he]
  refine Calls.spliced_cons (thn (set2_run d1 d2 hcd (by omega) hp (G := fun x y M2 => x.length = 2 ∧ y.length = 2 ∧ (∀ i ∈ x ++ y, 0 ≤ i) ∧ ∀ l : List (List Int), l.Nodup → (∀ z, z ∈ l ↔ z = x ∨ z = y) → l.Pairwise (fun x y => lexL y x = false) → Q0 (.lst (l.map tI)) M2) I hs ht)
    fun u s1 ⟨a, L, x, y, ph', S', M', H', hua, I1, xe, hs1, ha, hL, mx, my, lx, ly, nn, g⟩ => ?_)
  subst hua
  refine Calls.spliced_nil ?_
  obtain ⟨B, hB⟩ : ∃ B : Int, ∀ i ∈ x ++ y, i < B := by
    have : ∀ l : List Int, ∃ B : Int, ∀ i ∈ l, i < B := by
      intro l
      induction l with
      | nil => exact ⟨0, fun i h => (by cases h)⟩
      | cons j l ih =>
        obtain ⟨B, hB⟩ := ih
        refine ⟨max (j + 1) B, fun i hi => ?_⟩
        rcases List.mem_cons.mp hi with rfl | hi
        · omega
        · have := hB i hi; omega
    exact this _
  have bx : TS.Bd B x := fun i hi => ⟨nn i (List.mem_append_left _ hi), hB i (List.mem_append_left _ hi)⟩
  have bY : TS.Bd B y := fun i hi => ⟨nn i (List.mem_append_right _ hi), hB i (List.mem_append_right _ hi)⟩
  have hLB : ∀ p ∈ L, p.2.length = 2 ∧ TS.Bd B p.2 := fun p hp => by
    rcases (hL p hp).2 with e | e
    · rw [e]; exact ⟨lx, bx⟩
    · rw [e]; exact ⟨ly, bY⟩
  refine thn (cr_sortedT hcalm pins s1 σ H' [V.ref a] [Value.ref a] _ I1 (.cons rfl .nil) ⟨a, L, 2, B, rfl, ha, fun p hp => SqT.of (hs1.sub _ _ (hL p hp).1), by decide, hLB, fun L' p pm nd h64 pw hn => ?_⟩) fun _ _ z => z
  have hm' : ∀ q ∈ L', q ∈ L := fun q hq => pm.mem_iff.mp hq
  refine hq _ _ (Aft.up xe (Aft.frz hs1 hn fun x' => ⟨.lst ((L'.map (·.2)).map tI), .lst upd_same ?_, g _ nd (fun z => ⟨fun hz => ?_, fun hz => ?_⟩) ?_⟩))
  · have : ∀ l : List (Addr × List Int), (∀ q ∈ l, S' q.1 = some (.tup (q.2.map V.int))) → RepAll X.K ph' (upd S' p (.lst (L'.map fun q => V.ref q.1))) (l.map fun q => V.ref q.1) ((l.map (·.2)).map tI) := by
      intro l hl
      induction l with
      | nil => exact .nil
      | cons q l ih => exact .cons (.tup (x'.same _ _ (hl q List.mem_cons_self)) (RepAll.ints _)) (ih fun z hz => hl z (List.mem_cons_of_mem _ hz))
    exact this L' fun q hq => (hL q (hm' q hq)).1
  · obtain ⟨q, hq, rfl⟩ := List.mem_map.mp hz
    exact (hL q (hm' q hq)).2
  · rcases hz with rfl | rfl
    · exact (pm.map (·.2)).mem_iff.mpr mx
    · exact (pm.map (·.2)).mem_iff.mpr my
  · refine List.pairwise_map.mpr (pw.imp_of_mem fun {q q'} h1 h2 h => ?_)
    exact lex_code (hLB q (hm' q h1)).1 (hLB q' (hm' q' h2)).1 (hLB q (hm' q h1)).2 (hLB q' (hm' q' h2)).2 h
end
/-! ### a def whose own code must be known -/
section
variable {P : Program} {w : World} {K : PySem.W.Frag} {mg : Str → Option Value} {base : Heap}
theorem Here.okC {x : Str} {st : Stmt} {N ps : List Str} {k : Nat} {sp : DSp} {t : DTS} (F : Here K mg x st ps) (S : FnScope N ps (defScope st))
    (hder : ∀ (f : Addr) (cdv : Value) (A : Around) (outer : List PySem.Env) (s : Shared) (H : Hp) (E : XK), Room k (A.deeper (envOfC x (defScope st) s.heap.objs.size f cdv)) → (A.deeper (envOfC x (defScope st) s.heap.objs.size f cdv)).guards = some [] → PySem.W.kdsCode K cdv = true →
      DSs (cxOf CX0 P w K mg base N x (defScope st) f cdv A outer s H E).nox (defBody st) t)
    (hread : ∀ ds M Q, ds.length = ps.length → sp ds M Q DX0 → t (dEnds M Q) (startD N.length ds) M)
    (hX : ∀ ds M Q E, sp ds M Q E → sp ds M Q DX0 := by exact fun _ _ _ _ h => h) : Def P w K mg base CX0 (k + 1) x st ps sp := by
  obtain ⟨f, fd, h1, h2, h3⟩ := F.ex
  refine Def.mk' h1 ?_ h2 h3
  obtain ⟨oc, od, kV, doc, pm, an, cdv, ct, osl, rfl, lk, hcd⟩ := h1.ex
  refine fnG_of lk hcd S (fun vs H Q E h => ?_) fun A outer s H vs Q E hr gd hsp => ?_
  · obtain ⟨_, _, _, _, _, _, hl, _, q, _⟩ := h
    rw [q.len]; exact hl
  · obtain ⟨ph, S0, M, ds, Q0, E0, hl, hs, hq, h, h1, h2⟩ := hsp
    refine ⟨_, (hder f cdv A outer s H E hr gd (kdsCode_of hcd)).pss.nox, ph, S0, startD N.length ds, M, dEnds M Q0, hs.start hq N, hread ds M Q0 hl (hX _ _ _ _ h), ?_, ?_, ?_, ?_⟩
    · rintro σ' H' ⟨r, ph1, S1, M1, x, hs1, z⟩
      exact h1 _ _ (Rtq.out hs ⟨r, σ', ph1, S1, M1, x, hs1, .non, .non, z⟩)
    · exact fun v H' z => h1 _ _ (Rtq.out hs z)
    · rintro σ' H' ⟨r, ph1, S1, M1, x, hs1, z⟩
      exact z.elim
    · rintro σ' H' ⟨r, ph1, S1, M1, x, hs1, z⟩
      exact z.elim
end
end DL
namespace DL
open PySem PySem.Spec PyProof.Rows L2
def t_l_drawn_measure_d212 (c_l_random_7821 : DSp) : DTS :=
 (dSeq (dAsg (dOp gAdd (dOp gAdd (dC (.int 4)) (dOp (rBin CMul fun i j => i * j) (dC (.int 4)) (dCall 2 c_l_random_7821 [] DX0 (dCons (dVar 0) (dCons (dVar 1) dNil))))) (dCall 2 c_l_random_7821 [] DX0 (dCons (dVar 0) (dCons (dC (.int 2)) dNil)))) (dName 2))
 (dRet (dIf (dTru (dOp (gCmpI fun i j => decide (j < i)) (dVar 2) (dC (.int 4)))) (dVar 2) (dC (.int 5)))))
def t_l_turns_2ef2 : DTS :=
 (dRet (dLc false (dRngI gRng2 (dCons (dNeg (dC (.int 60))) (dCons (dC (.int 61)) dNil))) (dName 1) (dTru (dOp (gCmpI fun i j => decide (i < j)) (dOp (rBin CMul fun i j => i * j) (dVar 1) (dVar 1)) (dVar 0))) (dVar 1) [1]))
def t_l_with_e507 (c_l_common_7348 : DSp) (c_l_is_cutting_19aa : DSp) : DTS :=
 (dSeq (dPar 2 3 (dCons (dOwn dNil) (dCons (dOp (rBin (fun _ _ => True) fun i j => i - j) (dVar 0) (dOp (rBin CMul fun i j => i * j) (dVar 1) (dVar 1))) dNil)))
 (dSeq (dIfS (dOr (dTru (dOp (gCmpI fun i j => decide (i ≤ j)) (dVar 3) (dC (.int 0)))) (dTru (dOp gNe (dOp (rBin CMod fun i j => i.fmod j) (dCB gInt (dCons (dVar 3) dNil)) (dC (.int 4))) (dC (.int 0))))) (dRet (dLst dNil)) dNext)
 (dSeq (dFor (dRngI gRng2 (dCons (dC (.int 1)) (dCons (dOp gAdd (dOp (rBin CDiv fun i j => i.fdiv j) (dVar 3) (dC (.int 4))) (dC (.int 1))) dNil))) (dName 4) (dIfS (dTru (dOp gEq (dOp (rBin CMod fun i j => i.fmod j) (dCB gInt (dCons (dOp (rBin CDiv fun i j => i.fdiv j) (dVar 3) (dC (.int 4))) dNil)) (dVar 4)) (dC (.int 0)))) (dSeq (dAsg (dOp (rBin CDiv fun i j => i.fdiv j) (dOp (rBin CDiv fun i j => i.fdiv j) (dVar 3) (dC (.int 4))) (dVar 4)) (dName 5))
 (dFor (dRngI gRng1 (dCons (dCall 2 c_l_common_7348 [] DX0 (dCons (dVar 5) (dCons (dVar 4) dNil))) dNil)) (dName 6) (dIfS (dTru (dCall 4 c_l_is_cutting_19aa [] DX0 (dCons (dVar 6) (dCons (dVar 5) (dCons (dVar 4) (dCons (dVar 1) dNil)))))) (dDrop (dMet gAppend (dVar 2) (dCons (dTup (dCons (dVar 6) (dCons (dVar 5) (dCons (dVar 4) (dCons (dVar 1) dNil))))) dNil))) dNext))) dNext))
 (dRet (dFrz (dVar 2))))))
def t_l_all_a488 (c_l_turns_2ef2 : DSp) (c_l_with_e507 : DSp) : DTS :=
 (dSeq (dAsg (dLst dNil) (dName 1))
 (dSeq (dFor (dSeqI (dCall 1 c_l_turns_2ef2 [] DX0 (dCons (dVar 0) dNil))) (dName 2) (dAsg (dOp gAdd (dVar 1) (dCall 2 c_l_with_e507 [] DX0 (dCons (dVar 0) (dCons (dVar 2) dNil)))) (dName 1)))
 (dRet (dCB (gSorted false) (dCons (dVar 1) dNil)))))
def t_turns_of (c_root_floor_by : DSp) : DTS :=
 (dSeq (dAsg (dCall 1 c_root_floor_by [] DX0 (dCons (dOp (rBin (fun _ _ => True) fun i j => i - j) (dVar 0) (dC (.int 1))) dNil)) (dName 1))
 (dRet (dLc false (dRngI gRng2 (dCons (dNeg (dVar 1)) (dCons (dOp gAdd (dVar 1) (dC (.int 1))) dNil))) (dName 2) (dTru (dOp gEq (dOp (rBin CMod fun i j => i.fmod j) (dOp (rBin (fun _ _ => True) fun i j => i - j) (dVar 0) (dVar 2)) (dC (.int 2))) (dC (.int 0)))) (dVar 2) [2])))
def t_sides_with : DTS :=
 (dSeq (dPar 2 3 (dCons (dOp (rBin (fun _ _ => True) fun i j => i - j) (dVar 0) (dOp (rBin CMul fun i j => i * j) (dVar 1) (dVar 1))) (dCons (dOwn dNil) dNil)))
 (dSeq (dIfS (dOr (dTru (dOp (gCmpI fun i j => decide (i ≤ j)) (dVar 2) (dC (.int 0)))) (dTru (dOp gNe (dOp (rBin CMod fun i j => i.fmod j) (dVar 2) (dC (.int 4))) (dC (.int 0))))) (dRet (dLst dNil)) dNext)
 (dSeq (dPar 2 4 (dCons (dOp (rBin CDiv fun i j => i.fdiv j) (dVar 2) (dC (.int 4))) (dCons (dC (.int 1)) dNil)))
 (dSeq (dWhile (dTru (dOp (gCmpI fun i j => decide (i ≤ j)) (dOp (rBin CMul fun i j => i * j) (dVar 4) (dVar 4)) (dVar 2))) (dSeq (dIfS (dTru (dOp gEq (dOp (rBin CMod fun i j => i.fmod j) (dVar 2) (dVar 4)) (dC (.int 0)))) (dFor (dSeqI (dSort2 (dTup (dCons (dOp (rBin CDiv fun i j => i.fdiv j) (dVar 2) (dVar 4)) (dCons (dVar 4) dNil))) (dTup (dCons (dVar 4) (dCons (dOp (rBin CDiv fun i j => i.fdiv j) (dVar 2) (dVar 4)) dNil))))) (dGTup 2 (dGCons (dName 5) (dGCons (dName 6) dGNil))) (dIfS (dTru (dOp (gCmpI fun i j => decide (i < j)) (dOp gAdd (dVar 6) (dVar 1)) (dVar 5))) (dDrop (dMet gAppend (dVar 3) (dCons (dTup (dCons (dVar 5) (dCons (dVar 6) dNil))) dNil))) dNext)) dNext)
 (dAsg (dOp gAdd (dVar 4) (dC (.int 1))) (dName 4))))
 (dRet (dFrz (dVar 3)))))))
def t_lows_with (c_common_by : DSp) : DTS :=
 (dSeq (dAsg (dCall 2 c_common_by [] DX0 (dCons (dVar 0) (dCons (dVar 1) dNil))) (dName 3))
 (dSeq (dAsg (dCall 2 c_common_by [] DX0 (dCons (dVar 3) (dCons (dVar 2) dNil))) (dName 4))
 (dRet (dLc false (dRngI gRng1 (dCons (dVar 3) dNil)) (dName 5) (dTru (dOp gEq (dCall 2 c_common_by [] DX0 (dCons (dVar 5) (dCons (dVar 4) dNil))) (dC (.int 1)))) (dVar 5) [5]))))
def t_with_turn (c_sides_with : DSp) (c_lows_with : DSp) : DTS :=
 (dSeq (dAsg (dLst dNil) (dName 2))
 (dSeq (dFor (dSeqI (dCall 2 c_sides_with [] DX0 (dCons (dVar 0) (dCons (dVar 1) dNil)))) (dGTup 2 (dGCons (dName 3) (dGCons (dName 4) dGNil))) (dAsg (dOp gAdd (dVar 2) (dLc false (dSeqI (dCall 3 c_lows_with [] DX0 (dCons (dVar 3) (dCons (dVar 4) (dCons (dVar 1) dNil))))) (dName 5) dYes (dTup (dCons (dVar 5) (dCons (dVar 3) (dCons (dVar 4) (dCons (dVar 1) dNil))))) [5])) (dName 2)))
 (dRet (dVar 2))))
def t_count_by (c_turns_of : DSp) (c_with_turn : DSp) : DTS :=
 (dRet (dCB gSum (dCons (dLc false (dSeqI (dCall 1 c_turns_of [] DX0 (dCons (dVar 0) dNil))) (dName 1) dYes (dCB gLen (dCons (dCall 2 c_with_turn [] DX0 (dCons (dVar 0) (dCons (dVar 1) dNil))) dNil)) [1]) dNil)))
end DL
namespace DL
open PySem PySem.Spec PyProof.Rows L2
end DL
/-! DLX: errors over data: raised, passed on, caught, asked -/
namespace DL
open PySem PySem.Spec PyProof.Rows L2
section
variable {X : Cx} {pos : Pos}
/-! ### names of the module as values; an error's value and kind -/
theorem de_gname {x : Str} {a : Addr} (hn : PySem.W.nsIn X.K mainGlobals x = some (some (.ref a))) (hm : X.mg x = some (.ref a)) (hg : Gl X x := by rfl) (hd : (x == ("__debug__" : Str)) = false := by decide) : DE X (.Name x pos) (dC (.glb x)) :=
  de_c (pe_glob (v := .ref a) hg hm rfl hd) fun _ _ => .glb hn
def dFld (t : DTE) : DTE := fun r M Q => t r M fun d M1 => match d with
  | .exc _ v => Q v M1
  | _ => False
theorem er_inst {pins : List (Addr × Obj)} {s : Shared} {σ : St} {H : Hp} {a C T dd : Addr} {x : Str} (I : Inv X pins σ H s) (h0 : XA.ErC X.K x C T) (ha : H a = some (erO a C dd)) : ∃ oe : Obj, s.heap.get? a = some oe ∧ oe.cls = .ref C ∧ PySem.W.notCls oe = true ∧ oe.dict = some dd := by
  have q : ObjOk X.prog X.w H s.heap a (.ext (ErAt a C dd)) := I.hok a _ ha
  obtain ⟨vs, sl, hv⟩ := q.1
  exact ⟨_, hv, rfl, rfl, rfl⟩
theorem de_fld {e : Expr} {t : DTE} (he : DE X e t) (hb : attributeBase e "value" X.env (eval e X.env) = eval e X.env := by rfl) : DE X (.Attribute e "value" pos) (dFld t) :=
  ⟨⟨fun pins s σ H Q I ⟨ph, S, r, M, Q0, hs, ht, hq⟩ => attr_of hb (thn (he.pe.run pins s σ H _ I ⟨ph, S, r, M, _, hs, ht, fun _ _ z => z⟩) fun u s1 ⟨y, H1, I1, ry, ph1, S1, M1, x1, hs1, d, q1, g1⟩ => by
    cases d <;> first | exact g1.elim | skip
    cases q1 with
    | @exc a C T dd x v d h0 ha hd hv =>
      cases (show u = Value.ref a from ry)
      obtain ⟨oe, e1, e2, e3, e4⟩ := er_inst I1 h0 (hs1.sub _ _ ha)
      have hx : ObjOk X.prog X.w H1 s1.heap dd (.xd [(fVal, v)]) := I1.hok dd _ (hs1.sub _ _ hd)
      obtain ⟨mA, hns, hr⟩ := hx
      obtain ⟨od, ho, hl⟩ := lookIn_ns hns
      have l : List.lookup fVal [(fVal, v)] = some v := by simp [List.lookup]
      obtain ⟨u, hu, ru⟩ := RelO.some_of (v := v) (o := mA fVal) (by rw [← l]; exact hr fVal)
      have J : PySem.W.InstAt s1.heap a oe C (some od) := ⟨e1, e2, e3, by rw [e4]; exact ho⟩
      have xf := h0.xfC
      exact HandSPX.exc_get I1.kIn J xf.ga xf.gg xf.exC (PySem.W.findObj_own xf.hdC h0.nv rfl (by rw [hl, hu])) (handed_of ru) ⟨v, H1, I1.tok _, ru, hq _ _ ⟨ph1, S1, M1, x1, hs1, _, hv, g1⟩⟩)⟩⟩
/-- isinstance, of errors too; L: the names of the error classes -/
def gIsx (L : List Str) : GA := fun ds M Q => match ds with
  | [.exc x _, .glb y] => y ∈ L ∧ Q (.bl (XA.under x y)) M
  | [.exc _ _, .val (.ty n)] => n = "ValueError" ∧ Q (.bl true) M
  | [.non, .glb y] => y ∈ L ∧ Q (.bl false) M
  | ds => gIsi ds M Q
theorem kit_non {K : PySem.W.Frag} {y : Str} {C : Addr} (A : XA.AnyC K y C) : PySem.W.kitOne K (.type "NoneType") (.ref C) = some false := by
  have e : PySem.fastBuiltinMro "NoneType" = some [Value.type "NoneType", Value.type "object"] := by decide +kernel
  unfold PySem.W.kitOne
  rw [if_neg (by simp)]
  unfold PySem.W.kitCls
  dsimp only
  rw [if_pos (by rw [A.isC, A.ty]; rfl)]
  show (PySem.fastBuiltinMro "NoneType").map _ = _
  rw [e]
  simp
theorem any_at {K : PySem.W.Frag} {y : Str} {a C : Addr} (h : PySem.W.nsIn K mainGlobals y = some (some (.ref a))) (A : XA.AnyC K y C) : a = C := by
  have z := h.symm.trans A.ns
  exact Value.ref.inj (Option.some.inj (Option.some.inj z))
theorem isx_exc {pins : List (Addr × Obj)} {s : Shared} {σ : St} {H : Hp} {ph : Ph} {S : Hp} {r : Env} {M : Mem} {v c : V} {us : List Value} {x : Str} {d : D} {Q : DQ} {cv : Value} {b : Bool} (I : Inv X pins σ H s) (hs : Sat X.K ph S r M σ H) (q : Rep X.K ph S v (.exc x d)) (rv : Vals [v, c] us)
    (rc : ∀ u, RelV c u → u = cv) (hk : ∀ C T, XA.ErC X.K x C T → PySem.W.kitOne X.K (.ref C) cv = some b) (hg : Q (.bl b) M) : wpAny (model X.prog X.w) X.A (call (.builtin "isinstance") us) (EP X pins σ (post X.K ph S r σ Q)) X.xe s := by
  obtain ⟨u1, u2, rfl, r1, r2⟩ := vals2 rv
  cases rc _ r2
  cases q with
  | @exc a C T dd x v d h0 ha hd hv =>
    cases (show u1 = Value.ref a from r1)
    obtain ⟨oe, e1, e2, e3, e4⟩ := er_inst I h0 (hs.sub _ _ ha)
    have hx : ObjOk X.prog X.w H s.heap dd (.xd [(fVal, v)]) := I.hok _ _ (hs.sub _ _ hd)
    obtain ⟨mA, hns, hr⟩ := hx
    obtain ⟨od, ho, hl⟩ := lookIn_ns hns
    have J : PySem.W.InstAt s.heap a oe C (some od) := ⟨e1, e2, e3, by rw [e4]; exact ho⟩
    have xc := h0.excC
    obtain ⟨cd, hc1, _⟩ := h0.clsIn
    exact PySem.W.kia_one (PySem.W.kitx_exc (by rw [hc1]; rfl) xc.hg xc.hk xc.hs xc.ha xc.hn xc.ht xc.hm) I.kIn J (hk _ _ h0) (fun z => nomatch z) fun tk => ⟨.bl b, H, I.kept (t' := tk) fun _ _ z => z, rfl, Aft.here hs ⟨_, .bl b, hg⟩⟩
theorem cd_isx {L : List Str} (hL : ∀ y ∈ L, ∃ C, XA.AnyC X.K y C) : CallD X (.builtin "isinstance") (gIsx L) := by
  intro pins s σ H ph S r M vs us ds Q I hs rv q hg
  have old : gIsi ds M Q → wpAny (model X.prog X.w) X.A (call (.builtin "isinstance") us) (EP X pins σ (post X.K ph S r σ Q)) X.xe s := fun z => cd_isi pins s σ H ph S r M vs us ds Q I hs rv q z
  unfold gIsx at hg
  split at hg
  · rename_i x v y
    obtain ⟨C', A⟩ := hL y hg.1
    cases q with
    | cons q1 q =>
      cases q with
      | cons q2 q =>
        cases q
        cases q2 with
        | glb hn =>
          cases any_at hn A
          exact isx_exc I hs q1 rv (cv := .ref C') (fun u z => z) (fun C T h0 => h0.kit A) hg.2
  · rename_i x v n
    obtain ⟨rfl, hg⟩ := hg
    cases q with
    | cons q1 q =>
      cases q with
      | cons q2 q =>
        cases q
        cases q2
        exact isx_exc I hs q1 rv (cv := .type "ValueError") (fun u z => z) (fun C T h0 => h0.kitV) hg
  · rename_i y
    obtain ⟨C', A⟩ := hL y hg.1
    cases q with
    | cons q1 q =>
      cases q with
      | cons q2 q =>
        cases q
        cases q1
        cases q2 with
        | glb hn =>
          cases any_at hn A
          exact call_isi pins s σ H _ us _ I rv ⟨.non, .ref C', _, _, false, rfl, .own C', .base .non, kit_non A, Aft.here hs ⟨_, .bl _, hg.2⟩⟩
  · exact old hg
end
/-! ### what may leave -/
abbrev DXE := Env → Str → D → Mem → Prop
def postE (K : PySem.W.Frag) (ph : Ph) (S : Hp) (E : DXE) : WX := fun cls d σ H => ∃ (x : Str) (C T dd : Addr) (v : V) (dv : D) (r : Env), XA.ErC K x C T ∧ cls = .ref C ∧ d = some dd ∧
  Aft K ph S r σ H fun ph' S' M => S' dd = some (.xd [(fVal, v)]) ∧ Rep K ph' S' v dv ∧ E r x dv M
theorem postE.up {K : PySem.W.Frag} {ph ph1 : Ph} {S S1 : Hp} {E : DXE} {cls : Value} {d : Option Addr} {σ : St} {H : Hp} (x : Ext ph S ph1 S1) (h : postE K ph1 S1 E cls d σ H) : postE K ph S E cls d σ H :=
  let ⟨y, C, T, dd, v, dv, r, h1, h2, h3, h4⟩ := h
  ⟨y, C, T, dd, v, dv, r, h1, h2, h3, Aft.up x h4⟩
structure DEX (X : Cx) (e : Expr) (t : DXE → DTE) : Prop where
  pe : ∀ W : WX, Takes X W → PE X e (fun σ H Q => ∃ ph S r M Q0 X0, Sat X.K ph S r M σ H ∧ t X0 r M Q0 ∧ (∀ v H', post X.K ph S r σ Q0 v H' → Q v H') ∧ ∀ cls d H', postE X.K ph S X0 cls d σ H' → W cls d σ H')
structure DAX (X : Cx) (es : List Expr) (t : DXE → DTA) : Prop where
  pa : ∀ W : WX, Takes X W → PA X es (fun σ H Q => ∃ ph S r M Q0 X0, Sat X.K ph S r M σ H ∧ t X0 r M Q0 ∧ (∀ v H', postA X.K ph S r σ Q0 v H' → Q v H') ∧ ∀ cls d H', postE X.K ph S X0 cls d σ H' → W cls d σ H')
def lfX (K : PySem.W.Frag) (W : WX) (t : DXE → DTS) : TS := fun E σ H => ∃ ph S r M E0 X0, Sat K ph S r M σ H ∧ t X0 E0 r M ∧ (∀ σ' H', postN K ph S E0.nx σ' H' → E.nx σ' H') ∧ (∀ v H', postR K ph S E0.rt v H' → E.rt v H') ∧ (∀ σ' H', postN K ph S E0.bk σ' H' → E.bk σ' H') ∧ (∀ σ' H', postN K ph S E0.ct σ' H' → E.ct σ' H') ∧
  ∀ cls d σ' H', postE K ph S X0 cls d σ' H' → W cls d σ' H'
structure DSX (X : Cx) (st : Stmt) (t : DXE → DTS) : Prop where
  ps : ∀ W : WX, Takes X W → PS X st (lfX X.K W t)
structure DSXs (X : Cx) (sts : List Stmt) (t : DXE → DTS) : Prop where
  pss : ∀ W : WX, Takes X W → PSs X sts (lfX X.K W t)
section
variable {X : Cx} {pos : Pos}
theorem dex_of {e : Expr} {t : DTE} (h : DE X.nox e t) : DEX X e (fun _ => t) := ⟨fun W tk => PE.weak h.pe.nox fun σ H Q ⟨ph, S, r, M, Q0, X0, hs, ht, hq, _⟩ => ⟨ph, S, r, M, Q0, hs, ht, hq⟩⟩
theorem dax_nil : DAX X [] (fun _ => dNil) := ⟨fun W tk => PA.weak pa_nil fun σ H Q ⟨ph, S, r, M, Q0, X0, hs, ht, hq, _⟩ => hq _ _ (Aft.here hs ⟨_, .nil, ht⟩)⟩
theorem postE.back {K : PySem.W.Frag} {ph ph1 : Ph} {S S1 : Hp} {E : DXE} {cls : Value} {d : Option Addr} {σ : St} {H : Hp} (x : Ext ph S ph1 S1) (h : postE K ph1 S1 E cls d σ H) : postE K ph S E cls d σ H := h.up x
theorem dax_cons {e : Expr} {es : List Expr} {t : DXE → DTE} {u : DXE → DTA} (h : DEX X e t) (h2 : DAX X es u) (hs : starEach (e :: es) X.env = (false, eval e X.env) :: starEach es X.env := by rfl) : DAX X (e :: es) (fun E => dCons (t E) (u E)) :=
  ⟨fun W tk => PA.weak (pa_cons (h.pe W tk) (h2.pa W tk) hs) fun σ H Q ⟨ph, S, r, M, Q0, X0, hs, ht, hq, hx⟩ => ⟨ph, S, r, M, _, X0, hs, ht, fun v H1 ⟨ph1, S1, M1, x1, hs1, d, q1, g1⟩ =>
    ⟨ph1, S1, r, M1, _, X0, hs1, g1, fun vs H2 ⟨ph2, S2, M2, x2, hs2, ds, q2, g2⟩ => hq _ _ ⟨ph2, S2, M2, x1.trans x2, hs2, _, .cons (q1.up x2) q2, g2⟩, fun cls d H' z => hx _ _ _ (z.up x1)⟩, hx⟩⟩
/-- a def's error, in our frame -/
theorem postX.at {K : PySem.W.Frag} {ph : Ph} {S : Hp} {r : Env} {M : Mem} {σ : St} {H H' : Hp} {E : DX} {cls : Value} {d : Option Addr} (hs : Sat K ph S r M σ H) (h : postX K ph S E cls d H') : postE K ph S (fun r' x dv M' => r' = r ∧ E x dv M') cls d σ H' :=
  let ⟨x, C, T, dd, v, dv, h1, h2, h3, ph', S', M', y, hs', e1, e2, e3⟩ := h
  ⟨x, C, T, dd, v, dv, r, h1, h2, h3, ph', S', M', y, hs.back y hs', e1, e2, rfl, e3⟩
variable {k : Nat} {f : Addr} {fd : FuncData} {ps : List Str} {sp : DSp} {x : Str} {p : Pos} {e : Expr} {es : List Expr} {t : DXE → DTA}
/-- f(..), f may raise -/
def dCallX (n : Nat) (sp : DSp) (t : DXE → DTA) : DXE → DTE := fun E r M Q => t E r M fun ds M1 => ds.length = n ∧ sp ds M1 Q (fun y dv M2 => E r y dv M2)
theorem run_fnX {W : WX} {pins : List (Addr × Obj)} {σ : St} {H : Hp} {s : Shared} {Q : VK} {us : List Value} {vs : List V} {sp : Sp} (F : FnG X.prog X.w X.K X.mg X.base (L2.CX X.prog X.w) k f fd ps sp) (hr : Room k X.A) (gd : X.A.guards = some []) (hb : Binds X.K fd ps []) (tk : Takes X W)
    (I : Inv X pins σ H s) (r : Vals vs us) (h : sp vs H Q (fun cls d H' => W cls d σ H')) : wpAny (model X.prog X.w) X.A (call (.ref f) us) (EP X pins σ Q) X.xe s := by
  have hl : us.length = ps.length := by rw [← r.length]; exact F.len _ _ _ _ h
  refine wpAny_call (codeAny_mono (F.run X.A X.stack s H ⟨us, []⟩ us vs Q _ hr gd I.env0 (by have := hb s us I.kIn (by rw [List.append_nil]; exact hl); rw [List.append_nil] at this; exact this) r h) fun fl s' hq => ?_)
  match fl, hq with
  | .error e, hq => exact tk _ _ (XE.of_call I (fun _ _ _ z => z) hq)
  | .ok (.ret u), hq => exact I.after hq
  | .ok .next, hq => exact False.elim hq
  | .ok .brk, hq => exact False.elim hq
  | .ok .cont, hq => exact False.elim hq
theorem lf_callX {W : WX} {n : Nat} {ph : Ph} {S : Hp} {r : Env} {M : Mem} {σ : St} {H : Hp} {Q : DQ} {Q' : VK} {X0 : DXE} {vs : List V} {ds : List D} (hs : Sat X.K ph S r M σ H) (qa : RepAll X.K ph S vs ds) (hl : ds.length = n) (h : sp ds M Q (fun y dv M2 => X0 r y dv M2))
    (hq : ∀ v H', post X.K ph S r σ Q v H' → Q' v H') (hx : ∀ cls d H', postE X.K ph S X0 cls d σ H' → W cls d σ H') : lfSp X.K n sp vs H Q' (fun cls d H' => W cls d σ H') :=
  ⟨ph, S, M, ds, Q, _, hl, hs.drop, qa, h, fun v H2 ⟨ph2, S2, M2, x2, hs2, d, q2, h2⟩ => hq _ _ ⟨ph2, S2, M2, x2, hs.back x2 hs2, d, q2, h2⟩, fun cls d H2 h2 => hx _ _ _ (by
    obtain ⟨y, C, T, dd, v, dv, r', b1, b2, b3, ph', S', M', z, hs', e1, e2, e3, e4⟩ := postX.at hs h2
    subst e3
    exact ⟨y, C, T, dd, v, dv, _, b1, b2, b3, ph', S', M', z, hs', e1, e2, e4⟩)⟩
theorem dcallX {n : Nat} {st : Stmt} {P : Program} {w : World} {K : PySem.W.Frag} {mg : Str → Option Value} {base : Heap} (F : Def P w K mg base (L2.CX P w) k x st ps sp) {j : Nat} (hr : Room j X.A) (gd : X.A.guards = some []) (ha : DAX X (e :: es) t) (hj : k ≤ j := by decide) (hn : ps.length = n := by rfl)
    (h1 : P = X.prog := by rfl) (h2 : w = X.w := by rfl) (h3 : K = X.K := by rfl) (h4 : mg = X.mg := by rfl) (h5 : base = X.base := by rfl) (hg : Gl X x := by rfl) (hdb : (x == ("__debug__" : Str)) = false := by decide) (he : starEach (e :: es) X.env = (false, eval e X.env) :: starEach es X.env := by rfl)
    (hpl : (backTo pos (starEach es X.env)).any (·.1) = false := by rfl) : DEX X (.Call (.Name x p) (e :: es) [] pos) (dCallX n sp t) := by
  subst h1 h2 h3 h4 h5 hn
  obtain ⟨f, fd, h1, h2, h3, h4, _⟩ := F.ex
  exact ⟨fun W tk => ⟨fun pins s σ H Q I ⟨ph, S, r, M, Q0, X0, hs, ht, hq, hx⟩ => wpAny_Call_Name_kw (ld_glob I hg h2 (PySem.W.callWith_K (h₀ := X.base) I.ok.mod.kin h3 (thn ((ha.pa W tk).run pos pins s σ H _ I ⟨ph, S, r, M, _, X0, hs, ht, fun _ _ z => z, hx⟩) fun us s1 ⟨vs, H1, I1, r1, ph1, S1, M1, x1, hs1, ds, q1, hl, g1⟩ =>
    ⟨I1.kIn, thn (run_fnX h1 (hr.mono hj) gd h4 tk I1 r1 (lf_callX hs1 q1 hl g1 (fun _ _ z => z) (fun cls d H' z => hx _ _ _ (z.up x1)))) fun _ _ z => EP.up x1 z hq⟩) he hpl) hdb)⟩⟩
end
end DL
/-! DLY: statements that may raise; try; a def that raises -/
namespace DL
open PySem PySem.Spec PyProof.Rows L2
theorem PS.noxS {X : Cx} {st : Stmt} {t : TS} (h : PS X.nox st t) : PS X st t := ⟨fun pins s σ H D I hw =>
  wpAny_mono (h.run pins s σ H D (I.wish _) hw) (fun _ _ q => q.unwish) fun _ _ z => False.elim z⟩
section
variable {X : Cx} {pos : Pos}
theorem lfX_on {W : WX} {ph ph1 : Ph} {S S1 : Hp} {r : Env} {M : Mem} {σ : St} {H : Hp} {t : DXE → DTS} {X0 : DXE} {E : DEnds} {E' : Ends} (x : Ext ph S ph1 S1) (hs : Sat X.K ph1 S1 r M σ H) (ht : t X0 E r M)
    (h1 : ∀ σ' H', postN X.K ph S E.nx σ' H' → E'.nx σ' H') (h2 : ∀ v H', postR X.K ph S E.rt v H' → E'.rt v H') (h3 : ∀ σ' H', postN X.K ph S E.bk σ' H' → E'.bk σ' H') (h4 : ∀ σ' H', postN X.K ph S E.ct σ' H' → E'.ct σ' H')
    (h5 : ∀ cls d σ' H', postE X.K ph S X0 cls d σ' H' → W cls d σ' H') : lfX X.K W t E' σ H :=
  ⟨ph1, S1, r, M, E, X0, hs, ht, fun _ _ z => h1 _ _ (z.up x), fun _ _ z => h2 _ _ (z.up x), fun _ _ z => h3 _ _ (z.up x), fun _ _ z => h4 _ _ (z.up x), fun _ _ _ _ z => h5 _ _ _ _ (z.up x)⟩
theorem dsx_of {st : Stmt} {t : DTS} (h : DS X.nox st t) : DSX X st (fun _ => t) :=
  ⟨fun W tk => PS.weak (PS.noxS h.ps) fun E σ H ⟨ph, S, r, M, E0, X0, hs, ht, h1, h2, h3, h4, _⟩ => ⟨ph, S, r, M, E0, hs, ht, h1, h2, h3, h4⟩⟩
theorem dssx_of {sts : List Stmt} {t : DTS} (h : DSs X.nox sts t) : DSXs X sts (fun _ => t) :=
  ⟨fun W tk => PSs.weak h.pss.nox fun E σ H ⟨ph, S, r, M, E0, X0, hs, ht, h1, h2, h3, h4, _⟩ => ⟨ph, S, r, M, E0, hs, ht, h1, h2, h3, h4⟩⟩
theorem dssx_cons {st : Stmt} {rest : List Stmt} {t u : DXE → DTS} (h : DSX X st t) (h' : DSXs X rest u) : DSXs X (st :: rest) (fun E => dSeq (t E) (u E)) :=
  ⟨fun W tk => PSs.weak (pss_cons (h.ps W tk) (h'.pss W tk)) fun E σ H ⟨ph, S, r, M, E0, X0, hs, ht, h1, h2, h3, h4, h5⟩ =>
    ⟨ph, S, r, M, { E0 with nx := u X0 E0 }, X0, hs, ht, fun σ' H' ⟨r1, ph1, S1, M1, x, hs1, z⟩ => lfX_on x hs1 z h1 h2 h3 h4 h5, h2, h3, h4, h5⟩⟩
theorem dssx_one {st : Stmt} {t : DXE → DTS} (h : DSX X st t) : DSXs X [st] t := ⟨fun W tk => pss_one (h.ps W tk)⟩
theorem dsx_if {c : Expr} {a b : List Stmt} {tc : DTT} {t u : DXE → DTS} (hc : DT X.nox c tc) (ha : DSXs X a t) (hb : DSXs X b u) : DSX X (.If c a b pos) (fun E => dIfS tc (t E) (u E)) :=
  ⟨fun W tk => PS.weak (ps_if hc.pt.nox (ha.pss W tk) (hb.pss W tk)) fun E σ H ⟨ph, S, r, M, E0, X0, hs, ht, h1, h2, h3, h4, h5⟩ => ⟨ph, S, r, M, _, hs, ht, fun k H1 ⟨ph1, S1, M1, x, hs1, z⟩ => by
    cases k with
    | true => exact lfX_on x hs1 z h1 h2 h3 h4 h5
    | false => exact lfX_on x hs1 z h1 h2 h3 h4 h5⟩⟩
theorem dsx_expr {e : Expr} {t : DXE → DTE} (he : DEX X e t) (hs : swapsWith e none pos.line X.env = pure false := by rfl) : DSX X (.Expr e pos) (fun E => dDrop (t E)) :=
  ⟨fun W tk => PS.weak (ps_expr (he.pe W tk) hs) fun E σ H ⟨ph, S, r, M, E0, X0, hs, ht, h1, _, _, _, h5⟩ => ⟨ph, S, r, M, _, X0, hs, ht, fun v H' ⟨ph1, S1, M1, x, hs1, d, _, z⟩ => h1 _ _ ⟨r, ph1, S1, M1, x, hs1, z⟩, fun cls d H' z => h5 _ _ _ _ z⟩⟩
theorem dsx_ret {e : Expr} {t : DXE → DTE} (he : DEX X e t) : DSX X (.Return (some e) pos) (fun E => dRet (t E)) :=
  ⟨fun W tk => PS.weak (ps_ret (he.pe W tk)) fun E σ H ⟨ph, S, r, M, E0, X0, hs, ht, _, h2, _, _, h5⟩ => ⟨ph, S, r, M, _, X0, hs, ht, fun v H' z => h2 _ _ ⟨r, σ, z⟩, fun cls d H' z => h5 _ _ _ _ z⟩⟩
/-- raise x(e) -/
def dRaise (x : Str) (t : DTA) : DXE → DTS := fun E _ r M => t r M fun ds M1 => ∃ d, ds = [d] ∧ E r x d M1
theorem dsx_raise {x : Str} {C S0 fI : Addr} {e : Expr} {p cpos : Pos} {t : DTA} {k : Nat} (T : XA.ErM X.prog X.K X.mg x C S0 fI) (hc : X.calm = true) (hr : Room k X.A) (ha : DA X.nox [e] t) (hg : Gl X x := by rfl)
    (he : starEach (e :: []) X.env = (false, eval e X.env) :: starEach [] X.env := by rfl) (hpl : (backTo cpos (starEach [] X.env)).any (·.1) = false := by rfl) (hdb : (x == ("__debug__" : Str)) = false := by decide) :
    DSX X (.Raise (some (.Call (.Name x p) [e] [] cpos)) none pos) (dRaise x t) := by
  refine ⟨fun W tk => ?_⟩
  have pa : PA X [e] (fun σ H Q => ∃ ph S r M Q0, Sat X.K ph S r M σ H ∧ t r M Q0 ∧ ∀ vs H', postA X.K ph S r σ Q0 vs H' → Q vs H') := ⟨fun pos pins s σ H Q I hw =>
    wpAny_mono (ha.pa.run pos pins s σ H Q (I.wish _) hw) (fun _ _ ⟨v, H', I', r, q⟩ => ⟨v, H', I'.unwish, r, q⟩) fun _ _ z => False.elim z⟩
  refine PS.weak (ps_raise hc tk (pmk_err T hr pa hg he hpl hdb)) fun E σ H ⟨ph, S, r, M, E0, X0, hs, ht, _, _, _, _, h5⟩ => ⟨ph, S, r, M, _, hs, ht, fun vs H1 ⟨ph1, S1, M1, x1, hs1, ds, q1, d, ed, g1⟩ => ?_⟩
  subst ed
  cases q1 with
  | @cons v vs' _ _ q1 q2 =>
    cases q2
    refine ⟨v, rfl, fun dd hd => h5 _ _ _ _ ⟨x, C, S0, dd, v, d, r, T.er, rfl, rfl, Aft.up x1 (Aft.frz hs1 hd fun y => ⟨upd_same, q1.up y, g1⟩)⟩⟩
/-! ### try -/
/-- try: t / except c as (slot i): ts, all that t raises being of the class c -/
def dTry (c : Str) (i : Nat) (t : DXE → DTS) (ts : DTS) : DTS := fun E r M => t (fun r' x dv M' => XA.under x c = true ∧
  ts { nx := fun r2 M2 => E.nx (r2.set i none) M2, rt := E.rt, bk := fun r2 M2 => E.bk (r2.set i none) M2, ct := fun r2 M2 => E.ct (r2.set i none) M2 } (r'.set i (some (.exc x dv))) M') E r M
theorem ds_try {x n : Str} {C : Addr} {i : Nat} {body suite : List Stmt} {b₀ : Stmt} {np pos' : Pos} {t : DXE → DTS} {ts : DTS} (hs : X.stack = X.env :: X.outer) (hf : X.env.frame = some X.env.locals) (hN : X.N.Nodup) (hA : XA.AnyC X.K x C) (hm : X.mg x = some (.ref C)) (tk : Takes X (fun _ _ _ _ => False))
    (hb : ∀ (pn : List (Addr × Obj)) (xe : Value → Shared → Prop), PassesOwn (model X.prog X.w) X.A X.env xe → DSXs (X.tr pn xe) body t) (hsu : ∀ (a : Addr) (pn : List (Addr × Obj)), DSs (sui X a pn) (b₀ :: suite) ts)
    (hi : X.N[i]? = some n := by rfl) (hln : X.env.kindOf n = some .local := by rfl) (hg : Gl X x := by rfl) (hdb : (x == ("__debug__" : Str)) = false := by decide) :
    DS X (.Try body [.ExceptHandler (some (.Name x np)) (some n) (b₀ :: suite) pos'] [] [] pos) (dTry x i t ts) := by
  have main := ps_try_sui (X := X) (x := x) (n := n) (c := .ref C) (i := i) (np := np) (pos := pos) (pos' := pos') (Wout := fun _ _ _ _ => False) hs hf hN hi hln ⟨hg, hdb, .inl hm⟩ tk (tb := fun W => lfX X.K W t) (fun W pn xe tkW hp => (hb pn xe hp).pss W tkW) (ts := lfS X.K ts) (fun a pn => (hsu a pn).pss)
  refine ⟨PS.weak main fun E' σ H ⟨ph, S, r, M, E, hs, ht, h1, h2, h3, h4⟩ => ⟨ph, S, r, M, E, _, hs, ht, h1, h2, h3, h4, ?_⟩⟩
  rintro cls d σ1 H1 ⟨y, C1, T1, dd, v, dv, r1, e1, rfl, rfl, ph1, S1, M1, x1, hs1, g1, g2, hu, g3⟩
  refine ⟨C1, dd, rfl, rfl, true, by rw [e1.exm hA, hu], fun _ a ha => ?_, fun z => Bool.noConfusion z⟩
  obtain ⟨x2, hs2⟩ := hs1.frz ha (erO a C1 dd)
  have q : Rep X.K ph1 (upd S1 a (erO a C1 dd)) (.ref a) (.exc y dv) := .exc e1 upd_same (x2.same _ _ g1) (g2.up x2)
  have xx := x1.trans x2
  refine ⟨ph1, _, _, M1, _, hs2.setN q, g3, ?_, ?_, ?_, ?_⟩
  · exact fun σ' H' ⟨r', ph', S', M', z, hs', w⟩ => h1 _ _ ⟨_, ph', S', M', xx.trans z, hs'.clr i, w⟩
  · exact fun v H' z => h2 _ _ (z.up xx)
  · exact fun σ' H' ⟨r', ph', S', M', z, hs', w⟩ => h3 _ _ ⟨_, ph', S', M', xx.trans z, hs'.clr i, w⟩
  · exact fun σ' H' ⟨r', ph', S', M', z, hs', w⟩ => h4 _ _ ⟨_, ph', S', M', xx.trans z, hs'.clr i, w⟩
end
/-! ### a def that may raise -/
def Rtx (M : Mem) (E : DX) : DX := fun x d M' => ∃ M1 G, M' = M1 ++ G ∧ M.length ≤ M1.length ∧ below M1.length d = true ∧ (∀ (i : Nat) (c : Own), M1[i]? = some c → M[i]? = some c ∨ belowO M1.length c = true) ∧ E x d M1
def dOut (M : Mem) (E : DX) : DXE := fun _ x d M' => Rtx M E x d M'
theorem Rtx.out {K : PySem.W.Frag} {ph : Ph} {S : Hp} {M : Mem} {H : Hp} {E : DX} (h0 : Sat K ph S [] M [] H) {cls : Value} {d : Option Addr} {σ : St} {H1 : Hp} (h : postE K ph S (dOut M E) cls d σ H1) : postX K ph S E cls d H1 := by
  obtain ⟨x, C, T, dd, v, dv, r, e1, e2, e3, ph1, S1, M', y, hs, q1, q2, M1, G, rfl, hl, hb, hc, hq⟩ := h
  obtain ⟨x2, hs2⟩ := Sat.leave h0 y hs hl hc
  exact ⟨x, C, T, dd, v, dv, e1, e2, e3, _, _, _, x2, hs2, q1, Rep.take dv v hb q2, hq⟩
section
variable {P : Program} {w : World} {K : PySem.W.Frag} {mg : Str → Option Value} {base : Heap}
theorem Fun.okE {x qual : Str} {st : Stmt} {f : Addr} {fd : FuncData} {N ps : List Str} {k : Nat} {sp : DSp} {t : DXE → DTS} (F : Fun K x qual st f fd) (S : FnScope N ps (defScope st))
    (hder : ∀ (cdv : Value) (A : Around) (outer : List PySem.Env) (s : Shared) (H : Hp) (E : XK), Room k (A.deeper (envOfC qual (defScope st) s.heap.objs.size f cdv)) → (A.deeper (envOfC qual (defScope st) s.heap.objs.size f cdv)).guards = some [] →
      DSXs (cxOf (L2.CX P w) P w K mg base N qual (defScope st) f cdv A outer s H E) (defBody st) t)
    (hread : ∀ ds M Q E, ds.length = ps.length → belowAll M.length ds = true → sp ds M Q E → t (dOut M E) (dEnds M Q) (startD N.length ds) M) : FnD P w K mg base (L2.CX P w) (k + 1) f fd ps sp := by
  obtain ⟨oc, od, kV, doc, pm, an, cdv, ct, osl, rfl, lk, hcd⟩ := F.ex
  refine fnG_of lk hcd S (fun vs H Q E h => ?_) fun A outer s H vs Q E hr gd hsp => ?_
  · obtain ⟨_, _, _, _, _, _, hl, _, q, _⟩ := h
    rw [q.len]; exact hl
  · obtain ⟨ph, S0, M, ds, Q0, E0, hl, hs, hq, h, h1, h2⟩ := hsp
    refine ⟨_, (hder cdv A outer s H E hr gd).pss _ (takes_of rfl rfl rfl rfl), ph, S0, startD N.length ds, M, dEnds M Q0, dOut M E0, hs.start hq N, hread ds M Q0 E0 hl (by rw [← hs.len]; exact RepAll.belowP _ _ hq) h, ?_, ?_, ?_, ?_, ?_⟩
    · rintro σ' H' ⟨r, ph1, S1, M1, x, hs1, z⟩
      exact h1 _ _ (Rtq.out hs ⟨r, σ', ph1, S1, M1, x, hs1, .non, .non, z⟩)
    · exact fun v H' z => h1 _ _ (Rtq.out hs z)
    · rintro σ' H' ⟨r, ph1, S1, M1, x, hs1, z⟩
      exact z.elim
    · rintro σ' H' ⟨r, ph1, S1, M1, x, hs1, z⟩
      exact z.elim
    · exact fun cls d σ' H' z => h2 _ _ _ (Rtx.out hs z)
theorem Here.okE {x : Str} {st : Stmt} {N ps : List Str} {k : Nat} {sp : DSp} {t : DXE → DTS} (F : Here K mg x st ps) (S : FnScope N ps (defScope st))
    (hder : ∀ (f : Addr) (cdv : Value) (A : Around) (outer : List PySem.Env) (s : Shared) (H : Hp) (E : XK), Room k (A.deeper (envOfC x (defScope st) s.heap.objs.size f cdv)) → (A.deeper (envOfC x (defScope st) s.heap.objs.size f cdv)).guards = some [] →
      DSXs (cxOf (L2.CX P w) P w K mg base N x (defScope st) f cdv A outer s H E) (defBody st) t)
    (hread : ∀ ds M Q E, ds.length = ps.length → belowAll M.length ds = true → sp ds M Q E → t (dOut M E) (dEnds M Q) (startD N.length ds) M) : Def P w K mg base (L2.CX P w) (k + 1) x st ps sp :=
  let ⟨f, fd, h1, h2, h3⟩ := F.ex
  ⟨f, fd, Fun.okE h1 S (hder f) hread, h2, h1.kp, h3, h1⟩
end
/-! ### a def that may raise, called where it doesn't -/
section
variable {X : Cx} {k : Nat} {ps ks : List Str} {sp : DSp} {x : Str} {p pos : Pos} {e : Expr} {es : List Expr} {kws : List Keyword} {t : DTA}
theorem passN : Passes (L2.CX X.prog X.w) X E0 := fun _ _ _ _ _ _ _ h => by
  obtain ⟨_, _, _, _, _, _, _, _, _, _, _, _, z⟩ := h
  exact z.elim
theorem dcallN {n : Nat} {st : Stmt} {P : Program} {w : World} {K : PySem.W.Frag} {mg : Str → Option Value} {base : Heap} (F : Def P w K mg base (L2.CX P w) k x st ps sp) {j : Nat} (hr : Room j X.A) (gd : X.A.guards = some []) (ha : DA X (e :: es) t) (hj : k ≤ j := by decide) (hn : ps.length = n := by rfl)
    (h1 : P = X.prog := by rfl) (h2 : w = X.w := by rfl) (h3 : K = X.K := by rfl) (h4 : mg = X.mg := by rfl) (h5 : base = X.base := by rfl) (hg : Gl X x := by rfl) (hdb : (x == ("__debug__" : Str)) = false := by decide) (he : starEach (e :: es) X.env = (false, eval e X.env) :: starEach es X.env := by rfl)
    (hpl : (backTo pos (starEach es X.env)).any (·.1) = false := by rfl) : DE X (.Call (.Name x p) (e :: es) [] pos) (dCall n sp [] DX0 t) := by
  subst h1 h2 h3 h4 h5 hn
  obtain ⟨f, fd, h1, h2, h3, h4, _⟩ := F.ex
  exact de_callX h1 (hr.mono hj) gd h2 h3 h4 .nil .nil passN pX0 ha hg hdb he hpl
/-! ### a call of what an expression tells (a def out of a list of defs) -/
/-- the defs that may be meant: name, number of parameters, contract -/
abbrev Tab := List (Str × Nat × DSp)
def dCallV (L : Tab) (tf : DTE) (t : DXE → DTA) : DXE → DTE := fun E r M Q => tf r M fun d M0 => match d with
  | .glb x => ∃ n sp, (x, n, sp) ∈ L ∧ t E r M0 fun ds M1 => ds.length = n ∧ sp ds M1 Q (fun y dv M2 => E r y dv M2)
  | _ => False
theorem dcallV {L : Tab} {P : Program} {w : World} {K : PySem.W.Frag} {mg : Str → Option Value} {base : Heap} {fe : Expr} {tf : DTE} {t : DXE → DTA} {j : Nat} (hf : DE X.nox fe tf) (ha : DAX X (e :: es) t)
    (FL : ∀ x n sp, (x, n, sp) ∈ L → ∃ k st ps, k ≤ j ∧ ps.length = n ∧ Def P w K mg base (L2.CX P w) k x st ps sp) (hr : Room j X.A) (gd : X.A.guards = some [])
    (h1 : P = X.prog := by rfl) (h2 : w = X.w := by rfl) (h3 : K = X.K := by rfl) (h4 : mg = X.mg := by rfl) (h5 : base = X.base := by rfl)
    (ht : eval (.Call fe (e :: es) [] pos) X.env = (do callWith pos (← eval fe X.env) [] (backTo pos (starEach (e :: es) X.env)) (backToKw pos (keywordEach [] X.env))) := by rfl)
    (he : starEach (e :: es) X.env = (false, eval e X.env) :: starEach es X.env := by rfl) (hpl : (backTo pos (starEach es X.env)).any (·.1) = false := by rfl) : DEX X (.Call fe (e :: es) [] pos) (dCallV L tf t) := by
  subst h1 h2 h3 h4 h5
  refine ⟨fun W tk => ⟨fun pins s σ H Q I ⟨ph, S, r, M, Q0, X0, hs, hq0, hq, hx⟩ => ?_⟩⟩
  refine Call_ (thn (hf.pe.nox.run pins s σ H _ I ⟨ph, S, r, M, _, hs, hq0, fun _ _ z => z⟩) fun u s1 ⟨y, H1, I1, ry, ph1, S1, M1, x1, hs1, d, q1, g1⟩ => ?_) ht
  cases d <;> first | exact g1.elim | skip
  rename_i z
  obtain ⟨n, sp, hL, g1⟩ := g1
  obtain ⟨k, st, ps, hj, hn, F⟩ := FL z n sp hL
  obtain ⟨f, fd, h1, h2, h3, h4, _⟩ := F.ex
  cases q1 with
  | @glb a _ hz =>
    have ea : a = f := by
      have y1 := PySem.W.mg_of I1.ok.mod.kin I1.ok.mod.glob hz
      rw [h2] at y1
      exact (Value.ref.inj (Option.some.inj y1)).symm
    subst ea
    cases (show u = Value.ref a from ry)
    subst hn
    refine PySem.W.callWith_K (h₀ := X.base) I1.ok.mod.kin h3 (thn ((ha.pa W tk).run pos pins s1 σ H1 _ I1 ⟨ph1, S1, r, M1, _, X0, hs1, g1, fun _ _ z => z, fun cls d H' z => hx _ _ _ (z.up x1)⟩) fun us s2 ⟨vs, H2, I2, r2, ph2, S2, M2, x2, hs2, ds, q2, hl, g2⟩ => ⟨I2.kIn, ?_⟩) he hpl
    exact thn (run_fnX h1 (hr.mono hj) gd h4 tk I2 r2 (lf_callX hs2 q2 hl g2 (fun _ _ z => z) (fun cls d H' z => hx _ _ _ (z.up (x1.trans x2))))) fun _ _ z => EP.up (x1.trans x2) z hq
end
end DL
namespace DL
open PySem PySem.Spec PyProof.Rows L2
theorem takes0 {X : Cx} : Takes X (fun _ _ _ _ => False) := fun _ _ ⟨_, _, _, _, _, _, _, _, _, _, _, _, _, _, _, _, z⟩ => z.elim
/-- a contract without errors -/
theorem Def.weak {P : Program} {w : World} {K : PySem.W.Frag} {mg : Str → Option Value} {base : Heap} {CX : CXT} {k : Nat} {x : Str} {st : Stmt} {ps : List Str} {sp sp' : DSp} (F : Def P w K mg base CX k x st ps sp) (h : ∀ ds M Q E, sp' ds M Q E → sp ds M Q DX0) : Def P w K mg base CX k x st ps sp' := by
  obtain ⟨f, fd, h1, h2, h3, h4, h5⟩ := F.ex
  refine ⟨f, fd, ⟨fun vs H Q E z => ?_, fun A outer s H args us vs Q E hr gd e0 hb r z => ?_⟩, h2, h3, h4, h5⟩
  · obtain ⟨ph, S, M, ds, Q0, E0, hl, hs, q, z, z1, z2⟩ := z
    rw [q.len]; exact hl
  · obtain ⟨ph, S, M, ds, Q0, E0, hl, hs, q, z, z1, z2⟩ := z
    exact h1.run A outer s H args us vs Q E hr gd e0 hb r ⟨ph, S, M, ds, Q0, DX0, hl, hs, q, h _ _ _ _ z, z1, fun cls d H2 ⟨_, _, _, _, _, _, _, _, _, _, _, _, _, _, _, _, y⟩ => y.elim⟩
end DL
namespace DL
open PySem PySem.Spec PyProof.Rows L2
/-- an error leaves, the cells being as they were -/
theorem rtx {M : Mem} {E : DX} {x : Str} {d : D} {r : Env} (hb : below M.length d = true) (h : E x d M) : dOut M E r x d M :=
  ⟨M, [], by rw [List.append_nil], Nat.le_refl _, hb, fun i c e => .inl e, h⟩
end DL
/-! DLZ: list(range), range with a step, enumerate, xs[::-1], xs.index -/
namespace DL
open PySem PySem.Spec PyProof.Rows L2
section
variable {X : Cx} {pos : Pos}
/-! ### list(range(..)) -/
def gLRng (own : Bool) : GA := fun ds M Q => match ds with
  | [.int b] => RgOk 0 b ∧ (if own = true then Q (.own M.length) (M ++ [.lst (rng 0 b.toNat)]) else Q (.lst (rng 0 b.toNat)) M)
  | [.int a, .int b] => RgOk a b ∧ (if own = true then Q (.own M.length) (M ++ [.lst (rng a (b - a).toNat)]) else Q (.lst (rng a (b - a).toNat)) M)
  | _ => False
/-! ### range(a, b, c) -/
/-! ### enumerate -/
/-! ### xs[::-1] -/
/-! ### xs.index(y) -/
mutual
def dpD : D → Bool
  | .non => true
  | .bl _ => true
  | .int _ => true
  | .str _ => true
  | .tup l => dpDAll l
  | .lst l => dpDAll l
  | _ => false
def dpDAll : List D → Bool
  | [] => true
  | d :: ds => dpD d && dpDAll ds
end
mutual
theorem Rep.dp {K : PySem.W.Frag} {ph : Ph} {H : Hp} : ∀ (d : D) (v : V) (p : PyData), Rep K ph H v d → dpD d = true → toPy d = some p → Dp K H v p
  | .non, _, _, h, _, e => by cases h; cases e; exact .non
  | .bl _, _, _, h, _, e => by cases h; cases e; exact .bl _
  | .int _, _, _, h, _, e => by cases h; cases e; exact .int _
  | .str _, _, _, h, _, e => by cases h; cases e; exact .str _
  | .tup ds, _, _, h, g, e => by
    cases h with
    | tup h1 h2 =>
      simp only [toPy] at e
      split at e
      · rename_i ps ep
        cases e
        exact .tup (SqT.of h1) (RepAll.dp ds _ ps h2 (by simpa only [dpD] using g) ep)
      · cases e
  | .lst ds, _, _, h, g, e => by
    cases h with
    | lst h1 h2 =>
      simp only [toPy] at e
      split at e
      · rename_i ps ep
        cases e
        exact .lst (SqL.of h1) (RepAll.dp ds _ ps h2 (by simpa only [dpD] using g) ep)
      · cases e
  | .dct0, _, _, _, g, _ => by simp [dpD] at g
  | .scr _, _, _, _, g, _ => by simp [dpD] at g
  | .own _, _, _, _, g, _ => by simp [dpD] at g
  | .exc _ _, _, _, _, g, _ => by simp [dpD] at g
  | .glb _, _, _, _, g, _ => by simp [dpD] at g
  | .val _, _, _, _, g, _ => by simp [dpD] at g
theorem RepAll.dp {K : PySem.W.Frag} {ph : Ph} {H : Hp} : ∀ (ds : List D) (vs : List V) (ps : List PyData), RepAll K ph H vs ds → dpDAll ds = true → toPyAll ds = some ps → DpAll K H vs ps
  | [], _, _, h, _, e => by cases h; cases e; exact .nil
  | d :: ds, _, _, h, g, e => by
    cases h with
    | cons h1 h2 =>
      have g' : dpD d = true ∧ dpDAll ds = true := by simpa only [dpDAll, Bool.and_eq_true] using g
      simp only [toPyAll] at e
      split at e
      · rename_i p ps ep eps
        cases e
        exact .cons (Rep.dp d _ p h1 g'.1 ep) (RepAll.dp ds _ ps h2 g'.2 eps)
      · cases e
end
/-- the first place of an equal one -/
def gIndex (o : D) (ds : List D) (M : Mem) (Q : DQ) : Prop := match ds with
  | [y] => ∃ l ps p j z, res M o = .lst l ∧ dpDAll l = true ∧ dpD (res M y) = true ∧ cmpd (.lst l) = some (.list ps) ∧ cmpd (res M y) = some p ∧ ps[j]? = some z ∧ PyData.eqv z p = true ∧ (∀ (m : Nat) z', m < j → ps[m]? = some z' → PyData.eqv z' p = false) ∧ Q (.int (j : Nat)) M
  | _ => False
def dMeth (g : D → List D → Mem → DQ → Prop) (to : DTE) (t : DTA) : DTE := fun r M Q => to r M fun o M1 => (∃ l, res M1 o = .lst l) ∧ t r M1 fun ds M2 => g o ds M2 Q
theorem de_index {o e : Expr} {to : DTE} {t : DTA} {apos cpos : Pos} (hu : X.A.units + 65 < cLine) (ho : DE X o to) (ha : DA X [e] t) (h1 : attributeBase o "index" X.env (eval o X.env) = eval o X.env := by rfl)
    (h2 : (((backTo cpos (starEach [e] X.env)).all fun x => !x.1) && (backToKw cpos (keywordEach [] X.env)).all (fun x => x.1.isSome) && decide (([e] : List Expr).length + ([] : List Keyword).length + (if ([] : List Keyword).isEmpty then 0 else 1) < 30)) = true := by rfl) (h3 : (apos.endLine == cpos.line) = true := by rfl)
    (h4 : starEach [e] X.env = (false, eval e X.env) :: starEach [] X.env := by rfl) (h5 : (backTo cpos (starEach [] X.env)).any (·.1) = false := by rfl) : DE X (.Call (.Attribute o "index" apos) [e] [] cpos) (dMeth gIndex to t) :=
  DE.of (pe_bm PySem.F.plainAttrs_list PySem.F.slot_list_index PySem.F.type_list_index (mt_indexD hu) ho.pe ha.pa h1 h2 h3 h4 h5) fun ph S r M σ H Q hs ht Q' hq => ⟨ph, S, r, M, _, hs, ht, fun v H1 ⟨ph1, S1, M1, x1, hs1, d, q1, ⟨l0, e0⟩, g1⟩ => by
    obtain ⟨a0, xs0, rfl, hp0, hx0⟩ := res_lst hs1 q1 e0
    refine ⟨.inl ⟨rfl, _, SqL.of hp0⟩, ph1, S1, r, M1, _, hs1, g1, fun vs H2 ⟨ph2, S2, M2, x2, hs2, ds, q2, g2⟩ => ?_⟩
    match ds, q2, g2 with
    | [y], .cons q3 .nil, ⟨l, ps, p, j, z, el, hl, hy, cl, cy, hz, hzj, hno, g⟩ =>
      have ql := Rep.res hs2 (q1.up x2)
      rw [el] at ql
      exact ⟨_, _, p, ps, j, z, rfl, rfl, Rep.dp _ _ _ ql (by simpa only [dpD] using hl) (cmpd_some cl).1, Rep.dp _ _ _ (Rep.res hs2 q3) hy (cmpd_some cy).1, (cmpd_some cl).2, (cmpd_some cy).2, hz, hzj, hno, hq _ _ ⟨ph2, S2, M2, x1.trans x2, hs2, _, .int _, g⟩⟩⟩
end
end DL
namespace DL
open PySem PySem.Spec PyProof.Rows L2
def t_check_measure_x (c_is_measure_by : DSp) : DXE → DTS :=
 fun E => (dIfS (dNot (dTru (dCall 1 c_is_measure_by [] DX0 (dCons (dVar 0) dNil)))) (dRaise "InvalidMeasure" (dCons (dVar 0) dNil) E) dNext)
def t_check_number_x (c_is_whole : DSp) : DXE → DTS :=
 fun E => (dIfS (dOr (dNot (dTru (dCall 1 c_is_whole [] DX0 (dCons (dVar 0) dNil)))) (dOr (dAnd (dTru (dOp (gIs true) (dVar 1) (dC .non))) (dTru (dOp (gCmpI fun i j => decide (i < j)) (dVar 0) (dVar 1)))) (dAnd (dTru (dOp (gIs true) (dVar 2) (dC .non))) (dTru (dOp (gCmpI fun i j => decide (j < i)) (dVar 0) (dVar 2)))))) (dRaise "InvalidNumber" (dCons (dVar 0) dNil) E) dNext)
end DL
namespace DL
open PySem PySem.Spec PyProof.Rows L2
def t_check_cutting_x (c_is_cutting_by : DSp) : DXE → DTS :=
 fun E => (dIfS (dNot (dTru (dCall 1 c_is_cutting_by [] DX0 (dCons (dVar 0) dNil)))) (dRaise "InvalidCutting" (dCons (dVar 0) dNil) E) dNext)
def t_listed_by (c_turns_of : DSp) (c_with_turn : DSp) : DTS :=
 (dSeq (dAsg (dLst dNil) (dName 1))
 (dSeq (dFor (dSeqI (dCall 1 c_turns_of [] DX0 (dCons (dVar 0) dNil))) (dName 2) (dAsg (dOp gAdd (dVar 1) (dCall 2 c_with_turn [] DX0 (dCons (dVar 0) (dCons (dVar 2) dNil)))) (dName 1)))
 (dRet (dCB (gSorted false) (dCons (dVar 1) dNil)))))
def t_cutting_number_x (c_check_cutting_x : DSp) (c_listed_by : DSp) (c_measure_by : DSp) : DXE → DTS :=
 fun E => (dSeq (dDrop (dCallX 1 c_check_cutting_x (fun E => (dCons (dVar 0) dNil)) E))
 (dRet (dMeth gIndex (dCall 1 c_listed_by [] DX0 (dCons (dCall 1 c_measure_by [] DX0 (dCons (dVar 0) dNil)) dNil)) (dCons (dVar 0) dNil))))
def t_cutting_numbered_x (c_check_measure_x : DSp) (c_listed_by : DSp) (c_check_number_x : DSp) : DXE → DTS :=
 fun E => (dSeq (dDrop (dCallX 1 c_check_measure_x (fun E => (dCons (dVar 0) dNil)) E))
 (dSeq (dAsg (dCall 1 c_listed_by [] DX0 (dCons (dVar 0) dNil)) (dName 2))
 (dSeq (dDrop (dCallX 3 c_check_number_x (fun E => (dCons (dVar 1) (dCons (dC (.int 0)) (dCons (dOp (rBin (fun _ _ => True) fun i j => i - j) (dCB gLen (dCons (dVar 2) dNil)) (dC (.int 1))) dNil)))) E))
 (dRet (dOp gIx (dVar 2) (dVar 1))))))
def t_next_cutting_x (c_check_cutting_x : DSp) (c_listed_by : DSp) (c_measure_by : DSp) : DXE → DTS :=
 fun E => (dSeq (dDrop (dCallX 1 c_check_cutting_x (fun E => (dCons (dVar 0) dNil)) E))
 (dSeq (dAsg (dCall 1 c_listed_by [] DX0 (dCons (dCall 1 c_measure_by [] DX0 (dCons (dVar 0) dNil)) dNil)) (dName 1))
 (dSeq (dAsg (dOp gAdd (dMeth gIndex (dVar 1) (dCons (dVar 0) dNil)) (dC (.int 1))) (dName 2))
 (dRet (dIf (dTru (dOp (gCmpI fun i j => decide (i < j)) (dVar 2) (dCB gLen (dCons (dVar 1) dNil)))) (dOp gIx (dVar 1) (dVar 2)) (dC .non))))))
def t_how_many_with_last_x (c_check_measure_x : DSp) (c_check_number_x : DSp) (c_with_turn : DSp) : DXE → DTS :=
 fun E => (dSeq (dDrop (dCallX 1 c_check_measure_x (fun E => (dCons (dVar 0) dNil)) E))
 (dSeq (dDrop (dCallX 3 c_check_number_x (fun E => (dCons (dVar 1) (dCons (dC .non) (dCons (dC .non) dNil)))) E))
 (dRet (dCB gLen (dCons (dCall 2 c_with_turn [] DX0 (dCons (dVar 0) (dCons (dVar 1) dNil))) dNil)))))
end DL
/-! XC: list(range(a, b, c)); xs.count(y) -/
namespace L2
open PySem PySem.Spec PyProof.Rows PyProof
end L2
/-! DLC: list(range(a, b, c)), xs.count(y), comparisons and reprs of data with owned lists within -/
namespace DL
open PySem PySem.Spec PyProof.Rows L2
section
variable {X : Cx} {pos : Pos}
/-! ### xs.count(y) -/
/-! ### owned lists within -/
def cellL (M : Mem) (k : Nat) : Option (List D) := match M[k]? with
  | some (.lst ds) => some ds
  | _ => none
mutual
/-- every owned list within as it stands -/
def resD (M : Mem) : D → D
  | .own k => match cellL M k with
    | some ds => .lst ds
    | none => .own k
  | .tup l => .tup (resDA M l)
  | .lst l => .lst (resDA M l)
  | d => d
def resDA (M : Mem) : List D → List D
  | [] => []
  | d :: ds => resD M d :: resDA M ds
end
section
variable {K : PySem.W.Frag} {ph : Ph} {S : Hp} {r : Env} {M : Mem} {σ : St} {H : Hp}
mutual
theorem Rep.resD (hs : Sat K ph S r M σ H) : ∀ (d : D) (v : V), Rep K ph S v d → Rep K ph H v (resD M d)
  | .own k, v, q => by
    unfold DL.resD
    split
    · rename_i ds hk
      have hk' : M[k]? = some (.lst ds) := by
        unfold cellL at hk
        split at hk
        · rename_i e; cases hk; exact e
        · cases hk
      cases q with
      | own h =>
        obtain ⟨a, xs, c1, c2, c3, c4⟩ := hs.cell k ds hk'
        rw [h] at c1; cases c1
        exact .lst c3 (hs.readAll c4)
    · exact hs.read q
  | .tup l, _, .tup h1 h2 => by
    unfold DL.resD
    exact .tup (hs.sub _ _ h1) (RepAll.resD hs l _ h2)
  | .lst l, _, .lst h1 h2 => by
    unfold DL.resD
    exact .lst (hs.sub _ _ h1) (RepAll.resD hs l _ h2)
  | .non, _, q => hs.read q
  | .bl _, _, q => hs.read q
  | .int _, _, q => hs.read q
  | .str _, _, q => hs.read q
  | .dct0, _, q => hs.read q
  | .scr _, _, q => hs.read q
  | .exc _ _, _, q => hs.read q
  | .glb _, _, q => hs.read q
  | .val _, _, q => hs.read q
theorem RepAll.resD (hs : Sat K ph S r M σ H) : ∀ (ds : List D) (vs : List V), RepAll K ph S vs ds → RepAll K ph H vs (resDA M ds)
  | [], _, .nil => by unfold DL.resDA; exact .nil
  | d :: ds, _, .cons q t => by unfold DL.resDA; exact .cons (Rep.resD hs d _ q) (RepAll.resD hs ds _ t)
end
end
end
end DL
namespace DL
open PySem PySem.Spec PyProof.Rows L2
end DL
/-! XD: repr of a list whose items may be dicts, where no list within is asked about -/
namespace L2
open PySem PySem.Spec PyProof.Rows PyProof
section
variable {prog : Program} {w : World} {A : Around} {E : Value → Shared → Prop} {s : Shared} {Q : Value → Shared → Prop}
theorem repr_listZ {a : Addr} {o : Obj} {vs : Array Value} {n : Nat} {xs : List PyData} {as : List Addr} (ho : s.heap.get? a = some o) (oc : o.cls = .type "list") (od : o.data = .seq vs n) (rs : ReadsAll s.heap vs.toList xs as)
    (sh : PyData.showableAll xs = true) (no : sysModules ∉ as) (gd : A.guards = some []) (un : A.units + (PyData.depthAll xs + 3) < cLine) (len : (PyData.list xs).shown.length ≤ sizeLine)
    (q : ∀ h' u tk, (∀ b o, s.heap.get? b = some o → h'.get? b = some o) → Q (.str (PyData.list xs).shown u) { s with heap := h', toks := tk }) :
    wpAny (model prog w) A (call (.builtin "repr") [.ref a]) Q E s := by
  have len2 : (listText (PyData.shownAll xs)).length ≤ sizeLine := by simpa only [PyData.shown] using len
  obtain ⟨cs, deep, each⟩ := ReprAllK.of_readsAll (prog := prog) (w := w) rs sh (fun _ => no) (fun t ht => Nat.le_trans (listText_mem_le ht) len2)
  have away : a ∉ cs := not_mem_of_deeper (.list ho oc od rs) (by simp only [PyData.depth]; omega) deep
  refine call_repr_slot (by omega) ⟨o, ho, oc⟩ F.slot_list_repr.toG ?_
  simp only [PyData.shown] at q
  cases vs with
  | mk l =>
    cases l with
    | nil =>
      cases (show ReadsAll s.heap [] xs as from rs)
      simp only [PyData.shownAll, listText_nil] at q
      exact call_list_repr_empty ⟨o, ho, oc⟩ ho od ⟨_, _, rfl, q s.heap _ _ fun _ _ z => z⟩
    | cons x l =>
      refine call_list_reprK ho oc od away (by simpa using each.length_eq) (fun i y z => each.item i y (by simpa using z)) gd (fun b _ => Clear.nil b) ?_ (fun _ _ z => z) (fun h' u tk kp => ⟨_, _, rfl, q h' u tk kp⟩) len2
      show A.units + 1 + (PyData.depthAll xs + 1) < cLine
      omega
end
end L2
/-! DLR: how readings are shown -/
namespace DL
open PySem PySem.Spec PyProof.Rows L2
/-! ### while -/
/-- the same, the measure told apart -/
theorem dwhile_of {c : DTT} {t : DTS} {E : DEnds} {r : Env} {M : Mem} (W : Nat → Env → Mem → Prop) (n : Nat) (h0 : W n r M)
    (step : ∀ n r M, W n r M → c r M fun b M1 => if b = true then t { E with nx := fun r' M' => ∃ m', m' < n ∧ W m' r' M', ct := fun r' M' => ∃ m', m' < n ∧ W m' r' M', bk := E.nx } r M1 else E.nx r M1) : dWhile c t E r M := ⟨W, ⟨n, h0⟩, step⟩
/-! ### comparing plain data -/
theorem gEq_int {i j : Int} {M : Mem} {Q : DQ} : gEq (.int i) (.int j) M Q = Q (.bl (i == j)) M := rfl
theorem gNe_int {i j : Int} {M : Mem} {Q : DQ} : gNe (.int i) (.int j) M Q = Q (.bl (!(i == j))) M := rfl
theorem gEq_bl {i j : Bool} {M : Mem} {Q : DQ} : gEq (.bl i) (.bl j) M Q = Q (.bl (i == j)) M := rfl
theorem gNe_bl {i j : Bool} {M : Mem} {Q : DQ} : gNe (.bl i) (.bl j) M Q = Q (.bl (!(i == j))) M := rfl
/-! ### the end of a def -/
theorem rtq {M : Mem} {Q : DQ} {d : D} (q : Q d M) (hb : below M.length d = true := by rfl) : Rtq M Q d M := ⟨M, [], (List.append_nil M).symm, Nat.le_refl _, hb, fun _ _ h => .inl h, q⟩
theorem rtqG {M G : Mem} {Q : DQ} {d : D} (q : Q d M) (hb : below M.length d = true := by rfl) : Rtq M Q d (M ++ G) := ⟨M, G, rfl, Nat.le_refl _, hb, fun _ _ h => .inl h, q⟩
/-- new cells stay, others were changed: all of them plain -/
theorem rtqC {M M1 : Mem} {Q : DQ} {d : D} (q : Q d M1) (hl : M.length ≤ M1.length) (hb : below M1.length d = true) (hc : ∀ (i : Nat) (c : Own), M1[i]? = some c → M[i]? = some c ∨ belowO M1.length c = true) : Rtq M Q d M1 := ⟨M1, [], (List.append_nil _).symm, hl, hb, hc, q⟩
end DL
namespace DL
open PySem PySem.Spec PyProof.Rows L2
/-! ### comprehensions -/
theorem lcW_pure {ds : List D} {C : Mem → Prop} {g : DTG} {tt : DTT} {te : DTE} {r : Env} {M : Mem} {Q : DQ} (f : D → Option D) (hC : C M) (hl : ds.length ≤ sizeLine)
    (step : ∀ d ∈ ds, ∀ (Y : D → Mem → Prop) (N : Mem → Prop), (match f d with | some e => Y e M | none => N M) → g d r M fun r2 M2 => tt r2 M2 fun b M3 => if b = true then te r2 M3 Y else N M3)
    (q : Q (.lst (ds.filterMap f)) M) : lcW false ds C g tt te r M Q := by
  refine ⟨fun i acc M' => M' = M ∧ acc = (ds.take i).filterMap f ∧ i ≤ ds.length, ⟨rfl, rfl, Nat.zero_le _⟩, ?_⟩
  rintro i acc M' ⟨rfl, rfl, hi⟩
  refine ⟨hC, fun hd => ?_, fun d ed => ?_⟩
  · rw [if_neg Bool.false_ne_true]
    rw [List.take_of_length_le hd]; exact q
  · have hlt : i < ds.length := (List.getElem?_eq_some_iff.mp ed).1
    have ht : ds.take (i + 1) = ds.take i ++ [d] := by rw [List.take_add_one, ed]; rfl
    refine step d (List.mem_of_getElem? ed) _ _ ?_
    split
    · rename_i e he
      refine ⟨?_, rfl, ?_, hlt⟩
      · have h1 : ((ds.take i).filterMap f).length ≤ (ds.take i).length := List.length_filterMap_le _ _
        have h2 : (ds.take i).length ≤ i := by rw [List.length_take]; omega
        omega
      · rw [ht, List.filterMap_append]
        simp [he]
    · rename_i he
      refine ⟨rfl, ?_, hlt⟩
      rw [ht, List.filterMap_append]
      simp [he]
/-! ### data that may be compared -/
mutual
def fine (n : Nat) : D → Bool
  | .non => true
  | .bl _ => true
  | .int _ => true
  | .str x => PyData.strOk x
  | .tup l => match n with
    | 0 => false
    | n + 1 => fineAll n l
  | .lst l => match n with
    | 0 => false
    | n + 1 => fineAll n l
  | _ => false
def fineAll (n : Nat) : List D → Bool
  | [] => true
  | d :: ds => fine n d && fineAll n ds
end
mutual
theorem fine_py : ∀ (n : Nat) (d : D), fine n d = true → ∃ p, toPy d = some p ∧ p.canLay0 = true ∧ p.depth ≤ n
  | n, .non, _ => ⟨.none, rfl, by simp only [PyData.canLay0], by simp only [PyData.depth]; omega⟩
  | n, .bl b, _ => ⟨.bool b, rfl, by simp only [PyData.canLay0], by simp only [PyData.depth]; omega⟩
  | n, .int i, _ => ⟨.int i, rfl, by simp only [PyData.canLay0], by simp only [PyData.depth]; omega⟩
  | n, .str x, h => ⟨.str x, rfl, by simpa only [PyData.canLay0, fine] using h, by simp only [PyData.depth]; omega⟩
  | 0, .tup l, h => by simp [fine] at h
  | n + 1, .tup l, h => by
    obtain ⟨ps, h1, h2, h3, _⟩ := fine_pyAll n l (by simpa only [fine] using h)
    exact ⟨.tuple ps, by simp only [toPy, h1], by simpa only [PyData.canLay0] using h2, by simp only [PyData.depth]; omega⟩
  | 0, .lst l, h => by simp [fine] at h
  | n + 1, .lst l, h => by
    obtain ⟨ps, h1, h2, h3, _⟩ := fine_pyAll n l (by simpa only [fine] using h)
    exact ⟨.list ps, by simp only [toPy, h1], by simpa only [PyData.canLay0] using h2, by simp only [PyData.depth]; omega⟩
  | n, .dct0, h => by simp [fine] at h
  | n, .scr _, h => by simp [fine] at h
  | n, .own _, h => by simp [fine] at h
  | n, .exc _ _, h => by simp [fine] at h
  | n, .glb _, h => by simp [fine] at h
  | n, .val _, h => by simp [fine] at h
theorem fine_pyAll : ∀ (n : Nat) (ds : List D), fineAll n ds = true → ∃ ps, toPyAll ds = some ps ∧ PyData.canLayAll0 ps = true ∧ PyData.depthAll ps ≤ n ∧ ps.length = ds.length
  | n, [], _ => ⟨[], rfl, by simp only [PyData.canLayAll0], by simp only [PyData.depthAll]; omega, rfl⟩
  | n, d :: ds, h => by
    have h' : fine n d = true ∧ fineAll n ds = true := by simpa only [fineAll, Bool.and_eq_true] using h
    obtain ⟨p, a1, a2, a3⟩ := fine_py n d h'.1
    obtain ⟨ps, b1, b2, b3, b4⟩ := fine_pyAll n ds h'.2
    exact ⟨p :: ps, by simp only [toPyAll, a1, b1], by simp only [PyData.canLayAll0, a2, b2, Bool.and_self], by simp only [PyData.depthAll]; omega, by rw [List.length_cons, List.length_cons, b4]⟩
end
theorem cmpd_fine {n : Nat} {d : D} (h : fine n d = true) (hn : n ≤ 64 := by decide) : ∃ p, toPy d = some p ∧ cmpd d = some p := by
  obtain ⟨p, h1, h2, h3⟩ := fine_py n d h
  refine ⟨p, h1, ?_⟩
  unfold cmpd
  rw [h1]
  have : SeqAt.shaped p = true := by unfold SeqAt.shaped; rw [h2]; simp; omega
  simp only [this, if_true]
theorem fineAll_iff {n : Nat} : ∀ {l : List D}, fineAll n l = true ↔ ∀ d ∈ l, fine n d = true
  | [] => by simp [fineAll]
  | d :: l => by simp only [fineAll, Bool.and_eq_true, List.mem_cons, forall_eq_or_imp, fineAll_iff (l := l)]
theorem res_fine {n : Nat} {d : D} {M : Mem} (h : fine n d = true) : res M d = d := by
  cases d <;> first | rfl | (simp [fine] at h)
theorem eqv_self {n : Nat} {d : D} {p : PyData} (h : fine n d = true) (hp : toPy d = some p) : PyData.eqv p p = true := by
  obtain ⟨p', h1, h2, _⟩ := fine_py n d h
  rw [hp] at h1; cases h1
  exact SeqAt.eqv_refl p h2
theorem eqB_self {n : Nat} {d : D} (h : fine n d = true) (hn : n ≤ 64 := by decide) : eqB d d = some true := by
  obtain ⟨p, h1, h2⟩ := cmpd_fine h hn
  unfold eqB
  split
  · simp_all
  · rw [h2]
    show some (PyData.eqv p p) = _
    rw [eqv_self h h1]
/-- the same data compared -/
theorem gNe_same {n : Nat} {d : D} {M : Mem} {Q : DQ} (h : fine n d = true) (q : Q (.bl false) M) (hn : n ≤ 64 := by decide) : gNe d d M Q := by
  unfold gNe
  rw [res_fine h, eqB_self h hn]
  exact q
theorem gEq_same {n : Nat} {d : D} {M : Mem} {Q : DQ} (h : fine n d = true) (q : Q (.bl true) M) (hn : n ≤ 64 := by decide) : gEq d d M Q := by
  unfold gEq
  rw [res_fine h, eqB_self h hn]
  exact q
theorem eqB_nil {n : Nat} {l : List D} (h : fineAll n l = true) (hn : n ≤ 60 := by decide) : eqB (.lst l) (.lst []) = some l.isEmpty := by
  have hf : fine (n + 1) (.lst l) = true := by simpa only [fine] using h
  obtain ⟨p, h1, h2⟩ := cmpd_fine hf (by omega)
  obtain ⟨ps, b1, _, _, b4⟩ := fine_pyAll n l h
  have e : p = .list ps := by simp only [toPy, b1] at h1; exact (Option.some.inj h1).symm
  subst e
  show (match cmpd (.lst l), cmpd (.lst []) with
    | some p, some q => some (PyData.eqv p q)
    | _, _ => none) = _
  rw [h2]
  show some (PyData.eqv (.list ps) (.list [])) = _
  cases l with
  | nil => cases ps with
    | nil => rfl
    | cons _ _ => simp at b4
  | cons _ _ => cases ps with
    | nil => simp at b4
    | cons _ _ => rfl
/-- a list beside the empty one -/
theorem gNe_nil' {n : Nat} {l : List D} {M : Mem} {Q : DQ} (h : fineAll n l = true) (q : Q (.bl (!l.isEmpty)) M) (hn : n ≤ 60 := by decide) : gNe (.lst l) (.lst []) M Q := by
  unfold gNe
  show match eqB (.lst l) (.lst []) with | some b => Q (.bl (!b)) M | none => False
  rw [eqB_nil h hn]
  exact q
theorem gNe_strs {a b : Str} {M : Mem} {Q : DQ} : gNe (.str a) (.str b) M Q = Q (.bl (!(a == b))) M := rfl
theorem gEq_strs {a b : Str} {M : Mem} {Q : DQ} : gEq (.str a) (.str b) M Q = Q (.bl (a == b)) M := rfl
/-! ### data that may be shown -/
mutual
def lit (B : Nat) : D → Bool
  | .int i => decide (i.natAbs.log2 < B)
  | .tup l => litAll B l
  | .lst l => litAll B l
  | _ => true
def litAll (B : Nat) : List D → Bool
  | [] => true
  | d :: ds => lit B d && litAll B ds
end
mutual
def wt (B : Nat) : D → Nat
  | .int _ => B + 1
  | .str x => x.cps.size
  | .tup l => wtAll B l
  | .lst l => wtAll B l
  | _ => 0
def wtAll (B : Nat) : List D → Nat
  | [] => 0
  | d :: ds => wt B d + 1 + wtAll B ds
end
theorem strOk_short {x : Str} (h : PyData.strOk x = true) : ∀ c ∈ x.cps.toList, c < 16 ^ 8 := by
  have h0 : x.cps.all (· < 0x110000) = true := h
  intro c hc
  have h1 := (Array.all_eq_true_iff_forall_mem.mp h0) c (Array.mem_toList_iff.mp hc)
  have h2 : c < 0x110000 := by simpa using h1
  have e : (16 : Nat) ^ 8 = 4294967296 := by decide
  omega
mutual
theorem lit_py (B : Nat) (hB : B ≤ 1919) : ∀ (n : Nat) (d : D) (p : PyData), fine n d = true → lit B d = true → toPy d = some p → p.showable = true ∧ p.leavesShort (B + 8) = true ∧ p.weight ≤ wt B d
  | n, .non, p, _, _, e => by cases e; exact ⟨by simp only [PyData.showable], by simp only [PyData.leavesShort], by simp only [PyData.weight]; omega⟩
  | n, .bl b, p, _, _, e => by cases e; exact ⟨by simp only [PyData.showable], by simp only [PyData.leavesShort], by simp only [PyData.weight]; omega⟩
  | n, .int i, p, _, h, e => by
    cases e
    have h' : i.natAbs.log2 < B := by simpa only [lit, decide_eq_true_eq] using h
    refine ⟨?_, ?_, ?_⟩
    · simp only [PyData.showable, decide_eq_true_eq]; omega
    · simp only [PyData.leavesShort, decide_eq_true_eq]
      show (Str.ofString (toString i)).length ≤ _
      rw [PySem.ofString_length]
      have := int_text_length_le (a := i) (k := B) (by omega) h'
      omega
    · simp only [PyData.weight, wt]
      split <;> omega
  | n, .str x, p, hf, _, e => by
    cases e
    refine ⟨by simp only [PyData.showable], ?_, by simp only [PyData.weight, wt]; omega⟩
    simp only [PyData.leavesShort, List.all_eq_true, decide_eq_true_eq]
    exact strOk_short (by simpa only [fine] using hf)
  | 0, .tup l, p, h, _, _ => by simp [fine] at h
  | 0, .lst l, p, h, _, _ => by simp [fine] at h
  | n + 1, .tup l, p, h, h2, e => by
    obtain ⟨ps, e1, _⟩ := fine_pyAll n l (by simpa only [fine] using h)
    have e' : p = .tuple ps := by simp only [toPy, e1] at e; exact (Option.some.inj e).symm
    subst e'
    obtain ⟨a, b, c⟩ := lit_pyAll B hB n l ps (by simpa only [fine] using h) (by simpa only [lit] using h2) e1
    exact ⟨by simpa only [PyData.showable] using a, by simpa only [PyData.leavesShort] using b, by simpa only [PyData.weight, wt] using c⟩
  | n + 1, .lst l, p, h, h2, e => by
    obtain ⟨ps, e1, _⟩ := fine_pyAll n l (by simpa only [fine] using h)
    have e' : p = .list ps := by simp only [toPy, e1] at e; exact (Option.some.inj e).symm
    subst e'
    obtain ⟨a, b, c⟩ := lit_pyAll B hB n l ps (by simpa only [fine] using h) (by simpa only [lit] using h2) e1
    exact ⟨by simpa only [PyData.showable] using a, by simpa only [PyData.leavesShort] using b, by simpa only [PyData.weight, wt] using c⟩
  | n, .dct0, _, h, _, _ => by simp [fine] at h
  | n, .scr _, _, h, _, _ => by simp [fine] at h
  | n, .own _, _, h, _, _ => by simp [fine] at h
  | n, .exc _ _, _, h, _, _ => by simp [fine] at h
  | n, .glb _, _, h, _, _ => by simp [fine] at h
  | n, .val _, _, h, _, _ => by simp [fine] at h
theorem lit_pyAll (B : Nat) (hB : B ≤ 1919) : ∀ (n : Nat) (ds : List D) (ps : List PyData), fineAll n ds = true → litAll B ds = true → toPyAll ds = some ps → PyData.showableAll ps = true ∧ PyData.leavesShortAll (B + 8) ps = true ∧ PyData.weightAll ps ≤ wtAll B ds
  | n, [], ps, _, _, e => by cases e; exact ⟨by simp only [PyData.showableAll], by simp only [PyData.leavesShortAll], by simp only [PyData.weightAll]; omega⟩
  | n, d :: ds, ps, h, h2, e => by
    have h' : fine n d = true ∧ fineAll n ds = true := by simpa only [fineAll, Bool.and_eq_true] using h
    have h2' : lit B d = true ∧ litAll B ds = true := by simpa only [litAll, Bool.and_eq_true] using h2
    obtain ⟨p, a1, _, _⟩ := fine_py n d h'.1
    obtain ⟨qs, b1, _, _, _⟩ := fine_pyAll n ds h'.2
    have e' : ps = p :: qs := by simp only [toPyAll, a1, b1] at e; exact (Option.some.inj e).symm
    subst e'
    obtain ⟨c1, c2, c3⟩ := lit_py B hB n d p h'.1 h2'.1 a1
    obtain ⟨d1, d2, d3⟩ := lit_pyAll B hB n ds qs h'.2 h2'.2 b1
    refine ⟨by simp only [PyData.showableAll, c1, d1, Bool.and_self], by simp only [PyData.leavesShortAll, c2, d2, Bool.and_self], ?_⟩
    simp only [PyData.weightAll, wtAll]; omega
end
/-- d's repr is covered: ints of B bits, at most -/
theorem shw_of (B n : Nat) {d : D} (h : fine n d = true) (hl : lit B d = true) (hw : (B + 10) * wt B d + B + 8 ≤ 16777216) (hB : B ≤ 1919 := by decide) (hn : n ≤ 64 := by decide) : ∃ z, shwn d = some z := by
  obtain ⟨p, e1, e2, e3⟩ := fine_py n d h
  obtain ⟨a, b, c⟩ := lit_py B hB n d p h hl e1
  have h1 := PyData.shown_le (B + 8) (by omega) p b
  have h2 : (B + 8 + 2) * p.weight ≤ (B + 10) * wt B d := Nat.mul_le_mul (by omega) c
  refine ⟨p.shown, ?_⟩
  unfold shwn
  rw [e1]
  dsimp only
  rw [if_pos ⟨a, by omega, by rw [sizeLine_eq]; omega, PyData.hasDict_of_canLay p e2⟩]
/-! ### items by a written index -/
section
variable {α : Type}
theorem atI_of (n : Nat) {l : List α} (h : n < l.length) : atI l (n : Int) = l[n]? := by
  unfold atI ixN
  rw [if_pos (by omega), if_pos (by omega)]
  rfl
theorem atI_0 {a : α} {l : List α} : atI (a :: l) 0 = some a := atI_of 0 (by simp)
theorem atI_1 {a b : α} {l : List α} : atI (a :: b :: l) 1 = some b := atI_of 1 (by simp)
theorem atI_2 {a b c : α} {l : List α} : atI (a :: b :: c :: l) 2 = some c := atI_of 2 (by simp)
theorem atI_3 {a b c d : α} {l : List α} : atI (a :: b :: c :: d :: l) 3 = some d := atI_of 3 (by simp)
theorem atI_4 {a b c d e : α} {l : List α} : atI (a :: b :: c :: d :: e :: l) 4 = some e := atI_of 4 (by simp)
theorem atI_5 {a b c d e f : α} {l : List α} : atI (a :: b :: c :: d :: e :: f :: l) 5 = some f := atI_of 5 (by simp)
theorem ixN_30 : ixN 3 0 = some 0 := by decide
theorem ixN_31 : ixN 3 1 = some 1 := by decide
theorem ixN_32 : ixN 3 2 = some 2 := by decide
end
theorem rs_lst {M : Mem} {l : List D} : res M (.lst l) = .lst l := rfl
theorem rs_tup {M : Mem} {l : List D} : res M (.tup l) = .tup l := rfl
theorem rs_scr {M : Mem} {l : List Int} : res M (.scr l) = .scr l := rfl
theorem rs_int {M : Mem} {i : Int} : res M (.int i) = .int i := rfl
theorem intsD_map : ∀ ns : List Int, intsD (ns.map D.int) = some ns
  | [] => rfl
  | n :: ns => by rw [List.map_cons]; unfold intsD; rw [intsD_map ns]
theorem cut_map (ns : List Int) (lo hi : Option Int) : ∃ xs : List Int, cutD (ns.map D.int) lo hi = xs.map D.int := by
  unfold cutD
  rw [← List.map_drop, ← List.map_take]
  exact ⟨_, rfl⟩
end DL
/-! DLD: repr of data with empty dicts -/
namespace DL
open PySem PySem.Spec PyProof.Rows L2
mutual
/-- no list within -/
def nolst : D → Bool
  | .lst _ => false
  | .own _ => false
  | .tup l => nolstA l
  | _ => true
def nolstA : List D → Bool
  | [] => true
  | d :: ds => nolst d && nolstA ds
end
section
variable {X : Cx} {pins : List (Addr × Obj)} {s : Shared} {ph : Ph} {σ : St} {H : Hp}
mutual
theorem Rep.readsZ (I : Inv X pins σ H s) : ∀ (d : D) (v : V) (u : Value) (p : PyData), Rep X.K ph H v d → RelV v u → toPy d = some p → nolst d = true → ∃ as, Reads s.heap u p as ∧ sysModules ∉ as
  | .non, _, _, _, h, rv, e, _ => by cases h; cases rv; cases e; exact ⟨_, .none, by simp⟩
  | .bl _, _, _, _, h, rv, e, _ => by cases h; cases rv; cases e; exact ⟨_, .bool _, by simp⟩
  | .int _, _, _, _, h, rv, e, _ => by cases h; obtain ⟨t, rfl⟩ := rv; cases e; exact ⟨_, .int _ _, by simp⟩
  | .str _, _, _, _, h, rv, e, _ => by cases h; obtain ⟨t, rfl⟩ := rv; cases e; exact ⟨_, .str _ _, by simp⟩
  | .tup ds, _, _, _, h, rv, e, n => by
    cases h with
    | tup h1 h2 =>
      cases rv
      simp only [toPy] at e
      split at e
      · rename_i ps ep
        cases e
        obtain ⟨its, rx, ⟨o, ho, hc, n', hd⟩, _⟩ := I.tuple (SqT.of h1)
        obtain ⟨as, q, qa⟩ := RepAll.readsZ I ds _ its ps h2 rx ep (by simpa only [nolst] using n)
        exact ⟨_, .tuple ho hc hd q, qa⟩
      · cases e
  | .lst ds, _, _, _, _, _, _, n => by simp [nolst] at n
  | .dct0, _, _, _, h, rv, e, _ => by
    cases h with
    | dct0 h1 =>
      cases rv
      cases e
      obtain ⟨_, hs, vs, hk, o, es, ep, ho, hx, hd, _, he, _⟩ := I.hok _ _ h1
      cases hk
      have e0 : es = #[] := by
        cases es with
        | mk l =>
          cases l with
          | nil => rfl
          | cons x l => exact nomatch he
      subst e0
      refine ⟨_, .dict ho hx.1 hd .nil .nil, fun ha => ?_⟩
      simp at ha
      rw [← ha] at hs
      exact absurd hs (by decide)
  | .scr ns, _, _, _, _, _, e, _ => by cases e
  | .own _, _, _, _, _, _, e, _ => by cases e
  | .exc _ _, _, _, _, _, _, e, _ => by cases e
  | .glb _, _, _, _, _, _, e, _ => by cases e
  | .val _, _, _, _, _, _, e, _ => by cases e
theorem RepAll.readsZ (I : Inv X pins σ H s) : ∀ (ds : List D) (vs : List V) (us : List Value) (ps : List PyData), RepAll X.K ph H vs ds → Vals vs us → toPyAll ds = some ps → nolstA ds = true → ∃ as, ReadsAll s.heap us ps as ∧ sysModules ∉ as
  | [], _, _, _, h, rv, e, _ => by cases h; cases rv; cases e; exact ⟨_, .nil, by simp⟩
  | d :: ds, _, _, _, h, rv, e, n => by
    have n' : nolst d = true ∧ nolstA ds = true := by simpa only [nolstA, Bool.and_eq_true] using n
    cases h with
    | cons h1 h2 =>
      cases rv with
      | cons r1 r2 =>
        simp only [toPyAll] at e
        split at e
        · rename_i p ps ep eps
          cases e
          obtain ⟨as, q1, a1⟩ := Rep.readsZ I d _ _ p h1 r1 ep n'.1
          obtain ⟨bs, q2, a2⟩ := RepAll.readsZ I ds _ _ ps h2 r2 eps n'.2
          refine ⟨_, .cons q1 q2, fun ha => ?_⟩
          rcases List.mem_append.mp ha with ha | ha
          · exact a1 ha
          · exact a2 ha
        · cases e
end
end
/-- dicts may stand within -/
def okZ : D → Bool
  | .lst l => nolstA l
  | d => nolst d
def shwnZ (d : D) : Option Str := match toPy d with
  | some p => if p.showable = true ∧ p.depth ≤ 64 ∧ p.shown.length ≤ sizeLine ∧ (p.hasDict = false ∨ okZ d = true) then some p.shown else none
  | none => none
def gReprZ : GA := fun ds M Q => match ds with
  | [d] => match shwnZ (resD M d) with
    | some z => Q (.str z) M
    | none => False
  | _ => False
section
variable {X : Cx}
theorem cd_reprZ (gd : X.A.guards = some []) (hu : X.A.units + 200 < cLine) : CallD X (.builtin "repr") gReprZ := by
  intro pins s σ H ph S r M vs us ds Q I hs rv q hg
  match ds, vs, us, rv, q, hg with
  | [d], [v], [u], .cons ru .nil, .cons q .nil, hg =>
    unfold gReprZ at hg
    dsimp only at hg
    split at hg
    · rename_i z ez
      unfold shwnZ at ez
      split at ez
      · rename_i p ep
        by_cases hp : p.showable = true ∧ p.depth ≤ 64 ∧ p.shown.length ≤ sizeLine ∧ (p.hasDict = false ∨ okZ (resD M d) = true)
        · rw [if_pos hp] at ez
          cases ez
          have qd := Rep.resD hs _ _ q
          have plain : ∀ as, Reads s.heap u p as → (p.hasDict = true → sysModules ∉ as) → wpAny (model X.prog X.w) X.A (call (.builtin "repr") [u]) (fun x s' => ∃ v H', Inv X pins σ H' s' ∧ RelV v x ∧ Aft X.K ph S r σ H' fun ph' S' M' => ∃ d', Rep X.K ph' S' v d' ∧ Q d' M') X.xe s := fun as h1 hn => by
            by_cases hr : ∃ a, u = .ref a
            · obtain ⟨a, rfl⟩ := hr
              refine PySem.repr_of_reads' h1 hp.1 hn gd ?_ (fun _ _ e => e) (fun h' u tk k => ⟨.str p.shown, H, I.kept k, ⟨_, rfl⟩, Aft.here hs ⟨_, .str _, hg⟩⟩) hp.2.2.1
              have := hp.2.1; omega
            · exact shown_flat h1 (fun a e => hr ⟨a, e⟩) hp.1 hp.2.2.1 fun tk tk' => ⟨.str p.shown, H, I.tok _, ⟨_, rfl⟩, Aft.here hs ⟨_, .str _, hg⟩⟩
          rcases hp.2.2.2 with h0 | h0
          · obtain ⟨as, h1, _⟩ := Rep.reads I _ _ _ _ qd ru ep
            exact plain as h1 fun z => by rw [h0] at z; cases z
          · by_cases hl : nolst (resD M d) = true
            · obtain ⟨as, h1, h2⟩ := Rep.readsZ I _ _ _ _ qd ru ep hl
              exact plain as h1 fun _ => h2
            · generalize resD M d = dd at *
              cases dd with
              | lst l =>
                cases qd with
                | lst g1 g2 =>
                  cases ru
                  simp only [toPy] at ep
                  split at ep
                  · rename_i ps eps
                    cases ep
                    obtain ⟨its, rx, ⟨o, n, ho, hc, _, hd⟩, _⟩ := I.list (SqL.of g1)
                    obtain ⟨as, q2, qa⟩ := RepAll.readsZ I l _ its ps g2 rx eps h0
                    refine repr_listZ ho hc hd q2 (by simpa only [PyData.showable] using hp.1) qa gd ?_ hp.2.2.1 fun h' u tk k => ⟨.str _, H, I.kept k, ⟨_, rfl⟩, Aft.here hs ⟨_, .str _, hg⟩⟩
                    have := hp.2.1
                    simp only [PyData.depth] at this
                    omega
                  · cases ep
              | _ => exact absurd h0 hl
        · rw [if_neg hp] at ez; cases ez
      · cases ez
    · exact hg.elim
end
theorem RepAll.repN {K : PySem.W.Frag} {ph : Ph} {S : Hp} {xs : List V} {ds : List D} (h : RepAll K ph S xs ds) : ∀ n : Nat, RepAll K ph S (List.replicate n xs).flatten (List.flatten (List.replicate n ds))
  | 0 => .nil
  | n + 1 => by
    rw [List.replicate_succ, List.replicate_succ, List.flatten_cons, List.flatten_cons]
    exact RepAll.app h (RepAll.repN h n)
/-- a list, n times -/
theorem opd_mulL {X : Cx} : OpD X (binaryOp .Mult) gMulL := by
  intro pins s σ H ph S r M x y dx dy v u Q I hs rx ry qx qy hg
  cases dx <;> first | exact hg.elim | skip
  cases dy <;> first | exact hg.elim | skip
  cases qy
  cases qx with
  | lst h1 h2 =>
    refine op_rep pins s σ H _ _ v u _ I rx ry ⟨_, _, _, rfl, rfl, hs.sub _ _ h1, hg.1.1, hg.1.2.1, by rw [h2.len]; exact hg.1.2.2, fun p hp => ?_⟩
    exact Aft.frz hs hp fun z => ⟨_, .lst upd_same ((h2.repN _).up z), hg.2⟩
/-- a if c else b, where a, b may raise -/
theorem dex_if {X : Cx} {pos : Pos} {c a b : Expr} {t : DTT} {u w : DXE → DTE} (h : DT X.nox c t) (h1 : DEX X a u) (h2 : DEX X b w) : DEX X (.IfExp c a b pos) (fun E => dIf t (u E) (w E)) :=
  ⟨fun W tk => PE.weak (pe_ifExp h.pt.nox (h1.pe W tk) (h2.pe W tk)) fun σ H Q ⟨ph, S, r, M, Q0, X0, hs, ht, hq, hx⟩ => ⟨ph, S, r, M, _, hs, ht, fun c H1 ⟨ph1, S1, M1, x1, hs1, g1⟩ => by
    cases c with
    | true => exact ⟨ph1, S1, r, M1, _, X0, hs1, g1, fun v H2 z => hq _ _ (Aft.up x1 z), fun cls d H' z => hx _ _ _ (z.up x1)⟩
    | false => exact ⟨ph1, S1, r, M1, _, X0, hs1, g1, fun v H2 z => hq _ _ (Aft.up x1 z), fun cls d H' z => hx _ _ _ (z.up x1)⟩⟩⟩
theorem shwnZ_of {d : D} {z : Str} (h : shwn d = some z) : shwnZ d = some z := by
  unfold shwn at h
  unfold shwnZ
  split at h
  · rename_i p ep
    by_cases hp : p.showable = true ∧ p.depth ≤ 64 ∧ p.shown.length ≤ sizeLine ∧ p.hasDict = false
    · rw [if_pos hp] at h
      try rw [ep]
      try dsimp only
      rw [if_pos ⟨hp.1, hp.2.1, hp.2.2.1, .inl hp.2.2.2⟩]
      exact h
    · rw [if_neg hp] at h; cases h
  · cases h
mutual
/-- data that may be shown, dicts among them: ints of B bits -/
def zok (B : Nat) : D → Bool
  | .non => true
  | .bl _ => true
  | .int i => decide (i.natAbs.log2 < B)
  | .str x => PyData.strOk x
  | .tup l => zokA B l
  | .lst l => zokA B l
  | .dct0 => true
  | _ => false
def zokA (B : Nat) : List D → Bool
  | [] => true
  | d :: ds => zok B d && zokA B ds
end
mutual
def dpt : D → Nat
  | .tup l => dptA l + 1
  | .lst l => dptA l + 1
  | .dct0 => 1
  | _ => 0
def dptA : List D → Nat
  | [] => 0
  | d :: ds => max (dpt d) (dptA ds)
end
mutual
theorem zok_py (B : Nat) (hB : B ≤ 1919) : ∀ d : D, zok B d = true → ∃ p, toPy d = some p ∧ p.showable = true ∧ p.leavesShort (B + 8) = true ∧ p.weight ≤ wt B d ∧ p.depth ≤ dpt d
  | .non, _ => ⟨.none, rfl, by simp only [PyData.showable], by simp only [PyData.leavesShort], by simp only [PyData.weight]; omega, by simp only [PyData.depth]; omega⟩
  | .bl b, _ => ⟨.bool b, rfl, by simp only [PyData.showable], by simp only [PyData.leavesShort], by simp only [PyData.weight]; omega, by simp only [PyData.depth]; omega⟩
  | .int i, h => by
    obtain ⟨a, b, c⟩ := lit_py B hB 0 (.int i) (.int i) rfl (by simpa only [lit, zok] using h) rfl
    exact ⟨.int i, rfl, a, b, c, by simp only [PyData.depth]; omega⟩
  | .str x, h => by
    obtain ⟨a, b, c⟩ := lit_py B hB 0 (.str x) (.str x) (by simpa only [fine, zok] using h) rfl rfl
    exact ⟨.str x, rfl, a, b, c, by simp only [PyData.depth]; omega⟩
  | .tup l, h => by
    obtain ⟨ps, e, a, b, c, d⟩ := zok_pyA B hB l (by simpa only [zok] using h)
    exact ⟨.tuple ps, by simp only [toPy, e], by simpa only [PyData.showable] using a, by simpa only [PyData.leavesShort] using b, by simpa only [PyData.weight, wt] using c, by simp only [PyData.depth, dpt]; omega⟩
  | .lst l, h => by
    obtain ⟨ps, e, a, b, c, d⟩ := zok_pyA B hB l (by simpa only [zok] using h)
    exact ⟨.list ps, by simp only [toPy, e], by simpa only [PyData.showable] using a, by simpa only [PyData.leavesShort] using b, by simpa only [PyData.weight, wt] using c, by simp only [PyData.depth, dpt]; omega⟩
  | .dct0, _ => ⟨.dict [], rfl, rfl, rfl, by simp only [PyData.weight, PyData.weightKv]; omega, by simp only [PyData.depth, PyData.depthKv, dpt]; omega⟩
  | .scr _, h => by simp [zok] at h
  | .own _, h => by simp [zok] at h
  | .exc _ _, h => by simp [zok] at h
  | .glb _, h => by simp [zok] at h
  | .val _, h => by simp [zok] at h
theorem zok_pyA (B : Nat) (hB : B ≤ 1919) : ∀ ds : List D, zokA B ds = true → ∃ ps, toPyAll ds = some ps ∧ PyData.showableAll ps = true ∧ PyData.leavesShortAll (B + 8) ps = true ∧ PyData.weightAll ps ≤ wtAll B ds ∧ PyData.depthAll ps ≤ dptA ds
  | [], _ => ⟨[], rfl, by simp only [PyData.showableAll], by simp only [PyData.leavesShortAll], by simp only [PyData.weightAll]; omega, by simp only [PyData.depthAll]; omega⟩
  | d :: ds, h => by
    have h' : zok B d = true ∧ zokA B ds = true := by simpa only [zokA, Bool.and_eq_true] using h
    obtain ⟨p, e1, a1, b1, c1, d1⟩ := zok_py B hB d h'.1
    obtain ⟨ps, e2, a2, b2, c2, d2⟩ := zok_pyA B hB ds h'.2
    exact ⟨p :: ps, by simp only [toPyAll, e1, e2], by simp only [PyData.showableAll, a1, a2, Bool.and_self], by simp only [PyData.leavesShortAll, b1, b2, Bool.and_self], by simp only [PyData.weightAll, wtAll]; omega, by simp only [PyData.depthAll, dptA]; omega⟩
end
/-- d's repr is covered: ints of B bits, at most; dicts only where no list stands beside them -/
theorem shwZ_of (B : Nat) {d : D} (h : zok B d = true) (hk : okZ d = true) (hw : (B + 10) * wt B d + B + 8 ≤ 16777216) (hB : B ≤ 1919 := by decide) (hd : dpt d ≤ 64 := by decide) : ∃ z, shwnZ d = some z := by
  obtain ⟨p, e1, a, b, c, dd⟩ := zok_py B hB d h
  have h1 := PyData.shown_le (B + 8) (by omega) p b
  have h2 : (B + 8 + 2) * p.weight ≤ (B + 10) * wt B d := Nat.mul_le_mul (by omega) c
  refine ⟨p.shown, ?_⟩
  unfold shwnZ
  rw [e1]
  dsimp only
  rw [if_pos ⟨a, by omega, by rw [sizeLine_eq]; omega, .inr hk⟩]
end DL
namespace DL
open PySem PySem.Spec PyProof.Rows L2
def errL_k11 : List Str := ["InvalidMeasure", "InvalidNumber", "InvalidCutting", "TooMany"]
def t_l_only_1d99 : DTS :=
 (dRet (dAndV (dOp gEq (dOp gIx (dVar 0) (dC (.int 0))) (dLc false (dRngI gRng1 (dCons (dC (.int 4)) dNil)) (dName 3) dYes (dOp gEq (dVar 3) (dVar 1)) [3])) (dOp gEq (dCB gReprZ (dCons (dOp gIx (dVar 0) (dC (.int 1))) dNil)) (dCB gReprZ (dCons (dVar 2) dNil)))))
def t_measure_of_x (c_check_cutting_x : DSp) (c_measure_by : DSp) : DXE → DTS :=
 fun E => (dSeq (dDrop (dCallX 1 c_check_cutting_x (fun E => (dCons (dVar 0) dNil)) E))
 (dRet (dCall 1 c_measure_by [] DX0 (dCons (dVar 0) dNil))))
def t_how_many_cuttings_x (c_check_measure_x : DSp) (c_count_by : DSp) : DXE → DTS :=
 fun E => (dSeq (dDrop (dCallX 1 c_check_measure_x (fun E => (dCons (dVar 0) dNil)) E))
 (dRet (dCall 1 c_count_by [] DX0 (dCons (dVar 0) dNil))))
def t_cuttings_x (c_check_measure_x : DSp) (c_count_by : DSp) (c_listed_by : DSp) : DXE → DTS :=
 fun E => (dSeq (dDrop (dCallX 1 c_check_measure_x (fun E => (dCons (dVar 0) dNil)) E))
 (dSeq (dAsg (dCall 1 c_count_by [] DX0 (dCons (dVar 0) dNil)) (dName 1))
 (dSeq (dIfS (dTru (dOp (gCmpI fun i j => decide (j < i)) (dVar 1) (dC (.int 2000)))) (dRaise "TooMany" (dCons (dVar 1) dNil) E) dNext)
 (dRet (dCall 1 c_listed_by [] DX0 (dCons (dVar 0) dNil))))))
def t_l_asked_e0b2_x (c_measure_of_x : DSp) (c_cutting_number_x : DSp) (c_next_cutting_x : DSp) (c_how_many_cuttings_x : DSp) (c_cuttings_x : DSp) (c_how_many_with_last_x : DSp) (c_cutting_numbered_x : DSp) : DXE → DTS :=
 fun E => (dSeq (dIfS (dTru (dOp (gCmpI fun i j => decide (i < j)) (dVar 0) (dC (.int 3)))) (dRet (dCallV [("measure_of", 1, c_measure_of_x), ("cutting_number", 1, c_cutting_number_x), ("next_cutting", 1, c_next_cutting_x)] (dOp gIx (dLst (dCons (dC (.glb "measure_of")) (dCons (dC (.glb "cutting_number")) (dCons (dC (.glb "next_cutting")) dNil)))) (dVar 0)) (fun E => (dCons (dVar 1) dNil)) E)) dNext)
 (dSeq (dIfS (dTru (dOp (gCmpI fun i j => decide (i < j)) (dVar 0) (dC (.int 5)))) (dRet (dCallV [("how_many_cuttings", 1, c_how_many_cuttings_x), ("cuttings", 1, c_cuttings_x)] (dOp gIx (dLst (dCons (dC (.glb "how_many_cuttings")) (dCons (dC (.glb "cuttings")) dNil))) (dOp (rBin (fun _ _ => True) fun i j => i - j) (dVar 0) (dC (.int 3)))) (fun E => (dCons (dVar 1) dNil)) E)) dNext)
 (dRet (dIf (dTru (dOp gEq (dVar 0) (dC (.int 5)))) (dCallX 2 c_how_many_with_last_x (fun E => (dCons (dVar 1) (dCons (dVar 2) dNil))) E) (dCallX 2 c_cutting_numbered_x (fun E => (dCons (dVar 1) (dCons (dVar 2) dNil))) E)))))
def t_l_caught_eda3 (c_l_asked_e0b2_x : DSp) : DTS :=
 (dSeq (dPar 3 4 (dCons (dC .non) (dCons (dCB gReprZ (dCons (dLst (dCons (dVar 1) (dCons (dVar 2) dNil))) dNil)) dNil)))
 (dSeq (dTry "SheetError" 5 (fun E => (dDrop (dCallX 3 c_l_asked_e0b2_x (fun E => (dCons (dVar 0) (dCons (dVar 1) (dCons (dVar 2) dNil)))) E))) (dAsg (dVar 5) (dName 3)))
 (dSeq (dIfS (dTru (dOp gNe (dCB gReprZ (dCons (dLst (dCons (dVar 1) (dCons (dVar 2) dNil))) dNil)) (dVar 4))) (dRet (dTup (dCons (dLst dNil) (dCons (dC .non) dNil)))) dNext)
 (dSeq (dAsg (dLst (dCons (dCB (gIsx errL_k11) (dCons (dVar 3) (dCons (dC (.glb "InvalidCutting")) dNil))) (dCons (dCB (gIsx errL_k11) (dCons (dVar 3) (dCons (dC (.glb "InvalidMeasure")) dNil))) (dCons (dCB (gIsx errL_k11) (dCons (dVar 3) (dCons (dC (.glb "InvalidNumber")) dNil))) (dCons (dCB (gIsx errL_k11) (dCons (dVar 3) (dCons (dC (.glb "TooMany")) dNil))) dNil))))) (dName 6))
 (dRet (dTup (dCons (dVar 6) (dCons (dIf (dTru (dOp (gIs false) (dVar 3) (dC .non))) (dC .non) (dFld (dVar 3))) dNil))))))))
def t_l_law_ad18 (c_l_generator_b324 : DSp) (c_l_all_a488 : DSp) (c_l_drawn_measure_d212 : DSp) (c_l_random_7821 : DSp) (c_l_only_1d99 : DSp) (c_l_caught_eda3 : DSp) (c_l_measure_919a : DSp) (c_how_many_cuttings : DSp) (c_cuttings : DSp) : DTS :=
 (dSeq (dAsg (dCall 2 c_l_generator_b324 [] DX0 (dCons (dVar 0) (dCons (dC (.int 0)) dNil))) (dName 1))
 (dSeq (dAsg (dCall 1 c_l_all_a488 [] DX0 (dCons (dCall 2 c_l_drawn_measure_d212 [] DX0 (dCons (dVar 1) (dCons (dC (.int 40)) dNil))) dNil)) (dName 2))
 (dSeq (dAsg (dOp gIx (dVar 2) (dCall 2 c_l_random_7821 [] DX0 (dCons (dVar 1) (dCons (dCB gLen (dCons (dVar 2) dNil)) dNil)))) (dGTup 4 (dGCons (dName 3) (dGCons (dName 4) (dGCons (dName 5) (dGCons (dName 6) dGNil))))))
 (dSeq (dAsg (dLst (dCons (dC .non) (dCons (dC (.int 0)) (dCons (dC (.str (PySem.Str.ofString "0111"))) (dCons (dTup dNil) (dCons (dLst (dCons (dVar 3) (dCons (dVar 4) (dCons (dVar 5) (dCons (dVar 6) dNil))))) (dCons (dTup (dCons (dVar 3) (dCons (dVar 4) (dCons (dVar 5) dNil)))) (dCons (dTup (dCons (dVar 3) (dCons (dVar 4) (dCons (dVar 5) (dCons (dVar 6) (dCons (dC (.int 0)) dNil)))))) (dCons (dTup (dCons (dVar 3) (dCons (dVar 4) (dCons (dC (.int 0)) (dCons (dVar 6) dNil))))) (dCons (dTup (dCons (dVar 3) (dCons (dC (.int 0)) (dCons (dVar 5) (dCons (dVar 6) dNil))))) (dCons (dTup (dCons (dVar 3) (dCons (dVar 4) (dCons (dVar 5) (dCons (dOp (rBin (fun _ _ => True) fun i j => i - j) (dVar 4) (dVar 5)) dNil))))) (dCons (dTup (dCons (dNeg (dC (.int 1))) (dCons (dVar 4) (dCons (dVar 5) (dCons (dVar 6) dNil))))) (dCons (dTup (dCons (dVar 4) (dCons (dVar 4) (dCons (dVar 5) (dCons (dVar 6) dNil))))) dNil))))))))))))) (dName 7))
 (dSeq (dAsg (dOp gAdd (dVar 7) (dLst (dCons (dTup (dCons (dVar 3) (dCons (dVar 4) (dCons (dVar 5) (dCons (dC .non) dNil))))) (dCons (dTup (dCons (dVar 3) (dCons (dC (.bl true)) (dCons (dVar 5) (dCons (dVar 6) dNil))))) (dCons (dTup (dCons (dC .non) (dCons (dVar 4) (dCons (dVar 5) (dCons (dVar 6) dNil))))) (dCons (dTup (dCons (dVar 3) (dCons (dVar 4) (dCons (dC (.str (PySem.Str.ofString "1"))) (dCons (dVar 6) dNil))))) (dCons (dTup (dCons (dC (.int 0)) (dCons (dC (.int 2)) (dCons (dC (.int 2)) (dCons (dNeg (dC (.int 2))) dNil))))) (dCons (dC .dct0) (dCons (dLst (dCons (dC .non) dNil)) (dCons (dTup (dCons (dTup (dCons (dVar 3) dNil)) (dCons (dVar 4) (dCons (dVar 5) (dCons (dVar 6) dNil))))) dNil)))))))))) (dName 7))
 (dSeq (dFor (dSeqI (dVar 7)) (dName 8) (dIfS (dTru (dOp gNe (dLc false (dRngI gRng1 (dCons (dC (.int 3)) dNil)) (dName 9) (dNot (dTru (dCall 3 c_l_only_1d99 [] DX0 (dCons (dCall 3 c_l_caught_eda3 [] DX0 (dCons (dVar 9) (dCons (dVar 8) (dCons (dC .non) dNil)))) (dCons (dC (.int 0)) (dCons (dVar 8) dNil)))))) (dVar 9) [9]) (dLst dNil))) (dRet (dC (.bl false))) dNext))
 (dSeq (dFor (dSeqI (dLst (dCons (dC .non) (dCons (dC (.int 0)) (dCons (dC (.int 1)) (dCons (dC (.int 4)) (dCons (dC (.int 6)) (dCons (dC (.int 7)) (dCons (dNeg (dC (.int 8))) (dCons (dNeg (dC (.int 7))) (dCons (dC (.bl true)) (dCons (dC (.str (PySem.Str.ofString "5"))) (dCons (dLst (dCons (dC (.int 5)) dNil)) (dCons (dTup (dCons (dC (.int 5)) dNil)) (dCons (dOp gAdd (dOp (rBin CPow fun i j => i ^ j.toNat) (dC (.int 10)) (dC (.int 29))) (dC (.int 2))) dNil))))))))))))))) (dName 8) (dFor (dSeqI (dLst (dCons (dC .non) (dCons (dC (.int 0)) dNil)))) (dName 10) (dIfS (dTru (dOp gNe (dLc false (dRngI gRng2 (dCons (dC (.int 3)) (dCons (dC (.int 7)) dNil))) (dName 9) (dNot (dTru (dCall 3 c_l_only_1d99 [] DX0 (dCons (dCall 3 c_l_caught_eda3 [] DX0 (dCons (dVar 9) (dCons (dVar 8) (dCons (dVar 10) dNil)))) (dCons (dC (.int 1)) (dCons (dVar 8) dNil)))))) (dVar 9) [9]) (dLst dNil))) (dRet (dC (.bl false))) dNext)))
 (dSeq (dAsg (dCall 1 c_l_measure_919a [] DX0 (dCons (dTup (dCons (dVar 3) (dCons (dVar 4) (dCons (dVar 5) (dCons (dVar 6) dNil))))) dNil)) (dName 11))
 (dSeq (dFor (dSeqI (dLst (dCons (dC .non) (dCons (dC (.bl true)) (dCons (dC (.str (PySem.Str.ofString "0"))) (dCons (dLst (dCons (dC (.int 0)) dNil)) (dCons (dTup dNil) dNil))))))) (dName 8) (dIfS (dOr (dNot (dTru (dCall 3 c_l_only_1d99 [] DX0 (dCons (dCall 3 c_l_caught_eda3 [] DX0 (dCons (dC (.int 5)) (dCons (dVar 11) (dCons (dVar 8) dNil)))) (dCons (dC (.int 2)) (dCons (dVar 8) dNil)))))) (dNot (dTru (dCall 3 c_l_only_1d99 [] DX0 (dCons (dCall 3 c_l_caught_eda3 [] DX0 (dCons (dC (.int 6)) (dCons (dVar 11) (dCons (dVar 8) dNil)))) (dCons (dC (.int 2)) (dCons (dVar 8) dNil))))))) (dRet (dC (.bl false))) dNext))
 (dSeq (dIfS (dOr (dNot (dTru (dCall 3 c_l_only_1d99 [] DX0 (dCons (dCall 3 c_l_caught_eda3 [] DX0 (dCons (dC (.int 6)) (dCons (dVar 11) (dCons (dNeg (dC (.int 1))) dNil)))) (dCons (dC (.int 2)) (dCons (dNeg (dC (.int 1))) dNil)))))) (dNot (dTru (dCall 3 c_l_only_1d99 [] DX0 (dCons (dCall 3 c_l_caught_eda3 [] DX0 (dCons (dC (.int 6)) (dCons (dVar 11) (dCons (dCB gLen (dCons (dVar 2) dNil)) dNil)))) (dCons (dC (.int 2)) (dCons (dCB gLen (dCons (dVar 2) dNil)) dNil))))))) (dRet (dC (.bl false))) dNext)
 (dSeq (dIfS (dTru (dOp gEq (dCall 2 c_l_random_7821 [] DX0 (dCons (dVar 1) (dCons (dC (.int 4)) dNil))) (dC (.int 0)))) (dSeq (dAsg (dOp gIx (dLst (dCons (dTup (dCons (dC (.int 14041)) (dCons (dC (.int 2476)) dNil))) (dCons (dTup (dCons (dC (.int 16273)) (dCons (dC (.int 2002)) dNil))) dNil))) (dCall 2 c_l_random_7821 [] DX0 (dCons (dVar 1) (dCons (dC (.int 2)) dNil)))) (dGTup 2 (dGCons (dName 12) (dGCons (dName 13) dGNil))))
 (dSeq (dIfS (dOr (dNot (dTru (dCall 3 c_l_only_1d99 [] DX0 (dCons (dCall 3 c_l_caught_eda3 [] DX0 (dCons (dC (.int 4)) (dCons (dVar 12) (dCons (dC .non) dNil)))) (dCons (dC (.int 3)) (dCons (dVar 13) dNil)))))) (dTru (dOp gNe (dCall 1 c_how_many_cuttings [] DX0 (dCons (dVar 12) dNil)) (dVar 13)))) (dRet (dC (.bl false))) dNext)
 (dIfS (dOr (dTru (dOp gNe (dCB gLen (dCons (dCall 1 c_cuttings [] DX0 (dCons (dC (.int 16041)) dNil)) dNil)) (dC (.int 2000)))) (dTru (dOp gNe (dCall 1 c_how_many_cuttings [] DX0 (dCons (dC (.int 16041)) dNil)) (dC (.int 2000))))) (dRet (dC (.bl false))) dNext))) dNext)
 (dSeq (dAsg (dOwn (dCons (dC .non) dNil)) (dName 14))
 (dSeq (dAsg (dCall 3 c_l_caught_eda3 [] DX0 (dCons (dC (.int 0)) (dCons (dVar 14) (dCons (dC .non) dNil)))) (dName 15))
 (dSeq (dDrop (dMet gAppend (dVar 14) (dCons (dC (.int 7)) dNil)))
 (dSeq (dIfS (dOr (dTru (dOp gNe (dOp gIx (dVar 15) (dC (.int 1))) (dLst (dCons (dC .non) (dCons (dC (.int 7)) dNil))))) (dOr (dTru (dOp gNe (dCall 3 c_l_caught_eda3 [] DX0 (dCons (dC (.int 6)) (dCons (dVar 11) (dCons (dC (.int 0)) dNil)))) (dTup (dCons (dOp gMulL (dLst (dCons (dC (.bl false)) dNil)) (dC (.int 4))) (dCons (dC .non) dNil))))) (dTru (dOp gNe (dCall 3 c_l_caught_eda3 [] DX0 (dCons (dC (.int 5)) (dCons (dVar 11) (dCons (dNeg (dOp (rBin CPow fun i j => i ^ j.toNat) (dC (.int 10)) (dC (.int 20)))) dNil)))) (dTup (dCons (dOp gMulL (dLst (dCons (dC (.bl false)) dNil)) (dC (.int 4))) (dCons (dC .non) dNil))))))) (dRet (dC (.bl false))) dNext)
 (dRet (dOp gEq (dCall 3 c_l_caught_eda3 [] DX0 (dCons (dC (.int 0)) (dCons (dTup (dCons (dVar 3) (dCons (dVar 4) (dCons (dVar 5) (dCons (dVar 6) dNil))))) (dCons (dC .non) dNil)))) (dTup (dCons (dOp gMulL (dLst (dCons (dC (.bl false)) dNil)) (dC (.int 4))) (dCons (dC .non) dNil))))))))))))))))))))
end DL
namespace C_k11
open PySem PySem.Spec PyProof.Rows L2 DL
def topS (i : Nat) : Stmt := PySem.Challenge.pw_slitsheets_k11_cuttings_refused.main.body.getD i (.Pass ⟨0, 0, 0, 0⟩)
abbrev s_l_cell_cf3b : Stmt := topS 36
theorem sc_l_cell_cf3b : FnScope ["_law_script", "_law_index"] ["_law_script", "_law_index"] (defScope s_l_cell_cf3b) := ⟨rfl, rfl, rfl, by decide +kernel, rfl, by decide +kernel, by decide +kernel⟩
abbrev s_l_generator_b324 : Stmt := topS 37
theorem sc_l_generator_b324 : FnScope ["_law_script", "_law_index", "_law_seed"] ["_law_script", "_law_index"] (defScope s_l_generator_b324) := ⟨rfl, rfl, rfl, by decide +kernel, rfl, by decide +kernel, by decide +kernel⟩
abbrev s_l_turns_2ef2 : Stmt := topS 42
theorem sc_l_turns_2ef2 : FnScope ["_law_measure_here", "_law_e"] ["_law_measure_here"] (defScope s_l_turns_2ef2) := ⟨rfl, rfl, rfl, by decide +kernel, rfl, by decide +kernel, by decide +kernel⟩
abbrev s_l_common_7348 : Stmt := topS 38
theorem sc_l_common_7348 : FnScope ["_law_one", "_law_other"] ["_law_one", "_law_other"] (defScope s_l_common_7348) := ⟨rfl, rfl, rfl, by decide +kernel, rfl, by decide +kernel, by decide +kernel⟩
abbrev s_l_is_cutting_19aa : Stmt := topS 40
theorem sc_l_is_cutting_19aa : FnScope ["_law_a", "_law_b", "_law_c", "_law_e"] ["_law_a", "_law_b", "_law_c", "_law_e"] (defScope s_l_is_cutting_19aa) := ⟨rfl, rfl, rfl, by decide +kernel, rfl, by decide +kernel, by decide +kernel⟩
abbrev s_l_with_e507 : Stmt := topS 41
theorem sc_l_with_e507 : FnScope ["_law_measure_here", "_law_e", "_law_found", "_law_left", "_law_c", "_law_b", "_law_a"] ["_law_measure_here", "_law_e"] (defScope s_l_with_e507) := ⟨rfl, rfl, rfl, by decide +kernel, rfl, by decide +kernel, by decide +kernel⟩
abbrev s_l_all_a488 : Stmt := topS 43
theorem sc_l_all_a488 : FnScope ["_law_measure_here", "_law_found", "_law_e"] ["_law_measure_here"] (defScope s_l_all_a488) := ⟨rfl, rfl, rfl, by decide +kernel, rfl, by decide +kernel, by decide +kernel⟩
abbrev s_l_hash_d8d1 : Stmt := topS 34
theorem sc_l_hash_d8d1 : FnScope ["_law_seed", "_law_index", "_law_mixed"] ["_law_seed", "_law_index"] (defScope s_l_hash_d8d1) := ⟨rfl, rfl, rfl, by decide +kernel, rfl, by decide +kernel, by decide +kernel⟩
abbrev s_l_random_7821 : Stmt := topS 35
theorem sc_l_random_7821 : FnScope ["_law_generator_here", "_law_bound", "_law_drawn", "_law_turn"] ["_law_generator_here", "_law_bound"] (defScope s_l_random_7821) := ⟨rfl, rfl, rfl, by decide +kernel, rfl, by decide +kernel, by decide +kernel⟩
abbrev s_l_drawn_measure_d212 : Stmt := topS 44
theorem sc_l_drawn_measure_d212 : FnScope ["_law_generator_here", "_law_most", "_law_found"] ["_law_generator_here", "_law_most"] (defScope s_l_drawn_measure_d212) := ⟨rfl, rfl, rfl, by decide +kernel, rfl, by decide +kernel, by decide +kernel⟩
abbrev s_l_only_1d99 : Stmt := topS 47
theorem sc_l_only_1d99 : FnScope ["_law_told", "_law_place", "_law_bad", "_law_at"] ["_law_told", "_law_place", "_law_bad"] (defScope s_l_only_1d99) := ⟨rfl, rfl, rfl, by decide +kernel, rfl, by decide +kernel, by decide +kernel⟩
abbrev s_is_whole : Stmt := topS 8
theorem sc_is_whole : FnScope ["value"] ["value"] (defScope s_is_whole) := ⟨rfl, rfl, rfl, by decide +kernel, rfl, by decide +kernel, by decide +kernel⟩
abbrev s_common_by : Stmt := topS 14
theorem sc_common_by : FnScope ["one", "other", "low", "high"] ["one", "other"] (defScope s_common_by) := ⟨rfl, rfl, rfl, by decide +kernel, rfl, by decide +kernel, by decide +kernel⟩
abbrev s_is_cutting_by : Stmt := topS 17
theorem sc_is_cutting_by : FnScope ["value", "item", "low", "high", "side", "turn", "both"] ["value"] (defScope s_is_cutting_by) := ⟨rfl, rfl, rfl, by decide +kernel, rfl, by decide +kernel, by decide +kernel⟩
abbrev s_check_cutting_x : Stmt := topS 18
theorem sc_check_cutting_x : FnScope ["cutting"] ["cutting"] (defScope s_check_cutting_x) := ⟨rfl, rfl, rfl, by decide +kernel, rfl, by decide +kernel, by decide +kernel⟩
abbrev s_measure_by : Stmt := topS 19
theorem sc_measure_by : FnScope ["cutting"] ["cutting"] (defScope s_measure_by) := ⟨rfl, rfl, rfl, by decide +kernel, rfl, by decide +kernel, by decide +kernel⟩
abbrev s_measure_of_x : Stmt := topS 26
theorem sc_measure_of_x : FnScope ["cutting"] ["cutting"] (defScope s_measure_of_x) := ⟨rfl, rfl, rfl, by decide +kernel, rfl, by decide +kernel, by decide +kernel⟩
abbrev s_root_floor_by : Stmt := topS 13
theorem sc_root_floor_by : FnScope ["number", "found", "again"] ["number"] (defScope s_root_floor_by) := ⟨rfl, rfl, rfl, by decide +kernel, rfl, by decide +kernel, by decide +kernel⟩
abbrev s_turns_of : Stmt := topS 22
theorem sc_turns_of : FnScope ["measure", "most", "turn"] ["measure"] (defScope s_turns_of) := ⟨rfl, rfl, rfl, by decide +kernel, rfl, by decide +kernel, by decide +kernel⟩
abbrev s_sides_with : Stmt := topS 20
theorem sc_sides_with : FnScope ["measure", "turn", "whole", "found", "side", "high", "low"] ["measure", "turn"] (defScope s_sides_with) := ⟨rfl, rfl, rfl, by decide +kernel, rfl, by decide +kernel, by decide +kernel⟩
abbrev s_lows_with : Stmt := topS 21
theorem sc_lows_with : FnScope ["high", "side", "turn", "both", "part", "low"] ["high", "side", "turn"] (defScope s_lows_with) := ⟨rfl, rfl, rfl, by decide +kernel, rfl, by decide +kernel, by decide +kernel⟩
abbrev s_with_turn : Stmt := topS 23
theorem sc_with_turn : FnScope ["measure", "turn", "found", "high", "side", "low"] ["measure", "turn"] (defScope s_with_turn) := ⟨rfl, rfl, rfl, by decide +kernel, rfl, by decide +kernel, by decide +kernel⟩
abbrev s_listed_by : Stmt := topS 24
theorem sc_listed_by : FnScope ["measure", "found", "turn"] ["measure"] (defScope s_listed_by) := ⟨rfl, rfl, rfl, by decide +kernel, rfl, by decide +kernel, by decide +kernel⟩
abbrev s_cutting_number_x : Stmt := topS 30
theorem sc_cutting_number_x : FnScope ["cutting"] ["cutting"] (defScope s_cutting_number_x) := ⟨rfl, rfl, rfl, by decide +kernel, rfl, by decide +kernel, by decide +kernel⟩
abbrev s_next_cutting_x : Stmt := topS 32
theorem sc_next_cutting_x : FnScope ["cutting", "found", "at"] ["cutting"] (defScope s_next_cutting_x) := ⟨rfl, rfl, rfl, by decide +kernel, rfl, by decide +kernel, by decide +kernel⟩
abbrev s_is_between : Stmt := topS 9
theorem sc_is_between : FnScope ["value", "low", "high"] ["value", "low", "high"] (defScope s_is_between) := ⟨rfl, rfl, rfl, by decide +kernel, rfl, by decide +kernel, by decide +kernel⟩
abbrev s_is_measure_by : Stmt := topS 11
theorem sc_is_measure_by : FnScope ["value"] ["value"] (defScope s_is_measure_by) := ⟨rfl, rfl, rfl, by decide +kernel, rfl, by decide +kernel, by decide +kernel⟩
abbrev s_check_measure_x : Stmt := topS 12
theorem sc_check_measure_x : FnScope ["measure"] ["measure"] (defScope s_check_measure_x) := ⟨rfl, rfl, rfl, by decide +kernel, rfl, by decide +kernel, by decide +kernel⟩
abbrev s_count_by : Stmt := topS 25
theorem sc_count_by : FnScope ["measure", "turn"] ["measure"] (defScope s_count_by) := ⟨rfl, rfl, rfl, by decide +kernel, rfl, by decide +kernel, by decide +kernel⟩
abbrev s_how_many_cuttings_x : Stmt := topS 27
theorem sc_how_many_cuttings_x : FnScope ["measure"] ["measure"] (defScope s_how_many_cuttings_x) := ⟨rfl, rfl, rfl, by decide +kernel, rfl, by decide +kernel, by decide +kernel⟩
abbrev s_cuttings_x : Stmt := topS 28
theorem sc_cuttings_x : FnScope ["measure", "many"] ["measure"] (defScope s_cuttings_x) := ⟨rfl, rfl, rfl, by decide +kernel, rfl, by decide +kernel, by decide +kernel⟩
abbrev s_check_number_x : Stmt := topS 10
theorem sc_check_number_x : FnScope ["number", "low", "high"] ["number", "low", "high"] (defScope s_check_number_x) := ⟨rfl, rfl, rfl, by decide +kernel, rfl, by decide +kernel, by decide +kernel⟩
abbrev s_how_many_with_last_x : Stmt := topS 29
theorem sc_how_many_with_last_x : FnScope ["measure", "e"] ["measure", "e"] (defScope s_how_many_with_last_x) := ⟨rfl, rfl, rfl, by decide +kernel, rfl, by decide +kernel, by decide +kernel⟩
abbrev s_cutting_numbered_x : Stmt := topS 31
theorem sc_cutting_numbered_x : FnScope ["measure", "number", "found"] ["measure", "number"] (defScope s_cutting_numbered_x) := ⟨rfl, rfl, rfl, by decide +kernel, rfl, by decide +kernel, by decide +kernel⟩
abbrev s_l_asked_e0b2_x : Stmt := topS 45
theorem sc_l_asked_e0b2_x : FnScope ["_law_which", "_law_one", "_law_more"] ["_law_which", "_law_one", "_law_more"] (defScope s_l_asked_e0b2_x) := ⟨rfl, rfl, rfl, by decide +kernel, rfl, by decide +kernel, by decide +kernel⟩
abbrev s_l_caught_eda3 : Stmt := topS 46
theorem sc_l_caught_eda3 : FnScope ["_law_which", "_law_one", "_law_more", "_law_error", "_law_kept", "_law_e", "_law_kinds"] ["_law_which", "_law_one", "_law_more"] (defScope s_l_caught_eda3) := ⟨rfl, rfl, rfl, by decide +kernel, rfl, by decide +kernel, by decide +kernel⟩
abbrev s_l_measure_919a : Stmt := topS 39
theorem sc_l_measure_919a : FnScope ["_law_cutting"] ["_law_cutting"] (defScope s_l_measure_919a) := ⟨rfl, rfl, rfl, by decide +kernel, rfl, by decide +kernel, by decide +kernel⟩
abbrev s_l_law_ad18 : Stmt := topS 48
theorem sc_l_law_ad18 : FnScope ["_law_script", "_law_generator_here", "_law_line", "_law_a", "_law_b", "_law_c", "_law_e", "_law_wrong", "_law_bad", "_law_which", "_law_more", "_law_measure_here", "_law_great", "_law_many", "_law_thing", "_law_told"] ["_law_script"] (defScope s_l_law_ad18) := ⟨rfl, rfl, rfl, by decide +kernel, rfl, by decide +kernel, by decide +kernel⟩
abbrev k_InvalidMeasure : Stmt := XA.initOf (topS 2)
theorem it_InvalidMeasure : XA.InitTxt (defArgs k_InvalidMeasure) (defBody k_InvalidMeasure) (defScope k_InvalidMeasure) := ⟨⟨_, _, _, rfl⟩, ⟨_, _, _, _, _, _, _, _, _, rfl, ⟨_, fun _ => rfl⟩, fun _ => rfl⟩, rfl⟩
abbrev k_InvalidNumber : Stmt := XA.initOf (topS 3)
theorem it_InvalidNumber : XA.InitTxt (defArgs k_InvalidNumber) (defBody k_InvalidNumber) (defScope k_InvalidNumber) := ⟨⟨_, _, _, rfl⟩, ⟨_, _, _, _, _, _, _, _, _, rfl, ⟨_, fun _ => rfl⟩, fun _ => rfl⟩, rfl⟩
abbrev k_InvalidCutting : Stmt := XA.initOf (topS 4)
theorem it_InvalidCutting : XA.InitTxt (defArgs k_InvalidCutting) (defBody k_InvalidCutting) (defScope k_InvalidCutting) := ⟨⟨_, _, _, rfl⟩, ⟨_, _, _, _, _, _, _, _, _, rfl, ⟨_, fun _ => rfl⟩, fun _ => rfl⟩, rfl⟩
abbrev k_TooMany : Stmt := XA.initOf (topS 5)
theorem it_TooMany : XA.InitTxt (defArgs k_TooMany) (defBody k_TooMany) (defScope k_TooMany) := ⟨⟨_, _, _, rfl⟩, ⟨_, _, _, _, _, _, _, _, _, rfl, ⟨_, fun _ => rfl⟩, fun _ => rfl⟩, rfl⟩
/-- what the top has left -/
structure Txt (P : Program) (K : PySem.W.Frag) (mg : Str → Option Value) (base : Heap) : Prop where
  s_SheetError : ∃ S, XA.ShC K S ∧ mg "SheetError" = some (.ref S)
  e_InvalidMeasure : ∃ C S fI, XA.ErM P K mg "InvalidMeasure" C S fI
  e_InvalidNumber : ∃ C S fI, XA.ErM P K mg "InvalidNumber" C S fI
  e_InvalidCutting : ∃ C S fI, XA.ErM P K mg "InvalidCutting" C S fI
  e_TooMany : ∃ C S fI, XA.ErM P K mg "TooMany" C S fI
  v_cutting_number : ∃ a, PySem.W.nsIn K mainGlobals "cutting_number" = some (some (.ref a)) ∧ mg "cutting_number" = some (.ref a)
  v_cuttings : ∃ a, PySem.W.nsIn K mainGlobals "cuttings" = some (some (.ref a)) ∧ mg "cuttings" = some (.ref a)
  v_how_many_cuttings : ∃ a, PySem.W.nsIn K mainGlobals "how_many_cuttings" = some (some (.ref a)) ∧ mg "how_many_cuttings" = some (.ref a)
  v_measure_of : ∃ a, PySem.W.nsIn K mainGlobals "measure_of" = some (some (.ref a)) ∧ mg "measure_of" = some (.ref a)
  v_next_cutting : ∃ a, PySem.W.nsIn K mainGlobals "next_cutting" = some (some (.ref a)) ∧ mg "next_cutting" = some (.ref a)
  n_abs : mg "abs" = none
  n_bool : mg "bool" = none
  n_int : mg "int" = none
  n_isinstance : mg "isinstance" = none
  n_len : mg "len" = none
  n_max : mg "max" = none
  n_range : mg "range" = none
  n_repr : mg "repr" = none
  n_sorted : mg "sorted" = none
  n_sum : mg "sum" = none
  n_tuple : mg "tuple" = none
  c_LEAST : ∃ t, mg "LEAST" = some (.int 5 t)
  c_MOST_LISTED : ∃ t, mg "MOST_LISTED" = some (.int 2000 t)
  h_l_cell_cf3b : Here K mg "_law_cell" s_l_cell_cf3b ["_law_script", "_law_index"]
  h_l_generator_b324 : Here K mg "_law_generator" s_l_generator_b324 ["_law_script", "_law_index"]
  h_l_turns_2ef2 : Here K mg "_law_turns" s_l_turns_2ef2 ["_law_measure_here"]
  h_l_common_7348 : Here K mg "_law_common" s_l_common_7348 ["_law_one", "_law_other"]
  h_l_is_cutting_19aa : Here K mg "_law_is_cutting" s_l_is_cutting_19aa ["_law_a", "_law_b", "_law_c", "_law_e"]
  h_l_with_e507 : Here K mg "_law_with" s_l_with_e507 ["_law_measure_here", "_law_e"]
  h_l_all_a488 : Here K mg "_law_all" s_l_all_a488 ["_law_measure_here"]
  h_l_hash_d8d1 : Here K mg "_law_hash" s_l_hash_d8d1 ["_law_seed", "_law_index"]
  h_l_random_7821 : Here K mg "_law_random" s_l_random_7821 ["_law_generator_here", "_law_bound"]
  h_l_drawn_measure_d212 : Here K mg "_law_drawn_measure" s_l_drawn_measure_d212 ["_law_generator_here", "_law_most"]
  h_l_only_1d99 : Here K mg "_law_only" s_l_only_1d99 ["_law_told", "_law_place", "_law_bad"]
  h_is_whole : Here K mg "is_whole" s_is_whole ["value"]
  h_common_by : Here K mg "common_by" s_common_by ["one", "other"]
  h_is_cutting_by : Here K mg "is_cutting_by" s_is_cutting_by ["value"]
  h_check_cutting_x : Here K mg "check_cutting" s_check_cutting_x ["cutting"]
  h_measure_by : Here K mg "measure_by" s_measure_by ["cutting"]
  h_measure_of_x : Here K mg "measure_of" s_measure_of_x ["cutting"]
  h_root_floor_by : Here K mg "root_floor_by" s_root_floor_by ["number"]
  h_turns_of : Here K mg "turns_of" s_turns_of ["measure"]
  h_sides_with : Here K mg "sides_with" s_sides_with ["measure", "turn"]
  h_lows_with : Here K mg "lows_with" s_lows_with ["high", "side", "turn"]
  h_with_turn : Here K mg "with_turn" s_with_turn ["measure", "turn"]
  h_listed_by : Here K mg "listed_by" s_listed_by ["measure"]
  h_cutting_number_x : Here K mg "cutting_number" s_cutting_number_x ["cutting"]
  h_next_cutting_x : Here K mg "next_cutting" s_next_cutting_x ["cutting"]
  h_is_between : Here K mg "is_between" s_is_between ["value", "low", "high"]
  h_is_measure_by : Here K mg "is_measure_by" s_is_measure_by ["value"]
  h_check_measure_x : Here K mg "check_measure" s_check_measure_x ["measure"]
  h_count_by : Here K mg "count_by" s_count_by ["measure"]
  h_how_many_cuttings_x : Here K mg "how_many_cuttings" s_how_many_cuttings_x ["measure"]
  h_cuttings_x : Here K mg "cuttings" s_cuttings_x ["measure"]
  h_check_number_x : Here K mg "check_number" s_check_number_x ["number", "low", "high"]
  h_how_many_with_last_x : Here K mg "how_many_with_last" s_how_many_with_last_x ["measure", "e"]
  h_cutting_numbered_x : Here K mg "cutting_numbered" s_cutting_numbered_x ["measure", "number"]
  h_l_asked_e0b2_x : Here K mg "_law_asked" s_l_asked_e0b2_x ["_law_which", "_law_one", "_law_more"]
  h_l_caught_eda3 : Here K mg "_law_caught" s_l_caught_eda3 ["_law_which", "_law_one", "_law_more"]
  h_l_measure_919a : Here K mg "_law_measure" s_l_measure_919a ["_law_cutting"]
  h_l_law_ad18 : Here K mg "law" s_l_law_ad18 ["_law_script"]
theorem Txt.isE {P : Program} {K : PySem.W.Frag} {mg : Str → Option Value} {base : Heap} (T : Txt P K mg base) : ∀ y ∈ errL_k11, ∃ C, XA.AnyC K y C := fun y hy => by
  simp only [errL_k11, List.mem_cons, List.not_mem_nil, or_false] at hy
  rcases hy with rfl | rfl | rfl | rfl
  · obtain ⟨C, S, fI, h⟩ := T.e_InvalidMeasure; exact ⟨C, .inl ⟨S, h.er⟩⟩
  · obtain ⟨C, S, fI, h⟩ := T.e_InvalidNumber; exact ⟨C, .inl ⟨S, h.er⟩⟩
  · obtain ⟨C, S, fI, h⟩ := T.e_InvalidCutting; exact ⟨C, .inl ⟨S, h.er⟩⟩
  · obtain ⟨C, S, fI, h⟩ := T.e_TooMany; exact ⟨C, .inl ⟨S, h.er⟩⟩
section
variable {P : Program} {w : World} {K : PySem.W.Frag} {mg : Str → Option Value} {base : Heap}
theorem ok_l_cell_cf3b {sp : DSp} (T : Txt P K mg base) (hread : ∀ ds M Q, ds.length = 2 → sp ds M Q DX0 → t_l_cell_cf3b (dEnds M Q) (startD 2 ds) M) (hX : ∀ ds M Q E, sp ds M Q E → sp ds M Q DX0 := by exact fun _ _ _ _ h => h) : Def P w K mg base CX0 1 "_law_cell" s_l_cell_cf3b ["_law_script", "_law_index"] sp :=
 T.h_l_cell_cf3b.ok (t := t_l_cell_cf3b) sc_l_cell_cf3b (fun f cdv A outer s H E hr gd => (dss_cons (ds_if (dt_cmp opd_lt (dv 1) (de_blt cd_len T.n_len (da_cons (dv 0) da_nil)) (nomark _)) (dss_one (ds_ret (de_ix (dv 0) (dv 1)))) dss_nil)
 (dss_one (ds_ret (de_op opd_mod (de_blt (cd_sum rfl) T.n_sum (da_cons (de_slL false (dv 0) do_none (do_some de_int)) da_nil)) de_int))))) hread hX
theorem ok_l_generator_b324 {c_l_cell_cf3b : DSp} {sp : DSp} (T : Txt P K mg base) (D_l_cell_cf3b : Def P w K mg base CX0 1 "_law_cell" s_l_cell_cf3b ["_law_script", "_law_index"] c_l_cell_cf3b) (hread : ∀ ds M Q, ds.length = 2 → sp ds M Q DX0 → t_l_generator_b324 c_l_cell_cf3b (dEnds M Q) (startD 3 ds) M) (hX : ∀ ds M Q E, sp ds M Q E → sp ds M Q DX0 := by exact fun _ _ _ _ h => h) : Def P w K mg base CX0 2 "_law_generator" s_l_generator_b324 ["_law_script", "_law_index"] sp :=
 T.h_l_generator_b324.ok (t := t_l_generator_b324 c_l_cell_cf3b) sc_l_generator_b324 (fun f cdv A outer s H E hr gd => (dss_cons (ds_set (i := 2) sc_l_generator_b324.nd (dcall D_l_cell_cf3b hr gd (da_cons (dv 0) (da_cons (dv 1) da_nil))))
 (dss_one (ds_ret (de_own (da_cons (de_op opd_mod (de_ty cd_int T.n_int (da_cons (de_blt (cd_max rfl) T.n_max (da_cons (de_op opd_sub (dv 2) (de_op opd_pow de_int de_int)) (da_cons de_int da_nil))) da_nil)) (de_op opd_pow (de_op opd_pow de_int de_int) de_int)) (da_cons (de_op opd_mod (de_ty cd_int T.n_int (da_cons (dv 2) da_nil)) de_int) (da_cons (de_op opd_mulI de_int (dv 1)) da_nil)))))))) hread hX
theorem ok_l_turns_2ef2 {sp : DSp} (T : Txt P K mg base) (hread : ∀ ds M Q, ds.length = 1 → sp ds M Q DX0 → t_l_turns_2ef2 (dEnds M Q) (startD 2 ds) M) (hX : ∀ ds M Q E, sp ds M Q E → sp ds M Q DX0 := by exact fun _ _ _ _ h => h) : Def P w K mg base CX0 1 "_law_turns" s_l_turns_2ef2 ["_law_measure_here"] sp :=
 T.h_l_turns_2ef2.ok (t := t_l_turns_2ef2) sc_l_turns_2ef2 (fun f cdv A outer s H E hr gd => (dss_one (ds_ret (de_lc false (own := [("_law_e", 1)]) rfl sc_l_turns_2ef2.nd (blkOk_by (N := ["_law_measure_here", "_law_e"]) (own := [("_law_e", 1)]) (sc := (defScope s_l_turns_2ef2)) (by decide +kernel)) (di_range2 T.n_range (da_cons (de_neg de_int) (da_cons de_int da_nil))) (fun _ _ _ _ _ => (dcg_name (i := 1) sc_l_turns_2ef2.nd)) (fun _ _ _ _ _ => (dts_one (dt_cmp opd_lt (de_op opd_mulI (dv 1) (dv 1)) (dv 0) (nomark _)))) (fun _ _ _ _ _ => (dv 1)))))) hread hX
theorem ok_l_common_7348 {sp : DSp} (T : Txt P K mg base) (hread : ∀ ds M Q, ds.length = 2 → sp ds M Q DX0 → t_l_common_7348 (dEnds M Q) (startD 2 ds) M) (hX : ∀ ds M Q E, sp ds M Q E → sp ds M Q DX0 := by exact fun _ _ _ _ h => h) : Def P w K mg base CX0 1 "_law_common" s_l_common_7348 ["_law_one", "_law_other"] sp :=
 T.h_l_common_7348.ok (t := t_l_common_7348) sc_l_common_7348 (fun f cdv A outer s H E hr gd => (dss_cons (ds_par (i := 0) (j := 1) rfl sc_l_common_7348.nd (da_cons (de_blt cd_abs T.n_abs (da_cons (dv 0) da_nil)) (da_cons (de_blt cd_abs T.n_abs (da_cons (dv 1) da_nil)) da_nil)))
 (dss_cons (ds_while (dt_cmp (opd_ne (u64 hr)) (dv 1) de_int (nomark _)) (dss_one (ds_par (i := 0) (j := 1) rfl sc_l_common_7348.nd (da_cons (dv 1) (da_cons (de_op opd_mod (de_ty cd_int T.n_int (da_cons (dv 0) da_nil)) (dv 1)) da_nil)))))
 (dss_one (ds_ret (dv 0)))))) hread hX
theorem ok_l_is_cutting_19aa {c_l_common_7348 : DSp} {sp : DSp} (T : Txt P K mg base) (D_l_common_7348 : Def P w K mg base CX0 1 "_law_common" s_l_common_7348 ["_law_one", "_law_other"] c_l_common_7348) (hread : ∀ ds M Q, ds.length = 4 → sp ds M Q DX0 → t_l_is_cutting_19aa c_l_common_7348 (dEnds M Q) (startD 4 ds) M) (hX : ∀ ds M Q E, sp ds M Q E → sp ds M Q DX0 := by exact fun _ _ _ _ h => h) : Def P w K mg base CX0 2 "_law_is_cutting" s_l_is_cutting_19aa ["_law_a", "_law_b", "_law_c", "_law_e"] sp :=
 T.h_l_is_cutting_19aa.ok (t := t_l_is_cutting_19aa c_l_common_7348) sc_l_is_cutting_19aa (fun f cdv A outer s H E hr gd => (dss_cons (ds_if (DW.dt (dw_or (dt_cmp opd_lt (dv 1) de_int (nomark _)) (dw_or (dt_cmp opd_lt (dv 2) de_int (nomark _)) (dw_or (dt_cmp opd_ge (de_op opd_add (dv 2) (dv 3)) (dv 1) (nomark _)) (dw_or1 (dt_not (dt_chain opd_le opd_lt de_int (dv 0) (dcall D_l_common_7348 hr gd (da_cons (dv 1) (da_cons (dv 2) da_nil)))))))))) (dss_one (ds_ret de_bl)) dss_nil)
 (dss_one (ds_ret (de_cmp (opd_eq (u64 hr)) (dcall D_l_common_7348 hr gd (da_cons (dcall D_l_common_7348 hr gd (da_cons (dv 0) (da_cons (dv 1) da_nil))) (da_cons (dcall D_l_common_7348 hr gd (da_cons (dv 2) (da_cons (dv 3) da_nil))) da_nil))) de_int (nomark _)))))) hread hX
theorem ok_l_with_e507 {c_l_common_7348 c_l_is_cutting_19aa : DSp} {sp : DSp} (T : Txt P K mg base) (D_l_common_7348 : Def P w K mg base CX0 1 "_law_common" s_l_common_7348 ["_law_one", "_law_other"] c_l_common_7348) (D_l_is_cutting_19aa : Def P w K mg base CX0 2 "_law_is_cutting" s_l_is_cutting_19aa ["_law_a", "_law_b", "_law_c", "_law_e"] c_l_is_cutting_19aa) (hread : ∀ ds M Q, ds.length = 2 → sp ds M Q DX0 → t_l_with_e507 c_l_common_7348 c_l_is_cutting_19aa (dEnds M Q) (startD 7 ds) M) (hX : ∀ ds M Q E, sp ds M Q E → sp ds M Q DX0 := by exact fun _ _ _ _ h => h) : Def P w K mg base CX0 3 "_law_with" s_l_with_e507 ["_law_measure_here", "_law_e"] sp :=
 T.h_l_with_e507.ok (t := t_l_with_e507 c_l_common_7348 c_l_is_cutting_19aa) sc_l_with_e507 (fun f cdv A outer s H E hr gd => (dss_cons (ds_par (i := 2) (j := 3) rfl sc_l_with_e507.nd (da_cons (de_own da_nil) (da_cons (de_op opd_sub (dv 0) (de_op opd_mulI (dv 1) (dv 1))) da_nil)))
 (dss_cons (ds_if (DW.dt (dw_or (dt_cmp opd_le (dv 3) de_int (nomark _)) (dw_or1 (dt_cmp (opd_ne (u64 hr)) (de_op opd_mod (de_ty cd_int T.n_int (da_cons (dv 3) da_nil)) de_int) de_int (nomark _))))) (dss_one (ds_ret (de_lst da_nil))) dss_nil)
 (dss_cons (ds_for rfl (di_range2 T.n_range (da_cons de_int (da_cons (de_op opd_add (de_op opd_fdiv (dv 3) de_int) de_int) da_nil))) (dg_name (i := 4) sc_l_with_e507.nd) (dss_one (ds_if (dt_cmp (opd_eq (u64 hr)) (de_op opd_mod (de_ty cd_int T.n_int (da_cons (de_op opd_fdiv (dv 3) de_int) da_nil)) (dv 4)) de_int (nomark _)) (dss_cons (ds_set (i := 5) sc_l_with_e507.nd (de_op opd_fdiv (de_op opd_fdiv (dv 3) de_int) (dv 4)))
 (dss_one (ds_for rfl (di_range1 T.n_range (da_cons (dcall D_l_common_7348 hr gd (da_cons (dv 5) (da_cons (dv 4) da_nil))) da_nil)) (dg_name (i := 6) sc_l_with_e507.nd) (dss_one (ds_if (dt_tru (dcall D_l_is_cutting_19aa hr gd (da_cons (dv 6) (da_cons (dv 5) (da_cons (dv 4) (da_cons (dv 1) da_nil)))))) (dss_one (ds_expr (de_append (dv 2) (da_cons (de_tup (da_cons (dv 6) (da_cons (dv 5) (da_cons (dv 4) (da_cons (dv 1) da_nil))))) da_nil)))) dss_nil))))) dss_nil)))
 (dss_one (ds_ret (de_frz (dv 2)))))))) hread hX
theorem ok_l_all_a488 {c_l_turns_2ef2 c_l_with_e507 : DSp} {sp : DSp} (T : Txt P K mg base) (D_l_turns_2ef2 : Def P w K mg base CX0 1 "_law_turns" s_l_turns_2ef2 ["_law_measure_here"] c_l_turns_2ef2) (D_l_with_e507 : Def P w K mg base CX0 3 "_law_with" s_l_with_e507 ["_law_measure_here", "_law_e"] c_l_with_e507) (hread : ∀ ds M Q, ds.length = 1 → sp ds M Q DX0 → t_l_all_a488 c_l_turns_2ef2 c_l_with_e507 (dEnds M Q) (startD 3 ds) M) (hX : ∀ ds M Q E, sp ds M Q E → sp ds M Q DX0 := by exact fun _ _ _ _ h => h) : Def P w K mg base CX0 4 "_law_all" s_l_all_a488 ["_law_measure_here"] sp :=
 T.h_l_all_a488.ok (t := t_l_all_a488 c_l_turns_2ef2 c_l_with_e507) sc_l_all_a488 (fun f cdv A outer s H E hr gd => (dss_cons (ds_set (i := 1) sc_l_all_a488.nd (de_lst da_nil))
 (dss_cons (ds_for rfl (di_seq (dcall D_l_turns_2ef2 hr gd (da_cons (dv 0) da_nil))) (dg_name (i := 2) sc_l_all_a488.nd) (dss_one (ds_set (i := 1) sc_l_all_a488.nd (de_op opd_add (dv 1) (dcall D_l_with_e507 hr gd (da_cons (dv 0) (da_cons (dv 2) da_nil)))))))
 (dss_one (ds_ret (de_blt (cd_sorted false) T.n_sorted (da_cons (dv 1) da_nil))))))) hread hX
theorem ok_l_hash_d8d1 {sp : DSp} (T : Txt P K mg base) (hread : ∀ ds M Q, ds.length = 2 → sp ds M Q DX0 → t_l_hash_d8d1 (dEnds M Q) (startD 3 ds) M) (hX : ∀ ds M Q E, sp ds M Q E → sp ds M Q DX0 := by exact fun _ _ _ _ h => h) : Def P w K mg base CX0 1 "_law_hash" s_l_hash_d8d1 ["_law_seed", "_law_index"] sp :=
 T.h_l_hash_d8d1.ok (t := t_l_hash_d8d1) sc_l_hash_d8d1 (fun f cdv A outer s H E hr gd => (dss_cons (ds_set (i := 2) sc_l_hash_d8d1.nd (de_op opd_mod (de_ty cd_int T.n_int (da_cons (de_op opd_add (de_op opd_add (de_op opd_add (de_op opd_mulI (dv 0) de_int) (de_op opd_mulI (de_op opd_mulI de_int (dv 1)) (dv 1))) (de_op opd_mulI de_int (dv 1))) de_int) da_nil)) de_int))
 (dss_cons (ds_set (i := 2) sc_l_hash_d8d1.nd (de_op opd_mod (de_ty cd_int T.n_int (da_cons (de_op opd_add (de_op opd_add (de_op opd_mulI (dv 2) (dv 2)) (de_op opd_mulI de_int (dv 1))) de_int) da_nil)) de_int))
 (dss_one (ds_ret (de_op opd_mod (de_ty cd_int T.n_int (da_cons (de_op opd_mulI (dv 2) de_int) da_nil)) de_int)))))) hread hX
theorem ok_l_random_7821 {c_l_hash_d8d1 : DSp} {sp : DSp} (T : Txt P K mg base) (D_l_hash_d8d1 : Def P w K mg base CX0 1 "_law_hash" s_l_hash_d8d1 ["_law_seed", "_law_index"] c_l_hash_d8d1) (hread : ∀ ds M Q, ds.length = 2 → sp ds M Q DX0 → t_l_random_7821 c_l_hash_d8d1 (dEnds M Q) (startD 4 ds) M) (hX : ∀ ds M Q E, sp ds M Q E → sp ds M Q DX0 := by exact fun _ _ _ _ h => h) : Def P w K mg base CX0 2 "_law_random" s_l_random_7821 ["_law_generator_here", "_law_bound"] sp :=
 T.h_l_random_7821.ok (t := t_l_random_7821 c_l_hash_d8d1) sc_l_random_7821 (fun f cdv A outer s H E hr gd => (dss_cons (ds_if (dt_cmp opd_gt (de_ix (dv 0) de_int) de_int (nomark _)) (dss_cons (ds_set (i := 2) sc_l_random_7821.nd (de_op opd_mod (de_ty cd_int T.n_int (da_cons (de_ix (dv 0) de_int) da_nil)) (dv 1)))
 (dss_cons (ds_asg (de_op opd_fdiv (de_ix (dv 0) de_int) (dv 1)) (dg_sub (dv 0) de_int))
 (dss_one (ds_ret (dv 2))))) dss_nil)
 (dss_cons (ds_set (i := 2) sc_l_random_7821.nd de_int)
 (dss_cons (ds_for rfl (di_range1 T.n_range (da_cons (de_op opd_add de_int (de_op opd_fdiv (de_bits (dv 1)) de_int)) da_nil)) (dg_name (i := 3) sc_l_random_7821.nd) (dss_cons (ds_asg (de_op opd_add (de_ix (dv 0) de_int) de_int) (dg_sub (dv 0) de_int))
 (dss_one (ds_set (i := 2) sc_l_random_7821.nd (de_op opd_add (de_op opd_mulI (dv 2) de_int) (dcall D_l_hash_d8d1 hr gd (da_cons (de_ix (dv 0) de_int) (da_cons (de_ix (dv 0) de_int) da_nil))))))))
 (dss_one (ds_ret (de_op opd_mod (de_ty cd_int T.n_int (da_cons (dv 2) da_nil)) (dv 1)))))))) hread hX
theorem ok_l_drawn_measure_d212 {c_l_random_7821 : DSp} {sp : DSp} (T : Txt P K mg base) (D_l_random_7821 : Def P w K mg base CX0 2 "_law_random" s_l_random_7821 ["_law_generator_here", "_law_bound"] c_l_random_7821) (hread : ∀ ds M Q, ds.length = 2 → sp ds M Q DX0 → t_l_drawn_measure_d212 c_l_random_7821 (dEnds M Q) (startD 3 ds) M) (hX : ∀ ds M Q E, sp ds M Q E → sp ds M Q DX0 := by exact fun _ _ _ _ h => h) : Def P w K mg base CX0 3 "_law_drawn_measure" s_l_drawn_measure_d212 ["_law_generator_here", "_law_most"] sp :=
 T.h_l_drawn_measure_d212.ok (t := t_l_drawn_measure_d212 c_l_random_7821) sc_l_drawn_measure_d212 (fun f cdv A outer s H E hr gd => (dss_cons (ds_set (i := 2) sc_l_drawn_measure_d212.nd (de_op opd_add (de_op opd_add de_int (de_op opd_mulI de_int (dcall D_l_random_7821 hr gd (da_cons (dv 0) (da_cons (dv 1) da_nil))))) (dcall D_l_random_7821 hr gd (da_cons (dv 0) (da_cons de_int da_nil)))))
 (dss_one (ds_ret (de_if (dt_cmp opd_gt (dv 2) de_int (nomark _)) (dv 2) de_int))))) hread hX
theorem ok_l_only_1d99 {sp : DSp} (T : Txt P K mg base) (hread : ∀ ds M Q, ds.length = 3 → sp ds M Q DX0 → t_l_only_1d99 (dEnds M Q) (startD 4 ds) M) (hX : ∀ ds M Q E, sp ds M Q E → sp ds M Q DX0 := by exact fun _ _ _ _ h => h) : Def P w K mg base CX0 1 "_law_only" s_l_only_1d99 ["_law_told", "_law_place", "_law_bad"] sp :=
 T.h_l_only_1d99.ok (t := t_l_only_1d99) sc_l_only_1d99 (fun f cdv A outer s H E hr gd => (dss_one (ds_ret (de_and (de_cmp (opd_eq (u64 hr)) (de_ix (dv 0) de_int) (de_lc false (own := [("_law_at", 3)]) rfl sc_l_only_1d99.nd (blkOk_by (N := ["_law_told", "_law_place", "_law_bad", "_law_at"]) (own := [("_law_at", 3)]) (sc := (defScope s_l_only_1d99)) (by decide +kernel)) (di_range1 T.n_range (da_cons de_int da_nil)) (fun _ _ _ _ _ => (dcg_name (i := 3) sc_l_only_1d99.nd)) (fun _ _ _ _ _ => dts_nil) (fun _ _ _ _ _ => (de_cmp (opd_eq (u64 hr)) (dv 3) (dv 1) (nomark _)))) (nomark _)) (de_one (de_cmp (opd_eq (u64 hr)) (de_blt (cd_reprZ gd (ux hr)) T.n_repr (da_cons (de_ix (dv 0) de_int) da_nil)) (de_blt (cd_reprZ gd (ux hr)) T.n_repr (da_cons (dv 2) da_nil)) (nomark _))))))) hread hX
theorem ok_is_whole {sp : DSp} (T : Txt P K mg base) (hread : ∀ ds M Q, ds.length = 1 → sp ds M Q DX0 → t_is_whole (dEnds M Q) (startD 1 ds) M) (hX : ∀ ds M Q E, sp ds M Q E → sp ds M Q DX0 := by exact fun _ _ _ _ h => h) : Def P w K mg base CX0 1 "is_whole" s_is_whole ["value"] sp :=
 T.h_is_whole.ok (t := t_is_whole) sc_is_whole (fun f cdv A outer s H E hr gd => (dss_one (ds_ret (de_and (de_blt cd_isi T.n_isinstance (da_cons (dv 0) (da_cons (de_bltn (v := .ty "int") T.n_int rfl) da_nil))) (de_one (de_not (de_blt cd_isi T.n_isinstance (da_cons (dv 0) (da_cons (de_bltn (v := .ty "bool") T.n_bool rfl) da_nil))))))))) hread hX
theorem ok_common_by {sp : DSp} (T : Txt P K mg base) (hread : ∀ ds M Q, ds.length = 2 → sp ds M Q DX0 → t_common_by (dEnds M Q) (startD 4 ds) M) (hX : ∀ ds M Q E, sp ds M Q E → sp ds M Q DX0 := by exact fun _ _ _ _ h => h) : Def P w K mg base CX0 1 "common_by" s_common_by ["one", "other"] sp :=
 T.h_common_by.ok (t := t_common_by) sc_common_by (fun f cdv A outer s H E hr gd => (dss_cons (ds_par (i := 2) (j := 3) rfl sc_common_by.nd (da_cons (de_blt cd_abs T.n_abs (da_cons (dv 0) da_nil)) (da_cons (de_blt cd_abs T.n_abs (da_cons (dv 1) da_nil)) da_nil)))
 (dss_cons (ds_while (dt_cmp (opd_ne (u64 hr)) (dv 3) de_int (nomark _)) (dss_one (ds_par (i := 2) (j := 3) rfl sc_common_by.nd (da_cons (dv 3) (da_cons (de_op opd_mod (dv 2) (dv 3)) da_nil)))))
 (dss_one (ds_ret (dv 2)))))) hread hX
theorem ok_is_cutting_by {c_is_whole c_common_by : DSp} {sp : DSp} (T : Txt P K mg base) (D_is_whole : Def P w K mg base CX0 1 "is_whole" s_is_whole ["value"] c_is_whole) (D_common_by : Def P w K mg base CX0 1 "common_by" s_common_by ["one", "other"] c_common_by) (hread : ∀ ds M Q, ds.length = 1 → sp ds M Q DX0 → t_is_cutting_by c_is_whole c_common_by (dEnds M Q) (startD 7 ds) M) (hX : ∀ ds M Q E, sp ds M Q E → sp ds M Q DX0 := by exact fun _ _ _ _ h => h) : Def P w K mg base CX0 2 "is_cutting_by" s_is_cutting_by ["value"] sp :=
 T.h_is_cutting_by.ok (t := t_is_cutting_by c_is_whole c_common_by) sc_is_cutting_by (fun f cdv A outer s H E hr gd => (dss_cons (ds_if (DW.dt (dw_or (dt_not (dt_tru (de_blt cd_isi T.n_isinstance (da_cons (dv 0) (da_cons (de_bltn (v := .ty "tuple") T.n_tuple rfl) da_nil))))) (dw_or (dt_cmp (opd_ne (u64 hr)) (de_blt cd_len T.n_len (da_cons (dv 0) da_nil)) de_int (nomark _)) (dw_or1 (dt_cmp (opd_ne (u64 hr)) (de_lc false (own := [("item", 1)]) rfl sc_is_cutting_by.nd (blkOk_by (N := ["value", "item", "low", "high", "side", "turn", "both"]) (own := [("item", 1)]) (sc := (defScope s_is_cutting_by)) (by decide +kernel)) (di_seq (dv 0)) (fun _ _ _ _ _ => (dcg_name (i := 1) sc_is_cutting_by.nd)) (fun _ _ _ _ _ => (dts_one (dt_not (dt_tru (dcall D_is_whole hr gd (da_cons (dv 1) da_nil)))))) (fun _ _ _ _ _ => (dv 1))) (de_lst da_nil) (nomark _)))))) (dss_one (ds_ret de_bl)) dss_nil)
 (dss_cons (ds_asg (dv 0) (dg_tup rfl (dgs_cons (dg_name (i := 2) sc_is_cutting_by.nd) (dgs_cons (dg_name (i := 3) sc_is_cutting_by.nd) (dgs_cons (dg_name (i := 4) sc_is_cutting_by.nd) (dgs_cons (dg_name (i := 5) sc_is_cutting_by.nd) dgs_nil))))))
 (dss_cons (ds_if (DW.dt (dw_or (dt_cmp opd_lt (dv 3) de_int (nomark _)) (dw_or (dt_cmp opd_lt (dv 4) de_int (nomark _)) (dw_or1 (dt_not (dt_cmp opd_lt (de_op opd_add (dv 4) (dv 5)) (dv 3) (nomark _))))))) (dss_one (ds_ret de_bl)) dss_nil)
 (dss_cons (ds_set (i := 6) sc_is_cutting_by.nd (dcall D_common_by hr gd (da_cons (dv 3) (da_cons (dv 4) da_nil))))
 (dss_one (ds_ret (de_and (de_chain opd_le opd_lt de_int (dv 2) (dv 6)) (de_one (de_cmp (opd_eq (u64 hr)) (dcall D_common_by hr gd (da_cons (dcall D_common_by hr gd (da_cons (dv 2) (da_cons (dv 6) da_nil))) (da_cons (dv 5) da_nil))) de_int (nomark _))))))))))) hread hX
theorem ok_check_cutting_x {c_is_cutting_by : DSp} {sp : DSp} (T : Txt P K mg base) (D_is_cutting_by : Def P w K mg base CX0 2 "is_cutting_by" s_is_cutting_by ["value"] c_is_cutting_by) (hread : ∀ ds M Q E, ds.length = 1 → belowAll M.length ds = true → sp ds M Q E → t_check_cutting_x c_is_cutting_by (dOut M E) (dEnds M Q) (startD 1 ds) M) : Def P w K mg base (L2.CX P w) 3 "check_cutting" s_check_cutting_x ["cutting"] sp :=
 T.h_check_cutting_x.okE (t := t_check_cutting_x c_is_cutting_by) sc_check_cutting_x (fun f cdv A outer s H E hr gd => (dssx_one (dsx_if (dt_not (dt_tru (dcall D_is_cutting_by hr gd (da_cons (dv 0) da_nil)))) (dssx_one (let ⟨_, _, _, h⟩ := T.e_InvalidCutting; dsx_raise h rfl hr (da_cons (dv 0) da_nil))) (dssx_of dss_nil)))) hread
theorem ok_measure_by {sp : DSp} (T : Txt P K mg base) (hread : ∀ ds M Q, ds.length = 1 → sp ds M Q DX0 → t_measure_by (dEnds M Q) (startD 1 ds) M) (hX : ∀ ds M Q E, sp ds M Q E → sp ds M Q DX0 := by exact fun _ _ _ _ h => h) : Def P w K mg base CX0 1 "measure_by" s_measure_by ["cutting"] sp :=
 T.h_measure_by.ok (t := t_measure_by) sc_measure_by (fun f cdv A outer s H E hr gd => (dss_one (ds_ret (de_op opd_add (de_op opd_mulI (de_ix (dv 0) de_int) (de_ix (dv 0) de_int)) (de_op opd_mulI (de_op opd_mulI de_int (de_ix (dv 0) de_int)) (de_ix (dv 0) de_int)))))) hread hX
theorem ok_measure_of_x {c_check_cutting_x c_measure_by : DSp} {sp : DSp} (T : Txt P K mg base) (D_check_cutting_x : Def P w K mg base (L2.CX P w) 3 "check_cutting" s_check_cutting_x ["cutting"] c_check_cutting_x) (D_measure_by : Def P w K mg base CX0 1 "measure_by" s_measure_by ["cutting"] c_measure_by) (hread : ∀ ds M Q E, ds.length = 1 → belowAll M.length ds = true → sp ds M Q E → t_measure_of_x c_check_cutting_x c_measure_by (dOut M E) (dEnds M Q) (startD 1 ds) M) : Def P w K mg base (L2.CX P w) 4 "measure_of" s_measure_of_x ["cutting"] sp :=
 T.h_measure_of_x.okE (t := t_measure_of_x c_check_cutting_x c_measure_by) sc_measure_of_x (fun f cdv A outer s H E hr gd => (dssx_cons (dsx_expr (dcallX D_check_cutting_x hr gd (dax_cons (dex_of (dv 0)) dax_nil)))
 (dssx_of (dss_one (ds_ret (dcall D_measure_by hr gd (da_cons (dv 0) da_nil))))))) hread
theorem ok_root_floor_by {sp : DSp} (T : Txt P K mg base) (hread : ∀ ds M Q, ds.length = 1 → sp ds M Q DX0 → t_root_floor_by (dEnds M Q) (startD 3 ds) M) (hX : ∀ ds M Q E, sp ds M Q E → sp ds M Q DX0 := by exact fun _ _ _ _ h => h) : Def P w K mg base CX0 1 "root_floor_by" s_root_floor_by ["number"] sp :=
 T.h_root_floor_by.ok (t := t_root_floor_by) sc_root_floor_by (fun f cdv A outer s H E hr gd => (dss_cons (ds_if (dt_cmp opd_lt (dv 0) de_int (nomark _)) (dss_one (ds_ret (dv 0))) dss_nil)
 (dss_cons (ds_set (i := 1) sc_root_floor_by.nd de_int)
 (dss_cons (ds_while (dt_cmp opd_le (de_op opd_mulI (dv 1) (dv 1)) (dv 0) (nomark _)) (dss_one (ds_set (i := 1) sc_root_floor_by.nd (de_op opd_mulI de_int (dv 1)))))
 (dss_cons (ds_set (i := 2) sc_root_floor_by.nd (de_op opd_fdiv (de_op opd_add (dv 1) (de_op opd_fdiv (dv 0) (dv 1))) de_int))
 (dss_cons (ds_while (dt_cmp opd_lt (dv 2) (dv 1) (nomark _)) (dss_one (ds_par (i := 1) (j := 2) rfl sc_root_floor_by.nd (da_cons (dv 2) (da_cons (de_op opd_fdiv (de_op opd_add (dv 2) (de_op opd_fdiv (dv 0) (dv 2))) de_int) da_nil)))))
 (dss_one (ds_ret (dv 1))))))))) hread hX
theorem ok_turns_of {c_root_floor_by : DSp} {sp : DSp} (T : Txt P K mg base) (D_root_floor_by : Def P w K mg base CX0 1 "root_floor_by" s_root_floor_by ["number"] c_root_floor_by) (hread : ∀ ds M Q, ds.length = 1 → sp ds M Q DX0 → t_turns_of c_root_floor_by (dEnds M Q) (startD 3 ds) M) (hX : ∀ ds M Q E, sp ds M Q E → sp ds M Q DX0 := by exact fun _ _ _ _ h => h) : Def P w K mg base CX0 2 "turns_of" s_turns_of ["measure"] sp :=
 T.h_turns_of.ok (t := t_turns_of c_root_floor_by) sc_turns_of (fun f cdv A outer s H E hr gd => (dss_cons (ds_set (i := 1) sc_turns_of.nd (dcall D_root_floor_by hr gd (da_cons (de_op opd_sub (dv 0) de_int) da_nil)))
 (dss_one (ds_ret (de_lc false (own := [("turn", 2)]) rfl sc_turns_of.nd (blkOk_by (N := ["measure", "most", "turn"]) (own := [("turn", 2)]) (sc := (defScope s_turns_of)) (by decide +kernel)) (di_range2 T.n_range (da_cons (de_neg (dv 1)) (da_cons (de_op opd_add (dv 1) de_int) da_nil))) (fun _ _ _ _ _ => (dcg_name (i := 2) sc_turns_of.nd)) (fun _ _ _ _ _ => (dts_one (dt_cmp (opd_eq (u64 hr)) (de_op opd_mod (de_op opd_sub (dv 0) (dv 2)) de_int) de_int (nomark _)))) (fun _ _ _ _ _ => (dv 2))))))) hread hX
theorem ok_sides_with {sp : DSp} (T : Txt P K mg base) (hread : ∀ ds M Q, ds.length = 2 → sp ds M Q DX0 → t_sides_with (dEnds M Q) (startD 7 ds) M) (hX : ∀ ds M Q E, sp ds M Q E → sp ds M Q DX0 := by exact fun _ _ _ _ h => h) : Def P w K mg base CX0 1 "sides_with" s_sides_with ["measure", "turn"] sp :=
 T.h_sides_with.okC (t := t_sides_with) sc_sides_with (fun f cdv A outer s H E hr gd hcd => (dss_cons (ds_par (i := 2) (j := 3) rfl sc_sides_with.nd (da_cons (de_op opd_sub (dv 0) (de_op opd_mulI (dv 1) (dv 1))) (da_cons (de_own da_nil) da_nil)))
 (dss_cons (ds_if (DW.dt (dw_or (dt_cmp opd_le (dv 2) de_int (nomark _)) (dw_or1 (dt_cmp (opd_ne (u64 hr)) (de_op opd_mod (dv 2) de_int) de_int (nomark _))))) (dss_one (ds_ret (de_lst da_nil))) dss_nil)
 (dss_cons (ds_par (i := 2) (j := 4) rfl sc_sides_with.nd (da_cons (de_op opd_fdiv (dv 2) de_int) (da_cons de_int da_nil)))
 (dss_cons (ds_while (dt_cmp opd_le (de_op opd_mulI (dv 4) (dv 4)) (dv 2) (nomark _)) (dss_cons (ds_if (dt_cmp (opd_eq (u64 hr)) (de_op opd_mod (dv 2) (dv 4)) de_int (nomark _)) (dss_one (ds_for rfl (di_seq (de_sort2 (de_tup (da_cons (de_op opd_fdiv (dv 2) (dv 4)) (da_cons (dv 4) da_nil))) (de_tup (da_cons (dv 4) (da_cons (de_op opd_fdiv (dv 2) (dv 4)) da_nil))) hcd (u64 hr) rfl T.n_sorted)) (dg_tup rfl (dgs_cons (dg_name (i := 5) sc_sides_with.nd) (dgs_cons (dg_name (i := 6) sc_sides_with.nd) dgs_nil))) (dss_one (ds_if (dt_cmp opd_lt (de_op opd_add (dv 6) (dv 1)) (dv 5) (nomark _)) (dss_one (ds_expr (de_append (dv 3) (da_cons (de_tup (da_cons (dv 5) (da_cons (dv 6) da_nil))) da_nil)))) dss_nil)))) dss_nil)
 (dss_one (ds_set (i := 4) sc_sides_with.nd (de_op opd_add (dv 4) de_int)))))
 (dss_one (ds_ret (de_frz (dv 3))))))))) hread hX
theorem ok_lows_with {c_common_by : DSp} {sp : DSp} (T : Txt P K mg base) (D_common_by : Def P w K mg base CX0 1 "common_by" s_common_by ["one", "other"] c_common_by) (hread : ∀ ds M Q, ds.length = 3 → sp ds M Q DX0 → t_lows_with c_common_by (dEnds M Q) (startD 6 ds) M) (hX : ∀ ds M Q E, sp ds M Q E → sp ds M Q DX0 := by exact fun _ _ _ _ h => h) : Def P w K mg base CX0 2 "lows_with" s_lows_with ["high", "side", "turn"] sp :=
 T.h_lows_with.ok (t := t_lows_with c_common_by) sc_lows_with (fun f cdv A outer s H E hr gd => (dss_cons (ds_set (i := 3) sc_lows_with.nd (dcall D_common_by hr gd (da_cons (dv 0) (da_cons (dv 1) da_nil))))
 (dss_cons (ds_set (i := 4) sc_lows_with.nd (dcall D_common_by hr gd (da_cons (dv 3) (da_cons (dv 2) da_nil))))
 (dss_one (ds_ret (de_lc false (own := [("low", 5)]) rfl sc_lows_with.nd (blkOk_by (N := ["high", "side", "turn", "both", "part", "low"]) (own := [("low", 5)]) (sc := (defScope s_lows_with)) (by decide +kernel)) (di_range1 T.n_range (da_cons (dv 3) da_nil)) (fun _ _ _ _ _ => (dcg_name (i := 5) sc_lows_with.nd)) (fun _ _ _ _ _ => (dts_one (dt_cmp (opd_eq (u64 hr)) (dcall D_common_by hr gd (da_cons (dv 5) (da_cons (dv 4) da_nil))) de_int (nomark _)))) (fun _ _ _ _ _ => (dv 5)))))))) hread hX
theorem ok_with_turn {c_sides_with c_lows_with : DSp} {sp : DSp} (T : Txt P K mg base) (D_sides_with : Def P w K mg base CX0 1 "sides_with" s_sides_with ["measure", "turn"] c_sides_with) (D_lows_with : Def P w K mg base CX0 2 "lows_with" s_lows_with ["high", "side", "turn"] c_lows_with) (hread : ∀ ds M Q, ds.length = 2 → sp ds M Q DX0 → t_with_turn c_sides_with c_lows_with (dEnds M Q) (startD 6 ds) M) (hX : ∀ ds M Q E, sp ds M Q E → sp ds M Q DX0 := by exact fun _ _ _ _ h => h) : Def P w K mg base CX0 3 "with_turn" s_with_turn ["measure", "turn"] sp :=
 T.h_with_turn.ok (t := t_with_turn c_sides_with c_lows_with) sc_with_turn (fun f cdv A outer s H E hr gd => (dss_cons (ds_set (i := 2) sc_with_turn.nd (de_lst da_nil))
 (dss_cons (ds_for rfl (di_seq (dcall D_sides_with hr gd (da_cons (dv 0) (da_cons (dv 1) da_nil)))) (dg_tup rfl (dgs_cons (dg_name (i := 3) sc_with_turn.nd) (dgs_cons (dg_name (i := 4) sc_with_turn.nd) dgs_nil))) (dss_one (ds_set (i := 2) sc_with_turn.nd (de_op opd_add (dv 2) (de_lc false (own := [("low", 5)]) rfl sc_with_turn.nd (blkOk_by (N := ["measure", "turn", "found", "high", "side", "low"]) (own := [("low", 5)]) (sc := (defScope s_with_turn)) (by decide +kernel)) (di_seq (dcall D_lows_with hr gd (da_cons (dv 3) (da_cons (dv 4) (da_cons (dv 1) da_nil))))) (fun _ _ _ _ _ => (dcg_name (i := 5) sc_with_turn.nd)) (fun _ _ _ _ _ => dts_nil) (fun _ _ _ _ _ => (de_tup (da_cons (dv 5) (da_cons (dv 3) (da_cons (dv 4) (da_cons (dv 1) da_nil)))))))))))
 (dss_one (ds_ret (dv 2)))))) hread hX
theorem ok_listed_by {c_turns_of c_with_turn : DSp} {sp : DSp} (T : Txt P K mg base) (D_turns_of : Def P w K mg base CX0 2 "turns_of" s_turns_of ["measure"] c_turns_of) (D_with_turn : Def P w K mg base CX0 3 "with_turn" s_with_turn ["measure", "turn"] c_with_turn) (hread : ∀ ds M Q, ds.length = 1 → sp ds M Q DX0 → t_listed_by c_turns_of c_with_turn (dEnds M Q) (startD 3 ds) M) (hX : ∀ ds M Q E, sp ds M Q E → sp ds M Q DX0 := by exact fun _ _ _ _ h => h) : Def P w K mg base CX0 4 "listed_by" s_listed_by ["measure"] sp :=
 T.h_listed_by.ok (t := t_listed_by c_turns_of c_with_turn) sc_listed_by (fun f cdv A outer s H E hr gd => (dss_cons (ds_set (i := 1) sc_listed_by.nd (de_lst da_nil))
 (dss_cons (ds_for rfl (di_seq (dcall D_turns_of hr gd (da_cons (dv 0) da_nil))) (dg_name (i := 2) sc_listed_by.nd) (dss_one (ds_set (i := 1) sc_listed_by.nd (de_op opd_add (dv 1) (dcall D_with_turn hr gd (da_cons (dv 0) (da_cons (dv 2) da_nil)))))))
 (dss_one (ds_ret (de_blt (cd_sorted false) T.n_sorted (da_cons (dv 1) da_nil))))))) hread hX
theorem ok_cutting_number_x {c_check_cutting_x c_listed_by c_measure_by : DSp} {sp : DSp} (T : Txt P K mg base) (D_check_cutting_x : Def P w K mg base (L2.CX P w) 3 "check_cutting" s_check_cutting_x ["cutting"] c_check_cutting_x) (D_listed_by : Def P w K mg base CX0 4 "listed_by" s_listed_by ["measure"] c_listed_by) (D_measure_by : Def P w K mg base CX0 1 "measure_by" s_measure_by ["cutting"] c_measure_by) (hread : ∀ ds M Q E, ds.length = 1 → belowAll M.length ds = true → sp ds M Q E → t_cutting_number_x c_check_cutting_x c_listed_by c_measure_by (dOut M E) (dEnds M Q) (startD 1 ds) M) : Def P w K mg base (L2.CX P w) 5 "cutting_number" s_cutting_number_x ["cutting"] sp :=
 T.h_cutting_number_x.okE (t := t_cutting_number_x c_check_cutting_x c_listed_by c_measure_by) sc_cutting_number_x (fun f cdv A outer s H E hr gd => (dssx_cons (dsx_expr (dcallX D_check_cutting_x hr gd (dax_cons (dex_of (dv 0)) dax_nil)))
 (dssx_of (dss_one (ds_ret (de_index (u65 hr) (dcall D_listed_by hr gd (da_cons (dcall D_measure_by hr gd (da_cons (dv 0) da_nil)) da_nil)) (da_cons (dv 0) da_nil))))))) hread
theorem ok_next_cutting_x {c_check_cutting_x c_listed_by c_measure_by : DSp} {sp : DSp} (T : Txt P K mg base) (D_check_cutting_x : Def P w K mg base (L2.CX P w) 3 "check_cutting" s_check_cutting_x ["cutting"] c_check_cutting_x) (D_listed_by : Def P w K mg base CX0 4 "listed_by" s_listed_by ["measure"] c_listed_by) (D_measure_by : Def P w K mg base CX0 1 "measure_by" s_measure_by ["cutting"] c_measure_by) (hread : ∀ ds M Q E, ds.length = 1 → belowAll M.length ds = true → sp ds M Q E → t_next_cutting_x c_check_cutting_x c_listed_by c_measure_by (dOut M E) (dEnds M Q) (startD 3 ds) M) : Def P w K mg base (L2.CX P w) 5 "next_cutting" s_next_cutting_x ["cutting"] sp :=
 T.h_next_cutting_x.okE (t := t_next_cutting_x c_check_cutting_x c_listed_by c_measure_by) sc_next_cutting_x (fun f cdv A outer s H E hr gd => (dssx_cons (dsx_expr (dcallX D_check_cutting_x hr gd (dax_cons (dex_of (dv 0)) dax_nil)))
 (dssx_of (dss_cons (ds_set (i := 1) sc_next_cutting_x.nd (dcall D_listed_by hr gd (da_cons (dcall D_measure_by hr gd (da_cons (dv 0) da_nil)) da_nil)))
 (dss_cons (ds_set (i := 2) sc_next_cutting_x.nd (de_op opd_add (de_index (u65 hr) (dv 1) (da_cons (dv 0) da_nil)) de_int))
 (dss_one (ds_ret (de_if (dt_cmp opd_lt (dv 2) (de_blt cd_len T.n_len (da_cons (dv 1) da_nil)) (nomark _)) (de_ix (dv 1) (dv 2)) de_non)))))))) hread
theorem ok_is_between {c_is_whole : DSp} {sp : DSp} (T : Txt P K mg base) (D_is_whole : Def P w K mg base CX0 1 "is_whole" s_is_whole ["value"] c_is_whole) (hread : ∀ ds M Q, ds.length = 3 → sp ds M Q DX0 → t_is_between c_is_whole (dEnds M Q) (startD 3 ds) M) (hX : ∀ ds M Q E, sp ds M Q E → sp ds M Q DX0 := by exact fun _ _ _ _ h => h) : Def P w K mg base CX0 2 "is_between" s_is_between ["value", "low", "high"] sp :=
 T.h_is_between.ok (t := t_is_between c_is_whole) sc_is_between (fun f cdv A outer s H E hr gd => (dss_one (ds_ret (de_and (dcall D_is_whole hr gd (da_cons (dv 0) da_nil)) (de_and (de_cmp opd_ge (dv 0) (dv 1) (nomark _)) (de_one (de_or (de_cmp opd_is (dv 2) de_non (nomark _)) (de_one (de_cmp opd_le (dv 0) (dv 2) (nomark _)))))))))) hread hX
theorem ok_is_measure_by {c_is_between : DSp} {sp : DSp} (T : Txt P K mg base) (D_is_between : Def P w K mg base CX0 2 "is_between" s_is_between ["value", "low", "high"] c_is_between) (hread : ∀ ds M Q, ds.length = 1 → sp ds M Q DX0 → t_is_measure_by c_is_between (dEnds M Q) (startD 1 ds) M) (hX : ∀ ds M Q E, sp ds M Q E → sp ds M Q DX0 := by exact fun _ _ _ _ h => h) : Def P w K mg base CX0 3 "is_measure_by" s_is_measure_by ["value"] sp :=
 T.h_is_measure_by.ok (t := t_is_measure_by c_is_between) sc_is_measure_by (fun f cdv A outer s H E hr gd => (dss_one (ds_ret (de_and (dcall D_is_between hr gd (da_cons (dv 0) (da_cons (let ⟨_, h⟩ := T.c_LEAST; de_globI rfl h) (da_cons de_non da_nil)))) (de_one (de_cmp (opd_in (u65 hr)) (de_op opd_mod (dv 0) de_int) (de_lst (da_cons de_int (da_cons de_int da_nil))) (by rfl))))))) hread hX
theorem ok_check_measure_x {c_is_measure_by : DSp} {sp : DSp} (T : Txt P K mg base) (D_is_measure_by : Def P w K mg base CX0 3 "is_measure_by" s_is_measure_by ["value"] c_is_measure_by) (hread : ∀ ds M Q E, ds.length = 1 → belowAll M.length ds = true → sp ds M Q E → t_check_measure_x c_is_measure_by (dOut M E) (dEnds M Q) (startD 1 ds) M) : Def P w K mg base (L2.CX P w) 4 "check_measure" s_check_measure_x ["measure"] sp :=
 T.h_check_measure_x.okE (t := t_check_measure_x c_is_measure_by) sc_check_measure_x (fun f cdv A outer s H E hr gd => (dssx_one (dsx_if (dt_not (dt_tru (dcall D_is_measure_by hr gd (da_cons (dv 0) da_nil)))) (dssx_one (let ⟨_, _, _, h⟩ := T.e_InvalidMeasure; dsx_raise h rfl hr (da_cons (dv 0) da_nil))) (dssx_of dss_nil)))) hread
theorem ok_count_by {c_turns_of c_with_turn : DSp} {sp : DSp} (T : Txt P K mg base) (D_turns_of : Def P w K mg base CX0 2 "turns_of" s_turns_of ["measure"] c_turns_of) (D_with_turn : Def P w K mg base CX0 3 "with_turn" s_with_turn ["measure", "turn"] c_with_turn) (hread : ∀ ds M Q, ds.length = 1 → sp ds M Q DX0 → t_count_by c_turns_of c_with_turn (dEnds M Q) (startD 2 ds) M) (hX : ∀ ds M Q E, sp ds M Q E → sp ds M Q DX0 := by exact fun _ _ _ _ h => h) : Def P w K mg base CX0 4 "count_by" s_count_by ["measure"] sp :=
 T.h_count_by.ok (t := t_count_by c_turns_of c_with_turn) sc_count_by (fun f cdv A outer s H E hr gd => (dss_one (ds_ret (de_blt (cd_sum rfl) T.n_sum (da_cons (de_lc false (own := [("turn", 1)]) rfl sc_count_by.nd (blkOk_by (N := ["measure", "turn"]) (own := [("turn", 1)]) (sc := (defScope s_count_by)) (by decide +kernel)) (di_seq (dcall D_turns_of hr gd (da_cons (dv 0) da_nil))) (fun _ _ _ _ _ => (dcg_name (i := 1) sc_count_by.nd)) (fun _ _ _ _ _ => dts_nil) (fun _ _ _ _ _ => (de_blt cd_len T.n_len (da_cons (dcall D_with_turn hr gd (da_cons (dv 0) (da_cons (dv 1) da_nil))) da_nil)))) da_nil))))) hread hX
theorem ok_how_many_cuttings_x {c_check_measure_x c_count_by : DSp} {sp : DSp} (T : Txt P K mg base) (D_check_measure_x : Def P w K mg base (L2.CX P w) 4 "check_measure" s_check_measure_x ["measure"] c_check_measure_x) (D_count_by : Def P w K mg base CX0 4 "count_by" s_count_by ["measure"] c_count_by) (hread : ∀ ds M Q E, ds.length = 1 → belowAll M.length ds = true → sp ds M Q E → t_how_many_cuttings_x c_check_measure_x c_count_by (dOut M E) (dEnds M Q) (startD 1 ds) M) : Def P w K mg base (L2.CX P w) 5 "how_many_cuttings" s_how_many_cuttings_x ["measure"] sp :=
 T.h_how_many_cuttings_x.okE (t := t_how_many_cuttings_x c_check_measure_x c_count_by) sc_how_many_cuttings_x (fun f cdv A outer s H E hr gd => (dssx_cons (dsx_expr (dcallX D_check_measure_x hr gd (dax_cons (dex_of (dv 0)) dax_nil)))
 (dssx_of (dss_one (ds_ret (dcall D_count_by hr gd (da_cons (dv 0) da_nil))))))) hread
theorem ok_cuttings_x {c_check_measure_x c_count_by c_listed_by : DSp} {sp : DSp} (T : Txt P K mg base) (D_check_measure_x : Def P w K mg base (L2.CX P w) 4 "check_measure" s_check_measure_x ["measure"] c_check_measure_x) (D_count_by : Def P w K mg base CX0 4 "count_by" s_count_by ["measure"] c_count_by) (D_listed_by : Def P w K mg base CX0 4 "listed_by" s_listed_by ["measure"] c_listed_by) (hread : ∀ ds M Q E, ds.length = 1 → belowAll M.length ds = true → sp ds M Q E → t_cuttings_x c_check_measure_x c_count_by c_listed_by (dOut M E) (dEnds M Q) (startD 2 ds) M) : Def P w K mg base (L2.CX P w) 5 "cuttings" s_cuttings_x ["measure"] sp :=
 T.h_cuttings_x.okE (t := t_cuttings_x c_check_measure_x c_count_by c_listed_by) sc_cuttings_x (fun f cdv A outer s H E hr gd => (dssx_cons (dsx_expr (dcallX D_check_measure_x hr gd (dax_cons (dex_of (dv 0)) dax_nil)))
 (dssx_cons (dsx_of (ds_set (i := 1) sc_cuttings_x.nd (dcall D_count_by hr gd (da_cons (dv 0) da_nil))))
 (dssx_cons (dsx_if (dt_cmp opd_gt (dv 1) (let ⟨_, h⟩ := T.c_MOST_LISTED; de_globI rfl h) (nomark _)) (dssx_one (let ⟨_, _, _, h⟩ := T.e_TooMany; dsx_raise h rfl hr (da_cons (dv 1) da_nil))) (dssx_of dss_nil))
 (dssx_of (dss_one (ds_ret (dcall D_listed_by hr gd (da_cons (dv 0) da_nil))))))))) hread
theorem ok_check_number_x {c_is_whole : DSp} {sp : DSp} (T : Txt P K mg base) (D_is_whole : Def P w K mg base CX0 1 "is_whole" s_is_whole ["value"] c_is_whole) (hread : ∀ ds M Q E, ds.length = 3 → belowAll M.length ds = true → sp ds M Q E → t_check_number_x c_is_whole (dOut M E) (dEnds M Q) (startD 3 ds) M) : Def P w K mg base (L2.CX P w) 2 "check_number" s_check_number_x ["number", "low", "high"] sp :=
 T.h_check_number_x.okE (t := t_check_number_x c_is_whole) sc_check_number_x (fun f cdv A outer s H E hr gd => (dssx_one (dsx_if (DW.dt (dw_or (dt_not (dt_tru (dcall D_is_whole hr gd (da_cons (dv 0) da_nil)))) (dw_or (DW.dt (dw_and (dt_cmp opd_isnot (dv 1) de_non (nomark _)) (dw_and1 (dt_cmp opd_lt (dv 0) (dv 1) (nomark _))))) (dw_or1 (DW.dt (dw_and (dt_cmp opd_isnot (dv 2) de_non (nomark _)) (dw_and1 (dt_cmp opd_gt (dv 0) (dv 2) (nomark _))))))))) (dssx_one (let ⟨_, _, _, h⟩ := T.e_InvalidNumber; dsx_raise h rfl hr (da_cons (dv 0) da_nil))) (dssx_of dss_nil)))) hread
theorem ok_how_many_with_last_x {c_check_measure_x c_check_number_x c_with_turn : DSp} {sp : DSp} (T : Txt P K mg base) (D_check_measure_x : Def P w K mg base (L2.CX P w) 4 "check_measure" s_check_measure_x ["measure"] c_check_measure_x) (D_check_number_x : Def P w K mg base (L2.CX P w) 2 "check_number" s_check_number_x ["number", "low", "high"] c_check_number_x) (D_with_turn : Def P w K mg base CX0 3 "with_turn" s_with_turn ["measure", "turn"] c_with_turn) (hread : ∀ ds M Q E, ds.length = 2 → belowAll M.length ds = true → sp ds M Q E → t_how_many_with_last_x c_check_measure_x c_check_number_x c_with_turn (dOut M E) (dEnds M Q) (startD 2 ds) M) : Def P w K mg base (L2.CX P w) 5 "how_many_with_last" s_how_many_with_last_x ["measure", "e"] sp :=
 T.h_how_many_with_last_x.okE (t := t_how_many_with_last_x c_check_measure_x c_check_number_x c_with_turn) sc_how_many_with_last_x (fun f cdv A outer s H E hr gd => (dssx_cons (dsx_expr (dcallX D_check_measure_x hr gd (dax_cons (dex_of (dv 0)) dax_nil)))
 (dssx_cons (dsx_expr (dcallX D_check_number_x hr gd (dax_cons (dex_of (dv 1)) (dax_cons (dex_of de_non) (dax_cons (dex_of de_non) dax_nil)))))
 (dssx_of (dss_one (ds_ret (de_blt cd_len T.n_len (da_cons (dcall D_with_turn hr gd (da_cons (dv 0) (da_cons (dv 1) da_nil))) da_nil)))))))) hread
theorem ok_cutting_numbered_x {c_check_measure_x c_listed_by c_check_number_x : DSp} {sp : DSp} (T : Txt P K mg base) (D_check_measure_x : Def P w K mg base (L2.CX P w) 4 "check_measure" s_check_measure_x ["measure"] c_check_measure_x) (D_listed_by : Def P w K mg base CX0 4 "listed_by" s_listed_by ["measure"] c_listed_by) (D_check_number_x : Def P w K mg base (L2.CX P w) 2 "check_number" s_check_number_x ["number", "low", "high"] c_check_number_x) (hread : ∀ ds M Q E, ds.length = 2 → belowAll M.length ds = true → sp ds M Q E → t_cutting_numbered_x c_check_measure_x c_listed_by c_check_number_x (dOut M E) (dEnds M Q) (startD 3 ds) M) : Def P w K mg base (L2.CX P w) 5 "cutting_numbered" s_cutting_numbered_x ["measure", "number"] sp :=
 T.h_cutting_numbered_x.okE (t := t_cutting_numbered_x c_check_measure_x c_listed_by c_check_number_x) sc_cutting_numbered_x (fun f cdv A outer s H E hr gd => (dssx_cons (dsx_expr (dcallX D_check_measure_x hr gd (dax_cons (dex_of (dv 0)) dax_nil)))
 (dssx_cons (dsx_of (ds_set (i := 2) sc_cutting_numbered_x.nd (dcall D_listed_by hr gd (da_cons (dv 0) da_nil))))
 (dssx_cons (dsx_expr (dcallX D_check_number_x hr gd (dax_cons (dex_of (dv 1)) (dax_cons (dex_of de_int) (dax_cons (dex_of (de_op opd_sub (de_blt cd_len T.n_len (da_cons (dv 2) da_nil)) de_int)) dax_nil)))))
 (dssx_of (dss_one (ds_ret (de_ix (dv 2) (dv 1))))))))) hread
theorem ok_l_asked_e0b2_x {c_measure_of_x c_cutting_number_x c_next_cutting_x c_how_many_cuttings_x c_cuttings_x c_how_many_with_last_x c_cutting_numbered_x : DSp} {sp : DSp} (T : Txt P K mg base) (D_measure_of_x : Def P w K mg base (L2.CX P w) 4 "measure_of" s_measure_of_x ["cutting"] c_measure_of_x) (D_cutting_number_x : Def P w K mg base (L2.CX P w) 5 "cutting_number" s_cutting_number_x ["cutting"] c_cutting_number_x) (D_next_cutting_x : Def P w K mg base (L2.CX P w) 5 "next_cutting" s_next_cutting_x ["cutting"] c_next_cutting_x) (D_how_many_cuttings_x : Def P w K mg base (L2.CX P w) 5 "how_many_cuttings" s_how_many_cuttings_x ["measure"] c_how_many_cuttings_x) (D_cuttings_x : Def P w K mg base (L2.CX P w) 5 "cuttings" s_cuttings_x ["measure"] c_cuttings_x) (D_how_many_with_last_x : Def P w K mg base (L2.CX P w) 5 "how_many_with_last" s_how_many_with_last_x ["measure", "e"] c_how_many_with_last_x) (D_cutting_numbered_x : Def P w K mg base (L2.CX P w) 5 "cutting_numbered" s_cutting_numbered_x ["measure", "number"] c_cutting_numbered_x) (hread : ∀ ds M Q E, ds.length = 3 → belowAll M.length ds = true → sp ds M Q E → t_l_asked_e0b2_x c_measure_of_x c_cutting_number_x c_next_cutting_x c_how_many_cuttings_x c_cuttings_x c_how_many_with_last_x c_cutting_numbered_x (dOut M E) (dEnds M Q) (startD 3 ds) M) : Def P w K mg base (L2.CX P w) 6 "_law_asked" s_l_asked_e0b2_x ["_law_which", "_law_one", "_law_more"] sp :=
 T.h_l_asked_e0b2_x.okE (t := t_l_asked_e0b2_x c_measure_of_x c_cutting_number_x c_next_cutting_x c_how_many_cuttings_x c_cuttings_x c_how_many_with_last_x c_cutting_numbered_x) sc_l_asked_e0b2_x (fun f cdv A outer s H E hr gd => (dssx_cons (dsx_if (dt_cmp opd_lt (dv 0) de_int (nomark _)) (dssx_one (dsx_ret (dcallV (L := [("measure_of", 1, c_measure_of_x), ("cutting_number", 1, c_cutting_number_x), ("next_cutting", 1, c_next_cutting_x)]) (de_ix (de_lst (da_cons (let ⟨_, h⟩ := T.v_measure_of; de_gname h.1 h.2) (da_cons (let ⟨_, h⟩ := T.v_cutting_number; de_gname h.1 h.2) (da_cons (let ⟨_, h⟩ := T.v_next_cutting; de_gname h.1 h.2) da_nil)))) (dv 0)) (dax_cons (dex_of (dv 1)) dax_nil) (fun _ _ _ h => by simp only [List.mem_cons, List.not_mem_nil, or_false, Prod.mk.injEq] at h; rcases h with ⟨rfl, rfl, rfl⟩ | ⟨rfl, rfl, rfl⟩ | ⟨rfl, rfl, rfl⟩ <;> first | exact ⟨_, _, _, by decide, rfl, D_measure_of_x⟩ | exact ⟨_, _, _, by decide, rfl, D_cutting_number_x⟩ | exact ⟨_, _, _, by decide, rfl, D_next_cutting_x⟩) hr gd))) (dssx_of dss_nil))
 (dssx_cons (dsx_if (dt_cmp opd_lt (dv 0) de_int (nomark _)) (dssx_one (dsx_ret (dcallV (L := [("how_many_cuttings", 1, c_how_many_cuttings_x), ("cuttings", 1, c_cuttings_x)]) (de_ix (de_lst (da_cons (let ⟨_, h⟩ := T.v_how_many_cuttings; de_gname h.1 h.2) (da_cons (let ⟨_, h⟩ := T.v_cuttings; de_gname h.1 h.2) da_nil))) (de_op opd_sub (dv 0) de_int)) (dax_cons (dex_of (dv 1)) dax_nil) (fun _ _ _ h => by simp only [List.mem_cons, List.not_mem_nil, or_false, Prod.mk.injEq] at h; rcases h with ⟨rfl, rfl, rfl⟩ | ⟨rfl, rfl, rfl⟩ <;> first | exact ⟨_, _, _, by decide, rfl, D_how_many_cuttings_x⟩ | exact ⟨_, _, _, by decide, rfl, D_cuttings_x⟩) hr gd))) (dssx_of dss_nil))
 (dssx_one (dsx_ret (dex_if (dt_cmp (opd_eq (u64 hr)) (dv 0) de_int (nomark _)) (dcallX D_how_many_with_last_x hr gd (dax_cons (dex_of (dv 1)) (dax_cons (dex_of (dv 2)) dax_nil))) (dcallX D_cutting_numbered_x hr gd (dax_cons (dex_of (dv 1)) (dax_cons (dex_of (dv 2)) dax_nil))))))))) hread
theorem ok_l_caught_eda3 {c_l_asked_e0b2_x : DSp} {sp : DSp} (T : Txt P K mg base) (D_l_asked_e0b2_x : Def P w K mg base (L2.CX P w) 6 "_law_asked" s_l_asked_e0b2_x ["_law_which", "_law_one", "_law_more"] c_l_asked_e0b2_x) (hread : ∀ ds M Q, ds.length = 3 → sp ds M Q DX0 → t_l_caught_eda3 c_l_asked_e0b2_x (dEnds M Q) (startD 7 ds) M) (hX : ∀ ds M Q E, sp ds M Q E → sp ds M Q DX0 := by exact fun _ _ _ _ h => h) : Def P w K mg base CX0 7 "_law_caught" s_l_caught_eda3 ["_law_which", "_law_one", "_law_more"] sp :=
 T.h_l_caught_eda3.ok (t := t_l_caught_eda3 c_l_asked_e0b2_x) sc_l_caught_eda3 (fun f cdv A outer s H E hr gd => (dss_cons (ds_par (i := 3) (j := 4) rfl sc_l_caught_eda3.nd (da_cons de_non (da_cons (de_blt (cd_reprZ gd (ux hr)) T.n_repr (da_cons (de_lst (da_cons (dv 1) (da_cons (dv 2) da_nil))) da_nil)) da_nil)))
 (dss_cons (let ⟨_, h⟩ := T.s_SheetError; ds_try (i := 5) rfl rfl sc_l_caught_eda3.nd (.inr ⟨rfl, h.1⟩) h.2 takes0 (fun pn xe hp => (dssx_one (dsx_expr (dcallX D_l_asked_e0b2_x hr gd (dax_cons (dex_of (dv 0)) (dax_cons (dex_of (dv 1)) (dax_cons (dex_of (dv 2)) dax_nil))))))) (fun a pn => (dss_one (ds_set (i := 3) sc_l_caught_eda3.nd (dv 5)))))
 (dss_cons (ds_if (dt_cmp (opd_ne (u64 hr)) (de_blt (cd_reprZ gd (ux hr)) T.n_repr (da_cons (de_lst (da_cons (dv 1) (da_cons (dv 2) da_nil))) da_nil)) (dv 4) (nomark _)) (dss_one (ds_ret (de_tup (da_cons (de_lst da_nil) (da_cons de_non da_nil))))) dss_nil)
 (dss_cons (ds_set (i := 6) sc_l_caught_eda3.nd (de_lst (da_cons (de_blt (cd_isx T.isE) T.n_isinstance (da_cons (dv 3) (da_cons (let ⟨_, _, _, h⟩ := T.e_InvalidCutting; de_gname h.er.ns h.gC) da_nil))) (da_cons (de_blt (cd_isx T.isE) T.n_isinstance (da_cons (dv 3) (da_cons (let ⟨_, _, _, h⟩ := T.e_InvalidMeasure; de_gname h.er.ns h.gC) da_nil))) (da_cons (de_blt (cd_isx T.isE) T.n_isinstance (da_cons (dv 3) (da_cons (let ⟨_, _, _, h⟩ := T.e_InvalidNumber; de_gname h.er.ns h.gC) da_nil))) (da_cons (de_blt (cd_isx T.isE) T.n_isinstance (da_cons (dv 3) (da_cons (let ⟨_, _, _, h⟩ := T.e_TooMany; de_gname h.er.ns h.gC) da_nil))) da_nil))))))
 (dss_one (ds_ret (de_tup (da_cons (dv 6) (da_cons (de_if (dt_cmp opd_is (dv 3) de_non (nomark _)) de_non (de_fld (dv 3))) da_nil)))))))))) hread hX
theorem ok_l_measure_919a {sp : DSp} (T : Txt P K mg base) (hread : ∀ ds M Q, ds.length = 1 → sp ds M Q DX0 → t_l_measure_919a (dEnds M Q) (startD 1 ds) M) (hX : ∀ ds M Q E, sp ds M Q E → sp ds M Q DX0 := by exact fun _ _ _ _ h => h) : Def P w K mg base CX0 1 "_law_measure" s_l_measure_919a ["_law_cutting"] sp :=
 T.h_l_measure_919a.ok (t := t_l_measure_919a) sc_l_measure_919a (fun f cdv A outer s H E hr gd => (dss_one (ds_ret (de_op opd_add (de_op opd_mulI (de_ix (dv 0) de_int) (de_ix (dv 0) de_int)) (de_op opd_mulI (de_op opd_mulI de_int (de_ix (dv 0) de_int)) (de_ix (dv 0) de_int)))))) hread hX
theorem ok_l_law_ad18 {c_l_generator_b324 c_l_all_a488 c_l_drawn_measure_d212 c_l_random_7821 c_l_only_1d99 c_l_caught_eda3 c_l_measure_919a c_how_many_cuttings c_cuttings : DSp} {sp : DSp} (T : Txt P K mg base) (D_l_generator_b324 : Def P w K mg base CX0 2 "_law_generator" s_l_generator_b324 ["_law_script", "_law_index"] c_l_generator_b324) (D_l_all_a488 : Def P w K mg base CX0 4 "_law_all" s_l_all_a488 ["_law_measure_here"] c_l_all_a488) (D_l_drawn_measure_d212 : Def P w K mg base CX0 3 "_law_drawn_measure" s_l_drawn_measure_d212 ["_law_generator_here", "_law_most"] c_l_drawn_measure_d212) (D_l_random_7821 : Def P w K mg base CX0 2 "_law_random" s_l_random_7821 ["_law_generator_here", "_law_bound"] c_l_random_7821) (D_l_only_1d99 : Def P w K mg base CX0 1 "_law_only" s_l_only_1d99 ["_law_told", "_law_place", "_law_bad"] c_l_only_1d99) (D_l_caught_eda3 : Def P w K mg base CX0 7 "_law_caught" s_l_caught_eda3 ["_law_which", "_law_one", "_law_more"] c_l_caught_eda3) (D_l_measure_919a : Def P w K mg base CX0 1 "_law_measure" s_l_measure_919a ["_law_cutting"] c_l_measure_919a) (D_how_many_cuttings : Def P w K mg base (L2.CX P w) 5 "how_many_cuttings" s_how_many_cuttings_x ["measure"] c_how_many_cuttings) (D_cuttings : Def P w K mg base (L2.CX P w) 5 "cuttings" s_cuttings_x ["measure"] c_cuttings) (hread : ∀ ds M Q, ds.length = 1 → sp ds M Q DX0 → t_l_law_ad18 c_l_generator_b324 c_l_all_a488 c_l_drawn_measure_d212 c_l_random_7821 c_l_only_1d99 c_l_caught_eda3 c_l_measure_919a c_how_many_cuttings c_cuttings (dEnds M Q) (startD 16 ds) M) (hX : ∀ ds M Q E, sp ds M Q E → sp ds M Q DX0 := by exact fun _ _ _ _ h => h) : Def P w K mg base CX0 8 "law" s_l_law_ad18 ["_law_script"] sp :=
 T.h_l_law_ad18.ok (t := t_l_law_ad18 c_l_generator_b324 c_l_all_a488 c_l_drawn_measure_d212 c_l_random_7821 c_l_only_1d99 c_l_caught_eda3 c_l_measure_919a c_how_many_cuttings c_cuttings) sc_l_law_ad18 (fun f cdv A outer s H E hr gd => (dss_cons (ds_set (i := 1) sc_l_law_ad18.nd (dcall D_l_generator_b324 hr gd (da_cons (dv 0) (da_cons de_int da_nil))))
 (dss_cons (ds_set (i := 2) sc_l_law_ad18.nd (dcall D_l_all_a488 hr gd (da_cons (dcall D_l_drawn_measure_d212 hr gd (da_cons (dv 1) (da_cons de_int da_nil))) da_nil)))
 (dss_cons (ds_asg (de_ix (dv 2) (dcall D_l_random_7821 hr gd (da_cons (dv 1) (da_cons (de_blt cd_len T.n_len (da_cons (dv 2) da_nil)) da_nil)))) (dg_tup rfl (dgs_cons (dg_name (i := 3) sc_l_law_ad18.nd) (dgs_cons (dg_name (i := 4) sc_l_law_ad18.nd) (dgs_cons (dg_name (i := 5) sc_l_law_ad18.nd) (dgs_cons (dg_name (i := 6) sc_l_law_ad18.nd) dgs_nil))))))
 (dss_cons (ds_set (i := 7) sc_l_law_ad18.nd (de_lst (da_cons de_non (da_cons de_int (da_cons de_str (da_cons (de_tup da_nil) (da_cons (de_lst (da_cons (dv 3) (da_cons (dv 4) (da_cons (dv 5) (da_cons (dv 6) da_nil))))) (da_cons (de_tup (da_cons (dv 3) (da_cons (dv 4) (da_cons (dv 5) da_nil)))) (da_cons (de_tup (da_cons (dv 3) (da_cons (dv 4) (da_cons (dv 5) (da_cons (dv 6) (da_cons de_int da_nil)))))) (da_cons (de_tup (da_cons (dv 3) (da_cons (dv 4) (da_cons de_int (da_cons (dv 6) da_nil))))) (da_cons (de_tup (da_cons (dv 3) (da_cons de_int (da_cons (dv 5) (da_cons (dv 6) da_nil))))) (da_cons (de_tup (da_cons (dv 3) (da_cons (dv 4) (da_cons (dv 5) (da_cons (de_op opd_sub (dv 4) (dv 5)) da_nil))))) (da_cons (de_tup (da_cons (de_neg de_int) (da_cons (dv 4) (da_cons (dv 5) (da_cons (dv 6) da_nil))))) (da_cons (de_tup (da_cons (dv 4) (da_cons (dv 4) (da_cons (dv 5) (da_cons (dv 6) da_nil))))) da_nil))))))))))))))
 (dss_cons (ds_set (i := 7) sc_l_law_ad18.nd (de_op opd_add (dv 7) (de_lst (da_cons (de_tup (da_cons (dv 3) (da_cons (dv 4) (da_cons (dv 5) (da_cons de_non da_nil))))) (da_cons (de_tup (da_cons (dv 3) (da_cons de_bl (da_cons (dv 5) (da_cons (dv 6) da_nil))))) (da_cons (de_tup (da_cons de_non (da_cons (dv 4) (da_cons (dv 5) (da_cons (dv 6) da_nil))))) (da_cons (de_tup (da_cons (dv 3) (da_cons (dv 4) (da_cons de_str (da_cons (dv 6) da_nil))))) (da_cons (de_tup (da_cons de_int (da_cons de_int (da_cons de_int (da_cons (de_neg de_int) da_nil))))) (da_cons de_dct0 (da_cons (de_lst (da_cons de_non da_nil)) (da_cons (de_tup (da_cons (de_tup (da_cons (dv 3) da_nil)) (da_cons (dv 4) (da_cons (dv 5) (da_cons (dv 6) da_nil))))) da_nil)))))))))))
 (dss_cons (ds_for rfl (di_seq (dv 7)) (dg_name (i := 8) sc_l_law_ad18.nd) (dss_one (ds_if (dt_cmp (opd_ne (u64 hr)) (de_lc false (own := [("_law_which", 9)]) rfl sc_l_law_ad18.nd (blkOk_by (N := ["_law_script", "_law_generator_here", "_law_line", "_law_a", "_law_b", "_law_c", "_law_e", "_law_wrong", "_law_bad", "_law_which", "_law_more", "_law_measure_here", "_law_great", "_law_many", "_law_thing", "_law_told"]) (own := [("_law_which", 9)]) (sc := (defScope s_l_law_ad18)) (by decide +kernel)) (di_range1 T.n_range (da_cons de_int da_nil)) (fun _ _ _ _ _ => (dcg_name (i := 9) sc_l_law_ad18.nd)) (fun _ _ _ _ _ => (dts_one (dt_not (dt_tru (dcall D_l_only_1d99 hr gd (da_cons (dcall D_l_caught_eda3 hr gd (da_cons (dv 9) (da_cons (dv 8) (da_cons de_non da_nil)))) (da_cons de_int (da_cons (dv 8) da_nil)))))))) (fun _ _ _ _ _ => (dv 9))) (de_lst da_nil) (nomark _)) (dss_one (ds_ret de_bl)) dss_nil)))
 (dss_cons (ds_for rfl (di_seq (de_lst (da_cons de_non (da_cons de_int (da_cons de_int (da_cons de_int (da_cons de_int (da_cons de_int (da_cons (de_neg de_int) (da_cons (de_neg de_int) (da_cons de_bl (da_cons de_str (da_cons (de_lst (da_cons de_int da_nil)) (da_cons (de_tup (da_cons de_int da_nil)) (da_cons (de_op opd_add (de_op opd_pow de_int de_int) de_int) da_nil))))))))))))))) (dg_name (i := 8) sc_l_law_ad18.nd) (dss_one (ds_for rfl (di_seq (de_lst (da_cons de_non (da_cons de_int da_nil)))) (dg_name (i := 10) sc_l_law_ad18.nd) (dss_one (ds_if (dt_cmp (opd_ne (u64 hr)) (de_lc false (own := [("_law_which", 9)]) rfl sc_l_law_ad18.nd (blkOk_by (N := ["_law_script", "_law_generator_here", "_law_line", "_law_a", "_law_b", "_law_c", "_law_e", "_law_wrong", "_law_bad", "_law_which", "_law_more", "_law_measure_here", "_law_great", "_law_many", "_law_thing", "_law_told"]) (own := [("_law_which", 9)]) (sc := (defScope s_l_law_ad18)) (by decide +kernel)) (di_range2 T.n_range (da_cons de_int (da_cons de_int da_nil))) (fun _ _ _ _ _ => (dcg_name (i := 9) sc_l_law_ad18.nd)) (fun _ _ _ _ _ => (dts_one (dt_not (dt_tru (dcall D_l_only_1d99 hr gd (da_cons (dcall D_l_caught_eda3 hr gd (da_cons (dv 9) (da_cons (dv 8) (da_cons (dv 10) da_nil)))) (da_cons de_int (da_cons (dv 8) da_nil)))))))) (fun _ _ _ _ _ => (dv 9))) (de_lst da_nil) (nomark _)) (dss_one (ds_ret de_bl)) dss_nil)))))
 (dss_cons (ds_set (i := 11) sc_l_law_ad18.nd (dcall D_l_measure_919a hr gd (da_cons (de_tup (da_cons (dv 3) (da_cons (dv 4) (da_cons (dv 5) (da_cons (dv 6) da_nil))))) da_nil)))
 (dss_cons (ds_for rfl (di_seq (de_lst (da_cons de_non (da_cons de_bl (da_cons de_str (da_cons (de_lst (da_cons de_int da_nil)) (da_cons (de_tup da_nil) da_nil))))))) (dg_name (i := 8) sc_l_law_ad18.nd) (dss_one (ds_if (DW.dt (dw_or (dt_not (dt_tru (dcall D_l_only_1d99 hr gd (da_cons (dcall D_l_caught_eda3 hr gd (da_cons de_int (da_cons (dv 11) (da_cons (dv 8) da_nil)))) (da_cons de_int (da_cons (dv 8) da_nil)))))) (dw_or1 (dt_not (dt_tru (dcall D_l_only_1d99 hr gd (da_cons (dcall D_l_caught_eda3 hr gd (da_cons de_int (da_cons (dv 11) (da_cons (dv 8) da_nil)))) (da_cons de_int (da_cons (dv 8) da_nil))))))))) (dss_one (ds_ret de_bl)) dss_nil)))
 (dss_cons (ds_if (DW.dt (dw_or (dt_not (dt_tru (dcall D_l_only_1d99 hr gd (da_cons (dcall D_l_caught_eda3 hr gd (da_cons de_int (da_cons (dv 11) (da_cons (de_neg de_int) da_nil)))) (da_cons de_int (da_cons (de_neg de_int) da_nil)))))) (dw_or1 (dt_not (dt_tru (dcall D_l_only_1d99 hr gd (da_cons (dcall D_l_caught_eda3 hr gd (da_cons de_int (da_cons (dv 11) (da_cons (de_blt cd_len T.n_len (da_cons (dv 2) da_nil)) da_nil)))) (da_cons de_int (da_cons (de_blt cd_len T.n_len (da_cons (dv 2) da_nil)) da_nil))))))))) (dss_one (ds_ret de_bl)) dss_nil)
 (dss_cons (ds_if (dt_cmp (opd_eq (u64 hr)) (dcall D_l_random_7821 hr gd (da_cons (dv 1) (da_cons de_int da_nil))) de_int (nomark _)) (dss_cons (ds_asg (de_ix (de_lst (da_cons (de_tup (da_cons de_int (da_cons de_int da_nil))) (da_cons (de_tup (da_cons de_int (da_cons de_int da_nil))) da_nil))) (dcall D_l_random_7821 hr gd (da_cons (dv 1) (da_cons de_int da_nil)))) (dg_tup rfl (dgs_cons (dg_name (i := 12) sc_l_law_ad18.nd) (dgs_cons (dg_name (i := 13) sc_l_law_ad18.nd) dgs_nil))))
 (dss_cons (ds_if (DW.dt (dw_or (dt_not (dt_tru (dcall D_l_only_1d99 hr gd (da_cons (dcall D_l_caught_eda3 hr gd (da_cons de_int (da_cons (dv 12) (da_cons de_non da_nil)))) (da_cons de_int (da_cons (dv 13) da_nil)))))) (dw_or1 (dt_cmp (opd_ne (u64 hr)) (dcallN D_how_many_cuttings hr gd (da_cons (dv 12) da_nil)) (dv 13) (nomark _))))) (dss_one (ds_ret de_bl)) dss_nil)
 (dss_one (ds_if (DW.dt (dw_or (dt_cmp (opd_ne (u64 hr)) (de_blt cd_len T.n_len (da_cons (dcallN D_cuttings hr gd (da_cons de_int da_nil)) da_nil)) de_int (nomark _)) (dw_or1 (dt_cmp (opd_ne (u64 hr)) (dcallN D_how_many_cuttings hr gd (da_cons de_int da_nil)) de_int (nomark _))))) (dss_one (ds_ret de_bl)) dss_nil)))) dss_nil)
 (dss_cons (ds_set (i := 14) sc_l_law_ad18.nd (de_own (da_cons de_non da_nil)))
 (dss_cons (ds_set (i := 15) sc_l_law_ad18.nd (dcall D_l_caught_eda3 hr gd (da_cons de_int (da_cons (dv 14) (da_cons de_non da_nil)))))
 (dss_cons (ds_expr (de_append (dv 14) (da_cons de_int da_nil)))
 (dss_cons (ds_if (DW.dt (dw_or (dt_cmp (opd_ne (u64 hr)) (de_ix (dv 15) de_int) (de_lst (da_cons de_non (da_cons de_int da_nil))) (nomark _)) (dw_or (dt_cmp (opd_ne (u64 hr)) (dcall D_l_caught_eda3 hr gd (da_cons de_int (da_cons (dv 11) (da_cons de_int da_nil)))) (de_tup (da_cons (de_op opd_mulL (de_lst (da_cons de_bl da_nil)) de_int) (da_cons de_non da_nil))) (nomark _)) (dw_or1 (dt_cmp (opd_ne (u64 hr)) (dcall D_l_caught_eda3 hr gd (da_cons de_int (da_cons (dv 11) (da_cons (de_neg (de_op opd_pow de_int de_int)) da_nil)))) (de_tup (da_cons (de_op opd_mulL (de_lst (da_cons de_bl da_nil)) de_int) (da_cons de_non da_nil))) (nomark _)))))) (dss_one (ds_ret de_bl)) dss_nil)
 (dss_one (ds_ret (de_cmp (opd_eq (u64 hr)) (dcall D_l_caught_eda3 hr gd (da_cons de_int (da_cons (de_tup (da_cons (dv 3) (da_cons (dv 4) (da_cons (dv 5) (da_cons (dv 6) da_nil))))) (da_cons de_non da_nil)))) (de_tup (da_cons (de_op opd_mulL (de_lst (da_cons de_bl da_nil)) de_int) (da_cons de_non da_nil))) (nomark _)))))))))))))))))))) hread hX
end
end C_k11
/-! MA: whole roots, common divisors, sizes; plain -/
namespace DL
/-! ### a great number, by its name -/
def BIGN : Nat := 2 ^ 4000
def BIG : Int := (BIGN : Nat)
theorem bign_pos : 0 < BIGN := Nat.pow_pos (by decide)
theorem log2_of {i : Int} (n : Nat) (h : i.natAbs < 2 ^ n) (h0 : 0 < n) : i.natAbs.log2 < n := by
  by_cases z : i.natAbs = 0
  · rw [z]; simpa using h0
  · exact (Nat.log2_lt z).mpr h
/-! ### whole roots -/
def isqN (n : Nat) : Nat :=
  if h : n = 0 then 0
  else
    let r := 2 * isqN (n / 4)
    if (r + 1) * (r + 1) ≤ n then r + 1 else r
termination_by n
decreasing_by omega
theorem isqN_spec (n : Nat) : isqN n * isqN n ≤ n ∧ n < (isqN n + 1) * (isqN n + 1) := by
  induction n using Nat.strongRecOn with
  | ind n ih =>
    unfold isqN
    split
    · rename_i h; subst h; decide
    · rename_i h
      obtain ⟨h1, h2⟩ := ih (n / 4) (by omega)
      generalize isqN (n / 4) = s at *
      have e1 : 4 * (s * s) ≤ n := by omega
      have e2 : n < 4 * ((s + 1) * (s + 1)) := by omega
      have x1 : (2 * s) * (2 * s) = 4 * (s * s) := by rw [Nat.mul_mul_mul_comm]
      have x2 : (2 * s + 1) * (2 * s + 1) = 4 * (s * s) + 4 * s + 1 := by
        rw [Nat.add_mul, Nat.mul_add, x1]; omega
      have x3 : (s + 1) * (s + 1) = s * s + 2 * s + 1 := by
        rw [Nat.add_mul, Nat.mul_add]; omega
      have x4 : (2 * s + 1 + 1) * (2 * s + 1 + 1) = 4 * (s * s) + 8 * s + 4 := by
        rw [Nat.add_mul, Nat.mul_add, Nat.add_mul, Nat.mul_add, x1]; omega
      dsimp only
      split
      · rename_i hc
        exact ⟨hc, by rw [x4]; omega⟩
      · rename_i hc
        exact ⟨by rw [x1]; omega, by omega⟩
theorem isqN_uni {n r : Nat} (h1 : r * r ≤ n) (h2 : n < (r + 1) * (r + 1)) : isqN n = r := by
  obtain ⟨g1, g2⟩ := isqN_spec n
  rcases Nat.lt_trichotomy (isqN n) r with h | h | h
  · have : (isqN n + 1) * (isqN n + 1) ≤ r * r := Nat.mul_le_mul h h
    omega
  · exact h
  · have : (r + 1) * (r + 1) ≤ isqN n * isqN n := Nat.mul_le_mul h h
    omega
/-- the greatest count whose square is at most n -/
def isq (n : Int) : Int := (isqN n.toNat : Nat)
theorem isq_nn (n : Int) : 0 ≤ isq n := Int.natCast_nonneg _
theorem isq_le {n : Int} (h : 0 ≤ n) : isq n * isq n ≤ n := by
  have := (isqN_spec n.toNat).1
  unfold isq
  rw [← Int.natCast_mul]
  omega
theorem isq_lt {n : Int} (h : 0 ≤ n) : n < (isq n + 1) * (isq n + 1) := by
  have := (isqN_spec n.toNat).2
  unfold isq
  have e : ((isqN n.toNat : Int) + 1) * ((isqN n.toNat : Int) + 1) = (((isqN n.toNat + 1) * (isqN n.toNat + 1) : Nat) : Int) := by
    rw [Int.natCast_mul]; rfl
  rw [e]
  omega
theorem isq_uni {n r : Int} (h0 : 0 ≤ r) (h1 : r * r ≤ n) (h2 : n < (r + 1) * (r + 1)) : isq n = r := by
  obtain ⟨k, rfl⟩ := Int.eq_ofNat_of_zero_le h0
  have h1' : ((k * k : Nat) : Int) ≤ n := by rw [Int.natCast_mul]; exact h1
  have h2' : n < (((k + 1) * (k + 1) : Nat) : Int) := by rw [Int.natCast_mul]; exact h2
  unfold isq
  rw [isqN_uni (n := n.toNat) (r := k) (by omega) (by omega)]
theorem sq_lt {a b : Int} (ha : 0 ≤ a) (h : a < b) : a * a < b * b := by
  have := Int.mul_lt_mul' (Int.le_of_lt h) h ha (by omega : (0:Int) < b)
  exact this
theorem sq_le {a b : Int} (ha : 0 ≤ a) (h : a ≤ b) : a * a ≤ b * b := Int.mul_le_mul h h ha (by omega)
theorem lt_of_sq {a b : Int} (hb : 0 ≤ b) (h : a * a < b * b) : a < b := by
  by_cases z : a < b
  · exact z
  · have := sq_le hb (by omega : b ≤ a)
    omega
theorem isq_self {r : Int} (h : 0 ≤ r) : isq (r * r) = r := isq_uni h (Int.le_refl _) (sq_lt h (by omega))
theorem newton_ge {n x : Int} (hn : 0 ≤ n) (hx : 0 < x) : isq n ≤ (x + n / x) / 2 := by
  have h1 := isq_le hn
  generalize isq n = s at *
  have h2 : 0 ≤ (x - s) * (x - s) := by
    rcases Int.le_total 0 (x - s) with h | h
    · exact Int.mul_nonneg h h
    · have := Int.mul_nonneg (show (0:Int) ≤ -(x - s) by omega) (show (0:Int) ≤ -(x - s) by omega)
      rwa [Int.neg_mul_neg] at this
  have h3 : (x - s) * (x - s) = x * x - 2 * (s * x) + s * s := by
    rw [Int.sub_mul, Int.mul_sub, Int.mul_sub, Int.mul_comm x s]; omega
  have h4 : (2 * s - x) * x ≤ n := by
    have e : (2 * s - x) * x = 2 * (s * x) - x * x := by rw [Int.sub_mul, Int.mul_assoc]
    omega
  have h5 : 2 * s - x ≤ n / x := (Int.le_ediv_iff_mul_le hx).mpr h4
  omega
theorem newton_end {n x : Int} (hx : 0 < x) (h : x ≤ (x + n / x) / 2) : x * x ≤ n := by
  have h1 : x ≤ n / x := by omega
  exact (Int.le_ediv_iff_mul_le hx).mp h1
theorem sq_big {n x : Int} (hn : 0 ≤ n) (hx : 0 ≤ x) (h : n < x * x) : isq n ≤ x := by
  have h1 := isq_le hn
  have := lt_of_sq hx (by omega : isq n * isq n < x * x)
  omega
/-! ### common divisors -/
theorem gcd_step {l h : Int} (hl : 0 ≤ l) (hh : 0 < h) : Int.gcd h (l.fmod h) = Int.gcd l h := by
  obtain ⟨a, rfl⟩ := Int.eq_ofNat_of_zero_le hl
  obtain ⟨b, rfl⟩ := Int.eq_ofNat_of_zero_le (Int.le_of_lt hh)
  rw [Int.fmod_eq_emod_of_nonneg _ (by omega)]
  show Nat.gcd (b : Int).natAbs ((a : Int) % (b : Int)).natAbs = Nat.gcd (a : Int).natAbs (b : Int).natAbs
  rw [← Int.natCast_emod, Int.natAbs_natCast, Int.natAbs_natCast, Int.natAbs_natCast, Nat.gcd_comm b, Nat.gcd_comm a b]
  exact (Nat.gcd_rec b a).symm
theorem gcd_end {l : Int} (hl : 0 ≤ l) : ((Int.gcd l 0 : Nat) : Int) = l := by
  rw [Int.gcd_zero_right]; omega
end DL
namespace DL
open PySem PySem.Spec PyProof.Rows L2
theorem gIn_two {i a b : Int} {M : Mem} {Q : DQ} : gIn false (.int i) (.lst [.int a, .int b]) M Q = Q (.bl (i == a || i == b)) M := by
  show Q (.bl ((a == i || (b == i || false)) != false)) M = _
  have e : ((a == i || (b == i || false)) != false) = (i == a || i == b) := by
    rw [Bool.bne_false, Bool.or_false, Bool.beq_comm (a := a), Bool.beq_comm (a := b)]
  rw [e]
theorem gRepr_bl {b : Bool} {M : Mem} {Q : DQ} : gRepr [.bl b] M Q = Q (.str (PyData.shown (.bool b))) M := by
  cases b <;> rfl
local macro_rules | `(tactic| walk_at "rd") => `(tactic| simp only [startD, List.map, List.replicate, List.length_cons, List.length_nil, List.append_eq, List.append_nil, List.nil_append, List.cons_append, Nat.reduceSub, Nat.reduceAdd, List.getElem?_cons_zero, List.getElem?_cons_succ, List.set_cons_zero, List.set_cons_succ,
  dC, dVar, dOp, dTru, gTru, tru, dChain, dAnd, dOr, dNot, dAndV, dOrV, dNotV, dIf, dNeg, gNeg, dNil, dCons, dTup, dLst, dOwn, gIx, rBin, gAdd, gCmpI, dCall, dCallK, dSeq, dNext, dDrop, dRet, dRetN, dIfS, dName, dGNil, dGCons, dGTup, dSub, gSetL, dAsg, dPar, dPar3, dAug, gIpI, dSeqI, gSeqI, dRngI, gRng1, gRng2, dCB, gAbs, gInt, gMax, gMin, gGcd, gLen, lenD, gIsi, tyM, tyD, dBits, gBits, dMet, gAppend, dPart, dNoPart, dSl, dEnds, gIs, isB, dNever, dFor, dLc, wipeD, dYes,
  sizeLine_eq, Nat.reduceLeDiff, gEq_int, gNe_int, gEq_strs, gNe_strs, gIn_two, gRepr_bl, rs_lst, rs_tup, rs_scr, rs_int, atI_0, atI_1, atI_2, atI_3, atI_4, atI_5, ixN_30, ixN_31, ixN_32, gEq_bl, gNe_bl, decide_eq_true_eq, beq_iff_eq, Bool.not_eq_true', beq_eq_false_iff_ne, decide_eq_false_iff_not, Bool.not_true, Bool.not_false, if_true, if_false, Bool.false_eq_true, ite_true, ite_false, true_and, and_true, ne_eq, Bool.bne_false, Bool.bne_true, reduceCtorEq])
/-! ### sizes -/
theorem sm_big8 {i : Int} (h1 : -(8 * BIG) ≤ i) (h2 : i ≤ 8 * BIG) : Sm i := by
  refine Sm.of 4004 ?_ (by decide)
  have h3 : (2 : Nat) ^ 4004 = 16 * BIGN := by unfold BIGN; rw [Nat.pow_add 2 4000 4, Nat.mul_comm]
  have h4 := bign_pos
  rw [h3]
  unfold BIG at h1 h2
  omega
theorem cdiv_big {a i : Int} (h0 : i ≠ 0) (h1 : -(8 * BIG) ≤ i) (h2 : i ≤ 8 * BIG) : CDiv a i := by
  refine ⟨h0, Nat.lt_of_lt_of_le (log2_of 4004 ?_ (by decide)) (by decide)⟩
  have h3 : (2 : Nat) ^ 4004 = 16 * BIGN := by unfold BIGN; rw [Nat.pow_add 2 4000 4, Nat.mul_comm]
  have h4 := bign_pos
  rw [h3]
  unfold BIG at h1 h2
  omega
theorem fdiv_pos {a b : Int} (h : 0 < b) : a.fdiv b = a / b := Int.fdiv_eq_ediv_of_nonneg a (Int.le_of_lt h)
theorem fmod_pos {a b : Int} (h : 0 < b) : a.fmod b = a % b := Int.fmod_eq_emod_of_nonneg a (Int.le_of_lt h)
/-! ### kinds -/
theorem kb_NoneType_int : kitB "NoneType" "int" = some false := by decide +kernel
theorem kb_bool_int : kitB "bool" "int" = some true := by decide +kernel
theorem kb_int_int : kitB "int" "int" = some true := by decide +kernel
theorem kb_str_int : kitB "str" "int" = some false := by decide +kernel
theorem kb_tuple_int : kitB "tuple" "int" = some false := by decide +kernel
theorem kb_list_int : kitB "list" "int" = some false := by decide +kernel
theorem kb_dict_int : kitB "dict" "int" = some false := by decide +kernel
theorem kb_NoneType_bool : kitB "NoneType" "bool" = some false := by decide +kernel
theorem kb_bool_bool : kitB "bool" "bool" = some true := by decide +kernel
theorem kb_int_bool : kitB "int" "bool" = some false := by decide +kernel
theorem kb_str_bool : kitB "str" "bool" = some false := by decide +kernel
theorem kb_tuple_bool : kitB "tuple" "bool" = some false := by decide +kernel
theorem kb_list_bool : kitB "list" "bool" = some false := by decide +kernel
theorem kb_dict_bool : kitB "dict" "bool" = some false := by decide +kernel
theorem kb_NoneType_tuple : kitB "NoneType" "tuple" = some false := by decide +kernel
theorem kb_bool_tuple : kitB "bool" "tuple" = some false := by decide +kernel
theorem kb_int_tuple : kitB "int" "tuple" = some false := by decide +kernel
theorem kb_str_tuple : kitB "str" "tuple" = some false := by decide +kernel
theorem kb_tuple_tuple : kitB "tuple" "tuple" = some true := by decide +kernel
theorem kb_list_tuple : kitB "list" "tuple" = some false := by decide +kernel
theorem kb_dict_tuple : kitB "dict" "tuple" = some false := by decide +kernel
theorem kb_NoneType_list : kitB "NoneType" "list" = some false := by decide +kernel
theorem kb_bool_list : kitB "bool" "list" = some false := by decide +kernel
theorem kb_int_list : kitB "int" "list" = some false := by decide +kernel
theorem kb_str_list : kitB "str" "list" = some false := by decide +kernel
theorem kb_tuple_list : kitB "tuple" "list" = some false := by decide +kernel
theorem kb_list_list : kitB "list" "list" = some true := by decide +kernel
theorem kb_dict_list : kitB "dict" "list" = some false := by decide +kernel
local macro_rules | `(tactic| walk_at "kb") => `(tactic| simp only [kb_NoneType_list, kb_bool_list, kb_int_list, kb_str_list, kb_tuple_list, kb_list_list, kb_dict_list, kb_NoneType_int, kb_bool_int, kb_int_int, kb_str_int, kb_tuple_int, kb_list_int, kb_dict_int, kb_NoneType_bool, kb_bool_bool, kb_int_bool, kb_str_bool, kb_tuple_bool, kb_list_bool, kb_dict_bool, kb_NoneType_tuple, kb_bool_tuple, kb_int_tuple, kb_str_tuple, kb_tuple_tuple, kb_list_tuple, kb_dict_tuple, if_true, if_false, Bool.false_eq_true, ite_true, ite_false, Bool.not_true, Bool.not_false])
/-! ### measures -/
def isW : D → Bool
  | .int _ => true
  | _ => false
/-- is_whole(d), d any data -/
def sp_is_whole : DSp := fun ds M Q _ => ∃ d T, ds = [d] ∧ tyM M d = some T ∧ Q (.bl (isW d)) M
theorem rd_is_whole : ∀ ds M Q, ds.length = 1 → sp_is_whole ds M Q DX0 → t_is_whole (dEnds M Q) (startD 1 ds) M := by
  rintro _ M Q _ ⟨d, T, rfl, ht, q⟩
  unfold t_is_whole
  cases d <;> first | (cases ht; done) | skip
  all_goals walk_at "rd"
  case own k =>
    unfold tyM at ht
    dsimp only at ht
    split at ht
    · rename_i ds hk
      simp only [hk]
      walk_at "kb"
      exact rtq q
    · cases ht
  all_goals walk_at "kb"
  all_goals exact rtq q
/-- the common divisor of two ints -/
def sp_gcd : DSp := fun ds M Q _ => ∃ a b : Int, ds = [.int a, .int b] ∧ Q (.int (Int.gcd a b)) M
theorem gcd_abs (a b : Int) : Int.gcd (if a < 0 then -a else a) (if b < 0 then -b else b) = Int.gcd a b := by
  split <;> split <;> simp
theorem rd_common_by : ∀ ds M Q, ds.length = 2 → sp_gcd ds M Q DX0 → t_common_by (dEnds M Q) (startD 4 ds) M := by
  rintro _ M Q _ ⟨a, b, rfl, q⟩
  unfold t_common_by
  walk_at "rd"
  refine dwhile_of (fun n r M' => ∃ l h : Int, r = [some (.int a), some (.int b), some (.int l), some (.int h)] ∧ M' = M ∧ 0 ≤ l ∧ 0 ≤ h ∧ Int.gcd l h = Int.gcd a b ∧ n = h.toNat) _ ⟨_, _, rfl, rfl, ?_, ?_, gcd_abs a b, rfl⟩ ?_
  · split <;> omega
  · split <;> omega
  · rintro n r M' ⟨l, h, rfl, rfl, hl, hh, hg, rfl⟩
    walk_at "rd"
    split
    · rename_i h0
      have hp : 0 < h := by omega
      refine ⟨h0, _, ?_, h, l.fmod h, rfl, hh, ?_, (gcd_step hl hp).trans hg, rfl⟩
      · rw [fmod_pos hp]
        have := Int.emod_lt_of_pos l hp
        have := Int.emod_nonneg l h0
        omega
      · rw [fmod_pos hp]; exact Int.emod_nonneg l h0
    · rename_i h0
      have h0 : h = 0 := by omega
      subst h0
      rw [← hg, gcd_end hl] at q
      exact rtq q
/-- the whole root of a count -/
def sp_isq : DSp := fun ds M Q _ => ∃ n : Int, ds = [.int n] ∧ 0 ≤ n ∧ n ≤ BIG ∧ Q (.int (isq n)) M
theorem rd_root_floor_by : ∀ ds M Q, ds.length = 1 → sp_isq ds M Q DX0 → t_root_floor_by (dEnds M Q) (startD 3 ds) M := by
  rintro _ M Q _ ⟨n, rfl, h0, hB, q⟩
  unfold t_root_floor_by
  walk_at "rd"
  split
  · rename_i h2
    have : isq n = n := by
      rcases (by omega : n = 0 ∨ n = 1) with e | e <;> subst e
      · exact isq_self (r := 0) (by decide)
      · exact isq_self (r := 1) (by decide)
    rw [this] at q
    exact rtq q
  · rename_i h2
    refine dwhile_of (fun m r M' => ∃ f : Int, r = [some (.int n), some (.int f), none] ∧ M' = M ∧ 1 ≤ f ∧ f ≤ 2 * n ∧ m = (2 * n + 2 - f).toNat) _ ⟨1, rfl, rfl, by omega, by omega, rfl⟩ ?_
    rintro m r M' ⟨f, rfl, rfl, hf, hf2, rfl⟩
    walk_at "rd"
    have sf : Sm f := sm_big8 (by omega) (by omega)
    refine ⟨⟨sf, sf⟩, ?_⟩
    split
    · rename_i hc
      refine ⟨⟨Sm.of 4 (by decide), sf⟩, _, ?_, 2 * f, rfl, by omega, ?_, rfl⟩
      · have : f * 1 ≤ f * f := Int.mul_le_mul_of_nonneg_left hf (by omega)
        omega
      · have : f * 1 ≤ f * f := Int.mul_le_mul_of_nonneg_left hf (by omega)
        omega
    · rename_i hc
      have dv : ∀ x : Int, 1 ≤ x → x ≤ 2 * n → CDiv n x := fun x h1 h3 => cdiv_big (by omega) (by omega) (by omega)
      have d2 : ∀ x : Int, CDiv x 2 := fun x => ⟨by decide, by decide⟩
      refine ⟨dv f hf hf2, d2 _, ?_⟩
      refine dwhile_of (fun m r M'' => ∃ x : Int, r = [some (.int n), some (.int x), some (.int ((x + n.fdiv x).fdiv 2))] ∧ M'' = M' ∧ 1 ≤ x ∧ x ≤ 2 * n ∧ isq n ≤ x ∧ m = x.toNat) _ ⟨f, rfl, rfl, hf, hf2, sq_big h0 (by omega) (by omega), rfl⟩ ?_
      rintro m r M'' ⟨x, rfl, rfl, hx, hx2, hs, rfl⟩
      walk_at "rd"
      have e1 : n.fdiv x = n / x := fdiv_pos (by omega)
      have e2 : ∀ y : Int, y.fdiv 2 = y / 2 := fun y => fdiv_pos (by decide)
      rw [e2, e1]
      have ng := newton_ge h0 (x := x) (by omega)
      have h1q : 1 ≤ isq n := by
        by_cases z : 1 ≤ isq n
        · exact z
        · have e : isq n = 0 := by have := isq_nn n; omega
          have := isq_lt h0
          rw [e] at this
          omega
      split
      · rename_i hlt
        refine ⟨dv _ (by omega) (by omega), d2 _, _, ?_, (x + n / x) / 2, ?_, by omega, by omega, ng, rfl⟩
        · omega
        · rw [e2]
      · rename_i hge
        have e : isq n = x := isq_uni (by omega) (newton_end (by omega) (by omega)) (by
          have h3 := isq_lt h0
          have : (isq n + 1) * (isq n + 1) ≤ (x + 1) * (x + 1) := sq_le (by omega) (by omega)
          omega)
        rw [e] at q
        exact rtq q
end DL
namespace DL
open PySem PySem.Spec PyProof.Rows L2
local macro_rules | `(tactic| walk_at "rd") => `(tactic| simp only [startD, List.map, List.replicate, List.length_cons, List.length_nil, List.append_eq, List.append_nil, List.nil_append, List.cons_append, Nat.reduceSub, Nat.reduceAdd, List.getElem?_cons_zero, List.getElem?_cons_succ, List.set_cons_zero, List.set_cons_succ,
  dC, dVar, dOp, dTru, gTru, tru, dChain, dAnd, dOr, dNot, dAndV, dOrV, dNotV, dIf, dNeg, gNeg, dNil, dCons, dTup, dLst, dOwn, gIx, rBin, gAdd, gCmpI, dCall, dCallK, dSeq, dNext, dDrop, dRet, dRetN, dIfS, dName, dGNil, dGCons, dGTup, dSub, gSetL, dAsg, dPar, dPar3, dAug, gIpI, dSeqI, gSeqI, dRngI, gRng1, gRng2, dCB, gAbs, gInt, gMax, gMin, gGcd, gLen, lenD, gIsi, tyM, tyD, dBits, gBits, dMet, gAppend, dPart, dNoPart, dSl, dEnds, gIs, isB, dNever, dFor, dLc, wipeD, dYes,
  sizeLine_eq, Nat.reduceLeDiff, gEq_int, gNe_int, gEq_strs, gNe_strs, gIn_two, gRepr_bl, rs_lst, rs_tup, rs_scr, rs_int, atI_0, atI_1, atI_2, atI_3, atI_4, atI_5, ixN_30, ixN_31, ixN_32, gEq_bl, gNe_bl, decide_eq_true_eq, beq_iff_eq, Bool.not_eq_true', beq_eq_false_iff_ne, decide_eq_false_iff_not, Bool.not_true, Bool.not_false, if_true, if_false, Bool.false_eq_true, ite_true, ite_false, true_and, and_true, ne_eq, Bool.bne_false, Bool.bne_true, reduceCtorEq])
local macro_rules | `(tactic| walk_at "rh") => `(tactic| simp only [*, startD, List.map, List.replicate, List.length_cons, List.length_nil, List.append_eq, List.append_nil, List.nil_append, List.cons_append, Nat.reduceSub, Nat.reduceAdd, List.getElem?_cons_zero, List.getElem?_cons_succ, List.set_cons_zero, List.set_cons_succ,
  dC, dVar, dOp, dTru, gTru, tru, dChain, dAnd, dOr, dNot, dAndV, dOrV, dNotV, dIf, dNeg, gNeg, dNil, dCons, dTup, dLst, dOwn, gIx, rBin, gAdd, gCmpI, dCall, dCallK, dSeq, dNext, dDrop, dRet, dRetN, dIfS, dName, dGNil, dGCons, dGTup, dSub, gSetL, dAsg, dPar, dPar3, dAug, gIpI, dSeqI, gSeqI, dRngI, gRng1, gRng2, dCB, gAbs, gInt, gMax, gMin, gGcd, gLen, lenD, gIsi, tyM, tyD, dBits, gBits, dMet, gAppend, dPart, dNoPart, dSl, dEnds, gIs, isB, dNever, dFor, dLc, wipeD, dYes,
  sizeLine_eq, Nat.reduceLeDiff, gEq_int, gNe_int, gEq_strs, gNe_strs, gIn_two, gRepr_bl, rs_lst, rs_tup, rs_scr, rs_int, atI_0, atI_1, atI_2, atI_3, atI_4, atI_5, ixN_30, ixN_31, ixN_32, gEq_bl, gNe_bl, decide_eq_true_eq, beq_iff_eq, Bool.not_eq_true', beq_eq_false_iff_ne, decide_eq_false_iff_not, Bool.not_true, Bool.not_false, if_true, if_false, Bool.false_eq_true, ite_true, ite_false, true_and, and_true, ne_eq, Bool.bne_false, Bool.bne_true, reduceCtorEq])
local macro_rules | `(tactic| walk_at "kb") => `(tactic| simp only [kb_NoneType_list, kb_bool_list, kb_int_list, kb_str_list, kb_tuple_list, kb_list_list, kb_dict_list, kb_NoneType_int, kb_bool_int, kb_int_int, kb_str_int, kb_tuple_int, kb_list_int, kb_dict_int, kb_NoneType_bool, kb_bool_bool, kb_int_bool, kb_str_bool, kb_tuple_bool, kb_list_bool, kb_dict_bool, kb_NoneType_tuple, kb_bool_tuple, kb_int_tuple, kb_str_tuple, kb_tuple_tuple, kb_list_tuple, kb_dict_tuple, if_true, if_false, Bool.false_eq_true, ite_true, ite_false, Bool.not_true, Bool.not_false])
/-! ### bounds and measures -/
def btw (d : D) (lo : Int) (hi : D) : Bool := match d with
  | .int i => decide (lo ≤ i) && (match hi with | .int h => decide (i ≤ h) | _ => true)
  | _ => false
def sp_is_between : DSp := fun ds M Q _ => ∃ d lo hi T, ds = [d, .int lo, hi] ∧ tyM M d = some T ∧ (hi = .non ∨ ∃ h, hi = .int h) ∧ Q (.bl (btw d lo hi)) M
theorem isW_iff {d : D} : isW d = true ↔ ∃ i, d = .int i := by cases d <;> simp [isW]
theorem rd_is_between : ∀ ds M Q, ds.length = 3 → sp_is_between ds M Q DX0 → t_is_between sp_is_whole (dEnds M Q) (startD 3 ds) M := by
  rintro _ M Q - ⟨d, lo, hi, T, rfl, ht, hh, q⟩
  unfold t_is_between
  walk_at "rd"
  refine ⟨d, T, rfl, ht, ?_⟩
  cases d <;> first | (simp only [isW, Bool.false_eq_true, if_false]; exact rtq q) | skip
  simp only [isW, if_true]
  by_cases h1 : lo ≤ (‹Int› : Int)
  · simp only [h1, if_true]
    rcases hh with rfl | ⟨h, rfl⟩
    · walk_at "rd"
      simp only [btw, h1, decide_true, Bool.and_true] at q
      exact rtq q
    · walk_at "rd"
      simp only [btw, h1, decide_true, Bool.true_and] at q
      exact rtq q
  · simp only [h1, if_false]
    simp only [btw, h1, decide_false, Bool.false_and] at q
    exact rtq q
def isMeas (d : D) : Bool := match d with
  | .int i => decide (5 ≤ i) && (i % 4 == 0 || i % 4 == 1)
  | _ => false
def sp_is_measure : DSp := fun ds M Q _ => ∃ d T, ds = [d] ∧ tyM M d = some T ∧ Q (.bl (isMeas d)) M
theorem rd_is_measure_by : ∀ ds M Q, ds.length = 1 → sp_is_measure ds M Q DX0 → t_is_measure_by sp_is_between (dEnds M Q) (startD 1 ds) M := by
  rintro _ M Q - ⟨d, T, rfl, ht, q⟩
  unfold t_is_measure_by
  walk_at "rd"
  refine ⟨d, 5, .non, T, rfl, ht, .inl rfl, ?_⟩
  cases d <;> first | (simp only [btw, Bool.false_eq_true, if_false]; exact rtq q) | skip
  rename_i i
  simp only [btw, Bool.and_true, decide_eq_true_eq]
  by_cases h1 : 5 ≤ i
  · simp only [h1, if_true]
    refine ⟨(by decide : (4 : Int) ≠ 0), ?_⟩
    simp only [isMeas, h1, decide_true, Bool.true_and] at q
    rw [fmod_pos (by decide)]
    exact rtq q
  · simp only [h1, if_false]
    simp only [isMeas, h1, decide_false, Bool.false_and] at q
    exact rtq q
/-! ### root numbers -/
/-- the items that are no whole numbers -/
def bads (l : List D) : List D := l.filterMap fun e => if isW e = true then none else some e
theorem bads_fine {n : Nat} {l : List D} (h : ∀ e ∈ l, fine n e = true) : fineAll n (bads l) = true := by
  rw [fineAll_iff]
  intro d hd
  obtain ⟨e, he, hs⟩ := List.mem_filterMap.mp hd
  split at hs
  · cases hs
  · cases hs; exact h _ he
theorem bads_nil {l : List D} (h : (bads l).isEmpty = true) : ∀ e ∈ l, isW e = true := by
  intro e he
  have h0 : bads l = [] := List.isEmpty_iff.mp h
  by_cases hw : isW e = true
  · exact hw
  · have : e ∈ bads l := List.mem_filterMap.mpr ⟨e, he, by rw [if_neg hw]⟩
    rw [h0] at this; cases this
theorem bads_some {l : List D} (h : (bads l).isEmpty = false) : ∃ e ∈ l, isW e = false := by
  cases hb : bads l with
  | nil => rw [hb] at h; cases h
  | cons x xs =>
    have : x ∈ bads l := by rw [hb]; exact List.mem_cons_self
    obtain ⟨e, he, hs⟩ := List.mem_filterMap.mp this
    refine ⟨e, he, ?_⟩
    split at hs
    · cases hs
    · rename_i hw; exact Bool.eq_false_iff.mpr hw
/-! ### the least form of a root number -/
theorem meas_ge {m : Int} (h : isMeas (.int m) = true) : 5 ≤ m := by
  simp only [isMeas, Bool.and_eq_true, decide_eq_true_eq] at h
  exact h.1
end DL
namespace DL
open PySem PySem.Spec PyProof.Rows L2
local macro_rules | `(tactic| walk_at "rd") => `(tactic| simp only [startD, List.map, List.replicate, List.length_cons, List.length_nil, List.append_eq, List.append_nil, List.nil_append, List.cons_append, Nat.reduceSub, Nat.reduceAdd, List.getElem?_cons_zero, List.getElem?_cons_succ, List.set_cons_zero, List.set_cons_succ,
  dC, dVar, dOp, dTru, gTru, tru, dChain, dAnd, dOr, dNot, dAndV, dOrV, dNotV, dIf, dNeg, gNeg, dNil, dCons, dTup, dLst, dOwn, gIx, rBin, gAdd, gCmpI, dCall, dCallK, dSeq, dNext, dDrop, dRet, dRetN, dIfS, dName, dGNil, dGCons, dGTup, dSub, gSetL, dAsg, dPar, dPar3, dAug, gIpI, dSeqI, gSeqI, dRngI, gRng1, gRng2, dCB, gAbs, gInt, gMax, gMin, gGcd, gLen, lenD, gIsi, tyM, tyD, dBits, gBits, dMet, gAppend, dPart, dNoPart, dSl, dEnds, gIs, isB, dNever, dFor, dLc, wipeD, dYes,
  sizeLine_eq, Nat.reduceLeDiff, gEq_int, gNe_int, gEq_strs, gNe_strs, gIn_two, gRepr_bl, rs_lst, rs_tup, rs_scr, rs_int, atI_0, atI_1, atI_2, atI_3, atI_4, atI_5, ixN_30, ixN_31, ixN_32, gEq_bl, gNe_bl, decide_eq_true_eq, beq_iff_eq, Bool.not_eq_true', beq_eq_false_iff_ne, decide_eq_false_iff_not, Bool.not_true, Bool.not_false, if_true, if_false, Bool.false_eq_true, ite_true, ite_false, true_and, and_true, ne_eq, Bool.bne_false, Bool.bne_true, reduceCtorEq])
local macro_rules | `(tactic| walk_at "rh") => `(tactic| simp only [*, startD, List.map, List.replicate, List.length_cons, List.length_nil, List.append_eq, List.append_nil, List.nil_append, List.cons_append, Nat.reduceSub, Nat.reduceAdd, List.getElem?_cons_zero, List.getElem?_cons_succ, List.set_cons_zero, List.set_cons_succ,
  dC, dVar, dOp, dTru, gTru, tru, dChain, dAnd, dOr, dNot, dAndV, dOrV, dNotV, dIf, dNeg, gNeg, dNil, dCons, dTup, dLst, dOwn, gIx, rBin, gAdd, gCmpI, dCall, dCallK, dSeq, dNext, dDrop, dRet, dRetN, dIfS, dName, dGNil, dGCons, dGTup, dSub, gSetL, dAsg, dPar, dPar3, dAug, gIpI, dSeqI, gSeqI, dRngI, gRng1, gRng2, dCB, gAbs, gInt, gMax, gMin, gGcd, gLen, lenD, gIsi, tyM, tyD, dBits, gBits, dMet, gAppend, dPart, dNoPart, dSl, dEnds, gIs, isB, dNever, dFor, dLc, wipeD, dYes,
  sizeLine_eq, Nat.reduceLeDiff, gEq_int, gNe_int, gEq_strs, gNe_strs, gIn_two, gRepr_bl, rs_lst, rs_tup, rs_scr, rs_int, atI_0, atI_1, atI_2, atI_3, atI_4, atI_5, ixN_30, ixN_31, ixN_32, gEq_bl, gNe_bl, decide_eq_true_eq, beq_iff_eq, Bool.not_eq_true', beq_eq_false_iff_ne, decide_eq_false_iff_not, Bool.not_true, Bool.not_false, if_true, if_false, Bool.false_eq_true, ite_true, ite_false, true_and, and_true, ne_eq, Bool.bne_false, Bool.bne_true, reduceCtorEq])
local macro_rules | `(tactic| walk_at "kb") => `(tactic| simp only [kb_NoneType_list, kb_bool_list, kb_int_list, kb_str_list, kb_tuple_list, kb_list_list, kb_dict_list, kb_NoneType_int, kb_bool_int, kb_int_int, kb_str_int, kb_tuple_int, kb_list_int, kb_dict_int, kb_NoneType_bool, kb_bool_bool, kb_int_bool, kb_str_bool, kb_tuple_bool, kb_list_bool, kb_dict_bool, kb_NoneType_tuple, kb_bool_tuple, kb_int_tuple, kb_str_tuple, kb_tuple_tuple, kb_list_tuple, kb_dict_tuple, if_true, if_false, Bool.false_eq_true, ite_true, ite_false, Bool.not_true, Bool.not_false])
/-! ### the law's own draws -/
theorem sm_of {i : Int} (n : Nat) (h1 : -(2 ^ n : Int) < i) (h2 : i < 2 ^ n) (hn : n ≤ 400000 := by decide) : Sm i := by
  refine Sm.of n ?_ hn
  have e : ((2 ^ n : Nat) : Int) = (2 : Int) ^ n := by rw [Int.natCast_pow]; rfl
  omega
theorem fm_range {a b : Int} (h : 0 < b) : 0 ≤ a.fmod b ∧ a.fmod b < b := by
  rw [fmod_pos h]
  exact ⟨Int.emod_nonneg _ (by omega), Int.emod_lt_of_pos _ h⟩
def P31 : Int := 2147483648
def P40 : Int := 1099511627776
def sp_hash : DSp := fun ds M Q _ => ∃ s c : Int, ds = [.int s, .int c] ∧ 0 ≤ s ∧ s < P31 ∧ 0 ≤ c ∧ c ≤ P40 ∧ ∀ v, 0 ≤ v → v < P31 → Q (.int v) M
/-- cell k is a generator that has counted n, at most -/
def Gn (k : Nat) (n : Int) (M : Mem) : Prop := ∃ a s c : Int, M[k]? = some (.lst [.int a, .int s, .int c]) ∧ 0 ≤ s ∧ s < P31 ∧ 0 ≤ c ∧ c ≤ n
/-- cell k alone has changed -/
def Gst (k : Nat) (n : Int) (M M' : Mem) : Prop := M'.length = M.length ∧ Gn k n M' ∧ ∀ i, i ≠ k → M'[i]? = M[i]?
theorem Gn.le {k : Nat} {n m : Int} {M : Mem} (h : Gn k n M) (hn : n ≤ m) : Gn k m M := by
  obtain ⟨a, s, c, h1, h2, h3, h4, h5⟩ := h
  exact ⟨a, s, c, h1, h2, h3, h4, by omega⟩
theorem Gst.refl {k : Nat} {n : Int} {M : Mem} (h : Gn k n M) : Gst k n M M := ⟨rfl, h, fun _ _ => rfl⟩
theorem Gst.trans {k : Nat} {n m : Int} {M M' M'' : Mem} (h : Gst k n M M') (g : Gst k m M' M'') : Gst k m M M'' :=
  ⟨g.1.trans h.1, g.2.1, fun i hi => (g.2.2 i hi).trans (h.2.2 i hi)⟩
theorem Gst.le {k : Nat} {n m : Int} {M M' : Mem} (h : Gst k n M M') (hn : n ≤ m) : Gst k m M M' := ⟨h.1, h.2.1.le hn, h.2.2⟩
theorem Gst.set {k : Nat} {n : Int} {M : Mem} {a s c : Int} (hk : k < M.length) (h2 : 0 ≤ s) (h3 : s < P31) (h4 : 0 ≤ c) (h5 : c ≤ n) : Gst k n M (M.set k (.lst [.int a, .int s, .int c])) :=
  ⟨List.length_set, ⟨a, s, c, List.getElem?_set_self hk, h2, h3, h4, h5⟩, fun _ hi => List.getElem?_set_ne (Ne.symm hi)⟩
/-- a def that has changed the generator alone -/
theorem Gst.rtq {k : Nat} {n : Int} {M M' : Mem} {Q : DQ} {d : D} (h : Gst k n M M') (q : Q d M') (hb : below M'.length d = true := by rfl) : Rtq M Q d M' := by
  refine rtqC q (Nat.le_of_eq h.1.symm) hb fun i c hc => ?_
  by_cases hi : i = k
  · subst hi
    obtain ⟨a, s, c', e, _⟩ := h.2.1
    rw [e] at hc
    cases hc
    exact .inr rfl
  · rw [h.2.2 i hi] at hc
    exact .inl hc
def sp_random : DSp := fun ds M Q _ => ∃ (k : Nat) (b n : Int), ds = [.own k, .int b] ∧ 0 < b ∧ b < 2 ^ 900 ∧ Gn k n M ∧ n ≤ P40 - 40 ∧ ∀ v M', 0 ≤ v → v < b → Gst k (n + 40) M M' → Q (.int v) M'
theorem bits_le {b : Int} {n : Nat} (h0 : 0 < b) (h : b < 2 ^ n) : Builtin.Int.intBits b ≤ n := by
  unfold Builtin.Int.intBits
  rw [if_neg (by simp; omega)]
  have h1 : b.natAbs < 2 ^ n := by
    have e : ((2 ^ n : Nat) : Int) = (2 : Int) ^ n := by rw [Int.natCast_pow]; rfl
    omega
  have := (Nat.log2_lt (by omega)).mpr h1
  omega
theorem rd_l_random_7821 : ∀ ds M Q, ds.length = 2 → sp_random ds M Q DX0 → t_l_random_7821 sp_hash (dEnds M Q) (startD 4 ds) M := by
  rintro _ M Q - ⟨k, b, n, rfl, b0, b1, ⟨a, s, c, hk, s0, s1, c0, c1⟩, hn, q⟩
  have kl : k < M.length := (List.getElem?_eq_some_iff.mp hk).1
  unfold t_l_random_7821
  walk_at "rd"
  have e0 : res M (.own k) = .lst [.int a, .int s, .int c] := by unfold res; dsimp only; rw [hk]
  simp only [e0, hk]
  walk_at "rd"
  by_cases ha : 0 < a
  · rw [if_pos ha]
    have := fm_range (a := a) b0
    refine ⟨(by omega : b ≠ 0), ⟨by omega, Nat.lt_of_lt_of_le (log2_of 900 (by
      have e : ((2 ^ 900 : Nat) : Int) = (2 : Int) ^ 900 := by rw [Int.natCast_pow]; rfl
      omega) (by decide)) (by decide)⟩, ?_⟩
    exact (Gst.set kl s0 s1 c0 (by omega)).rtq (q _ _ this.1 this.2 (Gst.set kl s0 s1 c0 (by omega)))
  · rw [if_neg ha]
    have hb := bits_le b0 b1
    generalize hbits : Builtin.Int.intBits b = bits at hb
    have ef : ((bits : Nat) : Int).fdiv 30 = (bits / 30 : Nat) := by rw [fdiv_pos (by decide)]; omega
    rw [ef]
    refine ⟨⟨by decide, by decide⟩, ⟨by omega, by omega⟩, ?_⟩
    have eT : (1 + ((bits / 30 : Nat) : Int)).toNat = 1 + bits / 30 := by omega
    rw [eT]
    generalize hT : 1 + bits / 30 = T
    have hT1 : T ≤ 31 := by omega
    refine ⟨fun i r M' => i ≤ T ∧ Gst k (n + i) M M' ∧ ∃ dr tn, r = [some (.own k), some (.int b), some (.int dr), tn] ∧ 0 ≤ dr ∧ dr < 2 ^ (32 * i), ⟨by omega, ⟨rfl, ⟨a, s, c, hk, s0, s1, c0, by omega⟩, fun _ _ => rfl⟩, 0, _, rfl, by decide, by decide⟩, ?_⟩
    rintro i r M' ⟨hi, hg, dr, tn, rfl, d0, d1⟩
    refine ⟨trivial, fun hl => ?_, fun d hd => ?_⟩
    · walk_at "rd"
      have := fm_range (a := dr) b0
      exact ⟨(by omega : b ≠ 0), hg.rtq (q _ _ this.1 this.2 (hg.le (by omega)))⟩
    · obtain ⟨hi2, rfl⟩ := rng_get.mp hd
      obtain ⟨a', s', c', hk', s0', s1', c0', c1'⟩ := hg.2.1
      have kl' : k < M'.length := (List.getElem?_eq_some_iff.mp hk').1
      have e1 : res M' (.own k) = .lst [.int a', .int s', .int c'] := by unfold res; dsimp only; rw [hk']
      walk_at "rd"
      simp only [e1, hk']
      walk_at "rd"
      have e2 : res (M'.set k (.lst [.int a', .int s', .int (c' + 1)])) (.own k) = .lst [.int a', .int s', .int (c' + 1)] := by unfold res; dsimp only; rw [List.getElem?_set_self kl']
      simp only [e2]
      walk_at "rd"
      have sd : Sm dr := sm_of (32 * i) (by have := Int.pow_pos (n := 2) (m := 32 * i) (by decide); omega) d1 (by omega)
      unfold P40 at hn
      refine ⟨⟨sd, sm_of 32 (by decide) (by decide)⟩, s', c' + 1, rfl, s0', s1', by omega, by unfold P40; omega, fun v v0 v1 => ?_⟩
      refine ⟨by omega, hg.trans (Gst.set kl' s0' s1' (by omega) (by omega)), _, _, rfl, by omega, ?_⟩
      unfold P31 at v1
      have e3 : (2 : Int) ^ (32 * (i + 1)) = 2 ^ (32 * i) * 4294967296 := by rw [Nat.mul_add, Int.pow_add]; rfl
      rw [e3]
      omega
def sp_cell : DSp := fun ds M Q _ => ∃ (ns : List Int) (i : Int), ds = [.scr ns, .int i] ∧ 0 ≤ i ∧ ∀ v, Q (.int v) M
theorem rd_l_cell_cf3b : ∀ ds M Q, ds.length = 2 → sp_cell ds M Q DX0 → t_l_cell_cf3b (dEnds M Q) (startD 2 ds) M := by
  rintro _ M Q - ⟨ns, i, rfl, i0, q⟩
  unfold t_l_cell_cf3b
  walk_at "rd"
  by_cases hi : i < (ns.length : Nat)
  · rw [if_pos hi]
    have e : i = (i.toNat : Nat) := by omega
    have hl : i.toNat < ns.length := by omega
    rw [e, atI_of _ hl, List.getElem?_eq_getElem hl]
    exact rtq (q _)
  · rw [if_neg hi]
    obtain ⟨xs, ex⟩ := cut_map ns none (some 1)
    unfold gSlL
    walk_at "rd"
    rw [ex]
    unfold gSum
    walk_at "rd"
    rw [intsD_map]
    exact ⟨(by decide : (1000003 : Int) ≠ 0), rtq (q _)⟩
def sp_generator : DSp := fun ds M Q _ => ∃ (ns : List Int) (i : Int), ds = [.scr ns, .int i] ∧ 0 ≤ i ∧ i < P31 ∧ ∀ M', M'.length = M.length + 1 → Gn M.length (1000 * i) M' → (∀ j, j < M.length → M'[j]? = M[j]?) → Q (.own M.length) M'
theorem rd_l_generator_b324 : ∀ ds M Q, ds.length = 2 → sp_generator ds M Q DX0 → t_l_generator_b324 sp_cell (dEnds M Q) (startD 3 ds) M := by
  rintro _ M Q - ⟨ns, i, rfl, i0, i1, q⟩
  unfold t_l_generator_b324
  walk_at "rd"
  refine ⟨ns, i, rfl, i0, fun v => ?_⟩
  dsimp only
  have cp : CPow 10 18 ∧ CPow 10 60 ∧ CPow (10 ^ Int.toNat 60) 10 := by refine ⟨?_, ?_, ?_⟩ <;> (unfold CPow; decide)
  have hi : Sm i := by unfold P31 at i1; exact sm_of 32 (by omega) (by omega)
  refine ⟨cp.1, cp.2.1, cp.2.2, ?_, (by decide : (2147483647 : Int) ≠ 0), ⟨Sm.of 20 (by decide), hi⟩, ?_⟩
  · have h1 : (0 : Int) < (10 ^ Int.toNat 60) ^ Int.toNat 10 := Int.pow_pos (Int.pow_pos (by decide))
    exact fun e => by rw [e] at h1; exact absurd h1 (by decide)
  · have g := fm_range (a := v) (b := 2147483647) (by decide)
    have hl : ∀ c : Own, (M ++ [c])[M.length]? = some c := fun c => by rw [List.getElem?_append_right (Nat.le_refl _), Nat.sub_self]; rfl
    refine rtqC (q _ (by simp) ⟨_, _, _, hl _, g.1, by unfold P31; omega, by omega, Int.le_refl _⟩ fun j hj => List.getElem?_append_left hj) (by simp) (by simp only [below]; exact decide_eq_true (by simp)) fun j c hc => ?_
    by_cases hj : j < M.length
    · rw [List.getElem?_append_left hj] at hc; exact .inl hc
    · have hj2 : j < M.length + 1 := by
        have := (List.getElem?_eq_some_iff.mp hc).1
        simpa using this
      have e : j = M.length := by omega
      subst e
      rw [hl] at hc
      cases hc
      exact .inr rfl
end DL
namespace DL
open PySem PySem.Spec PyProof.Rows L2
local macro_rules | `(tactic| walk_at "rd") => `(tactic| simp only [startD, List.map, List.replicate, List.length_cons, List.length_nil, List.append_eq, List.append_nil, List.nil_append, List.cons_append, Nat.reduceSub, Nat.reduceAdd, List.getElem?_cons_zero, List.getElem?_cons_succ, List.set_cons_zero, List.set_cons_succ,
  dC, dVar, dOp, dTru, gTru, tru, dChain, dAnd, dOr, dNot, dAndV, dOrV, dNotV, dIf, dNeg, gNeg, dNil, dCons, dTup, dLst, dOwn, gIx, rBin, gAdd, gCmpI, dCall, dCallK, dSeq, dNext, dDrop, dRet, dRetN, dIfS, dName, dGNil, dGCons, dGTup, dSub, gSetL, dAsg, dPar, dPar3, dAug, gIpI, dSeqI, gSeqI, dRngI, gRng1, gRng2, dCB, gAbs, gInt, gMax, gMin, gGcd, gLen, lenD, gIsi, tyM, tyD, dBits, gBits, dMet, gAppend, dPart, dNoPart, dSl, dEnds, gIs, isB, dNever, dFor, dLc, wipeD, dYes,
  sizeLine_eq, Nat.reduceLeDiff, gEq_int, gNe_int, gEq_strs, gNe_strs, gIn_two, gRepr_bl, rs_lst, rs_tup, rs_scr, rs_int, atI_0, atI_1, atI_2, atI_3, atI_4, atI_5, ixN_30, ixN_31, ixN_32, gEq_bl, gNe_bl, decide_eq_true_eq, beq_iff_eq, Bool.not_eq_true', beq_eq_false_iff_ne, decide_eq_false_iff_not, Bool.not_true, Bool.not_false, if_true, if_false, Bool.false_eq_true, ite_true, ite_false, true_and, and_true, ne_eq, Bool.bne_false, Bool.bne_true, reduceCtorEq])
local macro_rules | `(tactic| walk_at "rh") => `(tactic| simp only [*, startD, List.map, List.replicate, List.length_cons, List.length_nil, List.append_eq, List.append_nil, List.nil_append, List.cons_append, Nat.reduceSub, Nat.reduceAdd, List.getElem?_cons_zero, List.getElem?_cons_succ, List.set_cons_zero, List.set_cons_succ,
  dC, dVar, dOp, dTru, gTru, tru, dChain, dAnd, dOr, dNot, dAndV, dOrV, dNotV, dIf, dNeg, gNeg, dNil, dCons, dTup, dLst, dOwn, gIx, rBin, gAdd, gCmpI, dCall, dCallK, dSeq, dNext, dDrop, dRet, dRetN, dIfS, dName, dGNil, dGCons, dGTup, dSub, gSetL, dAsg, dPar, dPar3, dAug, gIpI, dSeqI, gSeqI, dRngI, gRng1, gRng2, dCB, gAbs, gInt, gMax, gMin, gGcd, gLen, lenD, gIsi, tyM, tyD, dBits, gBits, dMet, gAppend, dPart, dNoPart, dSl, dEnds, gIs, isB, dNever, dFor, dLc, wipeD, dYes,
  sizeLine_eq, Nat.reduceLeDiff, gEq_int, gNe_int, gEq_strs, gNe_strs, gIn_two, gRepr_bl, rs_lst, rs_tup, rs_scr, rs_int, atI_0, atI_1, atI_2, atI_3, atI_4, atI_5, ixN_30, ixN_31, ixN_32, gEq_bl, gNe_bl, decide_eq_true_eq, beq_iff_eq, Bool.not_eq_true', beq_eq_false_iff_ne, decide_eq_false_iff_not, Bool.not_true, Bool.not_false, if_true, if_false, Bool.false_eq_true, ite_true, ite_false, true_and, and_true, ne_eq, Bool.bne_false, Bool.bne_true, reduceCtorEq])
local macro_rules | `(tactic| walk_at "kb") => `(tactic| simp only [kb_NoneType_list, kb_bool_list, kb_int_list, kb_str_list, kb_tuple_list, kb_list_list, kb_dict_list, kb_NoneType_int, kb_bool_int, kb_int_int, kb_str_int, kb_tuple_int, kb_list_int, kb_dict_int, kb_NoneType_bool, kb_bool_bool, kb_int_bool, kb_str_bool, kb_tuple_bool, kb_list_bool, kb_dict_bool, kb_NoneType_tuple, kb_bool_tuple, kb_int_tuple, kb_str_tuple, kb_tuple_tuple, kb_list_tuple, kb_dict_tuple, if_true, if_false, Bool.false_eq_true, ite_true, ite_false, Bool.not_true, Bool.not_false])
theorem fine_ty {n : Nat} {d : D} (M : Mem) (h : fine n d = true) : ∃ T, tyM M d = some T := by
  cases d <;> first | exact ⟨_, rfl⟩ | (simp [fine] at h)
theorem dSeq_open {a b : DTS} {E : DEnds} {r : Env} {M : Mem} (h : ∀ B : Env → Mem → Prop, b E = B → a { E with nx := B } r M) : dSeq a b E r M := h _ rfl
/-! ### the least form: scaled, its size -/
theorem str_self (z : Str) : (z == z) = true := by simp
theorem lit_cons {B : Nat} {d : D} {l : List D} (h : lit B d = true) (h2 : litAll B l = true) : litAll B (d :: l) = true := by
  simp only [litAll, h, h2, Bool.and_self]
end DL
namespace DL
open PySem PySem.Spec PyProof.Rows L2
local macro_rules | `(tactic| walk_at "rd") => `(tactic| simp only [startD, List.map, List.replicate, List.length_cons, List.length_nil, List.append_eq, List.append_nil, List.nil_append, List.cons_append, Nat.reduceSub, Nat.reduceAdd, List.getElem?_cons_zero, List.getElem?_cons_succ, List.set_cons_zero, List.set_cons_succ,
  dC, dVar, dOp, dTru, gTru, tru, dChain, dAnd, dOr, dNot, dAndV, dOrV, dNotV, dIf, dNeg, gNeg, dNil, dCons, dTup, dLst, dOwn, gIx, rBin, gAdd, gCmpI, dCall, dCallK, dSeq, dNext, dDrop, dRet, dRetN, dIfS, dName, dGNil, dGCons, dGTup, dSub, gSetL, dAsg, dPar, dPar3, dAug, gIpI, dSeqI, gSeqI, dRngI, gRng1, gRng2, dCB, gAbs, gInt, gMax, gMin, gGcd, gLen, lenD, gIsi, tyM, tyD, dBits, gBits, dMet, gAppend, dPart, dNoPart, dSl, dEnds, gIs, isB, dNever, dFor, dLc, wipeD, dYes,
  sizeLine_eq, Nat.reduceLeDiff, gEq_int, gNe_int, gEq_strs, gNe_strs, gIn_two, gRepr_bl, rs_lst, rs_tup, rs_scr, rs_int, atI_0, atI_1, atI_2, atI_3, atI_4, atI_5, ixN_30, ixN_31, ixN_32, gEq_bl, gNe_bl, decide_eq_true_eq, beq_iff_eq, Bool.not_eq_true', beq_eq_false_iff_ne, decide_eq_false_iff_not, Bool.not_true, Bool.not_false, if_true, if_false, Bool.false_eq_true, ite_true, ite_false, true_and, and_true, ne_eq, Bool.bne_false, Bool.bne_true, reduceCtorEq])
local macro_rules | `(tactic| walk_at "rh") => `(tactic| simp only [*, startD, List.map, List.replicate, List.length_cons, List.length_nil, List.append_eq, List.append_nil, List.nil_append, List.cons_append, Nat.reduceSub, Nat.reduceAdd, List.getElem?_cons_zero, List.getElem?_cons_succ, List.set_cons_zero, List.set_cons_succ,
  dC, dVar, dOp, dTru, gTru, tru, dChain, dAnd, dOr, dNot, dAndV, dOrV, dNotV, dIf, dNeg, gNeg, dNil, dCons, dTup, dLst, dOwn, gIx, rBin, gAdd, gCmpI, dCall, dCallK, dSeq, dNext, dDrop, dRet, dRetN, dIfS, dName, dGNil, dGCons, dGTup, dSub, gSetL, dAsg, dPar, dPar3, dAug, gIpI, dSeqI, gSeqI, dRngI, gRng1, gRng2, dCB, gAbs, gInt, gMax, gMin, gGcd, gLen, lenD, gIsi, tyM, tyD, dBits, gBits, dMet, gAppend, dPart, dNoPart, dSl, dEnds, gIs, isB, dNever, dFor, dLc, wipeD, dYes,
  sizeLine_eq, Nat.reduceLeDiff, gEq_int, gNe_int, gEq_strs, gNe_strs, gIn_two, gRepr_bl, rs_lst, rs_tup, rs_scr, rs_int, atI_0, atI_1, atI_2, atI_3, atI_4, atI_5, ixN_30, ixN_31, ixN_32, gEq_bl, gNe_bl, decide_eq_true_eq, beq_iff_eq, Bool.not_eq_true', beq_eq_false_iff_ne, decide_eq_false_iff_not, Bool.not_true, Bool.not_false, if_true, if_false, Bool.false_eq_true, ite_true, ite_false, true_and, and_true, ne_eq, Bool.bne_false, Bool.bne_true, reduceCtorEq])
local macro_rules | `(tactic| walk_at "kb") => `(tactic| simp only [kb_NoneType_list, kb_bool_list, kb_int_list, kb_str_list, kb_tuple_list, kb_list_list, kb_dict_list, kb_NoneType_int, kb_bool_int, kb_int_int, kb_str_int, kb_tuple_int, kb_list_int, kb_dict_int, kb_NoneType_bool, kb_bool_bool, kb_int_bool, kb_str_bool, kb_tuple_bool, kb_list_bool, kb_dict_bool, kb_NoneType_tuple, kb_bool_tuple, kb_int_tuple, kb_str_tuple, kb_tuple_tuple, kb_list_tuple, kb_dict_tuple, if_true, if_false, Bool.false_eq_true, ite_true, ite_false, Bool.not_true, Bool.not_false])
/-! ### bits -/
def Bi (n : Nat) (i : Int) : Prop := i.natAbs < 2 ^ n
theorem Bi.mono {n k : Nat} {i : Int} (h : Bi n i) (hk : n ≤ k := by decide) : Bi k i := Nat.lt_of_lt_of_le h (Nat.pow_le_pow_right (by decide) hk)
theorem Bi.mul {n k : Nat} {i j : Int} (h : Bi n i) (g : Bi k j) : Bi (n + k) (i * j) := by
  unfold Bi at *
  rw [Int.natAbs_mul, Nat.pow_add]
  exact Nat.mul_lt_mul'' h g
theorem Bi.add {n : Nat} {i j : Int} (h : Bi n i) (g : Bi n j) : Bi (n + 1) (i + j) := by
  unfold Bi at *
  rw [Nat.pow_succ]
  omega
theorem Bi.sub {n : Nat} {i j : Int} (h : Bi n i) (g : Bi n j) : Bi (n + 1) (i - j) := by
  unfold Bi at *
  rw [Nat.pow_succ]
  omega
theorem Bi.sm {n : Nat} {i : Int} (h : Bi n i) (hn : n ≤ 400000 := by decide) : Sm i := Sm.of n h hn
theorem Bi.of_abs {n : Nat} {i : Int} (k : Nat) (h : i.natAbs ≤ k) (hk : k < 2 ^ n := by decide) : Bi n i := Nat.lt_of_le_of_lt h hk
/-! ### normal forms -/
abbrev T3 (a b c : Int) : D := .tup [.int a, .int b, .int c]
def nC (X Y b : Int) : Int := if b < 0 then 0 - (Int.gcd (Int.gcd X Y : Int) b : Int) else (Int.gcd (Int.gcd X Y : Int) b : Int)
def nf (X Y b : Int) : D := T3 (X.fdiv (nC X Y b)) (Y.fdiv (nC X Y b)) (b.fdiv (nC X Y b))
/-! ### sums, products, quotients -/
def Sz (n : Nat) (a b c : Int) : Prop := Bi n a ∧ Bi n b ∧ Bi n c
/-! ### the law's drawn root numbers -/
/-! ### sizes and values, for the laws -/
theorem Sz.mono {n k : Nat} {a b c : Int} (h : Sz n a b c) (hk : n ≤ k := by decide) : Sz k a b c := ⟨h.1.mono hk, h.2.1.mono hk, h.2.2.mono hk⟩
end DL
namespace DL
open PySem PySem.Spec PyProof.Rows L2
local macro_rules | `(tactic| walk_at "rd") => `(tactic| simp only [startD, List.map, List.replicate, List.length_cons, List.length_nil, List.append_eq, List.append_nil, List.nil_append, List.cons_append, Nat.reduceSub, Nat.reduceAdd, List.getElem?_cons_zero, List.getElem?_cons_succ, List.set_cons_zero, List.set_cons_succ,
  dC, dVar, dOp, dTru, gTru, tru, dChain, dAnd, dOr, dNot, dAndV, dOrV, dNotV, dIf, dNeg, gNeg, dNil, dCons, dTup, dLst, dOwn, gIx, rBin, gAdd, gCmpI, dCall, dCallK, dSeq, dNext, dDrop, dRet, dRetN, dIfS, dName, dGNil, dGCons, dGTup, dSub, gSetL, dAsg, dPar, dPar3, dAug, gIpI, dSeqI, gSeqI, dRngI, gRng1, gRng2, dCB, gAbs, gInt, gMax, gMin, gGcd, gLen, lenD, gIsi, tyM, tyD, dBits, gBits, dMet, gAppend, dPart, dNoPart, dSl, dEnds, gIs, isB, dNever, dFor, dLc, wipeD, dYes,
  sizeLine_eq, Nat.reduceLeDiff, gEq_int, gNe_int, gEq_strs, gNe_strs, gIn_two, gRepr_bl, rs_lst, rs_tup, rs_scr, rs_int, atI_0, atI_1, atI_2, atI_3, atI_4, atI_5, ixN_30, ixN_31, ixN_32, gEq_bl, gNe_bl, decide_eq_true_eq, beq_iff_eq, Bool.not_eq_true', beq_eq_false_iff_ne, decide_eq_false_iff_not, Bool.not_true, Bool.not_false, if_true, if_false, Bool.false_eq_true, ite_true, ite_false, true_and, and_true, ne_eq, Bool.bne_false, Bool.bne_true, reduceCtorEq])
local macro_rules | `(tactic| walk_at "rh") => `(tactic| simp only [*, startD, List.map, List.replicate, List.length_cons, List.length_nil, List.append_eq, List.append_nil, List.nil_append, List.cons_append, Nat.reduceSub, Nat.reduceAdd, List.getElem?_cons_zero, List.getElem?_cons_succ, List.set_cons_zero, List.set_cons_succ,
  dC, dVar, dOp, dTru, gTru, tru, dChain, dAnd, dOr, dNot, dAndV, dOrV, dNotV, dIf, dNeg, gNeg, dNil, dCons, dTup, dLst, dOwn, gIx, rBin, gAdd, gCmpI, dCall, dCallK, dSeq, dNext, dDrop, dRet, dRetN, dIfS, dName, dGNil, dGCons, dGTup, dSub, gSetL, dAsg, dPar, dPar3, dAug, gIpI, dSeqI, gSeqI, dRngI, gRng1, gRng2, dCB, gAbs, gInt, gMax, gMin, gGcd, gLen, lenD, gIsi, tyM, tyD, dBits, gBits, dMet, gAppend, dPart, dNoPart, dSl, dEnds, gIs, isB, dNever, dFor, dLc, wipeD, dYes,
  sizeLine_eq, Nat.reduceLeDiff, gEq_int, gNe_int, gEq_strs, gNe_strs, gIn_two, gRepr_bl, rs_lst, rs_tup, rs_scr, rs_int, atI_0, atI_1, atI_2, atI_3, atI_4, atI_5, ixN_30, ixN_31, ixN_32, gEq_bl, gNe_bl, decide_eq_true_eq, beq_iff_eq, Bool.not_eq_true', beq_eq_false_iff_ne, decide_eq_false_iff_not, Bool.not_true, Bool.not_false, if_true, if_false, Bool.false_eq_true, ite_true, ite_false, true_and, and_true, ne_eq, Bool.bne_false, Bool.bne_true, reduceCtorEq])
local macro_rules | `(tactic| walk_at "kb") => `(tactic| simp only [kb_NoneType_list, kb_bool_list, kb_int_list, kb_str_list, kb_tuple_list, kb_list_list, kb_dict_list, kb_NoneType_int, kb_bool_int, kb_int_int, kb_str_int, kb_tuple_int, kb_list_int, kb_dict_int, kb_NoneType_bool, kb_bool_bool, kb_int_bool, kb_str_bool, kb_tuple_bool, kb_list_bool, kb_dict_bool, kb_NoneType_tuple, kb_bool_tuple, kb_int_tuple, kb_str_tuple, kb_tuple_tuple, kb_list_tuple, kb_dict_tuple, if_true, if_false, Bool.false_eq_true, ite_true, ite_false, Bool.not_true, Bool.not_false])
/-! ### the side of x + y root m -/
/-! ### the floor -/
end DL
namespace DL
open PySem PySem.Spec PyProof.Rows L2
local macro_rules | `(tactic| walk_at "rd") => `(tactic| simp only [startD, List.map, List.replicate, List.length_cons, List.length_nil, List.append_eq, List.append_nil, List.nil_append, List.cons_append, Nat.reduceSub, Nat.reduceAdd, List.getElem?_cons_zero, List.getElem?_cons_succ, List.set_cons_zero, List.set_cons_succ,
  dC, dVar, dOp, dTru, gTru, tru, dChain, dAnd, dOr, dNot, dAndV, dOrV, dNotV, dIf, dNeg, gNeg, dNil, dCons, dTup, dLst, dOwn, gIx, rBin, gAdd, gCmpI, dCall, dCallK, dSeq, dNext, dDrop, dRet, dRetN, dIfS, dName, dGNil, dGCons, dGTup, dSub, gSetL, dAsg, dPar, dPar3, dAug, gIpI, dSeqI, gSeqI, dRngI, gRng1, gRng2, dCB, gAbs, gInt, gMax, gMin, gGcd, gLen, lenD, gIsi, tyM, tyD, dBits, gBits, dMet, gAppend, dPart, dNoPart, dSl, dEnds, gIs, isB, dNever, dFor, dLc, wipeD, dYes,
  sizeLine_eq, Nat.reduceLeDiff, gEq_int, gNe_int, gEq_strs, gNe_strs, gIn_two, gRepr_bl, rs_lst, rs_tup, rs_scr, rs_int, atI_0, atI_1, atI_2, atI_3, atI_4, atI_5, ixN_30, ixN_31, ixN_32, gEq_bl, gNe_bl, decide_eq_true_eq, beq_iff_eq, Bool.not_eq_true', beq_eq_false_iff_ne, decide_eq_false_iff_not, Bool.not_true, Bool.not_false, if_true, if_false, Bool.false_eq_true, ite_true, ite_false, true_and, and_true, ne_eq, Bool.bne_false, Bool.bne_true, reduceCtorEq])
local macro_rules | `(tactic| walk_at "rh") => `(tactic| simp only [*, startD, List.map, List.replicate, List.length_cons, List.length_nil, List.append_eq, List.append_nil, List.nil_append, List.cons_append, Nat.reduceSub, Nat.reduceAdd, List.getElem?_cons_zero, List.getElem?_cons_succ, List.set_cons_zero, List.set_cons_succ,
  dC, dVar, dOp, dTru, gTru, tru, dChain, dAnd, dOr, dNot, dAndV, dOrV, dNotV, dIf, dNeg, gNeg, dNil, dCons, dTup, dLst, dOwn, gIx, rBin, gAdd, gCmpI, dCall, dCallK, dSeq, dNext, dDrop, dRet, dRetN, dIfS, dName, dGNil, dGCons, dGTup, dSub, gSetL, dAsg, dPar, dPar3, dAug, gIpI, dSeqI, gSeqI, dRngI, gRng1, gRng2, dCB, gAbs, gInt, gMax, gMin, gGcd, gLen, lenD, gIsi, tyM, tyD, dBits, gBits, dMet, gAppend, dPart, dNoPart, dSl, dEnds, gIs, isB, dNever, dFor, dLc, wipeD, dYes,
  sizeLine_eq, Nat.reduceLeDiff, gEq_int, gNe_int, gEq_strs, gNe_strs, gIn_two, gRepr_bl, rs_lst, rs_tup, rs_scr, rs_int, atI_0, atI_1, atI_2, atI_3, atI_4, atI_5, ixN_30, ixN_31, ixN_32, gEq_bl, gNe_bl, decide_eq_true_eq, beq_iff_eq, Bool.not_eq_true', beq_eq_false_iff_ne, decide_eq_false_iff_not, Bool.not_true, Bool.not_false, if_true, if_false, Bool.false_eq_true, ite_true, ite_false, true_and, and_true, ne_eq, Bool.bne_false, Bool.bne_true, reduceCtorEq])
local macro_rules | `(tactic| walk_at "kb") => `(tactic| simp only [kb_NoneType_list, kb_bool_list, kb_int_list, kb_str_list, kb_tuple_list, kb_list_list, kb_dict_list, kb_NoneType_int, kb_bool_int, kb_int_int, kb_str_int, kb_tuple_int, kb_list_int, kb_dict_int, kb_NoneType_bool, kb_bool_bool, kb_int_bool, kb_str_bool, kb_tuple_bool, kb_list_bool, kb_dict_bool, kb_NoneType_tuple, kb_bool_tuple, kb_int_tuple, kb_str_tuple, kb_tuple_tuple, kb_list_tuple, kb_dict_tuple, if_true, if_false, Bool.false_eq_true, ite_true, ite_false, Bool.not_true, Bool.not_false])
theorem rd_l_hash_d8d1 : ∀ ds M Q, ds.length = 2 → sp_hash ds M Q DX0 → t_l_hash_d8d1 (dEnds M Q) (startD 3 ds) M := by
  rintro _ M Q - ⟨s, c, rfl, s0, s1, c0, c1, q⟩
  unfold P31 P40 at *
  unfold t_l_hash_d8d1
  walk_at "rd"
  have ss : Sm s := sm_of 32 (by omega) (by omega)
  have sc : Sm c := sm_of 42 (by omega) (by omega)
  have hm : ∀ a : Int, 0 ≤ a.fmod 2147483629 ∧ a.fmod 2147483629 < 2147483629 := fun a => fm_range (by decide)
  have k1 : Sm (27644437 * c) := sm_of 72 (by omega) (by omega)
  refine ⟨⟨ss, sm_of 32 (by decide) (by decide)⟩, ⟨sm_of 32 (by decide) (by decide), sc⟩, ⟨k1, sc⟩, ⟨sm_of 32 (by decide) (by decide), sc⟩, (by decide : (2147483629 : Int) ≠ 0), ?_⟩
  generalize hv : Int.fmod _ 2147483629 = v
  have v1 : 0 ≤ v ∧ v < 2147483629 := by rw [← hv]; exact hm _
  have sv : Sm v := sm_of 32 (by omega) (by omega)
  refine ⟨⟨sv, sv⟩, ⟨sm_of 32 (by decide) (by decide), sc⟩, (by decide : (2147483587 : Int) ≠ 0), ?_⟩
  generalize hw : Int.fmod _ 2147483587 = w
  have w1 : 0 ≤ w ∧ w < 2147483587 := by rw [← hw]; exact fm_range (by decide)
  refine ⟨⟨sm_of 32 (by omega) (by omega), sm_of 32 (by decide) (by decide)⟩, (by decide : (2147483647 : Int) ≠ 0), ?_⟩
  have r1 : 0 ≤ (w * 48271).fmod 2147483647 ∧ (w * 48271).fmod 2147483647 < 2147483647 := fm_range (by decide)
  exact rtq (q _ r1.1 (by omega))
theorem rd_l_common_7348 : ∀ ds M Q, ds.length = 2 → sp_gcd ds M Q DX0 → t_l_common_7348 (dEnds M Q) (startD 2 ds) M := by
  rintro _ M Q - ⟨a, b, rfl, q⟩
  unfold t_l_common_7348
  walk_at "rd"
  refine dwhile_of (fun n r M' => ∃ l h : Int, r = [some (.int l), some (.int h)] ∧ M' = M ∧ 0 ≤ l ∧ 0 ≤ h ∧ Int.gcd l h = Int.gcd a b ∧ n = h.toNat) _ ⟨_, _, rfl, rfl, ?_, ?_, gcd_abs a b, rfl⟩ ?_
  · split <;> omega
  · split <;> omega
  · rintro n r M' ⟨l, h, rfl, rfl, hl, hh, hg, rfl⟩
    walk_at "rd"
    split
    · rename_i h0
      have hp : 0 < h := by omega
      refine ⟨h0, _, ?_, h, l.fmod h, rfl, hh, ?_, (gcd_step hl hp).trans hg, rfl⟩
      · have := fm_range (a := l) hp
        omega
      · exact (fm_range (a := l) hp).1
    · rename_i h0
      have h0 : h = 0 := by omega
      subst h0
      rw [← hg, gcd_end hl] at q
      exact rtq q
/-! ### cuttings -/
/-- a cutting: (a, b, c, e) -/
def isCut (a b c e : Int) : Bool := decide (1 ≤ b) && (decide (1 ≤ c) && (decide (c + e < b) && (decide (0 ≤ a) && (decide (a < (Int.gcd b c : Int)) && (Int.gcd (Int.gcd a (Int.gcd b c : Int) : Int) e : Int) == 1))))
def isCutD (d : D) : Bool := match d with
  | .tup [.int a, .int b, .int c, .int e] => isCut a b c e
  | _ => false
/-- d may be asked: no tuple, or of another length, or of plain data -/
def Askable (n : Nat) (M : Mem) (d : D) : Prop := (∃ T, tyM M d = some T) ∧ (∀ l, d = .tup l → l.length = n → ∀ e ∈ l, (fine 40 e = true ∧ ∃ T, tyM M e = some T))
theorem ask_fine {n : Nat} {d : D} (M : Mem) (h : fine 41 d = true) : Askable n M d := by
  refine ⟨fine_ty M h, ?_⟩
  rintro l rfl h3 e he
  have h' : fineAll 40 l = true := by simpa only [fine] using h
  have := fineAll_iff.mp h' e he
  exact ⟨this, fine_ty M this⟩
abbrev T4 (a b c e : Int) : D := .tup [.int a, .int b, .int c, .int e]
theorem len4 {l : List D} (h : l.length = 4) : ∃ a b c d, l = [a, b, c, d] := by
  match l, h with
  | [a, b, c, d], _ => exact ⟨a, b, c, d, rfl⟩
theorem isCutD_notup {d : D} (h : ∀ l, d ≠ .tup l) : isCutD d = false := by
  cases d <;> first | rfl | exact absurd rfl (h _)
theorem isCutD_len {l : List D} (h : l.length ≠ 4) : isCutD (.tup l) = false := by
  unfold isCutD
  split
  · rename_i e; cases e; exact absurd rfl h
  · rfl
theorem isCutD_bad {l : List D} (h : ∃ e ∈ l, isW e = false) : isCutD (.tup l) = false := by
  unfold isCutD
  split
  · rename_i e
    cases e
    obtain ⟨e, he, hw⟩ := h
    simp only [List.mem_cons, List.not_mem_nil, or_false] at he
    rcases he with rfl | rfl | rfl | rfl <;> cases hw
  · rfl
def sp_is_cutting : DSp := fun ds M Q _ => ∃ d, ds = [d] ∧ Askable 4 M d ∧ Q (.bl (isCutD d)) M
theorem rd_is_cutting_by : ∀ ds M Q, ds.length = 1 → sp_is_cutting ds M Q DX0 → t_is_cutting_by sp_is_whole sp_gcd (dEnds M Q) (startD 7 ds) M := by
  rintro _ M Q - ⟨d, rfl, ⟨⟨T, ht⟩, hr⟩, q⟩
  unfold t_is_cutting_by
  walk_at "rd"
  by_cases htup : ∃ l, d = .tup l
  · obtain ⟨l, rfl⟩ := htup
    walk_at "rd"
    walk_at "kb"
    by_cases h3 : l.length = 4
    · obtain ⟨da, db, dc, de, rfl⟩ := len4 h3
      have hr' := hr _ rfl rfl
      walk_at "rd"
      rw [if_neg (by decide)]
      refine lcW_pure (fun e => if isW e = true then none else some e) trivial (by rw [sizeLine_eq]; exact (by decide : (4 : Nat) ≤ 16777216)) (fun d hd Y N hy => ?_) ?_
      · walk_at "rd"
        obtain ⟨_, T', hT⟩ := hr' d hd
        refine ⟨d, T', rfl, hT, ?_⟩
        by_cases hw : isW d = true
        · simp only [hw, if_true] at hy ⊢
          exact hy
        · rw [Bool.not_eq_true] at hw
          simp only [hw, Bool.false_eq_true, if_false, Bool.not_false, if_true] at hy ⊢
          exact hy
      · refine gNe_nil' (n := 40) (bads_fine fun e he => (hr' e he).1) ?_
        show if (!(bads [da, db, dc, de]).isEmpty) = true then _ else _
        cases hb : (bads [da, db, dc, de]).isEmpty with
        | false =>
          rw [if_pos (by decide)]
          rw [isCutD_bad (bads_some hb)] at q
          exact rtq q
        | true =>
          rw [if_neg (by decide)]
          have hw := bads_nil hb
          obtain ⟨a, rfl⟩ := isW_iff.mp (hw da (by simp))
          obtain ⟨b, rfl⟩ := isW_iff.mp (hw db (by simp))
          obtain ⟨c, rfl⟩ := isW_iff.mp (hw dc (by simp))
          obtain ⟨e, rfl⟩ := isW_iff.mp (hw de (by simp))
          walk_at "rd"
          have fin : ∀ v, v = isCut a b c e → Rtq M Q (.bl v) M := by rintro _ rfl; exact rtq q
          by_cases h1 : b < 1
          · rw [if_pos h1]
            exact fin _ (by unfold isCut; rw [decide_eq_false (show ¬ 1 ≤ b by omega)]; rfl)
          · rw [if_neg h1]
            have e1 := decide_eq_true (show 1 ≤ b by omega)
            by_cases h2 : c < 1
            · rw [if_pos h2]
              exact fin _ (by unfold isCut; rw [e1, decide_eq_false (show ¬ 1 ≤ c by omega)]; rfl)
            · rw [if_neg h2]
              have e2 := decide_eq_true (show 1 ≤ c by omega)
              by_cases h3 : c + e < b
              · rw [if_neg (fun z => z h3)]
                have e3 := decide_eq_true h3
                refine ⟨b, c, rfl, ?_⟩
                dsimp only
                by_cases h4 : 0 ≤ a
                · rw [if_pos h4]
                  have e4 := decide_eq_true h4
                  by_cases h5 : a < (Int.gcd b c : Int)
                  · rw [if_pos h5]
                    have e5 := decide_eq_true h5
                    refine ⟨a, _, rfl, _, e, rfl, ?_⟩
                    dsimp only
                    rw [gEq_int]
                    exact fin _ (by unfold isCut; rw [e1, e2, e3, e4, e5]; rfl)
                  · rw [if_neg h5]
                    exact fin _ (by unfold isCut; rw [e1, e2, e3, e4, decide_eq_false h5]; rfl)
                · rw [if_neg h4, if_neg h4]
                  exact fin _ (by unfold isCut; rw [e1, e2, e3, decide_eq_false h4]; rfl)
              · rw [if_pos h3]
                exact fin _ (by unfold isCut; rw [e1, e2, decide_eq_false h3]; rfl)
    · have h3' : ¬ ((l.length : Nat) : Int) = 4 := by omega
      simp only [h3', not_false_eq_true, if_true]
      rw [isCutD_len h3] at q
      exact rtq q
  · have q' : Q (.bl false) M := by rwa [isCutD_notup fun l e => htup ⟨l, e⟩] at q
    cases d <;> first | exact absurd ⟨_, rfl⟩ htup | (cases ht; done) | skip
    all_goals walk_at "rd"
    case own k =>
      unfold tyM at ht
      dsimp only at ht
      split at ht
      · rename_i ds hk
        simp only [hk]
        walk_at "kb"
        exact rtq q'
      · cases ht
    all_goals walk_at "kb"
    all_goals exact rtq q'
def meas4 (b c e : Int) : Int := e * e + 4 * b * c
def sp_measure_by : DSp := fun ds M Q _ => ∃ a b c e : Int, ds = [T4 a b c e] ∧ Bi 1000 b ∧ Bi 1000 c ∧ Bi 1000 e ∧ Q (.int (meas4 b c e)) M
theorem rd_measure_by : ∀ ds M Q, ds.length = 1 → sp_measure_by ds M Q DX0 → t_measure_by (dEnds M Q) (startD 1 ds) M := by
  rintro _ M Q - ⟨a, b, c, e, rfl, hb, hc, he, q⟩
  unfold t_measure_by
  walk_at "rd"
  have h4 : Bi 3 4 := Bi.of_abs 4 (by decide)
  exact ⟨⟨he.sm, he.sm⟩, ⟨h4.sm, hb.sm⟩, ⟨(h4.mul hb).sm, hc.sm⟩, rtq q⟩
theorem cut_parts {a b c e : Int} (h : isCut a b c e = true) : 1 ≤ b ∧ 1 ≤ c ∧ c + e < b ∧ 0 ≤ a ∧ a < (Int.gcd b c : Int) ∧ (Int.gcd (Int.gcd a (Int.gcd b c : Int) : Int) e : Int) = 1 := by
  simpa only [isCut, Bool.and_eq_true, decide_eq_true_eq, beq_iff_eq] using h
/-- the measure of a cutting is one -/
theorem meas4_ok {a b c e : Int} (h : isCut a b c e = true) : isMeas (.int (meas4 b c e)) = true := by
  obtain ⟨h1, h2, h3, _⟩ := cut_parts h
  have hbc : b * 1 ≤ b * c := Int.mul_le_mul_of_nonneg_left h2 (by omega)
  have he : 0 ≤ e * e := by rcases (by omega : 0 ≤ e ∨ e ≤ 0) with h | h; exact Int.mul_nonneg h h; exact Int.mul_nonneg_of_nonpos_of_nonpos h h
  have hm : meas4 b c e = e * e + 4 * (b * c) := by unfold meas4; rw [Int.mul_assoc]
  have h5 : 5 ≤ e * e + 4 * (b * c) := by
    by_cases z : e = 0
    · omega
    · have : 0 < e * e := by
        rcases (by omega : 0 < e ∨ e < 0) with q | q
        · exact Int.mul_pos q q
        · exact Int.mul_pos_of_neg_of_neg q q
      omega
  have hs : e * e % 4 = 0 ∨ e * e % 4 = 1 := by
    rcases (by omega : e % 2 = 0 ∨ e % 2 = 1) with q | q
    · obtain ⟨t, rfl⟩ : ∃ t, e = 2 * t := ⟨e / 2, by omega⟩
      left
      have : 2 * t * (2 * t) = 4 * (t * t) := by grind
      omega
    · obtain ⟨t, rfl⟩ : ∃ t, e = 2 * t + 1 := ⟨e / 2, by omega⟩
      right
      have : (2 * t + 1) * (2 * t + 1) = 4 * (t * t + t) + 1 := by grind
      omega
  simp only [isMeas, hm, h5, decide_true, Bool.true_and, Bool.or_eq_true, beq_iff_eq]
  omega
theorem gcd4 (a b c e : Int) : (Int.gcd (Int.gcd a b : Int) (Int.gcd c e : Int) : Int) = (Int.gcd (Int.gcd a (Int.gcd b c : Int) : Int) e : Int) := by
  unfold Int.gcd
  simp only [Int.natAbs_natCast, Nat.gcd_assoc]
def sp_lis_cutting : DSp := fun ds M Q _ => ∃ a b c e : Int, ds = [.int a, .int b, .int c, .int e] ∧ Q (.bl (isCut a b c e)) M
theorem rd_l_is_cutting_19aa : ∀ ds M Q, ds.length = 4 → sp_lis_cutting ds M Q DX0 → t_l_is_cutting_19aa sp_gcd (dEnds M Q) (startD 4 ds) M := by
  rintro _ M Q - ⟨a, b, c, e, rfl, q⟩
  unfold t_l_is_cutting_19aa
  walk_at "rd"
  have fin : ∀ v, v = isCut a b c e → Rtq M Q (.bl v) M := by rintro _ rfl; exact rtq q
  by_cases h1 : b < 1
  · rw [if_pos h1]
    exact fin _ (by unfold isCut; rw [decide_eq_false (show ¬ 1 ≤ b by omega)]; rfl)
  · rw [if_neg h1]
    have e1 := decide_eq_true (show 1 ≤ b by omega)
    by_cases h2 : c < 1
    · rw [if_pos h2]
      exact fin _ (by unfold isCut; rw [e1, decide_eq_false (show ¬ 1 ≤ c by omega)]; rfl)
    · rw [if_neg h2]
      have e2 := decide_eq_true (show 1 ≤ c by omega)
      by_cases h3 : c + e < b
      · rw [if_neg (show ¬ b ≤ c + e by omega)]
        have e3 := decide_eq_true h3
        by_cases h4 : 0 ≤ a
        · have e4 := decide_eq_true h4
          rw [if_pos h4]
          refine ⟨b, c, rfl, ?_⟩
          dsimp only
          by_cases h5 : a < (Int.gcd b c : Int)
          · have e5 := decide_eq_true h5
            rw [if_neg (fun z => z h5)]
            refine ⟨a, b, rfl, c, e, rfl, _, _, rfl, ?_⟩
            dsimp only
            rw [gEq_int, gcd4]
            exact fin _ (by unfold isCut; rw [e1, e2, e3, e4, e5]; rfl)
          · rw [if_pos h5]
            exact fin _ (by unfold isCut; rw [e1, e2, e3, e4, decide_eq_false h5]; rfl)
        · rw [if_neg h4, if_pos h4]
          exact fin _ (by unfold isCut; rw [e1, e2, e3, decide_eq_false h4]; rfl)
      · rw [if_pos (by omega)]
        exact fin _ (by unfold isCut; rw [e1, e2, decide_eq_false h3]; rfl)
end DL
/-! MB: what a deed makes of a cutting; plain -/
namespace DL
/-- two ways to write the common divisor differ by a multiple of the other two -/
theorem bez_diff {m n g u v u' v' : Int} (hg : g ≠ 0) (hm : g ∣ m) (hn : g ∣ n) (h : u * m + v * n = g) (h' : u' * m + v' * n = g) : ∃ t, (u - u') * g = t * n ∧ (v - v') * g = -(t * m) := by
  -- t = u v' - u' v
  refine ⟨u * v' - u' * v, ?_, ?_⟩
  · have : (u - u') * g = u * (u' * m + v' * n) - u' * (u * m + v * n) := by rw [h, h']; grind
    rw [this]; grind
  · have : (v - v') * g = v * (u' * m + v' * n) - v' * (u * m + v * n) := by rw [h, h']; grind
    rw [this]; grind
theorem row_diff {p q x z x' z' : Int} (f1 : p * z - q * x = 1) (f1' : p * z' - q * x' = 1) : ∃ s, x - x' = s * p ∧ z - z' = s * q := by
  refine ⟨x * z' - x' * z, ?_, ?_⟩
  · have : x - x' = x * (p * z' - q * x') - x' * (p * z - q * x) := by rw [f1, f1']; omega
    rw [this]; grind
  · have : z - z' = z * (p * z' - q * x') - z' * (p * z - q * x) := by rw [f1, f1']; omega
    rw [this]; grind
/-- (a', w, g, e') is where the deed (p, q) leads from (a, b, c, e) -/
structure IsDone (a b c e p q a' w g e' : Int) : Prop where
  gc : g = (Int.gcd (p * b + q * a) (q * c) : Int)
  wi : w * g = c * (b - q * e - q * q * c)
  tu : e' = 0 - e - 2 * q * c
  lo : 0 ≤ a'
  hi : a' < (Int.gcd w g : Int)
  ex : ∃ u v x z : Int, p * z - q * x = 1 ∧ u * (p * b + q * a) + v * (q * c) = g ∧ (Int.gcd w g : Int) ∣ a' + (u * (x * b + z * a + e + q * c) + v * (z * c))
theorem isDone_unique {a b c e p q a1 w1 g1 e1 a2 w2 g2 e2 : Int} (hg : g1 ≠ 0) (h1 : IsDone a b c e p q a1 w1 g1 e1) (h2 : IsDone a b c e p q a2 w2 g2 e2) : a1 = a2 ∧ w1 = w2 ∧ g1 = g2 ∧ e1 = e2 := by
  have eg : g1 = g2 := h1.gc.trans h2.gc.symm
  subst eg
  have ew : w1 = w2 := Int.eq_of_mul_eq_mul_right hg (h1.wi.trans h2.wi.symm)
  subst ew
  refine ⟨?_, rfl, rfl, h1.tu.trans h2.tu.symm⟩
  obtain ⟨u, v, x, z, f1, f2, f3⟩ := h1.ex
  obtain ⟨u', v', x', z', f1', f2', f3'⟩ := h2.ex
  have dm : g1 ∣ p * b + q * a := by rw [h1.gc]; exact Int.gcd_dvd_left _ _
  have dn : g1 ∣ q * c := by rw [h1.gc]; exact Int.gcd_dvd_right _ _
  obtain ⟨t, t1, t2⟩ := bez_diff hg dm dn f2 f2'
  -- the second rows differ by a multiple of the first
  have hs := row_diff f1 f1'
  obtain ⟨s, s1, s2⟩ := hs
  have hw : w1 * g1 = (p * b + q * a) * (z' * c) - (q * c) * (x' * b + z' * a + e + q * c) := by
    rw [h1.wi]
    have : (p * b + q * a) * (z' * c) - (q * c) * (x' * b + z' * a + e + q * c) = c * (b * (p * z' - q * x') - q * e - q * q * c) := by grind
    rw [this, f1', Int.mul_one]
  -- the difference of the two rests
  have hd : ∃ k, (u * (x * b + z * a + e + q * c) + v * (z * c)) - (u' * (x' * b + z' * a + e + q * c) + v' * (z' * c)) = s * g1 + k * w1 := by
    refine ⟨-t, ?_⟩
    refine Int.eq_of_mul_eq_mul_right hg ?_
    have ex' : x = x' + s * p := by omega
    have ez' : z = z' + s * q := by omega
    have l1 : ((u * (x * b + z * a + e + q * c) + v * (z * c)) - (u' * (x' * b + z' * a + e + q * c) + v' * (z' * c))) = s * (u * (p * b + q * a) + v * (q * c)) + ((u - u') * (x' * b + z' * a + e + q * c) + (v - v') * (z' * c)) := by
      rw [ex', ez']; grind
    rw [l1, f2]
    have l2 : (s * g1 + ((u - u') * (x' * b + z' * a + e + q * c) + (v - v') * (z' * c))) * g1 = s * g1 * g1 + (((u - u') * g1) * (x' * b + z' * a + e + q * c) + ((v - v') * g1) * (z' * c)) := by grind
    rw [l2, t1, t2]
    have l3 : (s * g1 + -t * w1) * g1 = s * g1 * g1 + -t * (w1 * g1) := by grind
    rw [l3, hw]
    grind
  obtain ⟨k, hk⟩ := hd
  have dG : (Int.gcd w1 g1 : Int) ∣ a1 - a2 := by
    have d1 := Int.dvd_sub f3 f3'
    have d2 : (Int.gcd w1 g1 : Int) ∣ s * g1 + k * w1 := Int.dvd_add (Int.dvd_trans (Int.gcd_dvd_right _ _) (Int.dvd_mul_left _ _)) (Int.dvd_trans (Int.gcd_dvd_left _ _) (Int.dvd_mul_left _ _))
    have d3 := Int.dvd_sub d1 d2
    have e3 : a1 + (u * (x * b + z * a + e + q * c) + v * (z * c)) - (a2 + (u' * (x' * b + z' * a + e + q * c) + v' * (z' * c))) - (s * g1 + k * w1) = a1 - a2 := by rw [← hk]; omega
    rwa [e3] at d3
  obtain ⟨j, hj⟩ := dG
  have l1 := h1.lo
  have l2 := h2.lo
  have u1 := h1.hi
  have u2 := h2.hi
  generalize (Int.gcd w1 g1 : Int) = G at *
  by_cases hj0 : j = 0
  · subst hj0; omega
  · exfalso
    rcases (by omega : 1 ≤ j ∨ j ≤ -1) with q | q
    · have : G * 1 ≤ G * j := Int.mul_le_mul_of_nonneg_left q (by omega)
      omega
    · have : G * j ≤ G * (-1) := Int.mul_le_mul_of_nonneg_left q (by omega)
      omega
/-- a concave form is positive between two places where it is -/
theorem between_pos {b c e q s : Int} (hb : 0 < b) (hc : 0 < c) (hq : 0 < q) (hf : 0 < b - q * e - q * q * c) (s0 : 0 ≤ s) (s1 : s ≤ q * c) : 0 < c * b - s * e - s * s := by
  have hqc : 0 < q * c := Int.mul_pos hq hc
  have e1 : q * c * (c * b - s * e - s * s) = (q * c - s) * (c * b) + s * (c * (b - q * e - q * q * c)) + s * ((q * c - s) * (q * c)) := by grind
  have h1 : 0 < c * b := Int.mul_pos hc hb
  have h2 : 0 < c * (b - q * e - q * q * c) := Int.mul_pos hc hf
  have h3 : 0 ≤ s * ((q * c - s) * (q * c)) := Int.mul_nonneg s0 (Int.mul_nonneg (by omega) (by omega))
  have h4 : 0 < (q * c - s) * (c * b) + s * (c * (b - q * e - q * q * c)) := by
    by_cases z : s = 0
    · subst z
      have := Int.mul_pos hqc h1
      simp only [Int.sub_zero, Int.zero_mul, Int.add_zero]
      exact this
    · have h5 : 0 ≤ (q * c - s) * (c * b) := Int.mul_nonneg (by omega) (by omega)
      have h6 : 0 < s * (c * (b - q * e - q * q * c)) := Int.mul_pos (by omega) h2
      omega
  have h7 : 0 < q * c * (c * b - s * e - s * s) := by omega
  by_cases z : 0 < c * b - s * e - s * s
  · exact z
  · have : q * c * (c * b - s * e - s * s) ≤ 0 := Int.mul_nonpos_of_nonneg_of_nonpos (by omega) (by omega)
    omega
/-- where a deed leads, the side is less wide than it must be -/
theorem done_room {b c e q w g : Int} (hb : 0 < b) (hc : 0 < c) (hq : 0 < q) (hg : 0 < g) (hf : 0 < b - q * e - q * q * c) (hd : g ∣ q * c) (hw : w * g = c * (b - q * e - q * q * c)) : 0 < w ∧ g + (0 - e - 2 * q * c) < w := by
  have h2 : 0 < c * (b - q * e - q * q * c) := Int.mul_pos hc hf
  have hle : g ≤ q * c := Int.le_of_dvd (Int.mul_pos hq hc) hd
  have hp := between_pos (s := q * c - g) hb hc hq hf (by omega) (by omega)
  have e1 : c * b - (q * c - g) * e - (q * c - g) * (q * c - g) = w * g - g * (g + (0 - e - 2 * q * c)) := by rw [hw]; grind
  rw [e1] at hp
  refine ⟨?_, ?_⟩
  · by_cases z : 0 < w
    · exact z
    · have : w * g ≤ 0 := Int.mul_nonpos_of_nonpos_of_nonneg (by omega) (by omega)
      omega
  · by_cases z : g + (0 - e - 2 * q * c) < w
    · exact z
    · have h3 : g * w ≤ g * (g + (0 - e - 2 * q * c)) := Int.mul_le_mul_of_nonneg_left (by omega) (by omega)
      have h4 : g * w = w * g := Int.mul_comm _ _
      omega
/-- what divides all of the new cutting divides all of the old one -/
theorem done_dvd {a b c e p q a' w g e' d : Int} (hg : g ≠ 0) (h : IsDone a b c e p q a' w g e') (d1 : d ∣ a') (d2 : d ∣ w) (d3 : d ∣ g) (d4 : d ∣ e') : d ∣ a ∧ d ∣ b ∧ d ∣ c ∧ d ∣ e := by
  obtain ⟨u, v, x, z, f1, f2, f3⟩ := h.ex
  have dm : g ∣ p * b + q * a := by rw [h.gc]; exact Int.gcd_dvd_left _ _
  have dn : g ∣ q * c := by rw [h.gc]; exact Int.gcd_dvd_right _ _
  obtain ⟨m', hm⟩ := dm
  obtain ⟨n', hn⟩ := dn
  have hu : u * m' + v * n' = 1 := by
    have : g * (u * m' + v * n') = g * 1 := by
      have e1 : g * (u * m' + v * n') = u * (g * m') + v * (g * n') := by grind
      rw [e1, ← hm, ← hn, f2, Int.mul_one]
    exact Int.eq_of_mul_eq_mul_left hg this
  generalize hr3 : x * b + z * a + e + q * c = r3 at f3
  generalize hr4 : z * c = r4 at f3
  have hW : w = m' * r4 - n' * r3 := by
    refine Int.eq_of_mul_eq_mul_right hg ?_
    rw [h.wi]
    have e1 : (m' * r4 - n' * r3) * g = (g * m') * r4 - (g * n') * r3 := by grind
    rw [e1, ← hm, ← hn, ← hr3, ← hr4]
    have e2 : (p * b + q * a) * (z * c) - (q * c) * (x * b + z * a + e + q * c) = c * (b * (p * z - q * x) - q * e - q * q * c) := by grind
    rw [e2, f1, Int.mul_one]
  have dR : d ∣ u * r3 + v * r4 := by
    have h1 : d ∣ (Int.gcd w g : Int) := Int.dvd_coe_gcd d2 d3
    have h2 := Int.dvd_sub (Int.dvd_trans h1 f3) d1
    have e1 : a' + (u * r3 + v * r4) - a' = u * r3 + v * r4 := by omega
    rwa [e1] at h2
  generalize hR : u * r3 + v * r4 = R at dR
  have e3 : r3 = m' * R - v * w := by
    have : m' * R - v * w = (u * m' + v * n') * r3 := by rw [← hR, hW]; grind
    rw [this, hu, Int.one_mul]
  have e4 : r4 = n' * R + u * w := by
    have : n' * R + u * w = (u * m' + v * n') * r4 := by rw [← hR, hW]; grind
    rw [this, hu, Int.one_mul]
  have D3 : d ∣ r3 := by rw [e3]; exact Int.dvd_sub (Int.dvd_mul_of_dvd_right dR) (Int.dvd_mul_of_dvd_right d2)
  have D4 : d ∣ r4 := by rw [e4]; exact Int.dvd_add (Int.dvd_mul_of_dvd_right dR) (Int.dvd_mul_of_dvd_right d2)
  have Dm : d ∣ p * b + q * a := by rw [hm]; exact Int.dvd_mul_of_dvd_left d3
  have Dn : d ∣ q * c := by rw [hn]; exact Int.dvd_mul_of_dvd_left d3
  have De : d ∣ e := by
    have h1 : e = 0 - e' - 2 * (q * c) := by have := h.tu; have e1 : 2 * q * c = 2 * (q * c) := Int.mul_assoc _ _ _; omega
    rw [h1, Int.zero_sub]
    exact Int.dvd_sub (Int.dvd_neg.mpr d4) (Int.dvd_mul_of_dvd_right Dn)
  have Dc : d ∣ c := by
    have h1 : c = p * r4 - x * (q * c) := by
      have : p * r4 - x * (q * c) = c * (p * z - q * x) := by rw [← hr4]; grind
      rw [this, f1, Int.mul_one]
    rw [h1]
    exact Int.dvd_sub (Int.dvd_mul_of_dvd_right D4) (Int.dvd_mul_of_dvd_right Dn)
  have Dx : d ∣ x * b + z * a := by
    have h1 : x * b + z * a = r3 - e - q * c := by omega
    rw [h1]
    exact Int.dvd_sub (Int.dvd_sub D3 De) Dn
  refine ⟨?_, ?_, Dc, De⟩
  · have h1 : a = p * (x * b + z * a) - x * (p * b + q * a) := by
      have : p * (x * b + z * a) - x * (p * b + q * a) = a * (p * z - q * x) := by grind
      rw [this, f1, Int.mul_one]
    rw [h1]
    exact Int.dvd_sub (Int.dvd_mul_of_dvd_right Dx) (Int.dvd_mul_of_dvd_right Dm)
  · have h1 : b = z * (p * b + q * a) - q * (x * b + z * a) := by
      have : z * (p * b + q * a) - q * (x * b + z * a) = b * (p * z - q * x) := by grind
      rw [this, f1, Int.mul_one]
    rw [h1]
    exact Int.dvd_sub (Int.dvd_mul_of_dvd_right Dm) (Int.dvd_mul_of_dvd_right Dx)
end DL
namespace DL
open PySem PySem.Spec PyProof.Rows L2
local macro_rules | `(tactic| walk_at "rd") => `(tactic| simp only [startD, List.map, List.replicate, List.length_cons, List.length_nil, List.append_eq, List.append_nil, List.nil_append, List.cons_append, Nat.reduceSub, Nat.reduceAdd, List.getElem?_cons_zero, List.getElem?_cons_succ, List.set_cons_zero, List.set_cons_succ,
  dC, dVar, dOp, dTru, gTru, tru, dChain, dAnd, dOr, dNot, dAndV, dOrV, dNotV, dIf, dNeg, gNeg, dNil, dCons, dTup, dLst, dOwn, gIx, rBin, gAdd, gCmpI, dCall, dCallK, dSeq, dNext, dDrop, dRet, dRetN, dIfS, dName, dGNil, dGCons, dGTup, dSub, gSetL, dAsg, dPar, dPar3, dAug, gIpI, dSeqI, gSeqI, dRngI, gRng1, gRng2, dCB, gAbs, gInt, gMax, gMin, gGcd, gLen, lenD, gIsi, tyM, tyD, dBits, gBits, dMet, gAppend, dPart, dNoPart, dSl, dEnds, gIs, isB, dNever, dFor, dLc, wipeD, dYes,
  sizeLine_eq, Nat.reduceLeDiff, gEq_int, gNe_int, gEq_strs, gNe_strs, gIn_two, gRepr_bl, rs_lst, rs_tup, rs_scr, rs_int, atI_0, atI_1, atI_2, atI_3, atI_4, atI_5, ixN_30, ixN_31, ixN_32, gEq_bl, gNe_bl, decide_eq_true_eq, beq_iff_eq, Bool.not_eq_true', beq_eq_false_iff_ne, decide_eq_false_iff_not, Bool.not_true, Bool.not_false, if_true, if_false, Bool.false_eq_true, ite_true, ite_false, true_and, and_true, ne_eq, Bool.bne_false, Bool.bne_true, reduceCtorEq])
local macro_rules | `(tactic| walk_at "rh") => `(tactic| simp only [*, startD, List.map, List.replicate, List.length_cons, List.length_nil, List.append_eq, List.append_nil, List.nil_append, List.cons_append, Nat.reduceSub, Nat.reduceAdd, List.getElem?_cons_zero, List.getElem?_cons_succ, List.set_cons_zero, List.set_cons_succ,
  dC, dVar, dOp, dTru, gTru, tru, dChain, dAnd, dOr, dNot, dAndV, dOrV, dNotV, dIf, dNeg, gNeg, dNil, dCons, dTup, dLst, dOwn, gIx, rBin, gAdd, gCmpI, dCall, dCallK, dSeq, dNext, dDrop, dRet, dRetN, dIfS, dName, dGNil, dGCons, dGTup, dSub, gSetL, dAsg, dPar, dPar3, dAug, gIpI, dSeqI, gSeqI, dRngI, gRng1, gRng2, dCB, gAbs, gInt, gMax, gMin, gGcd, gLen, lenD, gIsi, tyM, tyD, dBits, gBits, dMet, gAppend, dPart, dNoPart, dSl, dEnds, gIs, isB, dNever, dFor, dLc, wipeD, dYes,
  sizeLine_eq, Nat.reduceLeDiff, gEq_int, gNe_int, gEq_strs, gNe_strs, gIn_two, gRepr_bl, rs_lst, rs_tup, rs_scr, rs_int, atI_0, atI_1, atI_2, atI_3, atI_4, atI_5, ixN_30, ixN_31, ixN_32, gEq_bl, gNe_bl, decide_eq_true_eq, beq_iff_eq, Bool.not_eq_true', beq_eq_false_iff_ne, decide_eq_false_iff_not, Bool.not_true, Bool.not_false, if_true, if_false, Bool.false_eq_true, ite_true, ite_false, true_and, and_true, ne_eq, Bool.bne_false, Bool.bne_true, reduceCtorEq])
local macro_rules | `(tactic| walk_at "kb") => `(tactic| simp only [kb_NoneType_list, kb_bool_list, kb_int_list, kb_str_list, kb_tuple_list, kb_list_list, kb_dict_list, kb_NoneType_int, kb_bool_int, kb_int_int, kb_str_int, kb_tuple_int, kb_list_int, kb_dict_int, kb_NoneType_bool, kb_bool_bool, kb_int_bool, kb_str_bool, kb_tuple_bool, kb_list_bool, kb_dict_bool, kb_NoneType_tuple, kb_bool_tuple, kb_int_tuple, kb_str_tuple, kb_tuple_tuple, kb_list_tuple, kb_dict_tuple, if_true, if_false, Bool.false_eq_true, ite_true, ite_false, Bool.not_true, Bool.not_false])
/-! ### deeds -/
/-- where a deed leads is a cutting of the same measure -/
theorem done_cut {a b c e p q a' w g e' : Int} (h : isCut a b c e = true) (hq : 1 ≤ q) (hf : 0 < b - q * e - q * q * c) (hd : IsDone a b c e p q a' w g e') : isCut a' w g e' = true ∧ meas4 w g e' = meas4 b c e := by
  obtain ⟨h1, h2, h3, h4, h5, h6⟩ := cut_parts h
  have hqc : 0 < q * c := Int.mul_pos (by omega) (by omega)
  have dn : g ∣ q * c := by rw [hd.gc]; exact Int.gcd_dvd_right _ _
  have hg : 0 < g := by
    have := Int.gcd_pos_of_ne_zero_right (p * b + q * a) (show q * c ≠ 0 by omega)
    rw [hd.gc]; omega
  obtain ⟨w0, room⟩ := done_room (by omega : 0 < b) (by omega : 0 < c) (by omega : 0 < q) hg hf dn hd.wi
  have hprim : (Int.gcd (Int.gcd a' (Int.gcd w g : Int) : Int) e' : Int) = 1 := by
    have d0 : (Int.gcd (Int.gcd a' (Int.gcd w g : Int) : Int) e' : Int) ∣ (Int.gcd a' (Int.gcd w g : Int) : Int) := Int.gcd_dvd_left _ _
    have d4 : (Int.gcd (Int.gcd a' (Int.gcd w g : Int) : Int) e' : Int) ∣ e' := Int.gcd_dvd_right _ _
    have d1 := Int.dvd_trans d0 (Int.gcd_dvd_left _ _)
    have d5 := Int.dvd_trans d0 (Int.gcd_dvd_right _ _)
    have d2 := Int.dvd_trans d5 (Int.gcd_dvd_left _ _)
    have d3 := Int.dvd_trans d5 (Int.gcd_dvd_right _ _)
    obtain ⟨k1, k2, k3, k4⟩ := done_dvd (by omega) hd d1 d2 d3 d4
    have k5 : (Int.gcd (Int.gcd a' (Int.gcd w g : Int) : Int) e' : Int) ∣ 1 := by
      rw [← h6]
      exact Int.dvd_coe_gcd (Int.dvd_coe_gcd k1 (Int.dvd_coe_gcd k2 k3)) k4
    have k6 := Int.le_of_dvd (by decide) k5
    have k7 : (Int.gcd (Int.gcd a' (Int.gcd w g : Int) : Int) e' : Int) ≠ 0 := by
      intro z
      rw [z] at k5
      exact absurd (Int.zero_dvd.mp k5) (by decide)
    omega
  refine ⟨?_, ?_⟩
  · unfold isCut
    rw [decide_eq_true (show 1 ≤ w by omega), decide_eq_true (show 1 ≤ g by omega), decide_eq_true (show g + e' < w by have := hd.tu; omega), decide_eq_true hd.lo, decide_eq_true hd.hi, hprim]
    rfl
  · unfold meas4
    rw [hd.tu]
    have e1 : 4 * w * g = 4 * (w * g) := Int.mul_assoc _ _ _
    rw [e1, hd.wi]
    grind
end DL
/-! MC: Euclid's rule with the factors; plain -/
namespace DL
theorem gcd_emod' (m n : Int) : (Int.gcd n (m % n) : Int) = Int.gcd m n := by
  have h := Int.mul_ediv_add_emod m n
  refine congrArg _ (Nat.dvd_antisymm ?_ ?_)
  · refine Int.natCast_dvd_natCast.mp (Int.dvd_coe_gcd ?_ (Int.gcd_dvd_left _ _))
    have h1 : (Int.gcd n (m % n) : Int) ∣ n * (m / n) + m % n := Int.dvd_add (Int.dvd_mul_of_dvd_left (Int.gcd_dvd_left _ _)) (Int.gcd_dvd_right _ _)
    rwa [h] at h1
  · refine Int.natCast_dvd_natCast.mp (Int.dvd_coe_gcd (Int.gcd_dvd_right _ _) ?_)
    have e : m % n = m - n * (m / n) := by omega
    rw [e]
    exact Int.dvd_sub (Int.gcd_dvd_left _ _) (Int.dvd_mul_of_dvd_left (Int.gcd_dvd_right _ _))
end DL
namespace DL
open PySem PySem.Spec PyProof.Rows L2
local macro_rules | `(tactic| walk_at "rd") => `(tactic| simp only [startD, List.map, List.replicate, List.length_cons, List.length_nil, List.append_eq, List.append_nil, List.nil_append, List.cons_append, Nat.reduceSub, Nat.reduceAdd, List.getElem?_cons_zero, List.getElem?_cons_succ, List.set_cons_zero, List.set_cons_succ,
  dC, dVar, dOp, dTru, gTru, tru, dChain, dAnd, dOr, dNot, dAndV, dOrV, dNotV, dIf, dNeg, gNeg, dNil, dCons, dTup, dLst, dOwn, gIx, rBin, gAdd, gCmpI, dCall, dCallK, dSeq, dNext, dDrop, dRet, dRetN, dIfS, dName, dGNil, dGCons, dGTup, dSub, gSetL, dAsg, dPar, dPar3, dAug, gIpI, dSeqI, gSeqI, dRngI, gRng1, gRng2, dCB, gAbs, gInt, gMax, gMin, gGcd, gLen, lenD, gIsi, tyM, tyD, dBits, gBits, dMet, gAppend, dPart, dNoPart, dSl, dEnds, gIs, isB, dNever, dFor, dLc, wipeD, dYes,
  sizeLine_eq, Nat.reduceLeDiff, gEq_int, gNe_int, gEq_strs, gNe_strs, gIn_two, gRepr_bl, rs_lst, rs_tup, rs_scr, rs_int, atI_0, atI_1, atI_2, atI_3, atI_4, atI_5, ixN_30, ixN_31, ixN_32, gEq_bl, gNe_bl, decide_eq_true_eq, beq_iff_eq, Bool.not_eq_true', beq_eq_false_iff_ne, decide_eq_false_iff_not, Bool.not_true, Bool.not_false, if_true, if_false, Bool.false_eq_true, ite_true, ite_false, true_and, and_true, ne_eq, Bool.bne_false, Bool.bne_true, reduceCtorEq])
local macro_rules | `(tactic| walk_at "rh") => `(tactic| simp only [*, startD, List.map, List.replicate, List.length_cons, List.length_nil, List.append_eq, List.append_nil, List.nil_append, List.cons_append, Nat.reduceSub, Nat.reduceAdd, List.getElem?_cons_zero, List.getElem?_cons_succ, List.set_cons_zero, List.set_cons_succ,
  dC, dVar, dOp, dTru, gTru, tru, dChain, dAnd, dOr, dNot, dAndV, dOrV, dNotV, dIf, dNeg, gNeg, dNil, dCons, dTup, dLst, dOwn, gIx, rBin, gAdd, gCmpI, dCall, dCallK, dSeq, dNext, dDrop, dRet, dRetN, dIfS, dName, dGNil, dGCons, dGTup, dSub, gSetL, dAsg, dPar, dPar3, dAug, gIpI, dSeqI, gSeqI, dRngI, gRng1, gRng2, dCB, gAbs, gInt, gMax, gMin, gGcd, gLen, lenD, gIsi, tyM, tyD, dBits, gBits, dMet, gAppend, dPart, dNoPart, dSl, dEnds, gIs, isB, dNever, dFor, dLc, wipeD, dYes,
  sizeLine_eq, Nat.reduceLeDiff, gEq_int, gNe_int, gEq_strs, gNe_strs, gIn_two, gRepr_bl, rs_lst, rs_tup, rs_scr, rs_int, atI_0, atI_1, atI_2, atI_3, atI_4, atI_5, ixN_30, ixN_31, ixN_32, gEq_bl, gNe_bl, decide_eq_true_eq, beq_iff_eq, Bool.not_eq_true', beq_eq_false_iff_ne, decide_eq_false_iff_not, Bool.not_true, Bool.not_false, if_true, if_false, Bool.false_eq_true, ite_true, ite_false, true_and, and_true, ne_eq, Bool.bne_false, Bool.bne_true, reduceCtorEq])
local macro_rules | `(tactic| walk_at "kb") => `(tactic| simp only [kb_NoneType_list, kb_bool_list, kb_int_list, kb_str_list, kb_tuple_list, kb_list_list, kb_dict_list, kb_NoneType_int, kb_bool_int, kb_int_int, kb_str_int, kb_tuple_int, kb_list_int, kb_dict_int, kb_NoneType_bool, kb_bool_bool, kb_int_bool, kb_str_bool, kb_tuple_bool, kb_list_bool, kb_dict_bool, kb_NoneType_tuple, kb_bool_tuple, kb_int_tuple, kb_str_tuple, kb_tuple_tuple, kb_list_tuple, kb_dict_tuple, if_true, if_false, Bool.false_eq_true, ite_true, ite_false, Bool.not_true, Bool.not_false])
/-! ### the common divisor with its two factors -/
end DL
namespace DL
open PySem PySem.Spec PyProof.Rows L2
local macro_rules | `(tactic| walk_at "rd") => `(tactic| simp only [startD, List.map, List.replicate, List.length_cons, List.length_nil, List.append_eq, List.append_nil, List.nil_append, List.cons_append, Nat.reduceSub, Nat.reduceAdd, List.getElem?_cons_zero, List.getElem?_cons_succ, List.set_cons_zero, List.set_cons_succ,
  dC, dVar, dOp, dTru, gTru, tru, dChain, dAnd, dOr, dNot, dAndV, dOrV, dNotV, dIf, dNeg, gNeg, dNil, dCons, dTup, dLst, dOwn, gIx, rBin, gAdd, gCmpI, dCall, dCallK, dSeq, dNext, dDrop, dRet, dRetN, dIfS, dName, dGNil, dGCons, dGTup, dSub, gSetL, dAsg, dPar, dPar3, dAug, gIpI, dSeqI, gSeqI, dRngI, gRng1, gRng2, dCB, gAbs, gInt, gMax, gMin, gGcd, gLen, lenD, gIsi, tyM, tyD, dBits, gBits, dMet, gAppend, dPart, dNoPart, dSl, dEnds, gIs, isB, dNever, dFor, dLc, wipeD, dYes,
  sizeLine_eq, Nat.reduceLeDiff, gEq_int, gNe_int, gEq_strs, gNe_strs, gIn_two, gRepr_bl, rs_lst, rs_tup, rs_scr, rs_int, atI_0, atI_1, atI_2, atI_3, atI_4, atI_5, ixN_30, ixN_31, ixN_32, gEq_bl, gNe_bl, decide_eq_true_eq, beq_iff_eq, Bool.not_eq_true', beq_eq_false_iff_ne, decide_eq_false_iff_not, Bool.not_true, Bool.not_false, if_true, if_false, Bool.false_eq_true, ite_true, ite_false, true_and, and_true, ne_eq, Bool.bne_false, Bool.bne_true, reduceCtorEq])
local macro_rules | `(tactic| walk_at "rh") => `(tactic| simp only [*, startD, List.map, List.replicate, List.length_cons, List.length_nil, List.append_eq, List.append_nil, List.nil_append, List.cons_append, Nat.reduceSub, Nat.reduceAdd, List.getElem?_cons_zero, List.getElem?_cons_succ, List.set_cons_zero, List.set_cons_succ,
  dC, dVar, dOp, dTru, gTru, tru, dChain, dAnd, dOr, dNot, dAndV, dOrV, dNotV, dIf, dNeg, gNeg, dNil, dCons, dTup, dLst, dOwn, gIx, rBin, gAdd, gCmpI, dCall, dCallK, dSeq, dNext, dDrop, dRet, dRetN, dIfS, dName, dGNil, dGCons, dGTup, dSub, gSetL, dAsg, dPar, dPar3, dAug, gIpI, dSeqI, gSeqI, dRngI, gRng1, gRng2, dCB, gAbs, gInt, gMax, gMin, gGcd, gLen, lenD, gIsi, tyM, tyD, dBits, gBits, dMet, gAppend, dPart, dNoPart, dSl, dEnds, gIs, isB, dNever, dFor, dLc, wipeD, dYes,
  sizeLine_eq, Nat.reduceLeDiff, gEq_int, gNe_int, gEq_strs, gNe_strs, gIn_two, gRepr_bl, rs_lst, rs_tup, rs_scr, rs_int, atI_0, atI_1, atI_2, atI_3, atI_4, atI_5, ixN_30, ixN_31, ixN_32, gEq_bl, gNe_bl, decide_eq_true_eq, beq_iff_eq, Bool.not_eq_true', beq_eq_false_iff_ne, decide_eq_false_iff_not, Bool.not_true, Bool.not_false, if_true, if_false, Bool.false_eq_true, ite_true, ite_false, true_and, and_true, ne_eq, Bool.bne_false, Bool.bne_true, reduceCtorEq])
local macro_rules | `(tactic| walk_at "kb") => `(tactic| simp only [kb_NoneType_list, kb_bool_list, kb_int_list, kb_str_list, kb_tuple_list, kb_list_list, kb_dict_list, kb_NoneType_int, kb_bool_int, kb_int_int, kb_str_int, kb_tuple_int, kb_list_int, kb_dict_int, kb_NoneType_bool, kb_bool_bool, kb_int_bool, kb_str_bool, kb_tuple_bool, kb_list_bool, kb_dict_bool, kb_NoneType_tuple, kb_bool_tuple, kb_int_tuple, kb_str_tuple, kb_tuple_tuple, kb_list_tuple, kb_dict_tuple, if_true, if_false, Bool.false_eq_true, ite_true, ite_false, Bool.not_true, Bool.not_false])
end DL
namespace DL
open PySem PySem.Spec PyProof.Rows L2
local macro_rules | `(tactic| walk_at "rd") => `(tactic| simp only [startD, List.map, List.replicate, List.length_cons, List.length_nil, List.append_eq, List.append_nil, List.nil_append, List.cons_append, Nat.reduceSub, Nat.reduceAdd, List.getElem?_cons_zero, List.getElem?_cons_succ, List.set_cons_zero, List.set_cons_succ,
  dC, dVar, dOp, dTru, gTru, tru, dChain, dAnd, dOr, dNot, dAndV, dOrV, dNotV, dIf, dNeg, gNeg, dNil, dCons, dTup, dLst, dOwn, gIx, rBin, gAdd, gCmpI, dCall, dCallK, dSeq, dNext, dDrop, dRet, dRetN, dIfS, dName, dGNil, dGCons, dGTup, dSub, gSetL, dAsg, dPar, dPar3, dAug, gIpI, dSeqI, gSeqI, dRngI, gRng1, gRng2, dCB, gAbs, gInt, gMax, gMin, gGcd, gLen, lenD, gIsi, tyM, tyD, dBits, gBits, dMet, gAppend, dPart, dNoPart, dSl, dEnds, gIs, isB, dNever, dFor, dLc, wipeD, dYes,
  sizeLine_eq, Nat.reduceLeDiff, gEq_int, gNe_int, gEq_strs, gNe_strs, gIn_two, gRepr_bl, rs_lst, rs_tup, rs_scr, rs_int, atI_0, atI_1, atI_2, atI_3, atI_4, atI_5, ixN_30, ixN_31, ixN_32, gEq_bl, gNe_bl, decide_eq_true_eq, beq_iff_eq, Bool.not_eq_true', beq_eq_false_iff_ne, decide_eq_false_iff_not, Bool.not_true, Bool.not_false, if_true, if_false, Bool.false_eq_true, ite_true, ite_false, true_and, and_true, ne_eq, Bool.bne_false, Bool.bne_true, reduceCtorEq])
local macro_rules | `(tactic| walk_at "rh") => `(tactic| simp only [*, startD, List.map, List.replicate, List.length_cons, List.length_nil, List.append_eq, List.append_nil, List.nil_append, List.cons_append, Nat.reduceSub, Nat.reduceAdd, List.getElem?_cons_zero, List.getElem?_cons_succ, List.set_cons_zero, List.set_cons_succ,
  dC, dVar, dOp, dTru, gTru, tru, dChain, dAnd, dOr, dNot, dAndV, dOrV, dNotV, dIf, dNeg, gNeg, dNil, dCons, dTup, dLst, dOwn, gIx, rBin, gAdd, gCmpI, dCall, dCallK, dSeq, dNext, dDrop, dRet, dRetN, dIfS, dName, dGNil, dGCons, dGTup, dSub, gSetL, dAsg, dPar, dPar3, dAug, gIpI, dSeqI, gSeqI, dRngI, gRng1, gRng2, dCB, gAbs, gInt, gMax, gMin, gGcd, gLen, lenD, gIsi, tyM, tyD, dBits, gBits, dMet, gAppend, dPart, dNoPart, dSl, dEnds, gIs, isB, dNever, dFor, dLc, wipeD, dYes,
  sizeLine_eq, Nat.reduceLeDiff, gEq_int, gNe_int, gEq_strs, gNe_strs, gIn_two, gRepr_bl, rs_lst, rs_tup, rs_scr, rs_int, atI_0, atI_1, atI_2, atI_3, atI_4, atI_5, ixN_30, ixN_31, ixN_32, gEq_bl, gNe_bl, decide_eq_true_eq, beq_iff_eq, Bool.not_eq_true', beq_eq_false_iff_ne, decide_eq_false_iff_not, Bool.not_true, Bool.not_false, if_true, if_false, Bool.false_eq_true, ite_true, ite_false, true_and, and_true, ne_eq, Bool.bne_false, Bool.bne_true, reduceCtorEq])
local macro_rules | `(tactic| walk_at "kb") => `(tactic| simp only [kb_NoneType_list, kb_bool_list, kb_int_list, kb_str_list, kb_tuple_list, kb_list_list, kb_dict_list, kb_NoneType_int, kb_bool_int, kb_int_int, kb_str_int, kb_tuple_int, kb_list_int, kb_dict_int, kb_NoneType_bool, kb_bool_bool, kb_int_bool, kb_str_bool, kb_tuple_bool, kb_list_bool, kb_dict_bool, kb_NoneType_tuple, kb_bool_tuple, kb_int_tuple, kb_str_tuple, kb_tuple_tuple, kb_list_tuple, kb_dict_tuple, if_true, if_false, Bool.false_eq_true, ite_true, ite_false, Bool.not_true, Bool.not_false])
/-! ### all that a deed makes -/
end DL
/-! MD: deeds with q = 1 that lead nearer to the heart; columns led down; plain -/
namespace DL
end DL
/-! ME: two columns led down; plain -/
namespace DL
/-- (o1, o2), (t1, t2) came of (i, k), (j, l) -/
structure Led (i k j l o1 o2 t1 t2 : Int) : Prop where
  ex : ∃ u v u' v' : Int, o1 = u * i + v * j ∧ o2 = u * k + v * l ∧ t1 = u' * i + v' * j ∧ t2 = u' * k + v' * l ∧ (u * v' - u' * v = 1 ∨ u * v' - u' * v = -1)
theorem Led.start (i k j l : Int) : Led i k j l i k j l := ⟨1, 0, 0, 1, by omega, by omega, by omega, by omega, .inl (by omega)⟩
end DL
namespace DL
open PySem PySem.Spec PyProof.Rows L2
local macro_rules | `(tactic| walk_at "rd") => `(tactic| simp only [startD, List.map, List.replicate, List.length_cons, List.length_nil, List.append_eq, List.append_nil, List.nil_append, List.cons_append, Nat.reduceSub, Nat.reduceAdd, List.getElem?_cons_zero, List.getElem?_cons_succ, List.set_cons_zero, List.set_cons_succ,
  dC, dVar, dOp, dTru, gTru, tru, dChain, dAnd, dOr, dNot, dAndV, dOrV, dNotV, dIf, dNeg, gNeg, dNil, dCons, dTup, dLst, dOwn, gIx, rBin, gAdd, gCmpI, dCall, dCallK, dSeq, dNext, dDrop, dRet, dRetN, dIfS, dName, dGNil, dGCons, dGTup, dSub, gSetL, dAsg, dPar, dPar3, dAug, gIpI, dSeqI, gSeqI, dRngI, gRng1, gRng2, dCB, gAbs, gInt, gMax, gMin, gGcd, gLen, lenD, gIsi, tyM, tyD, dBits, gBits, dMet, gAppend, dPart, dNoPart, dSl, gSl_tup, gSl_lst, cut_1, dEnds, gIs, isB, dNever, dFor, dLc, wipeD, dYes,
  sizeLine_eq, Nat.reduceLeDiff, gEq_int, gNe_int, gEq_strs, gNe_strs, gIn_two, gRepr_bl, rs_lst, rs_tup, rs_scr, rs_int, atI_0, atI_1, atI_2, atI_3, atI_4, atI_5, ixN_30, ixN_31, ixN_32, gEq_bl, gNe_bl, decide_eq_true_eq, beq_iff_eq, Bool.not_eq_true', beq_eq_false_iff_ne, decide_eq_false_iff_not, Bool.not_true, Bool.not_false, if_true, if_false, Bool.false_eq_true, ite_true, ite_false, true_and, and_true, ne_eq, Bool.bne_false, Bool.bne_true, reduceCtorEq])
local macro_rules | `(tactic| walk_at "rh") => `(tactic| simp only [*, startD, List.map, List.replicate, List.length_cons, List.length_nil, List.append_eq, List.append_nil, List.nil_append, List.cons_append, Nat.reduceSub, Nat.reduceAdd, List.getElem?_cons_zero, List.getElem?_cons_succ, List.set_cons_zero, List.set_cons_succ,
  dC, dVar, dOp, dTru, gTru, tru, dChain, dAnd, dOr, dNot, dAndV, dOrV, dNotV, dIf, dNeg, gNeg, dNil, dCons, dTup, dLst, dOwn, gIx, rBin, gAdd, gCmpI, dCall, dCallK, dSeq, dNext, dDrop, dRet, dRetN, dIfS, dName, dGNil, dGCons, dGTup, dSub, gSetL, dAsg, dPar, dPar3, dAug, gIpI, dSeqI, gSeqI, dRngI, gRng1, gRng2, dCB, gAbs, gInt, gMax, gMin, gGcd, gLen, lenD, gIsi, tyM, tyD, dBits, gBits, dMet, gAppend, dPart, dNoPart, dSl, gSl_tup, gSl_lst, cut_1, dEnds, gIs, isB, dNever, dFor, dLc, wipeD, dYes,
  sizeLine_eq, Nat.reduceLeDiff, gEq_int, gNe_int, gEq_strs, gNe_strs, gIn_two, gRepr_bl, rs_lst, rs_tup, rs_scr, rs_int, atI_0, atI_1, atI_2, atI_3, atI_4, atI_5, ixN_30, ixN_31, ixN_32, gEq_bl, gNe_bl, decide_eq_true_eq, beq_iff_eq, Bool.not_eq_true', beq_eq_false_iff_ne, decide_eq_false_iff_not, Bool.not_true, Bool.not_false, if_true, if_false, Bool.false_eq_true, ite_true, ite_false, true_and, and_true, ne_eq, Bool.bne_false, Bool.bne_true, reduceCtorEq])
local macro_rules | `(tactic| walk_at "kb") => `(tactic| simp only [kb_NoneType_list, kb_bool_list, kb_int_list, kb_str_list, kb_tuple_list, kb_list_list, kb_dict_list, kb_NoneType_int, kb_bool_int, kb_int_int, kb_str_int, kb_tuple_int, kb_list_int, kb_dict_int, kb_NoneType_bool, kb_bool_bool, kb_int_bool, kb_str_bool, kb_tuple_bool, kb_list_bool, kb_dict_bool, kb_NoneType_tuple, kb_bool_tuple, kb_int_tuple, kb_str_tuple, kb_tuple_tuple, kb_list_tuple, kb_dict_tuple, if_true, if_false, Bool.false_eq_true, ite_true, ite_false, Bool.not_true, Bool.not_false])
/-! ### sizes of cuttings by their measure -/
theorem sq_nn (e : Int) : 0 ≤ e * e := by rcases (by omega : 0 ≤ e ∨ e ≤ 0) with h | h; exact Int.mul_nonneg h h; exact Int.mul_nonneg_of_nonpos_of_nonpos h h
theorem abs_le_sq (e : Int) : (e.natAbs : Int) ≤ e * e := by
  rcases (by omega : e = 0 ∨ 1 ≤ e ∨ e ≤ -1) with h | h | h
  · subst h; decide
  · have : e * 1 ≤ e * e := Int.mul_le_mul_of_nonneg_left h (by omega); omega
  · have : (-e) * 1 ≤ (-e) * (-e) := Int.mul_le_mul_of_nonneg_left (by omega) (by omega)
    rw [Int.neg_mul_neg] at this; omega
theorem cut_le {a b c e : Int} (h : isCut a b c e = true) : 0 ≤ a ∧ a < c ∧ a < b ∧ b ≤ meas4 b c e ∧ c ≤ meas4 b c e ∧ (e.natAbs : Int) ≤ meas4 b c e ∧ e * e < meas4 b c e := by
  obtain ⟨h1, h2, h3, h4, h5, _⟩ := cut_parts h
  have g1 : (Int.gcd b c : Int) ≤ c := Int.le_of_dvd (by omega) (Int.gcd_dvd_right _ _)
  have g2 : (Int.gcd b c : Int) ≤ b := Int.le_of_dvd (by omega) (Int.gcd_dvd_left _ _)
  have e1 : 4 * b * c = 4 * (b * c) := Int.mul_assoc _ _ _
  have hb : b * 1 ≤ b * c := Int.mul_le_mul_of_nonneg_left h2 (by omega)
  have hc : 1 * c ≤ b * c := Int.mul_le_mul_of_nonneg_right h1 (by omega)
  have he := abs_le_sq e
  have hs := sq_nn e
  unfold meas4
  refine ⟨h4, by omega, by omega, by omega, by omega, by omega, by omega⟩
def CutB (n : Nat) (a b c e : Int) : Prop := Bi n a ∧ Bi n b ∧ Bi n c ∧ Bi n e
theorem cut_bi {n : Nat} {a b c e : Int} (h : isCut a b c e = true) (hm : Bi n (meas4 b c e)) : CutB n a b c e := by
  obtain ⟨h1, h2, h3, h4, h5, h6, h7⟩ := cut_le h
  have h8 := (cut_parts h).1
  have h9 := (cut_parts h).2.1
  have hs := sq_nn e
  unfold CutB Bi at *
  omega
theorem CutB.mono {n k : Nat} {a b c e : Int} (h : CutB n a b c e) (hk : n ≤ k := by decide) : CutB k a b c e := ⟨h.1.mono hk, h.2.1.mono hk, h.2.2.1.mono hk, h.2.2.2.mono hk⟩
/-- a deed's numbers, but for the bound of the first -/
structure DeedQ (b c e p q : Int) : Prop where
  q1 : 1 ≤ q
  al : 0 < b - q * e - q * q * c
  p0 : 0 ≤ p
  cp : Int.gcd p q = 1
theorem deedq_one {a b c e p : Int} (h : isCut a b c e = true) (hp : 0 ≤ p) : DeedQ b c e p 1 := by
  obtain ⟨h1, h2, h3, h4, h5, _⟩ := cut_parts h
  refine ⟨by omega, by rw [Int.one_mul, Int.one_mul, Int.one_mul]; omega, hp, ?_⟩
  simp [Int.gcd]
def farV (a b c : Int) : Int := if c = 1 then 0 else if (Int.gcd (Int.gcd a b : Int) c : Int) = 1 then 1 else 2
theorem done_g {a b c e p q a' w g e' : Int} (hc : 1 ≤ c) (hq : 1 ≤ q) (h : IsDone a b c e p q a' w g e') : 0 < g := by
  have := Int.gcd_pos_of_ne_zero_right (p * b + q * a) (show q * c ≠ 0 by have := Int.mul_pos (show 0 < q by omega) (show 0 < c by omega); omega)
  have := h.gc
  omega
/-- p is the least that leads nearer -/
def IsNear (a b c e p : Int) : Prop := (∀ a' w g e', IsDone a b c e p 1 a' w g e' → farV a' w g + 1 = farV a b c) ∧ ∀ p', 0 ≤ p' → p' < p → ∀ a' w g e', IsDone a b c e p' 1 a' w g e' → farV a b c ≤ farV a' w g
end DL
namespace DL
open PySem PySem.Spec PyProof.Rows L2
local macro_rules | `(tactic| walk_at "rd") => `(tactic| simp only [startD, List.map, List.replicate, List.length_cons, List.length_nil, List.append_eq, List.append_nil, List.nil_append, List.cons_append, Nat.reduceSub, Nat.reduceAdd, List.getElem?_cons_zero, List.getElem?_cons_succ, List.set_cons_zero, List.set_cons_succ,
  dC, dVar, dOp, dTru, gTru, tru, dChain, dAnd, dOr, dNot, dAndV, dOrV, dNotV, dIf, dNeg, gNeg, dNil, dCons, dTup, dLst, dOwn, gIx, rBin, gAdd, gCmpI, dCall, dCallK, dSeq, dNext, dDrop, dRet, dRetN, dIfS, dName, dGNil, dGCons, dGTup, dSub, gSetL, dAsg, dPar, dPar3, dAug, gIpI, dSeqI, gSeqI, dRngI, gRng1, gRng2, dCB, gAbs, gInt, gMax, gMin, gGcd, gLen, lenD, gIsi, tyM, tyD, dBits, gBits, dMet, gAppend, dPart, dNoPart, dSl, gSl_tup, gSl_lst, cut_1, dEnds, gIs, isB, dNever, dFor, dLc, wipeD, dYes,
  sizeLine_eq, Nat.reduceLeDiff, gEq_int, gNe_int, gEq_strs, gNe_strs, gIn_two, gRepr_bl, rs_lst, rs_tup, rs_scr, rs_int, atI_0, atI_1, atI_2, atI_3, atI_4, atI_5, ixN_30, ixN_31, ixN_32, gEq_bl, gNe_bl, decide_eq_true_eq, beq_iff_eq, Bool.not_eq_true', beq_eq_false_iff_ne, decide_eq_false_iff_not, Bool.not_true, Bool.not_false, if_true, if_false, Bool.false_eq_true, ite_true, ite_false, true_and, and_true, ne_eq, Bool.bne_false, Bool.bne_true, reduceCtorEq])
local macro_rules | `(tactic| walk_at "rh") => `(tactic| simp only [*, startD, List.map, List.replicate, List.length_cons, List.length_nil, List.append_eq, List.append_nil, List.nil_append, List.cons_append, Nat.reduceSub, Nat.reduceAdd, List.getElem?_cons_zero, List.getElem?_cons_succ, List.set_cons_zero, List.set_cons_succ,
  dC, dVar, dOp, dTru, gTru, tru, dChain, dAnd, dOr, dNot, dAndV, dOrV, dNotV, dIf, dNeg, gNeg, dNil, dCons, dTup, dLst, dOwn, gIx, rBin, gAdd, gCmpI, dCall, dCallK, dSeq, dNext, dDrop, dRet, dRetN, dIfS, dName, dGNil, dGCons, dGTup, dSub, gSetL, dAsg, dPar, dPar3, dAug, gIpI, dSeqI, gSeqI, dRngI, gRng1, gRng2, dCB, gAbs, gInt, gMax, gMin, gGcd, gLen, lenD, gIsi, tyM, tyD, dBits, gBits, dMet, gAppend, dPart, dNoPart, dSl, gSl_tup, gSl_lst, cut_1, dEnds, gIs, isB, dNever, dFor, dLc, wipeD, dYes,
  sizeLine_eq, Nat.reduceLeDiff, gEq_int, gNe_int, gEq_strs, gNe_strs, gIn_two, gRepr_bl, rs_lst, rs_tup, rs_scr, rs_int, atI_0, atI_1, atI_2, atI_3, atI_4, atI_5, ixN_30, ixN_31, ixN_32, gEq_bl, gNe_bl, decide_eq_true_eq, beq_iff_eq, Bool.not_eq_true', beq_eq_false_iff_ne, decide_eq_false_iff_not, Bool.not_true, Bool.not_false, if_true, if_false, Bool.false_eq_true, ite_true, ite_false, true_and, and_true, ne_eq, Bool.bne_false, Bool.bne_true, reduceCtorEq])
local macro_rules | `(tactic| walk_at "kb") => `(tactic| simp only [kb_NoneType_list, kb_bool_list, kb_int_list, kb_str_list, kb_tuple_list, kb_list_list, kb_dict_list, kb_NoneType_int, kb_bool_int, kb_int_int, kb_str_int, kb_tuple_int, kb_list_int, kb_dict_int, kb_NoneType_bool, kb_bool_bool, kb_int_bool, kb_str_bool, kb_tuple_bool, kb_list_bool, kb_dict_bool, kb_NoneType_tuple, kb_bool_tuple, kb_int_tuple, kb_str_tuple, kb_tuple_tuple, kb_list_tuple, kb_dict_tuple, if_true, if_false, Bool.false_eq_true, ite_true, ite_false, Bool.not_true, Bool.not_false])
/-! ### the way to the heart -/
/-- deeds (p, 1), one behind the other, from (a, b, c, e) to (a', b', c', e') -/
def HWay : List Int → Int → Int → Int → Int → Int → Int → Int → Int → Prop
  | [], a, b, c, e, a', b', c', e' => a' = a ∧ b' = b ∧ c' = c ∧ e' = e
  | p :: ps, a, b, c, e, a', b', c', e' => ∃ a1 w g e1, 0 ≤ p ∧ p < c / (Int.gcd b c : Int) ∧ IsDone a b c e p 1 a1 w g e1 ∧ HWay ps a1 w g e1 a' b' c' e' ∧ IsNear a b c e p
theorem done_one {a b c e p a' w g e' : Int} (h : isCut a b c e = true) (hp : 0 ≤ p) (hd : IsDone a b c e p 1 a' w g e') : isCut a' w g e' = true ∧ meas4 w g e' = meas4 b c e :=
  done_cut h (Int.le_refl _) (deedq_one h hp).al hd
end DL
namespace DL
open PySem PySem.Spec PyProof.Rows L2
local macro_rules | `(tactic| walk_at "rd") => `(tactic| simp only [startD, List.map, List.replicate, List.length_cons, List.length_nil, List.append_eq, List.append_nil, List.nil_append, List.cons_append, Nat.reduceSub, Nat.reduceAdd, List.getElem?_cons_zero, List.getElem?_cons_succ, List.set_cons_zero, List.set_cons_succ,
  dC, dVar, dOp, dTru, gTru, tru, dChain, dAnd, dOr, dNot, dAndV, dOrV, dNotV, dIf, dNeg, gNeg, dNil, dCons, dTup, dLst, dOwn, gIx, rBin, gAdd, gCmpI, dCall, dCallK, dSeq, dNext, dDrop, dRet, dRetN, dIfS, dName, dGNil, dGCons, dGTup, dSub, gSetL, dAsg, dPar, dPar3, dAug, gIpI, dSeqI, gSeqI, dRngI, gRng1, gRng2, dCB, gAbs, gInt, gMax, gMin, gGcd, gLen, lenD, gIsi, tyM, tyD, dBits, gBits, dMet, gAppend, dPart, dNoPart, dSl, gSl_tup, gSl_lst, cut_1, dEnds, gIs, isB, dNever, dFor, dLc, wipeD, dYes,
  sizeLine_eq, Nat.reduceLeDiff, gEq_int, gNe_int, gEq_strs, gNe_strs, gIn_two, gRepr_bl, rs_lst, rs_tup, rs_scr, rs_int, atI_0, atI_1, atI_2, atI_3, atI_4, atI_5, ixN_30, ixN_31, ixN_32, gEq_bl, gNe_bl, decide_eq_true_eq, beq_iff_eq, Bool.not_eq_true', beq_eq_false_iff_ne, decide_eq_false_iff_not, Bool.not_true, Bool.not_false, if_true, if_false, Bool.false_eq_true, ite_true, ite_false, true_and, and_true, ne_eq, Bool.bne_false, Bool.bne_true, reduceCtorEq])
local macro_rules | `(tactic| walk_at "rh") => `(tactic| simp only [*, startD, List.map, List.replicate, List.length_cons, List.length_nil, List.append_eq, List.append_nil, List.nil_append, List.cons_append, Nat.reduceSub, Nat.reduceAdd, List.getElem?_cons_zero, List.getElem?_cons_succ, List.set_cons_zero, List.set_cons_succ,
  dC, dVar, dOp, dTru, gTru, tru, dChain, dAnd, dOr, dNot, dAndV, dOrV, dNotV, dIf, dNeg, gNeg, dNil, dCons, dTup, dLst, dOwn, gIx, rBin, gAdd, gCmpI, dCall, dCallK, dSeq, dNext, dDrop, dRet, dRetN, dIfS, dName, dGNil, dGCons, dGTup, dSub, gSetL, dAsg, dPar, dPar3, dAug, gIpI, dSeqI, gSeqI, dRngI, gRng1, gRng2, dCB, gAbs, gInt, gMax, gMin, gGcd, gLen, lenD, gIsi, tyM, tyD, dBits, gBits, dMet, gAppend, dPart, dNoPart, dSl, gSl_tup, gSl_lst, cut_1, dEnds, gIs, isB, dNever, dFor, dLc, wipeD, dYes,
  sizeLine_eq, Nat.reduceLeDiff, gEq_int, gNe_int, gEq_strs, gNe_strs, gIn_two, gRepr_bl, rs_lst, rs_tup, rs_scr, rs_int, atI_0, atI_1, atI_2, atI_3, atI_4, atI_5, ixN_30, ixN_31, ixN_32, gEq_bl, gNe_bl, decide_eq_true_eq, beq_iff_eq, Bool.not_eq_true', beq_eq_false_iff_ne, decide_eq_false_iff_not, Bool.not_true, Bool.not_false, if_true, if_false, Bool.false_eq_true, ite_true, ite_false, true_and, and_true, ne_eq, Bool.bne_false, Bool.bne_true, reduceCtorEq])
local macro_rules | `(tactic| walk_at "kb") => `(tactic| simp only [kb_NoneType_list, kb_bool_list, kb_int_list, kb_str_list, kb_tuple_list, kb_list_list, kb_dict_list, kb_NoneType_int, kb_bool_int, kb_int_int, kb_str_int, kb_tuple_int, kb_list_int, kb_dict_int, kb_NoneType_bool, kb_bool_bool, kb_int_bool, kb_str_bool, kb_tuple_bool, kb_list_bool, kb_dict_bool, kb_NoneType_tuple, kb_bool_tuple, kb_int_tuple, kb_str_tuple, kb_tuple_tuple, kb_list_tuple, kb_dict_tuple, if_true, if_false, Bool.false_eq_true, ite_true, ite_false, Bool.not_true, Bool.not_false])
/-! ### the law's own deeds -/
end DL
namespace DL
open PySem PySem.Spec PyProof.Rows L2
local macro_rules | `(tactic| walk_at "rd") => `(tactic| simp only [startD, List.map, List.replicate, List.length_cons, List.length_nil, List.append_eq, List.append_nil, List.nil_append, List.cons_append, Nat.reduceSub, Nat.reduceAdd, List.getElem?_cons_zero, List.getElem?_cons_succ, List.set_cons_zero, List.set_cons_succ,
  dC, dVar, dOp, dTru, gTru, tru, dChain, dAnd, dOr, dNot, dAndV, dOrV, dNotV, dIf, dNeg, gNeg, dNil, dCons, dTup, dLst, dOwn, gIx, rBin, gAdd, gCmpI, dCall, dCallK, dSeq, dNext, dDrop, dRet, dRetN, dIfS, dName, dGNil, dGCons, dGTup, dSub, gSetL, dAsg, dPar, dPar3, dAug, gIpI, dSeqI, gSeqI, dRngI, gRng1, gRng2, dCB, gAbs, gInt, gMax, gMin, gGcd, gLen, lenD, gIsi, tyM, tyD, dBits, gBits, dMet, gAppend, dPart, dNoPart, dSl, gSl_tup, gSl_lst, cut_1, dEnds, gIs, isB, dNever, dFor, dLc, wipeD, dYes,
  sizeLine_eq, Nat.reduceLeDiff, gEq_int, gNe_int, gEq_strs, gNe_strs, gIn_two, gRepr_bl, rs_lst, rs_tup, rs_scr, rs_int, atI_0, atI_1, atI_2, atI_3, atI_4, atI_5, ixN_30, ixN_31, ixN_32, gEq_bl, gNe_bl, decide_eq_true_eq, beq_iff_eq, Bool.not_eq_true', beq_eq_false_iff_ne, decide_eq_false_iff_not, Bool.not_true, Bool.not_false, if_true, if_false, Bool.false_eq_true, ite_true, ite_false, true_and, and_true, ne_eq, Bool.bne_false, Bool.bne_true, reduceCtorEq])
local macro_rules | `(tactic| walk_at "rh") => `(tactic| simp only [*, startD, List.map, List.replicate, List.length_cons, List.length_nil, List.append_eq, List.append_nil, List.nil_append, List.cons_append, Nat.reduceSub, Nat.reduceAdd, List.getElem?_cons_zero, List.getElem?_cons_succ, List.set_cons_zero, List.set_cons_succ,
  dC, dVar, dOp, dTru, gTru, tru, dChain, dAnd, dOr, dNot, dAndV, dOrV, dNotV, dIf, dNeg, gNeg, dNil, dCons, dTup, dLst, dOwn, gIx, rBin, gAdd, gCmpI, dCall, dCallK, dSeq, dNext, dDrop, dRet, dRetN, dIfS, dName, dGNil, dGCons, dGTup, dSub, gSetL, dAsg, dPar, dPar3, dAug, gIpI, dSeqI, gSeqI, dRngI, gRng1, gRng2, dCB, gAbs, gInt, gMax, gMin, gGcd, gLen, lenD, gIsi, tyM, tyD, dBits, gBits, dMet, gAppend, dPart, dNoPart, dSl, gSl_tup, gSl_lst, cut_1, dEnds, gIs, isB, dNever, dFor, dLc, wipeD, dYes,
  sizeLine_eq, Nat.reduceLeDiff, gEq_int, gNe_int, gEq_strs, gNe_strs, gIn_two, gRepr_bl, rs_lst, rs_tup, rs_scr, rs_int, atI_0, atI_1, atI_2, atI_3, atI_4, atI_5, ixN_30, ixN_31, ixN_32, gEq_bl, gNe_bl, decide_eq_true_eq, beq_iff_eq, Bool.not_eq_true', beq_eq_false_iff_ne, decide_eq_false_iff_not, Bool.not_true, Bool.not_false, if_true, if_false, Bool.false_eq_true, ite_true, ite_false, true_and, and_true, ne_eq, Bool.bne_false, Bool.bne_true, reduceCtorEq])
local macro_rules | `(tactic| walk_at "kb") => `(tactic| simp only [kb_NoneType_list, kb_bool_list, kb_int_list, kb_str_list, kb_tuple_list, kb_list_list, kb_dict_list, kb_NoneType_int, kb_bool_int, kb_int_int, kb_str_int, kb_tuple_int, kb_list_int, kb_dict_int, kb_NoneType_bool, kb_bool_bool, kb_int_bool, kb_str_bool, kb_tuple_bool, kb_list_bool, kb_dict_bool, kb_NoneType_tuple, kb_bool_tuple, kb_int_tuple, kb_str_tuple, kb_tuple_tuple, kb_list_tuple, kb_dict_tuple, if_true, if_false, Bool.false_eq_true, ite_true, ite_false, Bool.not_true, Bool.not_false])
/-! ### k63: drawn deeds, the heart's numbers -/
theorem lt900 {b : Int} (h : b < 10 ^ 60) : b < 2 ^ 900 := by
  have e : (2 : Int) ^ 900 = 2 ^ 200 * 2 ^ 700 := by rw [← Int.pow_add]
  have h1 : (0 : Int) < 2 ^ 700 := Int.pow_pos (by decide)
  have h2 : (10 : Int) ^ 60 < 2 ^ 200 := by decide
  have h3 : (2 : Int) ^ 200 * 1 ≤ 2 ^ 200 * 2 ^ 700 := Int.mul_le_mul_of_nonneg_left (by omega) (by decide)
  omega
/-- a deed: (p, q) is one of (a, b, c, e) -/
def isDeed (b c e p q : Int) : Bool := decide (1 ≤ q) && (decide (0 < b - q * e - q * q * c) && (decide (0 ≤ p) && (decide (p < q * (c / (Int.gcd b c : Int))) && (Int.gcd p q : Int) == 1)))
theorem meas_par {a b c e : Int} : (e - meas4 b c e) % 2 = 0 := by
  unfold meas4
  have e1 : 4 * b * c = 4 * (b * c) := Int.mul_assoc _ _ _
  rw [e1]
  rcases (by omega : e % 2 = 0 ∨ e % 2 = 1) with q | q
  · obtain ⟨t, rfl⟩ : ∃ t, e = 2 * t := ⟨e / 2, by omega⟩
    have : 2 * t * (2 * t) = 4 * (t * t) := by grind
    omega
  · obtain ⟨t, rfl⟩ : ∃ t, e = 2 * t + 1 := ⟨e / 2, by omega⟩
    have : (2 * t + 1) * (2 * t + 1) = 4 * (t * t + t) + 1 := by grind
    omega
end DL
namespace DL
open PySem PySem.Spec PyProof.Rows L2
local macro_rules | `(tactic| walk_at "rd") => `(tactic| simp only [startD, List.map, List.replicate, List.length_cons, List.length_nil, List.append_eq, List.append_nil, List.nil_append, List.cons_append, Nat.reduceSub, Nat.reduceAdd, List.getElem?_cons_zero, List.getElem?_cons_succ, List.set_cons_zero, List.set_cons_succ,
  dC, dVar, dOp, dTru, gTru, tru, dChain, dAnd, dOr, dNot, dAndV, dOrV, dNotV, dIf, dNeg, gNeg, dNil, dCons, dTup, dLst, dOwn, gIx, rBin, gAdd, gCmpI, dCall, dCallK, dSeq, dNext, dDrop, dRet, dRetN, dIfS, dName, dGNil, dGCons, dGTup, dSub, gSetL, dAsg, dPar, dPar3, dAug, gIpI, dSeqI, gSeqI, dRngI, gRng1, gRng2, dCB, gAbs, gInt, gMax, gMin, gGcd, gLen, lenD, gIsi, tyM, tyD, dBits, gBits, dMet, gAppend, dPart, dNoPart, dSl, gSl_tup, gSl_lst, cut_1, dEnds, gIs, isB, dNever, dFor, dLc, wipeD, dYes,
  sizeLine_eq, Nat.reduceLeDiff, gEq_int, gNe_int, gEq_strs, gNe_strs, gIn_two, gRepr_bl, rs_lst, rs_tup, rs_scr, rs_int, atI_0, atI_1, atI_2, atI_3, atI_4, atI_5, ixN_30, ixN_31, ixN_32, gEq_bl, gNe_bl, decide_eq_true_eq, beq_iff_eq, Bool.not_eq_true', beq_eq_false_iff_ne, decide_eq_false_iff_not, Bool.not_true, Bool.not_false, if_true, if_false, Bool.false_eq_true, ite_true, ite_false, true_and, and_true, ne_eq, Bool.bne_false, Bool.bne_true, reduceCtorEq])
local macro_rules | `(tactic| walk_at "rh") => `(tactic| simp only [*, startD, List.map, List.replicate, List.length_cons, List.length_nil, List.append_eq, List.append_nil, List.nil_append, List.cons_append, Nat.reduceSub, Nat.reduceAdd, List.getElem?_cons_zero, List.getElem?_cons_succ, List.set_cons_zero, List.set_cons_succ,
  dC, dVar, dOp, dTru, gTru, tru, dChain, dAnd, dOr, dNot, dAndV, dOrV, dNotV, dIf, dNeg, gNeg, dNil, dCons, dTup, dLst, dOwn, gIx, rBin, gAdd, gCmpI, dCall, dCallK, dSeq, dNext, dDrop, dRet, dRetN, dIfS, dName, dGNil, dGCons, dGTup, dSub, gSetL, dAsg, dPar, dPar3, dAug, gIpI, dSeqI, gSeqI, dRngI, gRng1, gRng2, dCB, gAbs, gInt, gMax, gMin, gGcd, gLen, lenD, gIsi, tyM, tyD, dBits, gBits, dMet, gAppend, dPart, dNoPart, dSl, gSl_tup, gSl_lst, cut_1, dEnds, gIs, isB, dNever, dFor, dLc, wipeD, dYes,
  sizeLine_eq, Nat.reduceLeDiff, gEq_int, gNe_int, gEq_strs, gNe_strs, gIn_two, gRepr_bl, rs_lst, rs_tup, rs_scr, rs_int, atI_0, atI_1, atI_2, atI_3, atI_4, atI_5, ixN_30, ixN_31, ixN_32, gEq_bl, gNe_bl, decide_eq_true_eq, beq_iff_eq, Bool.not_eq_true', beq_eq_false_iff_ne, decide_eq_false_iff_not, Bool.not_true, Bool.not_false, if_true, if_false, Bool.false_eq_true, ite_true, ite_false, true_and, and_true, ne_eq, Bool.bne_false, Bool.bne_true, reduceCtorEq])
local macro_rules | `(tactic| walk_at "kb") => `(tactic| simp only [kb_NoneType_list, kb_bool_list, kb_int_list, kb_str_list, kb_tuple_list, kb_list_list, kb_dict_list, kb_NoneType_int, kb_bool_int, kb_int_int, kb_str_int, kb_tuple_int, kb_list_int, kb_dict_int, kb_NoneType_bool, kb_bool_bool, kb_int_bool, kb_str_bool, kb_tuple_bool, kb_list_bool, kb_dict_bool, kb_NoneType_tuple, kb_bool_tuple, kb_int_tuple, kb_str_tuple, kb_tuple_tuple, kb_list_tuple, kb_dict_tuple, if_true, if_false, Bool.false_eq_true, ite_true, ite_false, Bool.not_true, Bool.not_false])
/-! ### all cuttings of a measure, as laws list them -/
def IsC (m : Int) (x : List Int) : Prop := ∃ a b c e, x = [a, b, c, e] ∧ isCut a b c e = true ∧ meas4 b c e = m
/-- l: cuttings of the measure m, among them all with P c e -/
def Cov (m : Int) (l : List (List Int)) (P : Int → Int → Prop) : Prop := (∀ x ∈ l, IsC m x) ∧ ∀ a b c e, isCut a b c e = true → meas4 b c e = m → P c e → [a, b, c, e] ∈ l
theorem Cov.weak {m : Int} {l : List (List Int)} {P P' : Int → Int → Prop} (h : Cov m l P) (w : ∀ a b c e, isCut a b c e = true → meas4 b c e = m → P' c e → P c e) : Cov m l P' := ⟨h.1, fun a b c e h1 h2 h3 => h.2 a b c e h1 h2 (w a b c e h1 h2 h3)⟩
theorem Cov.app {m : Int} {l l2 : List (List Int)} {P P' : Int → Int → Prop} (h : Cov m l P) (g : Cov m l2 P') : Cov m (l ++ l2) fun c e => P c e ∨ P' c e :=
  ⟨fun x hx => (List.mem_append.mp hx).elim (h.1 x) (g.1 x), fun a b c e h1 h2 h3 => List.mem_append.mpr (h3.imp (h.2 a b c e h1 h2) (g.2 a b c e h1 h2))⟩
theorem Cov.nil {m : Int} : Cov m [] fun _ _ => False := ⟨fun x hx => (by cases hx), fun _ _ _ _ _ _ h => h.elim⟩
theorem Cov.full {m : Int} {l : List (List Int)} {P : Int → Int → Prop} (h : Cov m l P) (w : ∀ a b c e, isCut a b c e = true → meas4 b c e = m → P c e) (x : List Int) : x ∈ l ↔ IsC m x :=
  ⟨h.1 x, by rintro ⟨a, b, c, e, rfl, h1, h2⟩; exact h.2 a b c e h1 h2 (w a b c e h1 h2)⟩
def lowsL (n : Nat) (b c e : Int) : List (List Int) := (List.range n).filterMap fun (i : Nat) => if isCut (i : Int) b c e = true then some [(i : Int), b, c, e] else none
theorem lowsL_mem {n : Nat} {b c e : Int} {x : List Int} : x ∈ lowsL n b c e ↔ ∃ i : Nat, i < n ∧ isCut (i : Int) b c e = true ∧ x = [(i : Int), b, c, e] := by
  unfold lowsL
  rw [List.mem_filterMap]
  constructor
  · rintro ⟨i, hi, h⟩
    by_cases hc : isCut (i : Int) b c e = true
    · rw [if_pos hc] at h
      exact ⟨i, List.mem_range.mp hi, hc, (Option.some.inj h).symm⟩
    · rw [if_neg hc] at h; cases h
  · rintro ⟨i, hi, hc, rfl⟩
    exact ⟨i, List.mem_range.mpr hi, by rw [if_pos hc]⟩
theorem lowsL_len {n : Nat} {b c e : Int} : (lowsL n b c e).length ≤ n := by
  unfold lowsL
  exact Nat.le_trans (List.length_filterMap_le _ _) (by rw [List.length_range]; omega)
theorem meas_bc {b c e m : Int} : meas4 b c e = m ↔ 4 * (b * c) = m - e * e := by
  unfold meas4
  rw [Int.mul_assoc]
  omega
theorem lows_cov {m b c e whole : Int} (hc : 1 ≤ c) (hw : 4 * whole = m - e * e) (hb : b * c = whole) : Cov m (lowsL (Int.gcd b c) b c e) fun c' e' => c' = c ∧ e' = e := by
  refine ⟨fun x hx => ?_, ?_⟩
  · obtain ⟨i, hi, h1, rfl⟩ := lowsL_mem.mp hx
    exact ⟨_, _, _, _, rfl, h1, meas_bc.mpr (by rw [hb]; exact hw)⟩
  · rintro a b' c' e' h1 h2 ⟨rfl, rfl⟩
    have h3 := meas_bc.mp h2
    have h4 : b' * c' = b * c' := by omega
    have h5 : b' = b := Int.eq_of_mul_eq_mul_right (by omega) h4
    subst h5
    obtain ⟨_, _, _, k4, k5, _⟩ := cut_parts h1
    obtain ⟨i, rfl⟩ := Int.eq_ofNat_of_zero_le k4
    exact lowsL_mem.mpr ⟨i, by omega, h1, rfl⟩
theorem lows_none {m c e whole : Int} (hw : 4 * whole = m - e * e) (hn : whole % c ≠ 0) : Cov m [] fun c' e' => c' = c ∧ e' = e := by
  refine ⟨fun x hx => (by cases hx), ?_⟩
  rintro a b' c' e' h1 h2 ⟨rfl, rfl⟩
  have h3 := meas_bc.mp h2
  exact absurd (by rw [show whole = b' * c' by omega]; exact Int.mul_emod_left _ _) hn
/-- there is a cutting of each measure -/
theorem cut_some {m : Int} (h : isMeas (.int m) = true) : ∃ x, IsC m x := by
  have h5 := meas_ge h
  have h4 : m % 4 = 0 ∨ m % 4 = 1 := by
    simp only [isMeas, Bool.and_eq_true, decide_eq_true_eq, Bool.or_eq_true, beq_iff_eq] at h
    omega
  have key : ∀ e : Int, (m - e * e) % 4 = 0 → 1 + e < (m - e * e) / 4 → 1 ≤ (m - e * e) / 4 → IsC m [0, (m - e * e) / 4, 1, e] := by
    intro e h1 h2 h3
    refine ⟨_, _, _, _, rfl, ?_, meas_bc.mpr (by rw [Int.mul_one]; omega)⟩
    have g1 : (Int.gcd ((m - e * e) / 4) 1 : Int) = 1 := by simp [Int.gcd]
    unfold isCut
    rw [g1, decide_eq_true h3, decide_eq_true h2]
    simp [Int.gcd]
  rcases h4 with q | q
  · exact ⟨_, key 0 (by omega) (by omega) (by omega)⟩
  · exact ⟨_, key (-1) (by omega) (by omega) (by omega)⟩
/-! ### k28's own lists -/
theorem below_tIs {n : Nat} : ∀ l : List (List Int), belowAll n (l.map tI) = true
  | [] => rfl
  | x :: l => by
    have h1 : ∀ y : List Int, belowAll n (y.map D.int) = true := by
      intro y
      induction y with
      | nil => rfl
      | cons a y ih => exact (by show (true && belowAll n (y.map D.int)) = true; rw [ih]; rfl)
    show (belowAll n (x.map D.int) && belowAll n (l.map tI)) = true
    rw [h1, below_tIs l]
    rfl
/-! every deed leads somewhere -/
theorem bez_ex : ∀ (k : Nat) (m n : Int), n.natAbs ≤ k → ∃ u v : Int, u * m + v * n = (Int.gcd m n : Int)
  | 0, m, n, h => by
    have : n = 0 := by omega
    subst this
    rw [Int.gcd_zero_right]
    rcases (by omega : 0 ≤ m ∨ m ≤ 0) with h | h
    · exact ⟨1, 0, by omega⟩
    · exact ⟨-1, 0, by omega⟩
  | k + 1, m, n, h => by
    by_cases z : n = 0
    · subst z
      exact bez_ex k m 0 (by simp)
    · have r0 := Int.emod_nonneg m z
      have r1 := Int.emod_lt m z
      obtain ⟨u, v, e⟩ := bez_ex k n (m % n) (by omega)
      have eg : (Int.gcd n (m % n) : Int) = Int.gcd m n := gcd_emod' m n
      rw [eg] at e
      have em := Int.mul_ediv_add_emod m n
      refine ⟨v, u - v * (m / n), ?_⟩
      have : v * m + (u - v * (m / n)) * n = u * n + v * (m - n * (m / n)) := by grind
      rw [this, ← e]
      have : m - n * (m / n) = m % n := by omega
      rw [this]
theorem done_ex {a b c e p q : Int} (hc : 1 ≤ c) (hq : 1 ≤ q) (cp : Int.gcd p q = 1) : ∃ a' w g e', IsDone a b c e p q a' w g e' := by
  obtain ⟨z, y, hz⟩ := bez_ex q.natAbs p q (Nat.le_refl _)
  rw [cp] at hz
  have row : p * z - q * (-y) = 1 := by
    have : p * z - q * (-y) = z * p + y * q := by grind
    rw [this]; exact hz
  obtain ⟨u, v, huv⟩ := bez_ex (q * c).natAbs (p * b + q * a) (q * c) (Nat.le_refl _)
  have j0 : 0 < q * c := Int.mul_pos (by omega) (by omega)
  have g0 : 0 < (Int.gcd (p * b + q * a) (q * c) : Int) := by
    have := Int.gcd_pos_of_ne_zero_right (p * b + q * a) (show q * c ≠ 0 by omega)
    omega
  have dg : (Int.gcd (p * b + q * a) (q * c) : Int) ∣ c * (b - q * e - q * q * c) := by
    have h1 : c * (b - q * e - q * q * c) = (p * b + q * a) * (z * c) - (q * c) * ((-y) * b + z * a + e + q * c) := by
      have : (p * b + q * a) * (z * c) - (q * c) * ((-y) * b + z * a + e + q * c) = c * (b * (p * z - q * (-y)) - q * e - q * q * c) := by grind
      rw [this, row, Int.mul_one]
    rw [h1]
    exact Int.dvd_sub (Int.dvd_mul_of_dvd_left (Int.gcd_dvd_left _ _)) (Int.dvd_mul_of_dvd_left (Int.gcd_dvd_right _ _))
  obtain ⟨w, hw⟩ := dg
  have G0 : 0 < (Int.gcd w (Int.gcd (p * b + q * a) (q * c) : Int) : Int) := by
    have := Int.gcd_pos_of_ne_zero_right w (show (Int.gcd (p * b + q * a) (q * c) : Int) ≠ 0 by omega)
    omega
  refine ⟨_, w, _, _, rfl, by rw [hw, Int.mul_comm], rfl, Int.emod_nonneg (0 - (u * ((-y) * b + z * a + e + q * c) + v * (z * c))) (by omega), Int.emod_lt_of_pos _ G0, u, v, -y, z, row, huv, ?_⟩
  have := Int.mul_ediv_add_emod (0 - (u * ((-y) * b + z * a + e + q * c) + v * (z * c))) (Int.gcd w (Int.gcd (p * b + q * a) (q * c) : Int) : Int)
  refine ⟨-((0 - (u * ((-y) * b + z * a + e + q * c) + v * (z * c))) / (Int.gcd w (Int.gcd (p * b + q * a) (q * c) : Int) : Int)), ?_⟩
  rw [Int.mul_neg]
  omega
/-! where a deed leads, as a function -/
theorem isDeed_parts {b c e p q : Int} (h : isDeed b c e p q = true) : DeedQ b c e p q ∧ p < q * (c / (Int.gcd b c : Int)) := by
  simp only [isDeed, Bool.and_eq_true, decide_eq_true_eq, beq_iff_eq] at h
  obtain ⟨h1, h2, h3, h4, h5⟩ := h
  exact ⟨⟨h1, h2, h3, by omega⟩, h4⟩
end DL
namespace DL
open PySem PySem.Spec PyProof.Rows L2
local macro_rules | `(tactic| walk_at "rd") => `(tactic| simp only [startD, List.map, List.replicate, List.length_cons, List.length_nil, List.append_eq, List.append_nil, List.nil_append, List.cons_append, Nat.reduceSub, Nat.reduceAdd, List.getElem?_cons_zero, List.getElem?_cons_succ, List.set_cons_zero, List.set_cons_succ,
  dC, dVar, dOp, dTru, gTru, tru, dChain, dAnd, dOr, dNot, dAndV, dOrV, dNotV, dIf, dNeg, gNeg, dNil, dCons, dTup, dLst, dOwn, gIx, rBin, gAdd, gCmpI, dCall, dCallK, dSeq, dNext, dDrop, dRet, dRetN, dIfS, dName, dGNil, dGCons, dGTup, dSub, gSetL, dAsg, dPar, dPar3, dAug, gIpI, dSeqI, gSeqI, dRngI, gRng1, gRng2, dCB, gAbs, gInt, gMax, gMin, gGcd, gLen, lenD, gIsi, tyM, tyD, dBits, gBits, dMet, gAppend, dPart, dNoPart, dSl, gSl_tup, gSl_lst, cut_1, dEnds, gIs, isB, dNever, dFor, dLc, wipeD, dYes,
  sizeLine_eq, Nat.reduceLeDiff, gEq_int, gNe_int, gEq_strs, gNe_strs, gIn_two, gRepr_bl, rs_lst, rs_tup, rs_scr, rs_int, atI_0, atI_1, atI_2, atI_3, atI_4, atI_5, ixN_30, ixN_31, ixN_32, gEq_bl, gNe_bl, decide_eq_true_eq, beq_iff_eq, Bool.not_eq_true', beq_eq_false_iff_ne, decide_eq_false_iff_not, Bool.not_true, Bool.not_false, if_true, if_false, Bool.false_eq_true, ite_true, ite_false, true_and, and_true, ne_eq, Bool.bne_false, Bool.bne_true, reduceCtorEq])
local macro_rules | `(tactic| walk_at "rh") => `(tactic| simp only [*, startD, List.map, List.replicate, List.length_cons, List.length_nil, List.append_eq, List.append_nil, List.nil_append, List.cons_append, Nat.reduceSub, Nat.reduceAdd, List.getElem?_cons_zero, List.getElem?_cons_succ, List.set_cons_zero, List.set_cons_succ,
  dC, dVar, dOp, dTru, gTru, tru, dChain, dAnd, dOr, dNot, dAndV, dOrV, dNotV, dIf, dNeg, gNeg, dNil, dCons, dTup, dLst, dOwn, gIx, rBin, gAdd, gCmpI, dCall, dCallK, dSeq, dNext, dDrop, dRet, dRetN, dIfS, dName, dGNil, dGCons, dGTup, dSub, gSetL, dAsg, dPar, dPar3, dAug, gIpI, dSeqI, gSeqI, dRngI, gRng1, gRng2, dCB, gAbs, gInt, gMax, gMin, gGcd, gLen, lenD, gIsi, tyM, tyD, dBits, gBits, dMet, gAppend, dPart, dNoPart, dSl, gSl_tup, gSl_lst, cut_1, dEnds, gIs, isB, dNever, dFor, dLc, wipeD, dYes,
  sizeLine_eq, Nat.reduceLeDiff, gEq_int, gNe_int, gEq_strs, gNe_strs, gIn_two, gRepr_bl, rs_lst, rs_tup, rs_scr, rs_int, atI_0, atI_1, atI_2, atI_3, atI_4, atI_5, ixN_30, ixN_31, ixN_32, gEq_bl, gNe_bl, decide_eq_true_eq, beq_iff_eq, Bool.not_eq_true', beq_eq_false_iff_ne, decide_eq_false_iff_not, Bool.not_true, Bool.not_false, if_true, if_false, Bool.false_eq_true, ite_true, ite_false, true_and, and_true, ne_eq, Bool.bne_false, Bool.bne_true, reduceCtorEq])
local macro_rules | `(tactic| walk_at "kb") => `(tactic| simp only [kb_NoneType_list, kb_bool_list, kb_int_list, kb_str_list, kb_tuple_list, kb_list_list, kb_dict_list, kb_NoneType_int, kb_bool_int, kb_int_int, kb_str_int, kb_tuple_int, kb_list_int, kb_dict_int, kb_NoneType_bool, kb_bool_bool, kb_int_bool, kb_str_bool, kb_tuple_bool, kb_list_bool, kb_dict_bool, kb_NoneType_tuple, kb_bool_tuple, kb_int_tuple, kb_str_tuple, kb_tuple_tuple, kb_list_tuple, kb_dict_tuple, if_true, if_false, Bool.false_eq_true, ite_true, ite_false, Bool.not_true, Bool.not_false])
/-! ### cells are only added -/
def Plus (M M' : Mem) : Prop := ∃ G, M' = M ++ G ∧ ∀ c ∈ G, ∀ n, belowO n c = true
theorem Plus.refl (M : Mem) : Plus M M := ⟨[], (List.append_nil M).symm, fun c h => (by cases h)⟩
theorem Plus.trans {M M' M'' : Mem} (h : Plus M M') (g : Plus M' M'') : Plus M M'' := by
  obtain ⟨G, rfl, h1⟩ := h
  obtain ⟨G', rfl, h2⟩ := g
  exact ⟨G ++ G', List.append_assoc _ _ _, fun c hc => (List.mem_append.mp hc).elim (h1 c) (h2 c)⟩
theorem Plus.add {M M' : Mem} {l : List D} (h : Plus M M') (hl : ∀ n, belowAll n l = true) : Plus M (M' ++ [.lst l]) :=
  h.trans ⟨[.lst l], rfl, fun c hc n => by rw [List.mem_singleton.mp hc]; exact hl n⟩
theorem Plus.get {M M' : Mem} (h : Plus M M') {i : Nat} (hi : i < M.length) : M'[i]? = M[i]? := by
  obtain ⟨G, rfl, _⟩ := h
  exact List.getElem?_append_left hi
theorem Plus.len {M M' : Mem} (h : Plus M M') : M.length ≤ M'.length := by
  obtain ⟨G, rfl, _⟩ := h
  rw [List.length_append]; omega
theorem Plus.rtq {M M' : Mem} {Q : DQ} {d : D} (h : Plus M M') (q : Q d M') (hb : below M'.length d = true := by rfl) : Rtq M Q d M' := by
  refine rtqC q h.len hb fun i c hc => ?_
  obtain ⟨G, rfl, h1⟩ := h
  by_cases hi : i < M.length
  · rw [List.getElem?_append_left hi] at hc
    exact .inl hc
  · rw [List.getElem?_append_right (by omega)] at hc
    exact .inr (h1 c (List.mem_of_getElem? hc) _)
/-- the new cells are let go -/
theorem Plus.drop {M M' : Mem} {Q : DQ} {d : D} (h : Plus M M') (q : Q d M) (hb : below M.length d = true := by rfl) : Rtq M Q d M' := by
  obtain ⟨G, rfl, _⟩ := h
  exact rtqG q hb
theorem Plus.set {M M' : Mem} {k : Nat} {l : List D} (h : Plus M M') (hk : M.length ≤ k) (hl : ∀ n, belowAll n l = true) : Plus M (M'.set k (.lst l)) := by
  obtain ⟨G, rfl, h1⟩ := h
  refine ⟨G.set (k - M.length) (.lst l), ?_, fun c hc n => ?_⟩
  · rw [List.set_append_right _ _ hk]
  · rcases List.mem_or_eq_of_mem_set hc with hc | rfl
    · exact h1 c hc n
    · exact hl n
theorem res_own {M : Mem} {k : Nat} {l : List D} (h : M[k]? = some (.lst l)) : res M (.own k) = .lst l := by unfold res; dsimp only; rw [h]
theorem new_at (M : Mem) (c : Own) : (M ++ [c])[M.length]? = some c := by rw [List.getElem?_append_right (Nat.le_refl _), Nat.sub_self]; rfl
/-! ### the way to the heart, as a list of the caller's -/
/-! ### k28 -/
theorem near_uniq {a b c e p p2 : Int} (h : isCut a b c e = true) (h1 : IsNear a b c e p) (h2 : IsNear a b c e p2) (k1 : 0 ≤ p) (k2 : 0 ≤ p2) : p = p2 := by
  have key : ∀ x y : Int, IsNear a b c e x → IsNear a b c e y → 0 ≤ x → x < y → False := by
    intro x y hx hy x0 xy
    obtain ⟨a', w, g, e', hd⟩ := done_ex (a := a) (b := b) (e := e) (p := x) (cut_parts h).2.1 (Int.le_refl 1) (deedq_one h x0).cp
    have := hx.1 _ _ _ _ hd
    have := hy.2 x x0 xy _ _ _ _ hd
    omega
  rcases (by omega : p = p2 ∨ p < p2 ∨ p2 < p) with z | z | z
  · exact z
  · exact (key p p2 h1 h2 k1 z).elim
  · exact (key p2 p h2 h1 k2 z).elim
theorem HWay.uniq : ∀ {ps ps2 : List Int} {a b c e a1 b1 c1 e1 a2 b2 c2 e2 : Int}, isCut a b c e = true → HWay ps a b c e a1 b1 c1 e1 → HWay ps2 a b c e a2 b2 c2 e2 → ps.length = ps2.length → ps = ps2
  | [], [], _, _, _, _, _, _, _, _, _, _, _, _, _, _, _, _ => rfl
  | [], _ :: _, _, _, _, _, _, _, _, _, _, _, _, _, _, _, _, h => by cases h
  | _ :: _, [], _, _, _, _, _, _, _, _, _, _, _, _, _, _, _, h => by cases h
  | p :: ps, p2 :: ps2, _, _, _, _, _, _, _, _, _, _, _, _, hc, ⟨x1, x2, x3, x4, u0, u1, u2, u3, u4⟩, ⟨y1, y2, y3, y4, v0, v1, v2, v3, v4⟩, h => by
    have ep := near_uniq hc u4 v4 u0 v0
    subst ep
    have hg := done_g (cut_parts hc).2.1 (Int.le_refl 1) u2
    obtain ⟨rfl, rfl, rfl, rfl⟩ := isDone_unique (by omega) u2 v2
    rw [HWay.uniq (done_one hc u0 u2).1 u3 v3 (by simpa using h)]
end DL
namespace DL
open PySem PySem.Spec PyProof.Rows L2
local macro_rules | `(tactic| walk_at "rd") => `(tactic| simp only [startD, List.map, List.replicate, List.length_cons, List.length_nil, List.append_eq, List.append_nil, List.nil_append, List.cons_append, Nat.reduceSub, Nat.reduceAdd, List.getElem?_cons_zero, List.getElem?_cons_succ, List.set_cons_zero, List.set_cons_succ,
  dC, dVar, dOp, dTru, gTru, tru, dChain, dAnd, dOr, dNot, dAndV, dOrV, dNotV, dIf, dNeg, gNeg, dNil, dCons, dTup, dLst, dOwn, gIx, rBin, gAdd, gCmpI, dCall, dCallK, dSeq, dNext, dDrop, dRet, dRetN, dIfS, dName, dGNil, dGCons, dGTup, dSub, gSetL, dAsg, dPar, dPar3, dAug, gIpI, dSeqI, gSeqI, dRngI, gRng1, gRng2, dCB, gAbs, gInt, gMax, gMin, gGcd, gLen, lenD, gIsi, tyM, tyD, dBits, gBits, dMet, gAppend, dPart, dNoPart, dSl, gSl_tup, gSl_lst, cut_1, dEnds, gIs, isB, dNever, dFor, dLc, wipeD, dYes,
  sizeLine_eq, Nat.reduceLeDiff, gEq_int, gNe_int, gEq_strs, gNe_strs, gIn_two, gRepr_bl, rs_lst, rs_tup, rs_scr, rs_int, atI_0, atI_1, atI_2, atI_3, atI_4, atI_5, ixN_30, ixN_31, ixN_32, gEq_bl, gNe_bl, decide_eq_true_eq, beq_iff_eq, Bool.not_eq_true', beq_eq_false_iff_ne, decide_eq_false_iff_not, Bool.not_true, Bool.not_false, if_true, if_false, Bool.false_eq_true, ite_true, ite_false, true_and, and_true, ne_eq, Bool.bne_false, Bool.bne_true, reduceCtorEq])
local macro_rules | `(tactic| walk_at "rh") => `(tactic| simp only [*, startD, List.map, List.replicate, List.length_cons, List.length_nil, List.append_eq, List.append_nil, List.nil_append, List.cons_append, Nat.reduceSub, Nat.reduceAdd, List.getElem?_cons_zero, List.getElem?_cons_succ, List.set_cons_zero, List.set_cons_succ,
  dC, dVar, dOp, dTru, gTru, tru, dChain, dAnd, dOr, dNot, dAndV, dOrV, dNotV, dIf, dNeg, gNeg, dNil, dCons, dTup, dLst, dOwn, gIx, rBin, gAdd, gCmpI, dCall, dCallK, dSeq, dNext, dDrop, dRet, dRetN, dIfS, dName, dGNil, dGCons, dGTup, dSub, gSetL, dAsg, dPar, dPar3, dAug, gIpI, dSeqI, gSeqI, dRngI, gRng1, gRng2, dCB, gAbs, gInt, gMax, gMin, gGcd, gLen, lenD, gIsi, tyM, tyD, dBits, gBits, dMet, gAppend, dPart, dNoPart, dSl, gSl_tup, gSl_lst, cut_1, dEnds, gIs, isB, dNever, dFor, dLc, wipeD, dYes,
  sizeLine_eq, Nat.reduceLeDiff, gEq_int, gNe_int, gEq_strs, gNe_strs, gIn_two, gRepr_bl, rs_lst, rs_tup, rs_scr, rs_int, atI_0, atI_1, atI_2, atI_3, atI_4, atI_5, ixN_30, ixN_31, ixN_32, gEq_bl, gNe_bl, decide_eq_true_eq, beq_iff_eq, Bool.not_eq_true', beq_eq_false_iff_ne, decide_eq_false_iff_not, Bool.not_true, Bool.not_false, if_true, if_false, Bool.false_eq_true, ite_true, ite_false, true_and, and_true, ne_eq, Bool.bne_false, Bool.bne_true, reduceCtorEq])
local macro_rules | `(tactic| walk_at "kb") => `(tactic| simp only [kb_NoneType_list, kb_bool_list, kb_int_list, kb_str_list, kb_tuple_list, kb_list_list, kb_dict_list, kb_NoneType_int, kb_bool_int, kb_int_int, kb_str_int, kb_tuple_int, kb_list_int, kb_dict_int, kb_NoneType_bool, kb_bool_bool, kb_int_bool, kb_str_bool, kb_tuple_bool, kb_list_bool, kb_dict_bool, kb_NoneType_tuple, kb_bool_tuple, kb_int_tuple, kb_str_tuple, kb_tuple_tuple, kb_list_tuple, kb_dict_tuple, if_true, if_false, Bool.false_eq_true, ite_true, ite_false, Bool.not_true, Bool.not_false])
/-! ### sorted lists of tuples of ints -/
abbrev LSorted (l : List (List Int)) : Prop := l.Pairwise fun x y => lexL y x = false
theorem sorted_uniq : ∀ {l1 l2 : List (List Int)}, l1.Perm l2 → LSorted l1 → LSorted l2 → l1 = l2
  | [], l2, h, _, _ => (List.Perm.eq_nil h.symm).symm
  | x :: l1, [], h, _, _ => absurd h.length_eq (by simp)
  | x :: l1, y :: l2, h, s1, s2 => by
    have h1 := List.pairwise_cons.mp s1
    have h2 := List.pairwise_cons.mp s2
    have e : x = y := by
      rcases List.mem_cons.mp (h.mem_iff.mp (List.mem_cons_self (a := x) (l := l1))) with e | hx
      · exact e
      · rcases List.mem_cons.mp (h.mem_iff.mpr (List.mem_cons_self (a := y) (l := l2))) with e | hy
        · exact e.symm
        · exact lexL_conn x y (h2.1 x hx) (h1.1 y hy)
    subst e
    rw [sorted_uniq h.cons_inv h1.2 h2.2]
theorem nodup_perm {α : Type} {l1 l2 : List α} (h1 : l1.Nodup) (h2 : l2.Nodup) (h : ∀ x, x ∈ l1 ↔ x ∈ l2) : l1.Perm l2 := (List.perm_ext_iff_of_nodup h1 h2).mpr h
theorem sorted_one {l1 l2 : List (List Int)} (h1 : l1.Nodup) (h2 : l2.Nodup) (h : ∀ x, x ∈ l1 ↔ x ∈ l2) (s1 : LSorted l1) (s2 : LSorted l2) : l1 = l2 := sorted_uniq (nodup_perm h1 h2 h) s1 s2
theorem gSorted_tI {k : Nat} {l : List (List Int)} {M : Mem} {Q : DQ} (hk : ∀ x ∈ l, x.length = k) (h1 : 1 ≤ k) (q : ∀ l' : List (List Int), l'.Perm l → LSorted l' → Q (.lst (l'.map tI)) M) : gSorted false [.lst (l.map tI)] M Q :=
  .inr ⟨k, l, rfl, h1, hk, fun l' pm sd => q l' pm sd⟩
/-! ### all cuttings of a measure, each once -/
def CovX (m : Int) (l : List (List Int)) (P : Int → Int → Prop) : Prop := l.Nodup ∧ ∀ x, x ∈ l ↔ ∃ a b c e, x = [a, b, c, e] ∧ isCut a b c e = true ∧ meas4 b c e = m ∧ P c e
theorem CovX.nil {m : Int} {P : Int → Int → Prop} (h : ∀ a b c e, isCut a b c e = true → meas4 b c e = m → ¬ P c e) : CovX m [] P :=
  ⟨List.nodup_nil, fun x => ⟨fun h => (by cases h), by rintro ⟨a, b, c, e, rfl, h1, h2, h3⟩; exact (h a b c e h1 h2 h3).elim⟩⟩
theorem CovX.iff {m : Int} {l : List (List Int)} {P P' : Int → Int → Prop} (h : CovX m l P) (w : ∀ a b c e, isCut a b c e = true → meas4 b c e = m → (P' c e ↔ P c e)) : CovX m l P' := by
  refine ⟨h.1, fun x => (h.2 x).trans ?_⟩
  constructor
  · rintro ⟨a, b, c, e, rfl, h1, h2, h3⟩; exact ⟨a, b, c, e, rfl, h1, h2, (w a b c e h1 h2).mpr h3⟩
  · rintro ⟨a, b, c, e, rfl, h1, h2, h3⟩; exact ⟨a, b, c, e, rfl, h1, h2, (w a b c e h1 h2).mp h3⟩
theorem CovX.app {m : Int} {l l2 : List (List Int)} {P P' : Int → Int → Prop} (h : CovX m l P) (g : CovX m l2 P') (w : ∀ c e, P c e → P' c e → False) : CovX m (l ++ l2) fun c e => P c e ∨ P' c e := by
  refine ⟨List.nodup_append.mpr ⟨h.1, g.1, fun x hx y hy e => ?_⟩, fun x => ?_⟩
  · subst e
    obtain ⟨a, b, c, e, rfl, _, _, h3⟩ := (h.2 x).mp hx
    obtain ⟨a', b', c', e', h4, _, _, h5⟩ := (g.2 _).mp hy
    cases h4
    exact w c e h3 h5
  · rw [List.mem_append, h.2, g.2]
    constructor
    · rintro (⟨a, b, c, e, rfl, h1, h2, h3⟩ | ⟨a, b, c, e, rfl, h1, h2, h3⟩)
      · exact ⟨a, b, c, e, rfl, h1, h2, .inl h3⟩
      · exact ⟨a, b, c, e, rfl, h1, h2, .inr h3⟩
    · rintro ⟨a, b, c, e, rfl, h1, h2, h3 | h3⟩
      · exact .inl ⟨a, b, c, e, rfl, h1, h2, h3⟩
      · exact .inr ⟨a, b, c, e, rfl, h1, h2, h3⟩
theorem lowsL_nodup {n : Nat} {b c e : Int} : (lowsL n b c e).Nodup := by
  unfold lowsL
  refine List.Pairwise.filterMap _ (fun a a' (hne : a ≠ a') x hx y hy => ?_) List.nodup_range
  by_cases h1 : isCut (a : Int) b c e = true
  · by_cases h2 : isCut (a' : Int) b c e = true
    · rw [if_pos h1] at hx
      rw [if_pos h2] at hy
      cases hx; cases hy
      intro z
      have := List.cons.inj z
      omega
    · rw [if_neg h2] at hy; cases hy
  · rw [if_neg h1] at hx; cases hx
theorem lows_covX {m b c e whole : Int} (hc : 1 ≤ c) (hw : 4 * whole = m - e * e) (hb : b * c = whole) : CovX m (lowsL (Int.gcd b c) b c e) fun c' e' => c' = c ∧ e' = e := by
  refine ⟨lowsL_nodup, fun x => ⟨fun hx => ?_, ?_⟩⟩
  · obtain ⟨i, hi, h1, rfl⟩ := lowsL_mem.mp hx
    exact ⟨_, _, _, _, rfl, h1, meas_bc.mpr (by rw [hb]; exact hw), rfl, rfl⟩
  · rintro ⟨a, b', c', e', rfl, h1, h2, h3⟩
    exact (lows_cov hc hw hb).2 a b' c' e' h1 h2 h3
theorem lows_noneX {m c e whole : Int} (hw : 4 * whole = m - e * e) (hn : whole % c ≠ 0) : CovX m [] fun c' e' => c' = c ∧ e' = e :=
  .nil fun a b' c' e' h1 h2 h3 => by have := (lows_none hw hn).2 a b' c' e' h1 h2 h3; cases this
theorem CovX.len4 {m : Int} {l : List (List Int)} {P : Int → Int → Prop} (h : CovX m l P) : ∀ x ∈ l, x.length = 4 := fun x hx => by
  obtain ⟨a, b, c, e, rfl, _⟩ := (h.2 x).mp hx
  rfl
/-- the whole of them, sorted -/
structure AllC (m : Int) (l : List (List Int)) : Prop where
  nd : l.Nodup
  mem : ∀ x, x ∈ l ↔ IsC m x
  srt : LSorted l
  len : l.length ≤ 10000000
theorem AllC.of {m : Int} {l l' : List (List Int)} {P : Int → Int → Prop} (h : CovX m l P) (w : ∀ a b c e, isCut a b c e = true → meas4 b c e = m → P c e) (hl : l.length ≤ 10000000) (pm : l'.Perm l) (sd : LSorted l') : AllC m l' := by
  refine ⟨(pm.nodup_iff).mpr h.1, fun x => ?_, sd, by rw [pm.length_eq]; exact hl⟩
  rw [pm.mem_iff, h.2]
  constructor
  · rintro ⟨a, b, c, e, rfl, h1, h2, _⟩; exact ⟨a, b, c, e, rfl, h1, h2⟩
  · rintro ⟨a, b, c, e, rfl, h1, h2⟩; exact ⟨a, b, c, e, rfl, h1, h2, w a b c e h1 h2⟩
theorem AllC.uniq {m : Int} {l l' : List (List Int)} (h : AllC m l) (g : AllC m l') : l = l' := sorted_one h.nd g.nd (fun x => (h.mem x).trans (g.mem x).symm) h.srt g.srt
/-! ### the functions of k13 to k16 -/
end DL
namespace DL
open PySem PySem.Spec PyProof.Rows L2
local macro_rules | `(tactic| walk_at "rd") => `(tactic| simp only [startD, List.map, List.replicate, List.length_cons, List.length_nil, List.append_eq, List.append_nil, List.nil_append, List.cons_append, Nat.reduceSub, Nat.reduceAdd, List.getElem?_cons_zero, List.getElem?_cons_succ, List.set_cons_zero, List.set_cons_succ,
  dC, dVar, dOp, dTru, gTru, tru, dChain, dAnd, dOr, dNot, dAndV, dOrV, dNotV, dIf, dNeg, gNeg, dNil, dCons, dTup, dLst, dOwn, gIx, rBin, gAdd, gCmpI, dCall, dCallK, dSeq, dNext, dDrop, dRet, dRetN, dIfS, dName, dGNil, dGCons, dGTup, dSub, gSetL, dAsg, dPar, dPar3, dAug, gIpI, dSeqI, gSeqI, dRngI, gRng1, gRng2, dCB, gAbs, gInt, gMax, gMin, gGcd, gLen, lenD, gIsi, tyM, tyD, dBits, gBits, dMet, gAppend, dPart, dNoPart, dSl, gSl_tup, gSl_lst, cut_1, dEnds, gIs, isB, dNever, dFor, dLc, wipeD, dYes,
  sizeLine_eq, Nat.reduceLeDiff, gEq_int, gNe_int, gEq_strs, gNe_strs, gIn_two, gRepr_bl, rs_lst, rs_tup, rs_scr, rs_int, atI_0, atI_1, atI_2, atI_3, atI_4, atI_5, ixN_30, ixN_31, ixN_32, gEq_bl, gNe_bl, decide_eq_true_eq, beq_iff_eq, Bool.not_eq_true', beq_eq_false_iff_ne, decide_eq_false_iff_not, Bool.not_true, Bool.not_false, if_true, if_false, Bool.false_eq_true, ite_true, ite_false, true_and, and_true, ne_eq, Bool.bne_false, Bool.bne_true, reduceCtorEq])
local macro_rules | `(tactic| walk_at "rh") => `(tactic| simp only [*, startD, List.map, List.replicate, List.length_cons, List.length_nil, List.append_eq, List.append_nil, List.nil_append, List.cons_append, Nat.reduceSub, Nat.reduceAdd, List.getElem?_cons_zero, List.getElem?_cons_succ, List.set_cons_zero, List.set_cons_succ,
  dC, dVar, dOp, dTru, gTru, tru, dChain, dAnd, dOr, dNot, dAndV, dOrV, dNotV, dIf, dNeg, gNeg, dNil, dCons, dTup, dLst, dOwn, gIx, rBin, gAdd, gCmpI, dCall, dCallK, dSeq, dNext, dDrop, dRet, dRetN, dIfS, dName, dGNil, dGCons, dGTup, dSub, gSetL, dAsg, dPar, dPar3, dAug, gIpI, dSeqI, gSeqI, dRngI, gRng1, gRng2, dCB, gAbs, gInt, gMax, gMin, gGcd, gLen, lenD, gIsi, tyM, tyD, dBits, gBits, dMet, gAppend, dPart, dNoPart, dSl, gSl_tup, gSl_lst, cut_1, dEnds, gIs, isB, dNever, dFor, dLc, wipeD, dYes,
  sizeLine_eq, Nat.reduceLeDiff, gEq_int, gNe_int, gEq_strs, gNe_strs, gIn_two, gRepr_bl, rs_lst, rs_tup, rs_scr, rs_int, atI_0, atI_1, atI_2, atI_3, atI_4, atI_5, ixN_30, ixN_31, ixN_32, gEq_bl, gNe_bl, decide_eq_true_eq, beq_iff_eq, Bool.not_eq_true', beq_eq_false_iff_ne, decide_eq_false_iff_not, Bool.not_true, Bool.not_false, if_true, if_false, Bool.false_eq_true, ite_true, ite_false, true_and, and_true, ne_eq, Bool.bne_false, Bool.bne_true, reduceCtorEq])
local macro_rules | `(tactic| walk_at "kb") => `(tactic| simp only [kb_NoneType_list, kb_bool_list, kb_int_list, kb_str_list, kb_tuple_list, kb_list_list, kb_dict_list, kb_NoneType_int, kb_bool_int, kb_int_int, kb_str_int, kb_tuple_int, kb_list_int, kb_dict_int, kb_NoneType_bool, kb_bool_bool, kb_int_bool, kb_str_bool, kb_tuple_bool, kb_list_bool, kb_dict_bool, kb_NoneType_tuple, kb_bool_tuple, kb_int_tuple, kb_str_tuple, kb_tuple_tuple, kb_list_tuple, kb_dict_tuple, if_true, if_false, Bool.false_eq_true, ite_true, ite_false, Bool.not_true, Bool.not_false])
/-! ### a drawn cutting of a small measure -/
theorem allC_pos {m : Int} {l : List (List Int)} (hm : isMeas (.int m) = true) (h : AllC m l) : 0 < l.length := by
  obtain ⟨x0, hx0⟩ := cut_some hm
  exact List.length_pos_of_mem ((h.mem x0).mpr hx0)
/-! ### all deeds of a cutting -/
theorem allowed_mono {b c e q q' : Int} (hb : 1 ≤ b) (hc : 1 ≤ c) (h1 : 1 ≤ q) (h2 : q ≤ q') (h : 0 < b - q' * e - q' * q' * c) : 0 < b - q * e - q * q * c := by
  have e1 : q' * (b - q * e - q * q * c) = q * (b - q' * e - q' * q' * c) + (q' - q) * b + q * q' * (q' - q) * c := by grind
  have p1 : 0 < q * (b - q' * e - q' * q' * c) := Int.mul_pos (by omega) h
  have p2 : 0 ≤ (q' - q) * b := Int.mul_nonneg (by omega) (by omega)
  have p3 : 0 ≤ q * q' * (q' - q) * c := Int.mul_nonneg (Int.mul_nonneg (Int.mul_nonneg (by omega) (by omega)) (by omega)) (by omega)
  by_cases z : 0 < b - q * e - q * q * c
  · exact z
  · have : q' * (b - q * e - q * q * c) ≤ 0 := Int.mul_nonpos_of_nonneg_of_nonpos (by omega) (by omega)
    omega
def CovD (b c e : Int) (l : List (List Int)) (k : Int) : Prop := l.Nodup ∧ ∀ x, x ∈ l ↔ ∃ p q, x = [p, q] ∧ isDeed b c e p q = true ∧ q < k
structure AllD (b c e : Int) (l : List (List Int)) : Prop where
  nd : l.Nodup
  mem : ∀ x, x ∈ l ↔ ∃ p q, x = [p, q] ∧ isDeed b c e p q = true
  srt : LSorted l
  len : l.length ≤ 10000000
theorem AllD.uniq {b c e : Int} {l l' : List (List Int)} (h : AllD b c e l) (g : AllD b c e l') : l = l' := sorted_one h.nd g.nd (fun x => (h.mem x).trans (g.mem x).symm) h.srt g.srt
theorem AllD.of {b c e k : Int} {l l' : List (List Int)} (hb : 1 ≤ b) (hc : 1 ≤ c) (hk : 1 ≤ k) (h : CovD b c e l k) (hn : ¬ 0 < b - k * e - k * k * c) (hl : l.length ≤ 10000000) (pm : l'.Perm l) (sd : LSorted l') : AllD b c e l' := by
  refine ⟨(pm.nodup_iff).mpr h.1, fun x => ?_, sd, by rw [pm.length_eq]; exact hl⟩
  rw [pm.mem_iff, h.2]
  constructor
  · rintro ⟨p, q, rfl, h1, _⟩; exact ⟨p, q, rfl, h1⟩
  · rintro ⟨p, q, rfl, h1⟩
    refine ⟨p, q, rfl, h1, ?_⟩
    by_cases z : q < k
    · exact z
    · exact (hn (allowed_mono hb hc hk (by omega) (isDeed_parts h1).1.al)).elim
/-! ### deeds judged -/
theorem len2 {l : List D} (h : l.length = 2) : ∃ a b, l = [a, b] := by
  match l, h with
  | [a, b], _ => exact ⟨a, b, rfl⟩
/-! ### columns led down -/
end DL
namespace DL
open PySem PySem.Spec PyProof.Rows L2
local macro_rules | `(tactic| walk_at "rd") => `(tactic| simp only [startD, List.map, List.replicate, List.length_cons, List.length_nil, List.append_eq, List.append_nil, List.nil_append, List.cons_append, Nat.reduceSub, Nat.reduceAdd, List.getElem?_cons_zero, List.getElem?_cons_succ, List.set_cons_zero, List.set_cons_succ,
  dC, dVar, dOp, dTru, gTru, tru, dChain, dAnd, dOr, dNot, dAndV, dOrV, dNotV, dIf, dNeg, gNeg, dNil, dCons, dTup, dLst, dOwn, gIx, rBin, gAdd, gCmpI, dCall, dCallK, dSeq, dNext, dDrop, dRet, dRetN, dIfS, dName, dGNil, dGCons, dGTup, dSub, gSetL, dAsg, dPar, dPar3, dAug, gIpI, dSeqI, gSeqI, dRngI, gRng1, gRng2, dCB, gAbs, gInt, gMax, gMin, gGcd, gLen, lenD, gIsi, tyM, tyD, dBits, gBits, dMet, gAppend, dPart, dNoPart, dSl, gSl_tup, gSl_lst, cut_1, dEnds, gIs, isB, dNever, dFor, dLc, wipeD, dYes,
  sizeLine_eq, Nat.reduceLeDiff, gEq_int, gNe_int, gEq_strs, gNe_strs, gIn_two, gRepr_bl, rs_lst, rs_tup, rs_scr, rs_int, atI_0, atI_1, atI_2, atI_3, atI_4, atI_5, ixN_30, ixN_31, ixN_32, gEq_bl, gNe_bl, decide_eq_true_eq, beq_iff_eq, Bool.not_eq_true', beq_eq_false_iff_ne, decide_eq_false_iff_not, Bool.not_true, Bool.not_false, if_true, if_false, Bool.false_eq_true, ite_true, ite_false, true_and, and_true, ne_eq, Bool.bne_false, Bool.bne_true, reduceCtorEq])
local macro_rules | `(tactic| walk_at "rh") => `(tactic| simp only [*, startD, List.map, List.replicate, List.length_cons, List.length_nil, List.append_eq, List.append_nil, List.nil_append, List.cons_append, Nat.reduceSub, Nat.reduceAdd, List.getElem?_cons_zero, List.getElem?_cons_succ, List.set_cons_zero, List.set_cons_succ,
  dC, dVar, dOp, dTru, gTru, tru, dChain, dAnd, dOr, dNot, dAndV, dOrV, dNotV, dIf, dNeg, gNeg, dNil, dCons, dTup, dLst, dOwn, gIx, rBin, gAdd, gCmpI, dCall, dCallK, dSeq, dNext, dDrop, dRet, dRetN, dIfS, dName, dGNil, dGCons, dGTup, dSub, gSetL, dAsg, dPar, dPar3, dAug, gIpI, dSeqI, gSeqI, dRngI, gRng1, gRng2, dCB, gAbs, gInt, gMax, gMin, gGcd, gLen, lenD, gIsi, tyM, tyD, dBits, gBits, dMet, gAppend, dPart, dNoPart, dSl, gSl_tup, gSl_lst, cut_1, dEnds, gIs, isB, dNever, dFor, dLc, wipeD, dYes,
  sizeLine_eq, Nat.reduceLeDiff, gEq_int, gNe_int, gEq_strs, gNe_strs, gIn_two, gRepr_bl, rs_lst, rs_tup, rs_scr, rs_int, atI_0, atI_1, atI_2, atI_3, atI_4, atI_5, ixN_30, ixN_31, ixN_32, gEq_bl, gNe_bl, decide_eq_true_eq, beq_iff_eq, Bool.not_eq_true', beq_eq_false_iff_ne, decide_eq_false_iff_not, Bool.not_true, Bool.not_false, if_true, if_false, Bool.false_eq_true, ite_true, ite_false, true_and, and_true, ne_eq, Bool.bne_false, Bool.bne_true, reduceCtorEq])
local macro_rules | `(tactic| walk_at "kb") => `(tactic| simp only [kb_NoneType_list, kb_bool_list, kb_int_list, kb_str_list, kb_tuple_list, kb_list_list, kb_dict_list, kb_NoneType_int, kb_bool_int, kb_int_int, kb_str_int, kb_tuple_int, kb_list_int, kb_dict_int, kb_NoneType_bool, kb_bool_bool, kb_int_bool, kb_str_bool, kb_tuple_bool, kb_list_bool, kb_dict_bool, kb_NoneType_tuple, kb_bool_tuple, kb_int_tuple, kb_str_tuple, kb_tuple_tuple, kb_list_tuple, kb_dict_tuple, if_true, if_false, Bool.false_eq_true, ite_true, ite_false, Bool.not_true, Bool.not_false])
/-! ### columns of a deed's table, led down -/
/-! ### x in l -/
theorem fine_tI {n : Nat} (x : List Int) : fine (n + 2) (tI x) = true := by
  unfold tI
  simp only [fine]
  rw [fineAll_iff]
  intro d hd
  obtain ⟨i, _, rfl⟩ := List.mem_map.mp hd
  rfl
theorem fine_tIs {n : Nat} (l : List (List Int)) : fineAll (n + 2) (l.map tI) = true := by
  rw [fineAll_iff]
  intro d hd
  obtain ⟨x, _, rfl⟩ := List.mem_map.mp hd
  exact fine_tI x
end DL
/-! MF: the deed that leads back; plain -/
namespace DL
end DL
namespace DL
open PySem PySem.Spec PyProof.Rows L2
local macro_rules | `(tactic| walk_at "rd") => `(tactic| simp only [startD, List.map, List.replicate, List.length_cons, List.length_nil, List.append_eq, List.append_nil, List.nil_append, List.cons_append, Nat.reduceSub, Nat.reduceAdd, List.getElem?_cons_zero, List.getElem?_cons_succ, List.set_cons_zero, List.set_cons_succ,
  dC, dVar, dOp, dTru, gTru, tru, dChain, dAnd, dOr, dNot, dAndV, dOrV, dNotV, dIf, dNeg, gNeg, dNil, dCons, dTup, dLst, dOwn, gIx, rBin, gAdd, gCmpI, dCall, dCallK, dSeq, dNext, dDrop, dRet, dRetN, dIfS, dName, dGNil, dGCons, dGTup, dSub, gSetL, dAsg, dPar, dPar3, dAug, gIpI, dSeqI, gSeqI, dRngI, gRng1, gRng2, dCB, gAbs, gInt, gMax, gMin, gGcd, gLen, lenD, gIsi, tyM, tyD, dBits, gBits, dMet, gAppend, dPart, dNoPart, dSl, gSl_tup, gSl_lst, cut_1, dEnds, gIs, isB, dNever, dFor, dLc, wipeD, dYes,
  sizeLine_eq, Nat.reduceLeDiff, gEq_int, gNe_int, gEq_strs, gNe_strs, gIn_two, gRepr_bl, rs_lst, rs_tup, rs_scr, rs_int, atI_0, atI_1, atI_2, atI_3, atI_4, atI_5, ixN_30, ixN_31, ixN_32, gEq_bl, gNe_bl, decide_eq_true_eq, beq_iff_eq, Bool.not_eq_true', beq_eq_false_iff_ne, decide_eq_false_iff_not, Bool.not_true, Bool.not_false, if_true, if_false, Bool.false_eq_true, ite_true, ite_false, true_and, and_true, ne_eq, Bool.bne_false, Bool.bne_true, reduceCtorEq])
local macro_rules | `(tactic| walk_at "rh") => `(tactic| simp only [*, startD, List.map, List.replicate, List.length_cons, List.length_nil, List.append_eq, List.append_nil, List.nil_append, List.cons_append, Nat.reduceSub, Nat.reduceAdd, List.getElem?_cons_zero, List.getElem?_cons_succ, List.set_cons_zero, List.set_cons_succ,
  dC, dVar, dOp, dTru, gTru, tru, dChain, dAnd, dOr, dNot, dAndV, dOrV, dNotV, dIf, dNeg, gNeg, dNil, dCons, dTup, dLst, dOwn, gIx, rBin, gAdd, gCmpI, dCall, dCallK, dSeq, dNext, dDrop, dRet, dRetN, dIfS, dName, dGNil, dGCons, dGTup, dSub, gSetL, dAsg, dPar, dPar3, dAug, gIpI, dSeqI, gSeqI, dRngI, gRng1, gRng2, dCB, gAbs, gInt, gMax, gMin, gGcd, gLen, lenD, gIsi, tyM, tyD, dBits, gBits, dMet, gAppend, dPart, dNoPart, dSl, gSl_tup, gSl_lst, cut_1, dEnds, gIs, isB, dNever, dFor, dLc, wipeD, dYes,
  sizeLine_eq, Nat.reduceLeDiff, gEq_int, gNe_int, gEq_strs, gNe_strs, gIn_two, gRepr_bl, rs_lst, rs_tup, rs_scr, rs_int, atI_0, atI_1, atI_2, atI_3, atI_4, atI_5, ixN_30, ixN_31, ixN_32, gEq_bl, gNe_bl, decide_eq_true_eq, beq_iff_eq, Bool.not_eq_true', beq_eq_false_iff_ne, decide_eq_false_iff_not, Bool.not_true, Bool.not_false, if_true, if_false, Bool.false_eq_true, ite_true, ite_false, true_and, and_true, ne_eq, Bool.bne_false, Bool.bne_true, reduceCtorEq])
local macro_rules | `(tactic| walk_at "kb") => `(tactic| simp only [kb_NoneType_list, kb_bool_list, kb_int_list, kb_str_list, kb_tuple_list, kb_list_list, kb_dict_list, kb_NoneType_int, kb_bool_int, kb_int_int, kb_str_int, kb_tuple_int, kb_list_int, kb_dict_int, kb_NoneType_bool, kb_bool_bool, kb_int_bool, kb_str_bool, kb_tuple_bool, kb_list_bool, kb_dict_bool, kb_NoneType_tuple, kb_bool_tuple, kb_int_tuple, kb_str_tuple, kb_tuple_tuple, kb_list_tuple, kb_dict_tuple, if_true, if_false, Bool.false_eq_true, ite_true, ite_false, Bool.not_true, Bool.not_false])
mutual
/-- data without truth values and dicts -/
def nb : PyData → Bool
  | .none => true
  | .int _ => true
  | .str _ => true
  | .list l => nbAll l
  | .tuple l => nbAll l
  | _ => false
def nbAll : List PyData → Bool
  | [] => true
  | d :: ds => nb d && nbAll ds
end
end DL
/-! MG: how many numbers below n are free of n; plain -/
namespace DL
open Classical in
noncomputable def cnt (n : Nat) (P : Nat → Prop) : Nat := (List.range n).countP fun i => decide (P i)
open Classical in
theorem cnt_congr {n : Nat} {P Q : Nat → Prop} (h : ∀ i, i < n → (P i ↔ Q i)) : cnt n P = cnt n Q := by
  unfold cnt
  refine List.countP_congr fun i hi => ?_
  rw [decide_eq_true_iff, decide_eq_true_iff]
  exact h i (List.mem_range.mp hi)
theorem cnt_add (m n : Nat) (P : Nat → Prop) : cnt (m + n) P = cnt m P + cnt n (fun i => P (m + i)) := by
  unfold cnt
  rw [List.range_add, List.countP_append, List.countP_map]
  rfl
open Classical in
theorem cnt_none {n : Nat} {P : Nat → Prop} (h : ∀ i, i < n → ¬ P i) : cnt n P = 0 := by
  unfold cnt
  rw [List.countP_eq_zero]
  intro i hi
  rw [decide_eq_true_iff]
  exact h i (List.mem_range.mp hi)
theorem cnt_per {m : Nat} {P : Nat → Prop} (h : ∀ i, P (m + i) ↔ P i) : ∀ k, cnt (k * m) P = k * cnt m P
  | 0 => by rw [Nat.zero_mul, Nat.zero_mul]; rfl
  | k + 1 => by
    rw [Nat.succ_mul, Nat.add_comm, cnt_add, cnt_congr (n := k * m) fun i _ => h i, cnt_per h k, Nat.succ_mul, Nat.add_comm]
/-- no divisor of n below k divides i -/
def Free (n k i : Nat) : Prop := ∀ d, 2 ≤ d → d < k → d ∣ n → ¬ d ∣ i
noncomputable def phi (n : Nat) : Nat := cnt n fun i => Nat.gcd i n = 1
/-- the state of the reckoning -/
structure Fst (n k left c : Nat) : Prop where
  l1 : 1 ≤ left
  ln : left ∣ n
  low : ∀ d, 2 ≤ d → d < k → ¬ d ∣ left
  up : ∀ d, d ∣ n → (∀ e, 2 ≤ e → e < k → ¬ e ∣ d) → d ∣ left
  ct : c = cnt n (Free n k)
open Classical in
theorem Fst.start {n : Nat} (hn : 1 ≤ n) : Fst n 2 n n := by
  refine ⟨hn, Nat.dvd_refl _, fun d d2 d3 => by omega, fun d h _ => h, ?_⟩
  unfold cnt
  rw [List.countP_eq_length.mpr, List.length_range]
  intro i _
  rw [decide_eq_true_iff]
  intro d d2 d3
  omega
/-- as many in each turn -/
theorem phi_rows (n k : Nat) : cnt (k * n) (fun i => Nat.gcd i n = 1) = k * phi n := by
  refine cnt_per (fun i => ?_) k
  rw [Nat.gcd_comm (n + i), Nat.gcd_comm i, Nat.add_comm n i, Nat.gcd_add_self_right]
end DL
namespace DL
open PySem PySem.Spec PyProof.Rows L2
local macro_rules | `(tactic| walk_at "rd") => `(tactic| simp only [startD, List.map, List.replicate, List.length_cons, List.length_nil, List.append_eq, List.append_nil, List.nil_append, List.cons_append, Nat.reduceSub, Nat.reduceAdd, List.getElem?_cons_zero, List.getElem?_cons_succ, List.set_cons_zero, List.set_cons_succ,
  dC, dVar, dOp, dTru, gTru, tru, dChain, dAnd, dOr, dNot, dAndV, dOrV, dNotV, dIf, dNeg, gNeg, dNil, dCons, dTup, dLst, dOwn, gIx, rBin, gAdd, gCmpI, dCall, dCallK, dSeq, dNext, dDrop, dRet, dRetN, dIfS, dName, dGNil, dGCons, dGTup, dSub, gSetL, dAsg, dPar, dPar3, dAug, gIpI, dSeqI, gSeqI, dRngI, gRng1, gRng2, dCB, gAbs, gInt, gMax, gMin, gGcd, gLen, lenD, gIsi, tyM, tyD, dBits, gBits, dMet, gAppend, dPart, dNoPart, dSl, gSl_tup, gSl_lst, cut_1, dEnds, gIs, isB, dNever, dFor, dLc, wipeD, dYes,
  sizeLine_eq, Nat.reduceLeDiff, gEq_int, gNe_int, gEq_strs, gNe_strs, gIn_two, gRepr_bl, rs_lst, rs_tup, rs_scr, rs_int, atI_0, atI_1, atI_2, atI_3, atI_4, atI_5, ixN_30, ixN_31, ixN_32, gEq_bl, gNe_bl, decide_eq_true_eq, beq_iff_eq, Bool.not_eq_true', beq_eq_false_iff_ne, decide_eq_false_iff_not, Bool.not_true, Bool.not_false, if_true, if_false, Bool.false_eq_true, ite_true, ite_false, true_and, and_true, ne_eq, Bool.bne_false, Bool.bne_true, reduceCtorEq])
local macro_rules | `(tactic| walk_at "rh") => `(tactic| simp only [*, startD, List.map, List.replicate, List.length_cons, List.length_nil, List.append_eq, List.append_nil, List.nil_append, List.cons_append, Nat.reduceSub, Nat.reduceAdd, List.getElem?_cons_zero, List.getElem?_cons_succ, List.set_cons_zero, List.set_cons_succ,
  dC, dVar, dOp, dTru, gTru, tru, dChain, dAnd, dOr, dNot, dAndV, dOrV, dNotV, dIf, dNeg, gNeg, dNil, dCons, dTup, dLst, dOwn, gIx, rBin, gAdd, gCmpI, dCall, dCallK, dSeq, dNext, dDrop, dRet, dRetN, dIfS, dName, dGNil, dGCons, dGTup, dSub, gSetL, dAsg, dPar, dPar3, dAug, gIpI, dSeqI, gSeqI, dRngI, gRng1, gRng2, dCB, gAbs, gInt, gMax, gMin, gGcd, gLen, lenD, gIsi, tyM, tyD, dBits, gBits, dMet, gAppend, dPart, dNoPart, dSl, gSl_tup, gSl_lst, cut_1, dEnds, gIs, isB, dNever, dFor, dLc, wipeD, dYes,
  sizeLine_eq, Nat.reduceLeDiff, gEq_int, gNe_int, gEq_strs, gNe_strs, gIn_two, gRepr_bl, rs_lst, rs_tup, rs_scr, rs_int, atI_0, atI_1, atI_2, atI_3, atI_4, atI_5, ixN_30, ixN_31, ixN_32, gEq_bl, gNe_bl, decide_eq_true_eq, beq_iff_eq, Bool.not_eq_true', beq_eq_false_iff_ne, decide_eq_false_iff_not, Bool.not_true, Bool.not_false, if_true, if_false, Bool.false_eq_true, ite_true, ite_false, true_and, and_true, ne_eq, Bool.bne_false, Bool.bne_true, reduceCtorEq])
local macro_rules | `(tactic| walk_at "kb") => `(tactic| simp only [kb_NoneType_list, kb_bool_list, kb_int_list, kb_str_list, kb_tuple_list, kb_list_list, kb_dict_list, kb_NoneType_int, kb_bool_int, kb_int_int, kb_str_int, kb_tuple_int, kb_list_int, kb_dict_int, kb_NoneType_bool, kb_bool_bool, kb_int_bool, kb_str_bool, kb_tuple_bool, kb_list_bool, kb_dict_bool, kb_NoneType_tuple, kb_bool_tuple, kb_int_tuple, kb_str_tuple, kb_tuple_tuple, kb_list_tuple, kb_dict_tuple, if_true, if_false, Bool.false_eq_true, ite_true, ite_false, Bool.not_true, Bool.not_false])
end DL
/-! MH: mirrored cuttings, mirrored deeds; plain -/
namespace DL
end DL
namespace DL
open PySem PySem.Spec PyProof.Rows L2
local macro_rules | `(tactic| walk_at "rd") => `(tactic| simp only [startD, List.map, List.replicate, List.length_cons, List.length_nil, List.append_eq, List.append_nil, List.nil_append, List.cons_append, Nat.reduceSub, Nat.reduceAdd, List.getElem?_cons_zero, List.getElem?_cons_succ, List.set_cons_zero, List.set_cons_succ,
  dC, dVar, dOp, dTru, gTru, tru, dChain, dAnd, dOr, dNot, dAndV, dOrV, dNotV, dIf, dNeg, gNeg, dNil, dCons, dTup, dLst, dOwn, gIx, rBin, gAdd, gCmpI, dCall, dCallK, dSeq, dNext, dDrop, dRet, dRetN, dIfS, dName, dGNil, dGCons, dGTup, dSub, gSetL, dAsg, dPar, dPar3, dAug, gIpI, dSeqI, gSeqI, dRngI, gRng1, gRng2, dCB, gAbs, gInt, gMax, gMin, gGcd, gLen, lenD, gIsi, tyM, tyD, dBits, gBits, dMet, gAppend, dPart, dNoPart, dSl, gSl_tup, gSl_lst, cut_1, dEnds, gIs, isB, dNever, dFor, dLc, wipeD, dYes,
  sizeLine_eq, Nat.reduceLeDiff, gEq_int, gNe_int, gEq_strs, gNe_strs, gIn_two, gRepr_bl, rs_lst, rs_tup, rs_scr, rs_int, atI_0, atI_1, atI_2, atI_3, atI_4, atI_5, ixN_30, ixN_31, ixN_32, gEq_bl, gNe_bl, decide_eq_true_eq, beq_iff_eq, Bool.not_eq_true', beq_eq_false_iff_ne, decide_eq_false_iff_not, Bool.not_true, Bool.not_false, if_true, if_false, Bool.false_eq_true, ite_true, ite_false, true_and, and_true, ne_eq, Bool.bne_false, Bool.bne_true, reduceCtorEq])
local macro_rules | `(tactic| walk_at "rh") => `(tactic| simp only [*, startD, List.map, List.replicate, List.length_cons, List.length_nil, List.append_eq, List.append_nil, List.nil_append, List.cons_append, Nat.reduceSub, Nat.reduceAdd, List.getElem?_cons_zero, List.getElem?_cons_succ, List.set_cons_zero, List.set_cons_succ,
  dC, dVar, dOp, dTru, gTru, tru, dChain, dAnd, dOr, dNot, dAndV, dOrV, dNotV, dIf, dNeg, gNeg, dNil, dCons, dTup, dLst, dOwn, gIx, rBin, gAdd, gCmpI, dCall, dCallK, dSeq, dNext, dDrop, dRet, dRetN, dIfS, dName, dGNil, dGCons, dGTup, dSub, gSetL, dAsg, dPar, dPar3, dAug, gIpI, dSeqI, gSeqI, dRngI, gRng1, gRng2, dCB, gAbs, gInt, gMax, gMin, gGcd, gLen, lenD, gIsi, tyM, tyD, dBits, gBits, dMet, gAppend, dPart, dNoPart, dSl, gSl_tup, gSl_lst, cut_1, dEnds, gIs, isB, dNever, dFor, dLc, wipeD, dYes,
  sizeLine_eq, Nat.reduceLeDiff, gEq_int, gNe_int, gEq_strs, gNe_strs, gIn_two, gRepr_bl, rs_lst, rs_tup, rs_scr, rs_int, atI_0, atI_1, atI_2, atI_3, atI_4, atI_5, ixN_30, ixN_31, ixN_32, gEq_bl, gNe_bl, decide_eq_true_eq, beq_iff_eq, Bool.not_eq_true', beq_eq_false_iff_ne, decide_eq_false_iff_not, Bool.not_true, Bool.not_false, if_true, if_false, Bool.false_eq_true, ite_true, ite_false, true_and, and_true, ne_eq, Bool.bne_false, Bool.bne_true, reduceCtorEq])
local macro_rules | `(tactic| walk_at "kb") => `(tactic| simp only [kb_NoneType_list, kb_bool_list, kb_int_list, kb_str_list, kb_tuple_list, kb_list_list, kb_dict_list, kb_NoneType_int, kb_bool_int, kb_int_int, kb_str_int, kb_tuple_int, kb_list_int, kb_dict_int, kb_NoneType_bool, kb_bool_bool, kb_int_bool, kb_str_bool, kb_tuple_bool, kb_list_bool, kb_dict_bool, kb_NoneType_tuple, kb_bool_tuple, kb_int_tuple, kb_str_tuple, kb_tuple_tuple, kb_list_tuple, kb_dict_tuple, if_true, if_false, Bool.false_eq_true, ite_true, ite_false, Bool.not_true, Bool.not_false])
theorem gcd_pos' {b c : Int} (hc : 1 ≤ c) : 0 < (Int.gcd b c : Int) := by
  have := Int.gcd_pos_of_ne_zero_right b (show c ≠ 0 by omega)
  omega
theorem gNe_res {n : Nat} {d e x : D} {M : Mem} {Q : DQ} (h1 : res M d = x) (h2 : res M e = x) (h : fine n x = true) (q : Q (.bl false) M) (hn : n ≤ 64 := by decide) : gNe d e M Q := by
  unfold gNe
  rw [h1, h2, eqB_self h hn]
  exact q
theorem fine_lst_tIs {n : Nat} (l : List (List Int)) : fine (n + 3) (.lst (l.map tI)) = true := by simp only [fine]; exact fine_tIs l
/-! calls whose answers are known -/
end DL
namespace DL
open PySem PySem.Spec PyProof.Rows L2
local macro_rules | `(tactic| walk_at "rd") => `(tactic| simp only [startD, List.map, List.replicate, List.length_cons, List.length_nil, List.append_eq, List.append_nil, List.nil_append, List.cons_append, Nat.reduceSub, Nat.reduceAdd, List.getElem?_cons_zero, List.getElem?_cons_succ, List.set_cons_zero, List.set_cons_succ,
  dC, dVar, dOp, dTru, gTru, tru, dChain, dAnd, dOr, dNot, dAndV, dOrV, dNotV, dIf, dNeg, gNeg, dNil, dCons, dTup, dLst, dOwn, gIx, rBin, gAdd, gCmpI, dCall, dCallK, dSeq, dNext, dDrop, dRet, dRetN, dIfS, dName, dGNil, dGCons, dGTup, dSub, gSetL, dAsg, dPar, dPar3, dAug, gIpI, dSeqI, gSeqI, dRngI, gRng1, gRng2, dCB, gAbs, gInt, gMax, gMin, gGcd, gLen, lenD, gIsi, tyM, tyD, dBits, gBits, dMet, gAppend, dPart, dNoPart, dSl, gSl_tup, gSl_lst, cut_1, dEnds, gIs, isB, dNever, dFor, dLc, wipeD, dYes,
  sizeLine_eq, Nat.reduceLeDiff, gEq_int, gNe_int, gEq_strs, gNe_strs, gIn_two, gRepr_bl, rs_lst, rs_tup, rs_scr, rs_int, atI_0, atI_1, atI_2, atI_3, atI_4, atI_5, ixN_30, ixN_31, ixN_32, gEq_bl, gNe_bl, decide_eq_true_eq, beq_iff_eq, Bool.not_eq_true', beq_eq_false_iff_ne, decide_eq_false_iff_not, Bool.not_true, Bool.not_false, if_true, if_false, Bool.false_eq_true, ite_true, ite_false, true_and, and_true, ne_eq, Bool.bne_false, Bool.bne_true, reduceCtorEq])
local macro_rules | `(tactic| walk_at "rh") => `(tactic| simp only [*, startD, List.map, List.replicate, List.length_cons, List.length_nil, List.append_eq, List.append_nil, List.nil_append, List.cons_append, Nat.reduceSub, Nat.reduceAdd, List.getElem?_cons_zero, List.getElem?_cons_succ, List.set_cons_zero, List.set_cons_succ,
  dC, dVar, dOp, dTru, gTru, tru, dChain, dAnd, dOr, dNot, dAndV, dOrV, dNotV, dIf, dNeg, gNeg, dNil, dCons, dTup, dLst, dOwn, gIx, rBin, gAdd, gCmpI, dCall, dCallK, dSeq, dNext, dDrop, dRet, dRetN, dIfS, dName, dGNil, dGCons, dGTup, dSub, gSetL, dAsg, dPar, dPar3, dAug, gIpI, dSeqI, gSeqI, dRngI, gRng1, gRng2, dCB, gAbs, gInt, gMax, gMin, gGcd, gLen, lenD, gIsi, tyM, tyD, dBits, gBits, dMet, gAppend, dPart, dNoPart, dSl, gSl_tup, gSl_lst, cut_1, dEnds, gIs, isB, dNever, dFor, dLc, wipeD, dYes,
  sizeLine_eq, Nat.reduceLeDiff, gEq_int, gNe_int, gEq_strs, gNe_strs, gIn_two, gRepr_bl, rs_lst, rs_tup, rs_scr, rs_int, atI_0, atI_1, atI_2, atI_3, atI_4, atI_5, ixN_30, ixN_31, ixN_32, gEq_bl, gNe_bl, decide_eq_true_eq, beq_iff_eq, Bool.not_eq_true', beq_eq_false_iff_ne, decide_eq_false_iff_not, Bool.not_true, Bool.not_false, if_true, if_false, Bool.false_eq_true, ite_true, ite_false, true_and, and_true, ne_eq, Bool.bne_false, Bool.bne_true, reduceCtorEq])
local macro_rules | `(tactic| walk_at "kb") => `(tactic| simp only [kb_NoneType_list, kb_bool_list, kb_int_list, kb_str_list, kb_tuple_list, kb_list_list, kb_dict_list, kb_NoneType_int, kb_bool_int, kb_int_int, kb_str_int, kb_tuple_int, kb_list_int, kb_dict_int, kb_NoneType_bool, kb_bool_bool, kb_int_bool, kb_str_bool, kb_tuple_bool, kb_list_bool, kb_dict_bool, kb_NoneType_tuple, kb_bool_tuple, kb_int_tuple, kb_str_tuple, kb_tuple_tuple, kb_list_tuple, kb_dict_tuple, if_true, if_false, Bool.false_eq_true, ite_true, ite_false, Bool.not_true, Bool.not_false])
/-! ### the sides of cuttings -/
theorem two_len {α : Type} {p q : α} : ∀ {l : List α}, l.Nodup → (∀ z ∈ l, z = p ∨ z = q) → l.length ≤ 2
  | [], _, _ => by simp
  | [_], _, _ => by simp
  | [_, _], _, _ => by simp
  | x :: y :: z :: l, nd, h => by
    exfalso
    obtain ⟨a1, a2⟩ := List.nodup_cons.mp nd
    obtain ⟨b1, _⟩ := List.nodup_cons.mp a2
    have xy : x ≠ y := fun e => a1 (by rw [e]; exact List.mem_cons_self)
    have xz : x ≠ z := fun e => a1 (by rw [e]; exact List.mem_cons_of_mem _ List.mem_cons_self)
    have yz : y ≠ z := fun e => b1 (by rw [e]; exact List.mem_cons_self)
    rcases h x List.mem_cons_self with e1 | e1 <;> rcases h y (List.mem_cons_of_mem _ List.mem_cons_self) with e2 | e2 <;> rcases h z (List.mem_cons_of_mem _ (List.mem_cons_of_mem _ List.mem_cons_self)) with e3 | e3
    · exact xy (e1.trans e2.symm)
    · exact xy (e1.trans e2.symm)
    · exact xz (e1.trans e3.symm)
    · exact yz (e2.trans e3.symm)
    · exact yz (e2.trans e3.symm)
    · exact xz (e1.trans e3.symm)
    · exact xy (e1.trans e2.symm)
    · exact xy (e1.trans e2.symm)
structure SidesOK (m e : Int) (l : List (List Int)) : Prop where
  nd : l.Nodup
  mem : ∀ x, x ∈ l ↔ ∃ b c : Int, x = [b, c] ∧ 1 ≤ b ∧ 1 ≤ c ∧ 4 * (b * c) = m - e * e ∧ c + e < b
  len : l.length ≤ 130
def sp_sides_with : DSp := fun ds M Q _ => ∃ m e : Int, ds = [.int m, .int e] ∧ 0 ≤ m ∧ m ≤ 16300 ∧ Bi 100 e ∧ ∀ l, SidesOK m e l → Q (.lst (l.map tI)) M
theorem rd_sides_with : ∀ ds M Q, ds.length = 2 → sp_sides_with ds M Q DX0 → t_sides_with (dEnds M Q) (startD 7 ds) M := by
  rintro _ M Q - ⟨m, e, rfl, m0, m1, be, q⟩
  unfold t_sides_with
  have he2 := sq_nn e
  generalize hee : e * e = ee at *
  have hnone : m - ee ≤ 0 ∨ (m - ee) % 4 ≠ 0 → SidesOK m e [] := fun h => by
    refine ⟨List.nodup_nil, fun x => ⟨fun z => (by cases z), ?_⟩, by simp⟩
    rintro ⟨b, c, rfl, hb, hc, h1, h2⟩
    have : 1 * 1 ≤ b * c := Int.mul_le_mul hb hc (by decide) (by omega)
    rw [hee] at h1
    omega
  refine dSeq_open fun B hB => ?_
  walk_at "rd"
  refine ⟨⟨be.sm, be.sm⟩, ?_⟩
  rw [hee, ← hB]
  clear hB B
  refine dSeq_open fun B hB => ?_
  walk_at "rd"
  have hdrop : ∀ l, SidesOK m e l → Rtq M Q (.lst (l.map tI)) (M ++ [.lst []]) := fun l hl => rtqG (q l hl) (below_tIs l)
  by_cases h1 : m - ee ≤ 0
  · rw [if_pos h1]
    exact hdrop [] (hnone (.inl h1))
  rw [if_neg h1]
  refine ⟨(by decide : (4 : Int) ≠ 0), ?_⟩
  rw [fmod_pos (show (0 : Int) < 4 by decide)]
  by_cases h2 : (m - ee) % 4 = 0
  · rw [if_neg (fun z => z h2), ← hB]
    clear hB B
    refine dSeq_open fun B hB => ?_
    walk_at "rd"
    rw [fdiv_pos (show (0 : Int) < 4 by decide)]
    refine ⟨⟨by decide, by decide⟩, ?_⟩
    obtain ⟨W, hW⟩ : ∃ W, (m - ee) / 4 = W := ⟨_, rfl⟩
    have w1 : 1 ≤ W ∧ W ≤ 4075 := by omega
    have w4 : 4 * W = m - ee := by omega
    rw [hW, ← hB]
    clear hB B
    refine dSeq_open fun B hB => ?_
    refine dwhile_of (fun n r M' => ∃ (l : List (List Int)) (side : Int) (t5 t6 : Option D), M' = M ++ [.lst (l.map tI)] ∧ r = [some (.int m), some (.int e), some (.int W), some (.own M.length), some (.int side), t5, t6] ∧ 1 ≤ side ∧ side ≤ 64 ∧ n = (64 - side).toNat ∧
      l.Nodup ∧ (∀ x, x ∈ l ↔ ∃ b c : Int, x = [b, c] ∧ 1 ≤ b ∧ 1 ≤ c ∧ b * c = W ∧ c + e < b ∧ (b < side ∨ c < side)) ∧ (l.length : Int) ≤ 2 * (side - 1)) _ ⟨[], 1, none, none, rfl, rfl, by omega, by omega, rfl, List.nodup_nil, fun x => ⟨fun z => (by cases z), ?_⟩, by simp⟩ ?_
    · rintro ⟨b, c, _, hb, hc, _, _, h | h⟩ <;> omega
    rintro n r M' ⟨l, side, t5, t6, rfl, rfl, s1, s2, rfl, hnd, hmem, hlen⟩
    have bs : Bi 10 side := Bi.of_abs 100 (by omega) (by decide)
    walk_at "rd"
    refine ⟨⟨bs.sm, bs.sm⟩, ?_⟩
    by_cases hss : side * side ≤ W
    · rw [if_pos hss]
      have s3 : side ≤ 63 := by
        by_cases z : side ≤ 63
        · exact z
        · have : 64 * 64 ≤ side * side := Int.mul_le_mul (by omega) (by omega) (by decide) (by omega)
          omega
      refine ⟨show side ≠ 0 by omega, ?_⟩
      rw [fmod_pos (show 0 < side by omega)]
      by_cases hd : W % side = 0
      · rw [if_pos hd]
        obtain ⟨o, ho⟩ := Int.dvd_of_emod_eq_zero hd
        have eo : W.fdiv side = o := by rw [fdiv_pos (show 0 < side by omega), ho]; exact Int.mul_ediv_cancel_left _ (by omega)
        have o1 : side ≤ o := by
          by_cases z : side ≤ o
          · exact z
          · have : side * o ≤ side * (side - 1) := Int.mul_le_mul_of_nonneg_left (by omega) (by omega)
            have : side * (side - 1) < side * side := Int.mul_lt_mul_of_pos_left (by omega) (by omega)
            omega
        have cdiv : CDiv W side := ⟨by omega, Nat.lt_of_lt_of_le (log2_of 10 bs (by decide)) (by decide)⟩
        unfold dSort2
        walk_at "rd"
        rw [eo]
        refine ⟨cdiv, cdiv, [o, side], [side, o], rfl, rfl, rfl, rfl, by simp; omega, fun l2 nd2 mem2 _ => ?_⟩
        have hcond : ∀ x : List Int, x ∈ l2 → ∃ b c : Int, x = [b, c] ∧ b * c = W ∧ side ≤ b ∧ side ≤ c := fun x hx => by
          rcases (mem2 x).mp hx with rfl | rfl
          · exact ⟨o, side, rfl, by rw [Int.mul_comm]; exact ho.symm, o1, Int.le_refl _⟩
          · exact ⟨side, o, rfl, ho.symm, Int.le_refl _, o1⟩
        have hl2 : l2.length ≤ 2 := two_len nd2 fun z hz => (mem2 z).mp hz
        refine ⟨fun i r M' => ∃ t5 t6, M' = M ++ [.lst ((l ++ (l2.take i).filter fun x => decide (x.getD 1 0 + e < x.getD 0 0)).map tI)] ∧ r = [some (.int m), some (.int e), some (.int W), some (.own M.length), some (.int side), t5, t6], ⟨_, _, by rw [List.take_zero, List.filter_nil, List.append_nil], rfl⟩, ?_⟩
        rintro i r M' ⟨t5, t6, rfl, rfl⟩
        refine ⟨trivial, fun hli => ?_, fun d hd2 => ?_⟩
        · rw [List.length_map] at hli
          rw [List.take_of_length_le hli]
          walk_at "rd"
          refine ⟨(64 - (side + 1)).toNat, by omega, _, side + 1, t5, t6, rfl, rfl, by omega, by omega, rfl, ?_, fun x => ?_, ?_⟩
          · refine List.nodup_append.mpr ⟨hnd, nd2.filter _, fun x hx y hy z => ?_⟩
            subst z
            obtain ⟨b, c, rfl, _, _, _, _, h5⟩ := (hmem x).mp hx
            obtain ⟨b', c', e', _, g1, g2⟩ := hcond _ (List.mem_filter.mp hy).1
            cases e'
            omega
          · rw [List.mem_append, hmem, List.mem_filter]
            constructor
            · rintro (⟨b, c, rfl, i1, i2, i3, i4, i5⟩ | ⟨hx, hc⟩)
              · exact ⟨b, c, rfl, i1, i2, i3, i4, by omega⟩
              · obtain ⟨b, c, rfl, g0, g1, g2⟩ := hcond x hx
                have hc' : c + e < b := of_decide_eq_true hc
                refine ⟨b, c, rfl, by omega, by omega, g0, hc', ?_⟩
                rcases (mem2 _).mp hx with z | z
                · cases z; exact .inr (by omega)
                · cases z; exact .inl (by omega)
            · rintro ⟨b, c, rfl, i1, i2, i3, i4, i5⟩
              by_cases z : b < side ∨ c < side
              · exact .inl ⟨b, c, rfl, i1, i2, i3, i4, z⟩
              · refine .inr ⟨(mem2 _).mpr ?_, decide_eq_true i4⟩
                rcases (by omega : b = side ∨ c = side) with rfl | rfl
                · have : c = o := Int.eq_of_mul_eq_mul_left (show b ≠ 0 by omega) (by omega)
                  subst this; exact .inr rfl
                · have : b = o := Int.eq_of_mul_eq_mul_right (show c ≠ 0 by omega) (by rw [i3, ho, Int.mul_comm])
                  subst this; exact .inl rfl
          · rw [List.length_append]
            have := List.length_filter_le (fun x : List Int => decide (x.getD 1 0 + e < x.getD 0 0)) l2
            omega
        · rw [List.getElem?_map] at hd2
          obtain ⟨x, hx, rfl⟩ := Option.map_eq_some_iff.mp hd2
          obtain ⟨b, c, rfl, g0, g1, g2⟩ := hcond x (List.mem_of_getElem? hx)
          have htake : l2.take (i + 1) = l2.take i ++ [[b, c]] := by rw [List.take_succ, hx]; rfl
          rw [show tI [b, c] = .tup [.int b, .int c] from rfl]
          walk_at "rd"
          rw [htake, List.filter_append]
          by_cases hc : c + e < b
          · rw [if_pos hc]
            refine ⟨⟨_, _, rfl, new_at M _⟩, ?_⟩
            rw [new_at]
            dsimp only
            have hlf := List.length_filter_le (fun x : List Int => decide (x.getD 1 0 + e < x.getD 0 0)) (l2.take i)
            have hlt : (l2.take i).length ≤ l2.length := by rw [List.length_take]; omega
            refine ⟨by rw [List.length_map, List.length_append]; omega, _, _, ?_, rfl⟩
            rw [List.set_append_right _ _ (Nat.le_refl _), Nat.sub_self, show [[b, c]].filter (fun x : List Int => decide (x.getD 1 0 + e < x.getD 0 0)) = [[b, c]] from by
              rw [List.filter_cons_of_pos (by simpa using hc)]; rfl, ← List.append_assoc]
            have e1 : ∀ A : List (List Int), (A ++ [[b, c]]).map tI = A.map tI ++ [.tup [.int b, .int c]] := fun A => by rw [List.map_append]; rfl
            rw [e1]
            rfl
          · rw [if_neg hc]
            refine ⟨_, _, ?_, rfl⟩
            rw [show [[b, c]].filter (fun x : List Int => decide (x.getD 1 0 + e < x.getD 0 0)) = [] from by
              rw [List.filter_cons_of_neg (by simpa using hc)]; rfl, List.append_nil]
      · rw [if_neg hd]
        refine ⟨(64 - (side + 1)).toNat, by omega, l, side + 1, t5, t6, rfl, rfl, by omega, by omega, rfl, hnd, fun x => (hmem x).trans ?_, by omega⟩
        constructor
        · rintro ⟨b, c, rfl, i1, i2, i3, i4, i5⟩
          exact ⟨b, c, rfl, i1, i2, i3, i4, by omega⟩
        · rintro ⟨b, c, rfl, i1, i2, i3, i4, i5⟩
          refine ⟨b, c, rfl, i1, i2, i3, i4, ?_⟩
          by_cases zb : b = side
          · exact absurd (by rw [← i3, zb]; exact Int.mul_emod_right _ _) hd
          · by_cases zc : c = side
            · exact absurd (by rw [← i3, zc]; exact Int.mul_emod_left _ _) hd
            · omega
    · rw [if_neg hss, ← hB]
      unfold dFrz
      walk_at "rd"
      unfold gFrz
      dsimp only
      rw [new_at]
      dsimp only
      rw [List.set_append_right _ _ (Nat.le_refl _), Nat.sub_self]
      refine rtqG (q l ⟨hnd, fun x => (hmem x).trans ?_, by omega⟩) (below_tIs l)
      constructor
      · rintro ⟨b, c, rfl, i1, i2, i3, i4, i5⟩
        exact ⟨b, c, rfl, i1, i2, by rw [hee]; omega, i4⟩
      · rintro ⟨b, c, rfl, i1, i2, i3, i4⟩
        rw [hee] at i3
        refine ⟨b, c, rfl, i1, i2, by omega, i4, ?_⟩
        by_cases z : b < side ∨ c < side
        · exact z
        · have : side * side ≤ b * c := Int.mul_le_mul (by omega) (by omega) (by omega) (by omega)
          omega
  · rw [if_pos h2]
    exact hdrop [] (hnone (.inr h2))
/-! ### what the first numbers may be -/
def lowP (b c e : Int) (n : Nat) : List Int := (List.range n).filterMap fun (i : Nat) => if (Int.gcd (i : Int) (Int.gcd (Int.gcd b c : Int) e : Int) : Int) = 1 then some (i : Int) else none
def sp_lows_with : DSp := fun ds M Q _ => ∃ b c e : Int, ds = [.int b, .int c, .int e] ∧ 1 ≤ c ∧ Bi 100 b ∧ Bi 100 c ∧ Bi 100 e ∧ (Int.gcd b c : Int) ≤ 100000 ∧ Q (.lst ((lowP b c e (Int.gcd b c)).map D.int)) M
theorem rng_fmi {n : Nat} {lo : Int} {f : D → Option D} {g : Nat → Option Int} (h : ∀ i : Nat, f (.int (lo + (i : Int))) = (g i).map D.int) : (rng lo n).filterMap f = ((List.range n).filterMap g).map D.int := by
  unfold rng
  rw [List.filterMap_map, List.map_filterMap]
  congr 1
  funext i
  exact h i
theorem below_ints {n : Nat} : ∀ l : List Int, belowAll n (l.map D.int) = true
  | [] => rfl
  | i :: l => by show (true && belowAll n (l.map D.int)) = true; rw [below_ints l]; rfl
theorem rd_lows_with : ∀ ds M Q, ds.length = 3 → sp_lows_with ds M Q DX0 → t_lows_with sp_gcd (dEnds M Q) (startD 6 ds) M := by
  rintro _ M Q - ⟨b, c, e, rfl, hc, bb, bc, be, hg, q⟩
  unfold t_lows_with
  have G0 := gcd_pos' (b := b) hc
  refine dSeq_open fun B hB => ?_
  walk_at "rd"
  refine ⟨b, c, rfl, ?_⟩
  dsimp only
  rw [← hB]
  clear hB B
  refine dSeq_open fun B hB => ?_
  walk_at "rd"
  refine ⟨_, e, rfl, ?_⟩
  dsimp only
  rw [← hB]
  clear hB B
  walk_at "rd"
  refine ⟨⟨by omega, by omega⟩, ?_⟩
  refine lcW_pure (fun d => match d with | .int p => if (Int.gcd p (Int.gcd (Int.gcd b c : Int) e : Int) : Int) = 1 then some (.int p) else none | _ => none) trivial (by rw [rng_len, sizeLine_eq]; omega) (fun d hd Y N' hy => ?_) ?_
  · obtain ⟨i2, hi2'⟩ := List.mem_iff_getElem?.mp hd
    obtain ⟨hi3, rfl⟩ := rng_get.mp hi2'
    walk_at "rd"
    refine ⟨_, _, rfl, ?_⟩
    dsimp only at hy ⊢
    rw [gEq_int]
    dsimp only
    by_cases hg : (Int.gcd (0 + (i2 : Int)) (Int.gcd (Int.gcd b c : Int) e : Int) : Int) = 1
    · rw [if_pos hg] at hy
      rw [if_pos (by simpa using hg)]
      exact hy
    · rw [if_neg hg] at hy
      rw [if_neg (by simpa using hg)]
      exact hy
  · rw [rng_fmi (g := fun i => if (Int.gcd (i : Int) (Int.gcd (Int.gcd b c : Int) e : Int) : Int) = 1 then some (i : Int) else none) (fun i => by
      show (if (Int.gcd (0 + (i : Int)) (Int.gcd (Int.gcd b c : Int) e : Int) : Int) = 1 then some (D.int (0 + (i : Int))) else none) = _
      rw [Int.zero_add]
      split <;> rfl)]
    exact rtq q (below_ints _)
/-- .. are those of cuttings -/
theorem lowP_mem {b c e : Int} (hb : 1 ≤ b) (hc : 1 ≤ c) (hr : c + e < b) {a : Int} : a ∈ lowP b c e (Int.gcd b c) ↔ isCut a b c e = true := by
  unfold lowP
  rw [List.mem_filterMap]
  have hg : ∀ a : Int, (Int.gcd a (Int.gcd (Int.gcd b c : Int) e : Int) : Int) = (Int.gcd (Int.gcd a (Int.gcd b c : Int) : Int) e : Int) := fun a => by
    rw [← Int.gcd_assoc]
  constructor
  · rintro ⟨i, hi, h⟩
    by_cases z : (Int.gcd (i : Int) (Int.gcd (Int.gcd b c : Int) e : Int) : Int) = 1
    · rw [if_pos z] at h
      cases h
      rw [hg] at z
      have := List.mem_range.mp hi
      simp only [isCut, Bool.and_eq_true, decide_eq_true_eq, beq_iff_eq]
      exact ⟨hb, hc, hr, by omega, by omega, z⟩
    · rw [if_neg z] at h; cases h
  · intro h
    obtain ⟨_, _, _, k4, k5, k6⟩ := cut_parts h
    obtain ⟨i, rfl⟩ := Int.eq_ofNat_of_zero_le k4
    refine ⟨i, List.mem_range.mpr (by omega), ?_⟩
    rw [if_pos (by rw [hg]; exact k6)]
theorem lowP_nodup {b c e : Int} {n : Nat} : (lowP b c e n).Nodup := by
  unfold lowP
  refine List.Pairwise.filterMap _ (fun a a' (hne : a ≠ a') x hx y hy => ?_) List.nodup_range
  by_cases h1 : (Int.gcd (a : Int) (Int.gcd (Int.gcd b c : Int) e : Int) : Int) = 1
  · by_cases h2 : (Int.gcd (a' : Int) (Int.gcd (Int.gcd b c : Int) e : Int) : Int) = 1
    · rw [if_pos h1] at hx
      rw [if_pos h2] at hy
      cases hx; cases hy
      intro z
      omega
    · rw [if_neg h2] at hy; cases hy
  · rw [if_neg h1] at hx; cases hx
theorem lowP_len {b c e : Int} {n : Nat} : (lowP b c e n).length ≤ n := by
  unfold lowP
  exact Nat.le_trans (List.length_filterMap_le _ _) (by rw [List.length_range]; omega)
/-- the cuttings with one turn -/
def rowC (b c e : Int) : List (List Int) := (lowP b c e (Int.gcd b c)).map fun a => [a, b, c, e]
def sp_with_turn : DSp := fun ds M Q _ => ∃ m e : Int, ds = [.int m, .int e] ∧ 0 ≤ m ∧ m ≤ 16300 ∧ Bi 100 e ∧ ∀ l, CovX m l (fun _ e' => e' = e) → l.length ≤ 10000 → Q (.lst (l.map tI)) M
theorem rd_with_turn : ∀ ds M Q, ds.length = 2 → sp_with_turn ds M Q DX0 → t_with_turn sp_sides_with sp_lows_with (dEnds M Q) (startD 6 ds) M := by
  rintro _ M Q - ⟨m, e, rfl, m0, m1, be, q⟩
  unfold t_with_turn
  have he2 := sq_nn e
  refine dSeq_open fun B hB => ?_
  walk_at "rd"
  rw [← hB]
  clear hB B
  refine dSeq_open fun B hB => ?_
  walk_at "rd"
  refine ⟨m, e, rfl, m0, m1, be, fun l hl => ?_⟩
  have hx : ∀ x ∈ l, ∃ b c : Int, x = [b, c] ∧ 1 ≤ b ∧ 1 ≤ c ∧ 4 * (b * c) = m - e * e ∧ c + e < b ∧ b ≤ 4075 ∧ c ≤ 4075 := fun x h => by
    obtain ⟨b, c, rfl, h1, h2, h3, h4⟩ := (hl.mem x).mp h
    have i1 : b * 1 ≤ b * c := Int.mul_le_mul_of_nonneg_left h2 (by omega)
    have i2 : 1 * c ≤ b * c := Int.mul_le_mul_of_nonneg_right h1 (by omega)
    exact ⟨b, c, rfl, h1, h2, h3, h4, by omega, by omega⟩
  have hll := hl.len
  refine ⟨fun i r M' => M' = M ∧ ∃ (L : List (List Int)) (t3 t4 : Option D), r = [some (.int m), some (.int e), some (.lst (L.map tI)), t3, t4, none] ∧ L.Nodup ∧ (∀ y, y ∈ L ↔ ∃ a b c : Int, y = [a, b, c, e] ∧ [b, c] ∈ l.take i ∧ isCut a b c e = true) ∧ L.length ≤ 64 * i ∧ i ≤ l.length, ⟨rfl, [], none, none, rfl, List.nodup_nil, fun y => ⟨fun h => (by cases h), ?_⟩, by simp, Nat.zero_le _⟩, ?_⟩
  · rintro ⟨a, b, c, _, h, _⟩
    rw [List.take_zero] at h
    cases h
  rintro i r M' ⟨rfl, L, t3, t4, rfl, hnd, hmem, hlen, hi⟩
  refine ⟨trivial, fun hli => ?_, fun d hd => ?_⟩
  · rw [List.length_map] at hli
    rw [← hB]
    clear hB B
    rw [List.take_of_length_le hli] at hmem
    walk_at "rd"
    refine rtq (q L ⟨hnd, fun y => (hmem y).trans ?_⟩ (by omega)) (below_tIs L)
    constructor
    · rintro ⟨a, b, c, rfl, h1, h2⟩
      obtain ⟨b', c', e', _, _, h3, _⟩ := hx _ h1
      cases e'
      exact ⟨a, b, c, e, rfl, h2, meas_bc.mpr h3, rfl⟩
    · rintro ⟨a, b, c, e', rfl, h1, h2, rfl⟩
      obtain ⟨k1, k2, k3, _⟩ := cut_parts h1
      exact ⟨a, b, c, rfl, (hl.mem _).mpr ⟨b, c, rfl, k1, k2, meas_bc.mp h2, k3⟩, h1⟩
  · rw [List.getElem?_map] at hd
    obtain ⟨x, hxi, rfl⟩ := Option.map_eq_some_iff.mp hd
    have hxm := List.mem_of_getElem? hxi
    obtain ⟨b, c, rfl, b1, c1, h3, h4, b5, c5⟩ := hx x hxm
    have bb : Bi 100 b := Bi.of_abs 5000 (by omega) (by decide)
    have bc : Bi 100 c := Bi.of_abs 5000 (by omega) (by decide)
    have gl : (Int.gcd b c : Int) ≤ c := Int.le_of_dvd (by omega) (Int.gcd_dvd_right _ _)
    have gb : (Int.gcd b c : Int) ≤ b := Int.le_of_dvd (by omega) (Int.gcd_dvd_left _ _)
    have g40 : (Int.gcd b c : Int) ≤ 64 := by
      by_cases z : (Int.gcd b c : Int) ≤ 64
      · exact z
      · have : 65 * 65 ≤ b * c := Int.mul_le_mul (by omega) (by omega) (by decide) (by omega)
        omega
    have htake : l.take (i + 1) = l.take i ++ [[b, c]] := by rw [List.take_succ, hxi]; rfl
    have hil : i < l.length := (List.getElem?_eq_some_iff.mp hxi).1
    rw [show tI [b, c] = .tup [.int b, .int c] from rfl]
    walk_at "rd"
    refine ⟨b, c, e, rfl, c1, bb, bc, be, by omega, ?_⟩
    have hpl := lowP_len (b := b) (c := c) (e := e) (n := Int.gcd b c)
    refine lcW_pure (fun d => match d with | .int p => some (T4 p b c e) | _ => none) trivial (by rw [List.length_map, sizeLine_eq]; omega) (fun d hd Y N' hy => ?_) ?_
    · obtain ⟨a, _, rfl⟩ := List.mem_map.mp hd
      walk_at "rd"
      exact hy
    have efm : ((lowP b c e (Int.gcd b c)).map D.int).filterMap (fun d => match d with | .int p => some (T4 p b c e) | _ => none) = (rowC b c e).map tI := by
      unfold rowC
      have : ∀ l : List Int, (l.map D.int).filterMap (fun d => match d with | .int p => some (T4 p b c e) | _ => none) = (l.map fun a => [a, b, c, e]).map tI := by
        intro l
        induction l with
        | nil => rfl
        | cons a l ih => rw [List.map_cons, List.map_cons, List.map_cons, ← ih]; rfl
      exact this _
    rw [efm]
    have hrl : (rowC b c e).length ≤ 64 := by unfold rowC; rw [List.length_map]; omega
    dsimp only
    have hnew : [b, c] ∉ l.take i := fun z => by
      obtain ⟨j, hj1, hj2⟩ := List.mem_iff_getElem.mp z
      rw [List.length_take] at hj1
      rw [List.getElem_take] at hj2
      have hi2 := (List.getElem?_eq_some_iff.mp hxi).2
      exact (List.pairwise_iff_getElem.mp hl.nd) j i (by omega) hil (by omega) (hj2.trans hi2.symm)
    refine ⟨by rw [List.length_map, List.length_map]; omega, rfl, L ++ rowC b c e, _, _, by rw [List.map_append], ?_, fun y => ?_, by rw [List.length_append]; omega, by omega⟩
    · refine List.nodup_append.mpr ⟨hnd, ?_, fun x hx' y hy z => ?_⟩
      · unfold rowC
        refine List.pairwise_map.mpr (lowP_nodup.imp fun h z => ?_)
        cases z
        exact h rfl
      · subst z
        unfold rowC at hy
        obtain ⟨a, _, rfl⟩ := List.mem_map.mp hy
        obtain ⟨a', b', c', e', h5, _⟩ := (hmem _).mp hx'
        cases e'
        exact hnew h5
    · rw [List.mem_append, hmem, htake]
      constructor
      · rintro (⟨a, b', c', rfl, h5, h6⟩ | hy)
        · exact ⟨a, b', c', rfl, List.mem_append_left _ h5, h6⟩
        · unfold rowC at hy
          obtain ⟨a, ha, rfl⟩ := List.mem_map.mp hy
          exact ⟨a, b, c, rfl, List.mem_append_right _ List.mem_cons_self, (lowP_mem b1 c1 h4).mp ha⟩
      · rintro ⟨a, b', c', rfl, h5, h6⟩
        rcases List.mem_append.mp h5 with h5 | h5
        · exact .inl ⟨a, b', c', rfl, h5, h6⟩
        · cases List.mem_singleton.mp h5
          refine .inr ?_
          unfold rowC
          exact List.mem_map.mpr ⟨a, (lowP_mem b1 c1 h4).mpr h6, rfl⟩
/-! ### all turns -/
structure TurnsOK (m : Int) (l : List Int) : Prop where
  nd : l.Nodup
  bd : ∀ e ∈ l, -128 ≤ e ∧ e ≤ 128
  all : ∀ e : Int, e * e < m → (m - e) % 2 = 0 → e ∈ l
  len : l.length ≤ 260
def sp_turns_of : DSp := fun ds M Q _ => ∃ m : Int, ds = [.int m] ∧ 5 ≤ m ∧ m ≤ 16300 ∧ ∀ l, TurnsOK m l → Q (.lst (l.map D.int)) M
theorem rd_turns_of : ∀ ds M Q, ds.length = 1 → sp_turns_of ds M Q DX0 → t_turns_of sp_isq (dEnds M Q) (startD 3 ds) M := by
  rintro _ M Q - ⟨m, rfl, m5, m1, q⟩
  unfold t_turns_of
  refine dSeq_open fun B hB => ?_
  walk_at "rd"
  have h0 := isq_nn (m - 1)
  have h1 := isq_le (n := m - 1) (by omega)
  have h2 := isq_lt (n := m - 1) (by omega)
  have hbig : m - 1 ≤ BIG := Int.le_trans (b := 16300) (by omega) (by decide +kernel)
  refine ⟨m - 1, rfl, by omega, hbig, ?_⟩
  dsimp only
  generalize isq (m - 1) = t at *
  rw [← hB]
  clear hB B
  have t1 : t ≤ 127 := by
    by_cases z : t ≤ 127
    · exact z
    · have : 128 * 128 ≤ t * t := Int.mul_le_mul (by omega) (by omega) (by decide) (by omega)
      omega
  walk_at "rd"
  refine ⟨⟨⟨by omega, by omega⟩, by omega, by omega⟩, ?_⟩
  refine lcW_pure (fun d => match d with | .int p => if (m - p) % 2 = 0 then some (.int p) else none | _ => none) trivial (by rw [rng_len, sizeLine_eq]; omega) (fun d hd Y N' hy => ?_) ?_
  · obtain ⟨i2, hi2'⟩ := List.mem_iff_getElem?.mp hd
    obtain ⟨hi3, rfl⟩ := rng_get.mp hi2'
    walk_at "rd"
    refine ⟨(by decide : (2 : Int) ≠ 0), ?_⟩
    dsimp only at hy ⊢
    rw [fmod_pos (show (0 : Int) < 2 by decide)]
    by_cases hg : (m - (-t + (i2 : Int))) % 2 = 0
    · rw [if_pos hg] at hy
      rw [if_pos hg]
      exact hy
    · rw [if_neg hg] at hy
      rw [if_neg hg]
      exact hy
  · rw [rng_fmi (g := fun i => if (m - (-t + (i : Int))) % 2 = 0 then some (-t + (i : Int)) else none) (fun i => by
      show (if (m - (-t + (i : Int))) % 2 = 0 then some (D.int (-t + (i : Int))) else none) = _
      split <;> rfl)]
    refine rtq (q _ ⟨?_, fun e he => ?_, fun e h3 h4 => ?_, ?_⟩) (below_ints _)
    · refine List.Pairwise.filterMap _ (fun a a' (hne : a ≠ a') x hx y hy => ?_) List.nodup_range
      by_cases g1 : (m - (-t + (a : Int))) % 2 = 0
      · by_cases g2 : (m - (-t + (a' : Int))) % 2 = 0
        · rw [if_pos g1] at hx
          rw [if_pos g2] at hy
          cases hx; cases hy
          intro z
          omega
        · rw [if_neg g2] at hy; cases hy
      · rw [if_neg g1] at hx; cases hx
    · obtain ⟨j, hj, h5⟩ := List.mem_filterMap.mp he
      have hj' := List.mem_range.mp hj
      by_cases g1 : (m - (-t + (j : Int))) % 2 = 0
      · rw [if_pos g1] at h5
        cases h5
        omega
      · rw [if_neg g1] at h5; cases h5
    · have h5 : -t ≤ e ∧ e ≤ t := by
        constructor
        · by_cases z : -t ≤ e
          · exact z
          · have : (t + 1) * (t + 1) ≤ (-e) * (-e) := Int.mul_le_mul (by omega) (by omega) (by omega) (by omega)
            rw [Int.neg_mul_neg] at this
            omega
        · by_cases z : e ≤ t
          · exact z
          · have : (t + 1) * (t + 1) ≤ e * e := Int.mul_le_mul (by omega) (by omega) (by omega) (by omega)
            omega
      refine List.mem_filterMap.mpr ⟨(e + t).toNat, List.mem_range.mpr (by omega), ?_⟩
      have : -t + ((e + t).toNat : Int) = e := by omega
      rw [this, if_pos h4]
    · exact Nat.le_trans (List.length_filterMap_le _ _) (by rw [List.length_range]; omega)
/-- turns one by one -/
theorem CovX.turn {m e : Int} {l l2 : List (List Int)} {T : List Int} {i : Nat} (h : CovX m l fun _ e' => e' ∈ T.take i) (g : CovX m l2 fun _ e' => e' = e) (hT : T.Nodup) (he : T[i]? = some e) : CovX m (l ++ l2) fun _ e' => e' ∈ T.take (i + 1) := by
  have hi := List.getElem?_eq_some_iff.mp he
  obtain ⟨hi1, hi2⟩ := hi
  refine (h.app g fun c e' h1 h2 => ?_).iff fun a b c e' _ _ => ?_
  · subst h2
    obtain ⟨j, hj1, hj2⟩ := List.mem_iff_getElem.mp h1
    rw [List.length_take] at hj1
    rw [List.getElem_take] at hj2
    exact (List.pairwise_iff_getElem.mp hT) j i (by omega) hi1 (by omega) (hj2.trans hi2.symm)
  · rw [show T.take (i + 1) = T.take i ++ [e] by rw [List.take_succ, he]; rfl, List.mem_append, List.mem_singleton]
theorem CovX.start {m : Int} {T : List Int} : CovX m [] fun _ e' => e' ∈ T.take 0 := CovX.nil fun a b c e _ _ h => by rw [List.take_zero] at h; cases h
theorem CovX.all {m : Int} {l : List (List Int)} {T : List Int} (h : CovX m l fun _ e' => e' ∈ T) (hT : TurnsOK m T) : CovX m l fun _ _ => True :=
  h.iff fun a b c e h1 h2 => ⟨fun _ => by
    obtain ⟨k1, k2, _⟩ := cut_parts h1
    have h3 := meas_bc.mp h2
    have h4 : 1 * 1 ≤ b * c := Int.mul_le_mul k1 k2 (by decide) (by omega)
    have h5 : (e - m) % 2 = 0 := by rw [← h2]; exact meas_par (a := a)
    exact hT.all e (by omega) (by omega), fun _ => trivial⟩
theorem CovX.len {m : Int} {l l' : List (List Int)} (h : CovX m l fun _ _ => True) (g : AllC m l') : l'.length = l.length := by
  refine ((List.perm_ext_iff_of_nodup g.nd h.1).mpr fun x => ?_).length_eq
  rw [g.mem, h.2]
  constructor
  · rintro ⟨a, b, c, e, rfl, h1, h2⟩; exact ⟨a, b, c, e, rfl, h1, h2, trivial⟩
  · rintro ⟨a, b, c, e, rfl, h1, h2, _⟩; exact ⟨a, b, c, e, rfl, h1, h2⟩
def sp_count_by : DSp := fun ds M Q _ => ∃ m : Int, ds = [.int m] ∧ 5 ≤ m ∧ m ≤ 16300 ∧ ∀ l, CovX m l (fun _ _ => True) → Q (.int (l.length : Nat)) M
theorem rd_count_by : ∀ ds M Q, ds.length = 1 → sp_count_by ds M Q DX0 → t_count_by sp_turns_of sp_with_turn (dEnds M Q) (startD 2 ds) M := by
  rintro _ M Q - ⟨m, rfl, m5, m1, q⟩
  unfold t_count_by
  walk_at "rd"
  refine ⟨m, rfl, m5, m1, fun T hT => ?_⟩
  have hTl := hT.len
  refine ⟨fun i acc M' => M' = M ∧ ∃ (L : List (List Int)) (ns : List Int), acc = ns.map D.int ∧ CovX m L (fun _ e' => e' ∈ T.take i) ∧ ns.sum = (L.length : Int) ∧ ns.length = i ∧ i ≤ T.length, ⟨rfl, [], [], rfl, CovX.start, rfl, rfl, Nat.zero_le _⟩, ?_⟩
  rintro i acc M' ⟨rfl, L, ns, rfl, hcov, hsum, hnl, hi⟩
  refine ⟨trivial, fun hli => ?_, fun d hd => ?_⟩
  · rw [List.length_map] at hli
    rw [List.take_of_length_le hli] at hcov
    have hall := hcov.all hT
    rw [if_neg (by decide)]
    show gSum [.lst (ns.map D.int)] M' (Rtq M' Q)
    unfold gSum
    dsimp only
    rw [rs_lst]
    dsimp only
    rw [intsD_map]
    dsimp only
    rw [hsum]
    exact rtq (q L hall)
  · rw [List.getElem?_map] at hd
    obtain ⟨e, he, rfl⟩ := Option.map_eq_some_iff.mp hd
    have hb := hT.bd e (List.mem_of_getElem? he)
    have hil := (List.getElem?_eq_some_iff.mp he).1
    walk_at "rd"
    refine ⟨m, e, rfl, by omega, m1, Bi.of_abs 200 (by omega) (by decide), fun l2 hl2 hll => ?_⟩
    dsimp only
    rw [List.length_map]
    refine ⟨by omega, rfl, L ++ l2, ns ++ [(l2.length : Int)], by rw [List.map_append, List.length_map]; rfl, hcov.turn hl2 hT.nd he, ?_, by rw [List.length_append, hnl]; rfl, by omega⟩
    rw [List.sum_append, hsum, List.length_append]
    simp
theorem AllC.cov {m : Int} {l : List (List Int)} (h : AllC m l) : CovX m l fun _ _ => True := ⟨h.nd, fun x => by
  rw [h.mem]
  exact ⟨fun ⟨a, b, c, e, h1, h2, h3⟩ => ⟨a, b, c, e, h1, h2, h3, trivial⟩, fun ⟨a, b, c, e, h1, h2, h3, _⟩ => ⟨a, b, c, e, h1, h2, h3⟩⟩⟩
/-! ### how many cuttings there are -/
def gsum (W : Nat) : Nat → Nat
  | 0 => 0
  | n + 1 => gsum W n + (if W % (n + 1) = 0 then Nat.gcd (W / (n + 1)) (n + 1) else 0)
def tabN : Nat := 3808836514476480436425501566823650268381887298884600820298512126455273805132299371174516136177247938090408811056691465430970770228047249330072752050607840890087987793927295198210465302567318670989203472358977994843484747945642100194258166892916909424533025696478937806321533572045990426853861620300979684732957885855172749248035204600828542852706620982344324869505590755770404546748763858518759734205825228907452414923237620399712555260983892516163810739786695366875762930745420660309800851222364410905920515135684987405529420938224450128417742141005739864169931510145102595131282382208292840601585914836922858253677215261340497155162916337687046218286942865496291425734279591150588307468831564621585153189962766165082969256518495644343806884153471315702704813923323010719705328188422459668714766086924238353224111798521134400326871809312846980976015613739334962689631930271787315771620932441438290566054144
def tabW (W : Nat) : Nat := tabN / 2 ^ (8 * W) % 256
def bndM (m : Nat) : Nat → Nat
  | 0 => 0
  | d + 1 => bndM m d + (if d * d < m ∧ (m - d * d) % 4 = 0 then 2 * tabW ((m - d * d) / 4) else 0)
theorem tab_ok : ∀ W, W < 377 → gsum W W ≤ tabW W := by decide +kernel
theorem bnd_ok : ∀ m, m < 1506 → bndM m 39 ≤ 900 := by decide +kernel
def withN (e : Int) (W : Nat) : Nat → List (List Int)
  | 0 => []
  | n + 1 => withN e W n ++ (if W % (n + 1) = 0 then lowsL (Nat.gcd (W / (n + 1)) (n + 1)) ((W / (n + 1) : Nat) : Int) ((n + 1 : Nat) : Int) e else [])
theorem withN_len {e : Int} {W : Nat} : ∀ n, (withN e W n).length ≤ gsum W n
  | 0 => Nat.le_refl _
  | n + 1 => by
    unfold withN gsum
    rw [List.length_append]
    have := withN_len (e := e) (W := W) n
    by_cases h : W % (n + 1) = 0
    · rw [if_pos h, if_pos h]
      have := lowsL_len (n := Nat.gcd (W / (n + 1)) (n + 1)) (b := ((W / (n + 1) : Nat) : Int)) (c := ((n + 1 : Nat) : Int)) (e := e)
      omega
    · rw [if_neg h, if_neg h]
      simpa using this
theorem withN_cov {m e : Int} {W : Nat} (hw : 4 * (W : Int) = m - e * e) : ∀ n, CovX m (withN e W n) fun c' e' => c' < 1 + (n : Int) ∧ e' = e
  | 0 => CovX.nil fun a b c e' h1 h2 h3 => by
    have := (cut_parts h1).2.1
    omega
  | n + 1 => by
    unfold withN
    have ih := withN_cov hw n
    have hnext : ∀ c' : Int, c' < 1 + ((n + 1 : Nat) : Int) ↔ c' < 1 + (n : Int) ∨ c' = ((n + 1 : Nat) : Int) := fun c' => by omega
    have fin : ∀ l2, CovX m l2 (fun c' e' => c' = ((n + 1 : Nat) : Int) ∧ e' = e) → CovX m (withN e W n ++ l2) fun c' e' => c' < 1 + ((n + 1 : Nat) : Int) ∧ e' = e := fun l2 h2 => by
      refine (ih.app h2 fun c' e' h3 h4 => by omega).iff fun a b' c' e' _ _ => ?_
      rw [hnext]
      constructor
      · rintro ⟨h3 | h3, h4⟩
        · exact .inl ⟨h3, h4⟩
        · exact .inr ⟨h3, h4⟩
      · rintro (⟨h3, h4⟩ | ⟨h3, h4⟩)
        · exact ⟨.inl h3, h4⟩
        · exact ⟨.inr h3, h4⟩
    by_cases h : W % (n + 1) = 0
    · rw [if_pos h]
      refine fin _ ?_
      have hb : ((W / (n + 1) : Nat) : Int) * ((n + 1 : Nat) : Int) = (W : Int) := by
        rw [← Int.natCast_mul, Nat.div_mul_cancel (Nat.dvd_of_mod_eq_zero h)]
      have := lows_covX (b := ((W / (n + 1) : Nat) : Int)) (c := ((n + 1 : Nat) : Int)) (by omega) hw hb
      rw [Int.gcd_natCast_natCast] at this
      exact this
    · rw [if_neg h]
      refine fin _ (lows_noneX hw fun z => h ?_)
      have : ((W % (n + 1) : Nat) : Int) = 0 := by rw [← z]; rfl
      omega
def withE (m e : Int) : List (List Int) := if e * e < m ∧ (m - e * e) % 4 = 0 then withN e ((m - e * e) / 4).toNat ((m - e * e) / 4).toNat else []
theorem withE_cov {m e : Int} : CovX m (withE m e) fun _ e' => e' = e := by
  unfold withE
  by_cases h : e * e < m ∧ (m - e * e) % 4 = 0
  · rw [if_pos h]
    have hw : 4 * ((((m - e * e) / 4).toNat : Nat) : Int) = m - e * e := by omega
    refine (withN_cov hw _).iff fun a b c e' h1 h2 => ⟨fun h3 => ⟨?_, h3⟩, fun h3 => h3.2⟩
    have h6 := meas_bc.mp h2
    obtain ⟨g1, g2, _⟩ := cut_parts h1
    have : 1 * c ≤ b * c := Int.mul_le_mul_of_nonneg_right g1 (by omega)
    rw [h3] at h6
    omega
  · rw [if_neg h]
    refine CovX.nil fun a b c e' h1 h2 h3 => h ?_
    have h6 := meas_bc.mp h2
    obtain ⟨g1, g2, _⟩ := cut_parts h1
    have : 1 * 1 ≤ b * c := Int.mul_le_mul g1 g2 (by decide) (by omega)
    rw [h3] at h6
    omega
def cutsD (m : Int) : Nat → List (List Int)
  | 0 => []
  | d + 1 => (cutsD m d ++ withE m (d : Int)) ++ (if d = 0 then [] else withE m (-(d : Int)))
theorem cutsD_cov {m : Int} : ∀ d, CovX m (cutsD m d) fun _ e => -(d : Int) < e ∧ e < (d : Int)
  | 0 => CovX.nil fun a b c e h1 h2 h3 => by omega
  | d + 1 => by
    unfold cutsD
    have ih := cutsD_cov (m := m) d
    have h1 := ih.app (withE_cov (m := m) (e := (d : Int))) fun c e h3 h4 => by omega
    by_cases z : d = 0
    · rw [if_pos z, List.append_nil]
      exact h1.iff fun a b c e _ _ => by omega
    · rw [if_neg z]
      exact (h1.app (withE_cov (m := m) (e := -(d : Int))) fun c e h3 h4 => by omega).iff fun a b c e _ _ => by omega
theorem withE_len {m : Nat} {e : Int} {d : Nat} (he : e * e = ((d * d : Nat) : Int)) (hm : m < 1506) : (withE m e).length ≤ if d * d < m ∧ (m - d * d) % 4 = 0 then tabW ((m - d * d) / 4) else 0 := by
  unfold withE
  rw [he]
  by_cases h : d * d < m ∧ (m - d * d) % 4 = 0
  · rw [if_pos h, if_pos (by omega)]
    have e1 : (((m : Int) - ((d * d : Nat) : Int)) / 4).toNat = (m - d * d) / 4 := by omega
    rw [e1]
    exact Nat.le_trans (withN_len _) (tab_ok _ (by omega))
  · rw [if_neg h, if_neg (by omega)]
    exact Nat.le_refl _
theorem cutsD_len {m : Nat} (hm : m < 1506) : ∀ d, (cutsD m d).length ≤ bndM m d
  | 0 => Nat.le_refl _
  | d + 1 => by
    unfold cutsD bndM
    rw [List.length_append, List.length_append]
    have ih := cutsD_len hm d
    have h1 := withE_len (m := m) (e := (d : Int)) (d := d) rfl hm
    have h2 := withE_len (m := m) (e := -(d : Int)) (d := d) (by rw [Int.neg_mul_neg]; rfl) hm
    by_cases h : d * d < m ∧ (m - d * d) % 4 = 0
    · rw [if_pos h] at h1 h2 ⊢
      split <;> (try simp only [List.length_nil]) <;> omega
    · rw [if_neg h] at h1 h2 ⊢
      split <;> (try simp only [List.length_nil]) <;> omega
theorem cov_all {m : Int} {l : List (List Int)} {D : Nat} (h : CovX m l fun _ e => -(D : Int) < e ∧ e < (D : Int)) (hD : m < (D : Int) * D) : CovX m l fun _ _ => True :=
  h.iff fun a b c e h1 h2 => ⟨fun _ => by
    obtain ⟨k1, k2, _⟩ := cut_parts h1
    have h3 := meas_bc.mp h2
    have h4 : 1 * 1 ≤ b * c := Int.mul_le_mul k1 k2 (by decide) (by omega)
    constructor
    · by_cases z : -(D : Int) < e
      · exact z
      · have : (D : Int) * D ≤ (-e) * (-e) := Int.mul_le_mul (by omega) (by omega) (by omega) (by omega)
        rw [Int.neg_mul_neg] at this
        omega
    · by_cases z : e < (D : Int)
      · exact z
      · have : (D : Int) * D ≤ e * e := Int.mul_le_mul (by omega) (by omega) (by omega) (by omega)
        omega, fun _ => trivial⟩
theorem CovX.same {m : Int} {l l' : List (List Int)} {P : Int → Int → Prop} (h : CovX m l P) (g : CovX m l' P) : l.length = l'.length :=
  ((List.perm_ext_iff_of_nodup h.1 g.1).mpr fun x => (h.2 x).trans (g.2 x).symm).length_eq
theorem cov_small {m : Int} {l : List (List Int)} (h : CovX m l fun _ _ => True) (h0 : 0 ≤ m) (hm : m ≤ 1505) : l.length ≤ 900 := by
  obtain ⟨k, rfl⟩ := Int.eq_ofNat_of_zero_le h0
  rw [h.same (cov_all (cutsD_cov (m := (k : Int)) 39) (by omega))]
  exact Nat.le_trans (cutsD_len (by omega) 39) (bnd_ok k (by omega))
end DL
/-! MI: how many cuttings have a told last number; plain -/
namespace DL
/-- how many first numbers, by the common divisor G and the last number -/
noncomputable def lowN (G : Nat) (e : Int) : Nat := G / Int.gcd (G : Int) e * phi (Int.gcd (G : Int) e)
theorem lowsL_count {b c : Nat} {e : Int} (hb : 1 ≤ b) (hc : 1 ≤ c) : (lowsL (Nat.gcd b c) (b : Int) (c : Int) e).length = if (c : Int) + e < b then lowN (Nat.gcd b c) e else 0 := by
  have hG : 0 < Nat.gcd b c := Nat.gcd_pos_of_pos_right _ hc
  have key : ∀ i : Nat, i < Nat.gcd b c → (isCut (i : Int) b c e = true ↔ ((c : Int) + e < b ∧ Nat.gcd i (Int.gcd (Nat.gcd b c : Int) e) = 1)) := by
    intro i hi
    have e1 : (Int.gcd (Int.gcd (i : Int) (Int.gcd (b : Int) (c : Int) : Int) : Int) e : Int) = ((Nat.gcd i (Int.gcd ((Nat.gcd b c : Nat) : Int) e) : Nat) : Int) := by
      rw [Int.gcd_assoc]
      rw [Int.gcd_natCast_natCast b c]
      rw [Int.gcd_natCast_natCast]
    constructor
    · intro h
      obtain ⟨_, _, h3, _, _, h6⟩ := cut_parts h
      rw [e1] at h6
      exact ⟨h3, by omega⟩
    · rintro ⟨h1, h2⟩
      simp only [isCut, Bool.and_eq_true, decide_eq_true_eq, beq_iff_eq]
      refine ⟨by omega, by omega, h1, by omega, ?_, ?_⟩
      · rw [Int.gcd_natCast_natCast]; omega
      · rw [e1, h2]; rfl
  have hlen : (lowsL (Nat.gcd b c) (b : Int) (c : Int) e).length = cnt (Nat.gcd b c) fun i => isCut (i : Int) b c e = true := by
    unfold lowsL cnt
    rw [List.length_filterMap_eq_countP]
    refine List.countP_congr fun i _ => ?_
    simp only [decide_eq_true_eq]
    by_cases h : isCut (i : Int) b c e = true
    · simp [h]
    · simp [h]
  rw [hlen]
  by_cases h : (c : Int) + e < b
  · rw [if_pos h, cnt_congr (Q := fun i => Nat.gcd i (Int.gcd (Nat.gcd b c : Int) e) = 1) fun i hi => (key i hi).trans ⟨fun z => z.2, fun z => ⟨h, z⟩⟩]
    have hd : Int.gcd (Nat.gcd b c : Int) e ∣ Nat.gcd b c := by
      have := Int.gcd_dvd_left (Nat.gcd b c : Int) e
      exact Int.natCast_dvd_natCast.mp this
    have := phi_rows (Int.gcd (Nat.gcd b c : Int) e) (Nat.gcd b c / Int.gcd (Nat.gcd b c : Int) e)
    rw [Nat.div_mul_cancel hd] at this
    exact this
  · rw [if_neg h, cnt_none]
    intro i hi z
    exact h ((key i hi).mp z).1
/-- sums over the numbers from 1 to n -/
def sumN (f : Nat → Nat) : Nat → Nat
  | 0 => 0
  | n + 1 => sumN f n + f (n + 1)
theorem sumN_congr {f g : Nat → Nat} : ∀ n, (∀ i, 1 ≤ i → i ≤ n → f i = g i) → sumN f n = sumN g n
  | 0, _ => rfl
  | n + 1, h => by unfold sumN; rw [sumN_congr n fun i h1 h2 => h i h1 (by omega), h (n + 1) (by omega) (by omega)]
noncomputable def dueT (W : Nat) (e : Int) (c : Nat) : Nat := if W % c = 0 ∧ (c : Int) + e < ((W / c : Nat) : Int) then lowN (Nat.gcd (W / c) c) e else 0
theorem withN_count {e : Int} {W : Nat} (hW : 1 ≤ W) : ∀ n, n ≤ W → (withN e W n).length = sumN (dueT W e) n
  | 0, _ => rfl
  | n + 1, hn => by
    unfold withN sumN dueT
    rw [List.length_append, withN_count hW n (by omega)]
    congr 1
    by_cases h : W % (n + 1) = 0
    · rw [if_pos h]
      have hb : 1 ≤ W / (n + 1) := Nat.div_pos hn (by omega)
      rw [lowsL_count hb (by omega)]
      by_cases h2 : ((n + 1 : Nat) : Int) + e < ((W / (n + 1) : Nat) : Int)
      · rw [if_pos h2, if_pos ⟨h, h2⟩]
      · rw [if_neg h2, if_neg (fun z => h2 z.2)]
    · rw [if_neg h, if_neg (fun z => h z.1)]
      rfl
/-- .. of the measure m -/
noncomputable def dueM (m e : Int) : Nat := if e * e < m ∧ (m - e * e) % 4 = 0 then sumN (dueT ((m - e * e) / 4).toNat e) ((m - e * e) / 4).toNat else 0
theorem withE_count {m e : Int} : (withE m e).length = dueM m e := by
  unfold withE dueM
  by_cases h : e * e < m ∧ (m - e * e) % 4 = 0
  · rw [if_pos h, if_pos h, withN_count (by omega) _ (Nat.le_refl _)]
  · rw [if_neg h, if_neg h]
    rfl
/-- sums over the whole numbers from lo on -/
def sumZ (f : Int → Nat) (lo : Int) : Nat → Nat
  | 0 => 0
  | n + 1 => sumZ f lo n + f (lo + (n : Int))
theorem sumZ_front (f : Int → Nat) (lo : Int) : ∀ n, sumZ f lo (n + 1) = f lo + sumZ f (lo + 1) n
  | 0 => by show 0 + f (lo + 0) = f lo + 0; rw [Int.add_zero]; omega
  | n + 1 => by
    have := sumZ_front f lo n
    show sumZ f lo (n + 1) + f (lo + ((n + 1 : Nat) : Int)) = f lo + (sumZ f (lo + 1) n + f (lo + 1 + (n : Int)))
    rw [this, show lo + ((n + 1 : Nat) : Int) = lo + 1 + (n : Int) by omega]
    omega
theorem dueM_far {m e : Int} (h : m ≤ e * e) : dueM m e = 0 := by
  unfold dueM
  rw [if_neg (by omega)]
/-- the numbers from lo on, with their cuttings -/
theorem zL (m lo : Int) : ∀ n : Nat, ∃ L, CovX m L (fun _ e => lo ≤ e ∧ e < lo + (n : Int)) ∧ L.length = sumZ (dueM m) lo n
  | 0 => ⟨[], CovX.nil fun a b c e _ _ h => by omega, rfl⟩
  | n + 1 => by
    obtain ⟨L, h1, h2⟩ := zL m lo n
    refine ⟨L ++ withE m (lo + (n : Int)), (h1.app withE_cov fun c e h3 h4 => by omega).iff fun a b c e _ _ => by omega, ?_⟩
    rw [List.length_append, h2, withE_count]
    rfl
theorem due_all {m : Int} {R : Nat} {l : List (List Int)} (h : CovX m l fun _ _ => True) (h1 : m ≤ ((R : Int) + 1) * ((R : Int) + 1)) : l.length = sumZ (dueM m) (-(R : Int) - 2) (2 * R + 5) := by
  obtain ⟨L, h2, h3⟩ := zL m (-(R : Int) - 2) (2 * R + 5)
  rw [← h3]
  refine h.same (h2.iff fun a b c e g1 g2 => ⟨fun _ => ?_, fun _ => trivial⟩)
  obtain ⟨k1, k2, _⟩ := cut_parts g1
  have h5 := meas_bc.mp g2
  have h6 : 1 * 1 ≤ b * c := Int.mul_le_mul k1 k2 (by decide) (by omega)
  have hb : -((R : Int) + 1) < e ∧ e < (R : Int) + 1 := by
    constructor
    · by_cases z : -((R : Int) + 1) < e
      · exact z
      · have : ((R : Int) + 1) * ((R : Int) + 1) ≤ (-e) * (-e) := Int.mul_le_mul (by omega) (by omega) (by omega) (by omega)
        rw [Int.neg_mul_neg] at this
        omega
    · by_cases z : e < (R : Int) + 1
      · exact z
      · have : ((R : Int) + 1) * ((R : Int) + 1) ≤ e * e := Int.mul_le_mul (by omega) (by omega) (by omega) (by omega)
        omega
  omega
theorem due_mid {m : Int} {R : Nat} (h1 : m ≤ ((R : Int) + 1) * ((R : Int) + 1)) : sumZ (dueM m) (-(R : Int) - 2) (2 * R + 5) = sumZ (dueM m) (-(R : Int)) (2 * R + 1) := by
  have far : ∀ e : Int, e ≤ -((R : Int) + 1) ∨ (R : Int) + 1 ≤ e → dueM m e = 0 := fun e he => dueM_far (by
    rcases he with he | he
    · have : ((R : Int) + 1) * ((R : Int) + 1) ≤ (-e) * (-e) := Int.mul_le_mul (by omega) (by omega) (by omega) (by omega)
      rw [Int.neg_mul_neg] at this
      omega
    · have : ((R : Int) + 1) * ((R : Int) + 1) ≤ e * e := Int.mul_le_mul (by omega) (by omega) (by omega) (by omega)
      omega)
  show sumZ (dueM m) (-(R : Int) - 2) (2 * R + 3 + 1 + 1) = _
  rw [sumZ_front, sumZ_front, show -(R : Int) - 2 + 1 + 1 = -(R : Int) by omega]
  show _ + (_ + (sumZ (dueM m) (-(R : Int)) (2 * R + 1) + dueM m (-(R : Int) + ((2 * R + 1 : Nat) : Int)) + dueM m (-(R : Int) + ((2 * R + 1 + 1 : Nat) : Int)))) = _
  rw [far _ (by omega), far (-(R : Int) - 2 + 1) (by omega), far (-(R : Int) + ((2 * R + 1 : Nat) : Int)) (by omega), far (-(R : Int) + ((2 * R + 1 + 1 : Nat) : Int)) (by omega)]
  omega
end DL
namespace DL
open PySem PySem.Spec PyProof.Rows L2
local macro_rules | `(tactic| walk_at "rd") => `(tactic| simp only [startD, List.map, List.replicate, List.length_cons, List.length_nil, List.append_eq, List.append_nil, List.nil_append, List.cons_append, Nat.reduceSub, Nat.reduceAdd, List.getElem?_cons_zero, List.getElem?_cons_succ, List.set_cons_zero, List.set_cons_succ,
  dC, dVar, dOp, dTru, gTru, tru, dChain, dAnd, dOr, dNot, dAndV, dOrV, dNotV, dIf, dNeg, gNeg, dNil, dCons, dTup, dLst, dOwn, gIx, rBin, gAdd, gCmpI, dCall, dCallK, dSeq, dNext, dDrop, dRet, dRetN, dIfS, dName, dGNil, dGCons, dGTup, dSub, gSetL, dAsg, dPar, dPar3, dAug, gIpI, dSeqI, gSeqI, dRngI, gRng1, gRng2, dCB, gAbs, gInt, gMax, gMin, gGcd, gLen, lenD, gIsi, tyM, tyD, dBits, gBits, dMet, gAppend, dPart, dNoPart, dSl, gSl_tup, gSl_lst, cut_1, dEnds, gIs, isB, dNever, dFor, dLc, wipeD, dYes,
  sizeLine_eq, Nat.reduceLeDiff, gEq_int, gNe_int, gEq_strs, gNe_strs, gIn_two, gRepr_bl, rs_lst, rs_tup, rs_scr, rs_int, atI_0, atI_1, atI_2, atI_3, atI_4, atI_5, ixN_30, ixN_31, ixN_32, gEq_bl, gNe_bl, decide_eq_true_eq, beq_iff_eq, Bool.not_eq_true', beq_eq_false_iff_ne, decide_eq_false_iff_not, Bool.not_true, Bool.not_false, if_true, if_false, Bool.false_eq_true, ite_true, ite_false, true_and, and_true, ne_eq, Bool.bne_false, Bool.bne_true, reduceCtorEq])
local macro_rules | `(tactic| walk_at "rh") => `(tactic| simp only [*, startD, List.map, List.replicate, List.length_cons, List.length_nil, List.append_eq, List.append_nil, List.nil_append, List.cons_append, Nat.reduceSub, Nat.reduceAdd, List.getElem?_cons_zero, List.getElem?_cons_succ, List.set_cons_zero, List.set_cons_succ,
  dC, dVar, dOp, dTru, gTru, tru, dChain, dAnd, dOr, dNot, dAndV, dOrV, dNotV, dIf, dNeg, gNeg, dNil, dCons, dTup, dLst, dOwn, gIx, rBin, gAdd, gCmpI, dCall, dCallK, dSeq, dNext, dDrop, dRet, dRetN, dIfS, dName, dGNil, dGCons, dGTup, dSub, gSetL, dAsg, dPar, dPar3, dAug, gIpI, dSeqI, gSeqI, dRngI, gRng1, gRng2, dCB, gAbs, gInt, gMax, gMin, gGcd, gLen, lenD, gIsi, tyM, tyD, dBits, gBits, dMet, gAppend, dPart, dNoPart, dSl, gSl_tup, gSl_lst, cut_1, dEnds, gIs, isB, dNever, dFor, dLc, wipeD, dYes,
  sizeLine_eq, Nat.reduceLeDiff, gEq_int, gNe_int, gEq_strs, gNe_strs, gIn_two, gRepr_bl, rs_lst, rs_tup, rs_scr, rs_int, atI_0, atI_1, atI_2, atI_3, atI_4, atI_5, ixN_30, ixN_31, ixN_32, gEq_bl, gNe_bl, decide_eq_true_eq, beq_iff_eq, Bool.not_eq_true', beq_eq_false_iff_ne, decide_eq_false_iff_not, Bool.not_true, Bool.not_false, if_true, if_false, Bool.false_eq_true, ite_true, ite_false, true_and, and_true, ne_eq, Bool.bne_false, Bool.bne_true, reduceCtorEq])
local macro_rules | `(tactic| walk_at "kb") => `(tactic| simp only [kb_NoneType_list, kb_bool_list, kb_int_list, kb_str_list, kb_tuple_list, kb_list_list, kb_dict_list, kb_NoneType_int, kb_bool_int, kb_int_int, kb_str_int, kb_tuple_int, kb_list_int, kb_dict_int, kb_NoneType_bool, kb_bool_bool, kb_int_bool, kb_str_bool, kb_tuple_bool, kb_list_bool, kb_dict_bool, kb_NoneType_tuple, kb_bool_tuple, kb_int_tuple, kb_str_tuple, kb_tuple_tuple, kb_list_tuple, kb_dict_tuple, if_true, if_false, Bool.false_eq_true, ite_true, ite_false, Bool.not_true, Bool.not_false])
end DL
namespace DL
open PySem PySem.Spec PyProof.Rows L2
local macro_rules | `(tactic| walk_at "rd") => `(tactic| simp only [startD, List.map, List.replicate, List.length_cons, List.length_nil, List.append_eq, List.append_nil, List.nil_append, List.cons_append, Nat.reduceSub, Nat.reduceAdd, List.getElem?_cons_zero, List.getElem?_cons_succ, List.set_cons_zero, List.set_cons_succ,
  dC, dVar, dOp, dTru, gTru, tru, dChain, dAnd, dOr, dNot, dAndV, dOrV, dNotV, dIf, dNeg, gNeg, dNil, dCons, dTup, dLst, dOwn, gIx, rBin, gAdd, gCmpI, dCall, dCallK, dSeq, dNext, dDrop, dRet, dRetN, dIfS, dName, dGNil, dGCons, dGTup, dSub, gSetL, dAsg, dPar, dPar3, dAug, gIpI, dSeqI, gSeqI, dRngI, gRng1, gRng2, dCB, gAbs, gInt, gMax, gMin, gGcd, gLen, lenD, gIsi, tyM, tyD, dBits, gBits, dMet, gAppend, dPart, dNoPart, dSl, gSl_tup, gSl_lst, cut_1, dEnds, gIs, isB, dNever, dCallX, dRaise, dTry, dFld, dCallV, gLRng, gFrz, dFrz, dFor, dLc, wipeD, dYes,
  sizeLine_eq, Nat.reduceLeDiff, gEq_int, gNe_int, gEq_strs, gNe_strs, gIn_two, gRepr_bl, rs_lst, rs_tup, rs_scr, rs_int, atI_0, atI_1, atI_2, atI_3, atI_4, atI_5, ixN_30, ixN_31, ixN_32, gEq_bl, gNe_bl, decide_eq_true_eq, beq_iff_eq, Bool.not_eq_true', beq_eq_false_iff_ne, decide_eq_false_iff_not, Bool.not_true, Bool.not_false, if_true, if_false, Bool.false_eq_true, ite_true, ite_false, true_and, and_true, ne_eq, Bool.bne_false, Bool.bne_true, reduceCtorEq])
local macro_rules | `(tactic| walk_at "rh") => `(tactic| simp only [*, startD, List.map, List.replicate, List.length_cons, List.length_nil, List.append_eq, List.append_nil, List.nil_append, List.cons_append, Nat.reduceSub, Nat.reduceAdd, List.getElem?_cons_zero, List.getElem?_cons_succ, List.set_cons_zero, List.set_cons_succ,
  dC, dVar, dOp, dTru, gTru, tru, dChain, dAnd, dOr, dNot, dAndV, dOrV, dNotV, dIf, dNeg, gNeg, dNil, dCons, dTup, dLst, dOwn, gIx, rBin, gAdd, gCmpI, dCall, dCallK, dSeq, dNext, dDrop, dRet, dRetN, dIfS, dName, dGNil, dGCons, dGTup, dSub, gSetL, dAsg, dPar, dPar3, dAug, gIpI, dSeqI, gSeqI, dRngI, gRng1, gRng2, dCB, gAbs, gInt, gMax, gMin, gGcd, gLen, lenD, gIsi, tyM, tyD, dBits, gBits, dMet, gAppend, dPart, dNoPart, dSl, gSl_tup, gSl_lst, cut_1, dEnds, gIs, isB, dNever, dCallX, dRaise, dTry, dFld, dCallV, gLRng, gFrz, dFrz, dFor, dLc, wipeD, dYes,
  sizeLine_eq, Nat.reduceLeDiff, gEq_int, gNe_int, gEq_strs, gNe_strs, gIn_two, gRepr_bl, rs_lst, rs_tup, rs_scr, rs_int, atI_0, atI_1, atI_2, atI_3, atI_4, atI_5, ixN_30, ixN_31, ixN_32, gEq_bl, gNe_bl, decide_eq_true_eq, beq_iff_eq, Bool.not_eq_true', beq_eq_false_iff_ne, decide_eq_false_iff_not, Bool.not_true, Bool.not_false, if_true, if_false, Bool.false_eq_true, ite_true, ite_false, true_and, and_true, ne_eq, Bool.bne_false, Bool.bne_true, reduceCtorEq])
local macro_rules | `(tactic| walk_at "kb") => `(tactic| simp only [kb_NoneType_list, kb_bool_list, kb_int_list, kb_str_list, kb_tuple_list, kb_list_list, kb_dict_list, kb_NoneType_int, kb_bool_int, kb_int_int, kb_str_int, kb_tuple_int, kb_list_int, kb_dict_int, kb_NoneType_bool, kb_bool_bool, kb_int_bool, kb_str_bool, kb_tuple_bool, kb_list_bool, kb_dict_bool, kb_NoneType_tuple, kb_bool_tuple, kb_int_tuple, kb_str_tuple, kb_tuple_tuple, kb_list_tuple, kb_dict_tuple, if_true, if_false, Bool.false_eq_true, ite_true, ite_false, Bool.not_true, Bool.not_false])
/-! RdZ: the checks with their errors -/
theorem belowAll_mem {n : Nat} : ∀ {l : List D} {d : D}, belowAll n l = true → d ∈ l → below n d = true
  | [], _, _, h => by simp at h
  | x :: l, d, h, hd => by
    simp only [belowAll, Bool.and_eq_true] at h
    rcases List.mem_cons.mp hd with e | e
    · rw [e]; exact h.1
    · exact belowAll_mem h.2 e
def sp_check_measure_x : DSp := fun ds M Q E => ∃ d T, ds = [d] ∧ tyM M d = some T ∧ (isMeas d = true → Q .non M) ∧ (isMeas d = false → E "InvalidMeasure" d M)
theorem rd_check_measure_x : ∀ ds M Q E, ds.length = 1 → belowAll M.length ds = true → sp_check_measure_x ds M Q E → t_check_measure_x sp_is_measure (dOut M E) (dEnds M Q) (startD 1 ds) M := by
  rintro _ M Q E - hb ⟨d, T, rfl, ht, q, q2⟩
  unfold t_check_measure_x
  walk_at "rd"
  refine ⟨d, T, rfl, ht, ?_⟩
  cases h : isMeas d with
  | true => walk_at "rd"; exact rtq (q h)
  | false => walk_at "rd"; exact ⟨d, rfl, rtx (belowAll_mem hb (by simp)) (q2 h)⟩
/-- a whole number within bounds, each of which may be None -/
def numOk (d lo hi : D) : Bool := match d with
  | .int i => (match lo with | .int l => decide (l ≤ i) | _ => true) && (match hi with | .int h => decide (i ≤ h) | _ => true)
  | _ => false
def sp_check_number_x : DSp := fun ds M Q E => ∃ d lo hi T, ds = [d, lo, hi] ∧ tyM M d = some T ∧ (lo = .non ∨ ∃ l, lo = .int l) ∧ (hi = .non ∨ ∃ l, hi = .int l) ∧ (numOk d lo hi = true → Q .non M) ∧ (numOk d lo hi = false → E "InvalidNumber" d M)
theorem rd_check_number_x : ∀ ds M Q E, ds.length = 3 → belowAll M.length ds = true → sp_check_number_x ds M Q E → t_check_number_x sp_is_whole (dOut M E) (dEnds M Q) (startD 3 ds) M := by
  rintro _ M Q E - hb ⟨d, lo, hi, T, rfl, ht, h1, h2, q, q2⟩
  unfold t_check_number_x
  have hbd : below M.length d = true := belowAll_mem hb (by simp)
  walk_at "rd"
  refine ⟨d, T, rfl, ht, ?_⟩
  have bad : numOk d lo hi = false → (∃ x, [d] = [x] ∧ dOut M E [some d, some lo, some hi] "InvalidNumber" x M) := fun z => ⟨d, rfl, rtx hbd (q2 z)⟩
  cases hw : isW d with
  | false =>
    walk_at "rd"
    refine bad ?_
    cases d <;> first | rfl | cases hw
  | true =>
    cases d <;> first | cases hw | skip
    rename_i i
    rcases h1 with rfl | ⟨l, rfl⟩ <;> rcases h2 with rfl | ⟨l', rfl⟩
    · walk_at "rd"
      exact rtq (q rfl)
    · walk_at "rd"
      by_cases z : l' < i
      · rw [if_pos z]
        exact bad (by simp [numOk]; omega)
      · rw [if_neg z]
        exact rtq (q (by simp [numOk]; omega))
    · walk_at "rd"
      by_cases z : i < l
      · simp only [z, if_true]
        exact bad (by simp [numOk]; omega)
      · simp only [z, if_false]
        exact rtq (q (by simp [numOk]; omega))
    · walk_at "rd"
      by_cases z : i < l
      · simp only [z, if_true]
        exact bad (by simp [numOk]; omega)
      · simp only [z, if_false]
        by_cases z2 : l' < i
        · rw [if_pos z2]
          exact bad (by simp [numOk]; omega)
        · rw [if_neg z2]
          exact rtq (q (by simp [numOk]; omega))
/-! ### the heart's numbers -/
/-! ### the heart's functions -/
theorem isMeas_int {d : D} (h : isMeas d = true) : ∃ m, d = .int m ∧ 5 ≤ m ∧ (m % 4 = 0 ∨ m % 4 = 1) := by
  unfold isMeas at h
  split at h
  · rename_i i; exact ⟨i, rfl, by simpa using h⟩
  · cases h
end DL
namespace DL
open PySem PySem.Spec PyProof.Rows L2
local macro_rules | `(tactic| walk_at "rd") => `(tactic| simp only [startD, List.map, List.replicate, List.length_cons, List.length_nil, List.append_eq, List.append_nil, List.nil_append, List.cons_append, Nat.reduceSub, Nat.reduceAdd, List.getElem?_cons_zero, List.getElem?_cons_succ, List.set_cons_zero, List.set_cons_succ,
  dC, dVar, dOp, dTru, gTru, tru, dChain, dAnd, dOr, dNot, dAndV, dOrV, dNotV, dIf, dNeg, gNeg, dNil, dCons, dTup, dLst, dOwn, gIx, rBin, gAdd, gCmpI, dCall, dCallK, dSeq, dNext, dDrop, dRet, dRetN, dIfS, dName, dGNil, dGCons, dGTup, dSub, gSetL, dAsg, dPar, dPar3, dAug, gIpI, dSeqI, gSeqI, dRngI, gRng1, gRng2, dCB, gAbs, gInt, gMax, gMin, gGcd, gLen, lenD, gIsi, tyM, tyD, dBits, gBits, dMet, gAppend, dPart, dNoPart, dSl, gSl_tup, gSl_lst, cut_1, dEnds, gIs, isB, dNever, dFor, dLc, wipeD, dYes,
  sizeLine_eq, Nat.reduceLeDiff, gEq_int, gNe_int, gEq_strs, gNe_strs, gIn_two, gRepr_bl, rs_lst, rs_tup, rs_scr, rs_int, atI_0, atI_1, atI_2, atI_3, atI_4, atI_5, ixN_30, ixN_31, ixN_32, gEq_bl, gNe_bl, decide_eq_true_eq, beq_iff_eq, Bool.not_eq_true', beq_eq_false_iff_ne, decide_eq_false_iff_not, Bool.not_true, Bool.not_false, if_true, if_false, Bool.false_eq_true, ite_true, ite_false, true_and, and_true, ne_eq, Bool.bne_false, Bool.bne_true, reduceCtorEq])
local macro_rules | `(tactic| walk_at "rh") => `(tactic| simp only [*, startD, List.map, List.replicate, List.length_cons, List.length_nil, List.append_eq, List.append_nil, List.nil_append, List.cons_append, Nat.reduceSub, Nat.reduceAdd, List.getElem?_cons_zero, List.getElem?_cons_succ, List.set_cons_zero, List.set_cons_succ,
  dC, dVar, dOp, dTru, gTru, tru, dChain, dAnd, dOr, dNot, dAndV, dOrV, dNotV, dIf, dNeg, gNeg, dNil, dCons, dTup, dLst, dOwn, gIx, rBin, gAdd, gCmpI, dCall, dCallK, dSeq, dNext, dDrop, dRet, dRetN, dIfS, dName, dGNil, dGCons, dGTup, dSub, gSetL, dAsg, dPar, dPar3, dAug, gIpI, dSeqI, gSeqI, dRngI, gRng1, gRng2, dCB, gAbs, gInt, gMax, gMin, gGcd, gLen, lenD, gIsi, tyM, tyD, dBits, gBits, dMet, gAppend, dPart, dNoPart, dSl, gSl_tup, gSl_lst, cut_1, dEnds, gIs, isB, dNever, dFor, dLc, wipeD, dYes,
  sizeLine_eq, Nat.reduceLeDiff, gEq_int, gNe_int, gEq_strs, gNe_strs, gIn_two, gRepr_bl, rs_lst, rs_tup, rs_scr, rs_int, atI_0, atI_1, atI_2, atI_3, atI_4, atI_5, ixN_30, ixN_31, ixN_32, gEq_bl, gNe_bl, decide_eq_true_eq, beq_iff_eq, Bool.not_eq_true', beq_eq_false_iff_ne, decide_eq_false_iff_not, Bool.not_true, Bool.not_false, if_true, if_false, Bool.false_eq_true, ite_true, ite_false, true_and, and_true, ne_eq, Bool.bne_false, Bool.bne_true, reduceCtorEq])
local macro_rules | `(tactic| walk_at "kb") => `(tactic| simp only [kb_NoneType_list, kb_bool_list, kb_int_list, kb_str_list, kb_tuple_list, kb_list_list, kb_dict_list, kb_NoneType_int, kb_bool_int, kb_int_int, kb_str_int, kb_tuple_int, kb_list_int, kb_dict_int, kb_NoneType_bool, kb_bool_bool, kb_int_bool, kb_str_bool, kb_tuple_bool, kb_list_bool, kb_dict_bool, kb_NoneType_tuple, kb_bool_tuple, kb_int_tuple, kb_str_tuple, kb_tuple_tuple, kb_list_tuple, kb_dict_tuple, if_true, if_false, Bool.false_eq_true, ite_true, ite_false, Bool.not_true, Bool.not_false])
/-! ### k08's own lists -/
def sp_ldrawn : DSp := fun ds M Q _ => ∃ (k : Nat) (most n : Int), ds = [.own k, .int most] ∧ 0 < most ∧ most ≤ 400 ∧ Gn k n M ∧ n ≤ P40 - 400 ∧ ∀ m M', isMeas (.int m) = true → m ≤ 4 * most + 1 → Gst k (n + 80) M M' → Q (.int m) M'
theorem rd_l_drawn_measure_d212 : ∀ ds M Q, ds.length = 2 → sp_ldrawn ds M Q DX0 → t_l_drawn_measure_d212 sp_random (dEnds M Q) (startD 3 ds) M := by
  rintro _ M Q - ⟨k, most, n, rfl, m0, m1, hg, hn, q⟩
  unfold t_l_drawn_measure_d212
  refine dSeq_open fun B hB => ?_
  walk_at "rd"
  refine ⟨k, most, n, rfl, m0, lt900 (by omega), hg, by omega, fun v M1 v0 v1 g1 => ?_⟩
  dsimp only
  have b4 : Bi 4 4 := Bi.of_abs 4 (by decide)
  have bv : Bi 10 v := Bi.of_abs 1000 (by omega) (by decide)
  refine ⟨⟨b4.sm, bv.sm⟩, k, 2, _, rfl, by decide, lt900 (by decide), g1.2.1, by omega, fun v2 M2 v20 v21 g2 => ?_⟩
  dsimp only
  rw [← hB]
  clear hB B
  have g3 := (g1.trans g2).le (m := n + 80) (by omega)
  walk_at "rd"
  have meas : ∀ i : Int, 5 ≤ i → (i % 4 = 0 ∨ i % 4 = 1) → isMeas (.int i) = true := fun i h1 h2 => by
    simp only [isMeas, decide_eq_true h1, Bool.true_and, Bool.or_eq_true, beq_iff_eq]
    exact h2
  by_cases h : 4 < 4 + 4 * v + v2
  · rw [if_pos h]
    exact g3.rtq (q _ M2 (meas _ (by omega) (by omega)) (by omega) g3)
  · rw [if_neg h]
    exact g3.rtq (q 5 M2 (by decide) (by omega) g3)
def sp_lturns : DSp := fun ds M Q _ => ∃ m : Int, ds = [.int m] ∧ 5 ≤ m ∧ m ≤ 2100 ∧ ∀ l, TurnsOK m l → Q (.lst (l.map D.int)) M
theorem rd_l_turns_2ef2 : ∀ ds M Q, ds.length = 1 → sp_lturns ds M Q DX0 → t_l_turns_2ef2 (dEnds M Q) (startD 2 ds) M := by
  rintro _ M Q - ⟨m, rfl, m5, m1, q⟩
  unfold t_l_turns_2ef2
  walk_at "rd"
  refine ⟨⟨⟨by decide, by decide⟩, by decide, by decide⟩, ?_⟩
  refine lcW_pure (fun d => match d with | .int p => if p * p < m then some (.int p) else none | _ => none) trivial (by rw [rng_len, sizeLine_eq]; decide) (fun d hd Y N' hy => ?_) ?_
  · obtain ⟨i2, hi2'⟩ := List.mem_iff_getElem?.mp hd
    obtain ⟨hi3, rfl⟩ := rng_get.mp hi2'
    replace hi3 : i2 < 121 := hi3
    have bi : Bi 10 (-60 + (i2 : Int)) := Bi.of_abs 200 (by omega) (by decide)
    walk_at "rd"
    refine ⟨⟨bi.sm, bi.sm⟩, ?_⟩
    dsimp only at hy ⊢
    by_cases hg : (-60 + (i2 : Int)) * (-60 + (i2 : Int)) < m
    · rw [if_pos hg] at hy
      rw [if_pos hg]
      exact hy
    · rw [if_neg hg] at hy
      rw [if_neg hg]
      exact hy
  · rw [rng_fmi (g := fun i => if (-60 + (i : Int)) * (-60 + (i : Int)) < m then some (-60 + (i : Int)) else none) (fun i => by
      show (if (-60 + (i : Int)) * (-60 + (i : Int)) < m then some (D.int (-60 + (i : Int))) else none) = _
      split <;> rfl)]
    refine rtq (q _ ⟨?_, fun e he => ?_, fun e h3 h4 => ?_, ?_⟩) (below_ints _)
    · refine List.Pairwise.filterMap _ (fun a a' (hne : a ≠ a') x hx y hy => ?_) List.nodup_range
      by_cases g1 : (-60 + (a : Int)) * (-60 + (a : Int)) < m
      · by_cases g2 : (-60 + (a' : Int)) * (-60 + (a' : Int)) < m
        · rw [if_pos g1] at hx
          rw [if_pos g2] at hy
          cases hx; cases hy
          intro z
          omega
        · rw [if_neg g2] at hy; cases hy
      · rw [if_neg g1] at hx; cases hx
    · obtain ⟨j, hj, h5⟩ := List.mem_filterMap.mp he
      have hj' := List.mem_range.mp hj
      replace hj' : j < 121 := hj'
      by_cases g1 : (-60 + (j : Int)) * (-60 + (j : Int)) < m
      · rw [if_pos g1] at h5
        cases h5
        omega
      · rw [if_neg g1] at h5; cases h5
    · have h5 : -60 ≤ e ∧ e ≤ 60 := by
        constructor
        · by_cases z : -60 ≤ e
          · exact z
          · have : 61 * 61 ≤ (-e) * (-e) := Int.mul_le_mul (by omega) (by omega) (by decide) (by omega)
            rw [Int.neg_mul_neg] at this
            omega
        · by_cases z : e ≤ 60
          · exact z
          · have : 61 * 61 ≤ e * e := Int.mul_le_mul (by omega) (by omega) (by decide) (by omega)
            omega
      refine List.mem_filterMap.mpr ⟨(e + 60).toNat, List.mem_range.mpr (by show _ < 121; omega), ?_⟩
      have : -60 + ((e + 60).toNat : Int) = e := by omega
      rw [this, if_pos h3]
    · refine Nat.le_trans (List.length_filterMap_le _ _) ?_
      rw [List.length_range]
      decide
theorem lowsL_step {n : Nat} {b c e : Int} : lowsL (n + 1) b c e = lowsL n b c e ++ (if isCut (n : Int) b c e = true then [[(n : Int), b, c, e]] else []) := by
  unfold lowsL
  rw [List.range_succ, List.filterMap_append]
  congr 1
  by_cases h : isCut (n : Int) b c e = true
  · simp [h]
  · simp [h]
def sp_lwithM : DSp := fun ds M Q _ => ∃ m e : Int, ds = [.int m, .int e] ∧ 0 ≤ m ∧ m ≤ 14100 ∧ Bi 100 e ∧ ∀ l, CovX m l (fun _ e' => e' = e) → l.length ≤ 220000 → (m ≤ 4100 → l.length ≤ 33000) → Q (.lst (l.map tI)) M
theorem rd_l_with_e507 : ∀ ds M Q, ds.length = 2 → sp_lwithM ds M Q DX0 → t_l_with_e507 sp_gcd sp_lis_cutting (dEnds M Q) (startD 7 ds) M := by
  rintro _ M Q - ⟨m, e, rfl, m0, m1, be, q⟩
  unfold t_l_with_e507
  have he2 := sq_nn e
  have hnone : m - e * e ≤ 0 ∨ (m - e * e) % 4 ≠ 0 → CovX m [] (fun _ e' => e' = e) := fun h => CovX.nil fun a b c e' h1 h2 h3 => by
    subst h3
    obtain ⟨k1, k2, _⟩ := cut_parts h1
    have h3 := meas_bc.mp h2
    have h4 : 1 * 1 ≤ b * c := Int.mul_le_mul k1 k2 (by decide) (by omega)
    omega
  have hdrop : ∀ l, CovX m l (fun _ e' => e' = e) → l.length ≤ 33000 → Rtq M Q (.lst (l.map tI)) (M ++ [.lst []]) := fun l hl h6 => rtqG (q l hl (by omega) fun _ => h6) (below_tIs l)
  refine dSeq_open fun B hB => ?_
  walk_at "rd"
  refine ⟨⟨be.sm, be.sm⟩, ?_⟩
  rw [← hB]
  clear hB B
  refine dSeq_open fun B hB => ?_
  walk_at "rd"
  by_cases h1 : m - e * e ≤ 0
  · rw [if_pos h1]
    exact hdrop [] (hnone (.inl h1)) (by decide)
  rw [if_neg h1]
  refine ⟨(by decide : (4 : Int) ≠ 0), ?_⟩
  rw [fmod_pos (show (0 : Int) < 4 by decide)]
  by_cases h2 : (m - e * e) % 4 = 0
  · rw [if_neg (fun z => z h2), ← hB]
    clear hB B
    obtain ⟨W, hW⟩ : ∃ W, (m - e * e) / 4 = W := ⟨_, rfl⟩
    have w1 : 1 ≤ W ∧ W ≤ 3525 := by omega
    have w4 : 4 * W = m - e * e := by omega
    refine dSeq_open fun B hB => ?_
    walk_at "rd"
    rw [fdiv_pos (show (0 : Int) < 4 by decide), hW]
    refine ⟨⟨by decide, by decide⟩, ⟨⟨by decide, by decide⟩, by omega, by omega⟩, ?_⟩
    rw [show (W + 1 - 1).toNat = W.toNat by omega]
    refine ⟨fun i r M' => ∃ (L : List (List Int)) (t4 t5 t6 : Option D), M' = M ++ [.lst (L.map tI)] ∧ r = [some (.int m), some (.int e), some (.own M.length), some (.int (m - e * e)), t4, t5, t6] ∧ CovX m L (fun c' e' => c' < 1 + (i : Nat) ∧ e' = e) ∧ L.length ≤ 60 * i ∧ (m ≤ 4100 → L.length ≤ 32 * i) ∧ i ≤ W.toNat ∧ True, ⟨[], none, none, none, rfl, rfl, CovX.nil ?_, by simp, by simp, Nat.zero_le _, trivial⟩, ?_⟩
    · rintro a b c e' h1 h2 ⟨h3, h4⟩
      have := (cut_parts h1).2.1
      omega
    rintro i r M' ⟨L, t4, t5, t6, rfl, rfl, hcov, hlen, hlenM, hi, _⟩
    refine ⟨trivial, fun hli => ?_, fun d hd => ?_⟩
    · rw [rng_len] at hli
      rw [← hB]
      unfold dFrz
      walk_at "rd"
      unfold gFrz
      dsimp only
      rw [new_at]
      dsimp only
      rw [List.set_append_right _ _ (Nat.le_refl _), Nat.sub_self]
      refine rtqG (q L (hcov.iff fun a b c e' h3 h4 => ⟨fun h5 => ⟨?_, h5⟩, fun h5 => h5.2⟩) (by omega) (fun h9 => by have := hlenM h9; omega)) (below_tIs L)
      have h6 := meas_bc.mp h4
      obtain ⟨g1, g2, _⟩ := cut_parts h3
      have : 1 * c ≤ b * c := Int.mul_le_mul_of_nonneg_right g1 (by omega)
      rw [h5] at h6
      omega
    · obtain ⟨hi2, rfl⟩ := rng_get.mp hd
      generalize hc : (1 : Int) + (i : Nat) = c at *
      have c1 : 1 ≤ c := by omega
      have c2 : c ≤ 3525 := by omega
      have bc : Bi 20 c := Bi.of_abs 4000 (by omega) (by decide)
      walk_at "rd"
      rw [fdiv_pos (show (0 : Int) < 4 by decide), hW]
      refine ⟨⟨by decide, by decide⟩, show c ≠ 0 by omega, ?_⟩
      rw [fmod_pos (show 0 < c by omega)]
      have hnext : ∀ (c' : Int), c' < 1 + ((i + 1 : Nat) : Int) ↔ c' < c ∨ c' = c := fun c' => by omega
      by_cases hdv : W % c = 0
      · rw [if_pos hdv]
        have hb : W / c * c = W := Int.ediv_mul_cancel (Int.dvd_of_emod_eq_zero hdv)
        have hb0 : 0 ≤ W / c := Int.ediv_nonneg (by omega) (by omega)
        rw [fdiv_pos (show 0 < c by omega)]
        refine ⟨⟨by decide, by decide⟩, ⟨by omega, Nat.lt_of_lt_of_le (log2_of 20 bc (by decide)) (by decide)⟩, _, c, rfl, ?_⟩
        generalize W / c = b at *
        have b1 : 1 ≤ b := by
          rcases (by omega : b = 0 ∨ 1 ≤ b) with z | z
          · rw [z] at hb; omega
          · exact z
        have gc : (Int.gcd b c : Int) ≤ c := Int.le_of_dvd (by omega) (Int.gcd_dvd_right _ _)
        have gb : (Int.gcd b c : Int) ≤ b := Int.le_of_dvd (by omega) (Int.gcd_dvd_left _ _)
        have g59 : (Int.gcd b c : Int) ≤ 60 := by
          by_cases z : (Int.gcd b c : Int) ≤ 60
          · exact z
          · have : 61 * 61 ≤ b * c := Int.mul_le_mul (by omega) (by omega) (by decide) (by omega)
            omega
        have g22 : m ≤ 4100 → (Int.gcd b c : Int) ≤ 32 := fun h9 => by
          by_cases z : (Int.gcd b c : Int) ≤ 32
          · exact z
          · have : 33 * 33 ≤ b * c := Int.mul_le_mul (by omega) (by omega) (by decide) (by omega)
            omega
        dsimp only
        refine ⟨⟨by omega, by omega⟩, ?_⟩
        rw [show ((Int.gcd b c : Nat) : Int).toNat = Int.gcd b c by omega]
        generalize hG : Int.gcd b c = G at *
        refine ⟨fun j r M' => ∃ t6, M' = M ++ [.lst ((L ++ lowsL j b c e).map tI)] ∧ r = [some (.int m), some (.int e), some (.own M.length), some (.int (m - e * e)), some (.int c), some (.int b), t6] ∧ j ≤ G, ⟨t6, by rw [show lowsL 0 b c e = [] from rfl, List.append_nil], rfl, Nat.zero_le _⟩, ?_⟩
        rintro j r M' ⟨t6, rfl, rfl, hj⟩
        refine ⟨trivial, fun hlj => ?_, fun d hd => ?_⟩
        · rw [rng_len] at hlj
          have : j = G := by omega
          subst this
          dsimp only
          have hl3 := lowsL_len (n := j) (b := b) (c := c) (e := e)
          have hcov3 := hcov.app (by have := lows_covX (b := b) c1 w4 hb; rw [hG] at this; exact this) fun c' e' h3 h4 => by omega
          refine ⟨_, _, _, _, rfl, rfl, hcov3.iff fun a b' c' e' _ _ => ?_, by rw [List.length_append]; omega, fun h9 => by have := hlenM h9; have := g22 h9; rw [List.length_append]; omega, by omega⟩
          rw [hnext]
          constructor
          · rintro ⟨h3 | h3, h4⟩
            · exact .inl ⟨h3, h4⟩
            · exact .inr ⟨h3, h4⟩
          · rintro (⟨h3, h4⟩ | ⟨h3, h4⟩)
            · exact ⟨.inl h3, h4⟩
            · exact ⟨.inr h3, h4⟩
        · obtain ⟨hj2, rfl⟩ := rng_get.mp hd
          have hl3 := lowsL_len (n := j) (b := b) (c := c) (e := e)
          walk_at "rd"
          refine ⟨_, b, c, e, rfl, ?_⟩
          rw [Int.zero_add]
          dsimp only
          rw [lowsL_step]
          by_cases hcut : isCut (j : Int) b c e = true
          · rw [if_pos hcut, if_pos hcut]
            refine ⟨⟨_, _, rfl, new_at M _⟩, ?_⟩
            rw [new_at]
            dsimp only
            refine ⟨by rw [List.length_map, List.length_append]; omega, _, ?_, rfl, by omega⟩
            rw [List.set_append_right _ _ (Nat.le_refl _), Nat.sub_self, ← List.append_assoc]
            have e9 : ∀ A : List (List Int), (A ++ [[(j : Int), b, c, e]]).map tI = A.map tI ++ [T4 (j : Int) b c e] := fun A => by rw [List.map_append]; rfl
            rw [e9]
            rfl
          · rw [if_neg hcut, if_neg hcut, List.append_nil]
            exact ⟨_, rfl, rfl, by omega⟩
      · rw [if_neg hdv]
        have hcov3 := hcov.app (lows_noneX (e := e) w4 hdv) fun c' e' h3 h4 => by omega
        rw [List.append_nil] at hcov3
        refine ⟨L, _, _, _, rfl, rfl, hcov3.iff fun a b' c' e' _ _ => ?_, by omega, fun h9 => by have := hlenM h9; omega, by omega⟩
        rw [hnext]
        constructor
        · rintro ⟨h3 | h3, h4⟩
          · exact .inl ⟨h3, h4⟩
          · exact .inr ⟨h3, h4⟩
        · rintro (⟨h3, h4⟩ | ⟨h3, h4⟩)
          · exact ⟨.inl h3, h4⟩
          · exact ⟨.inr h3, h4⟩
  · rw [if_pos h2]
    exact hdrop [] (hnone (.inr h2)) (by decide)
def sp_lall : DSp := fun ds M Q _ => ∃ m : Int, ds = [.int m] ∧ 5 ≤ m ∧ m ≤ 2100 ∧ ∀ l, AllC m l → Q (.lst (l.map tI)) M
theorem rd_l_all_a488 : ∀ ds M Q, ds.length = 1 → sp_lall ds M Q DX0 → t_l_all_a488 sp_lturns sp_lwithM (dEnds M Q) (startD 3 ds) M := by
  rintro _ M Q - ⟨m, rfl, m5, m1, q⟩
  unfold t_l_all_a488
  refine dSeq_open fun B hB => ?_
  walk_at "rd"
  rw [← hB]
  clear hB B
  refine dSeq_open fun B hB => ?_
  walk_at "rd"
  refine ⟨m, rfl, m5, m1, fun T hT => ?_⟩
  have hTl := hT.len
  refine ⟨fun i r M' => M' = M ∧ ∃ (L : List (List Int)) (t : Option D), r = [some (.int m), some (.lst (L.map tI)), t] ∧ CovX m L (fun _ e' => e' ∈ T.take i) ∧ L.length ≤ 33000 * i ∧ i ≤ T.length, ⟨rfl, [], none, rfl, CovX.start, by simp, Nat.zero_le _⟩, ?_⟩
  rintro i r M' ⟨rfl, L, t, rfl, hcov, hlen, hi⟩
  refine ⟨trivial, fun hli => ?_, fun d hd => ?_⟩
  · rw [List.length_map] at hli
    rw [← hB]
    clear hB B
    rw [List.take_of_length_le hli] at hcov
    have hall := hcov.all hT
    walk_at "rd"
    exact gSorted_tI (k := 4) hcov.len4 (by decide) fun l' pm sd => rtq (q l' (AllC.of hall (fun _ _ _ _ _ _ => trivial) (by omega) pm sd)) (below_tIs l')
  · rw [List.getElem?_map] at hd
    obtain ⟨e, he, rfl⟩ := Option.map_eq_some_iff.mp hd
    have hb := hT.bd e (List.mem_of_getElem? he)
    have hil := (List.getElem?_eq_some_iff.mp he).1
    walk_at "rd"
    refine ⟨m, e, rfl, by omega, by omega, Bi.of_abs 200 (by omega) (by decide), fun l2 hl2 _ hll => ?_⟩
    replace hll := hll (by omega)
    dsimp only
    exact ⟨by rw [List.length_map, List.length_map]; omega, rfl, L ++ l2, _, by rw [List.map_append], hcov.turn hl2 hT.nd he, by rw [List.length_append]; omega, by omega⟩
end DL
namespace DL
open PySem PySem.Spec PyProof.Rows L2
local macro_rules | `(tactic| walk_at "rd") => `(tactic| simp only [startD, List.map, List.replicate, List.length_cons, List.length_nil, List.append_eq, List.append_nil, List.nil_append, List.cons_append, Nat.reduceSub, Nat.reduceAdd, List.getElem?_cons_zero, List.getElem?_cons_succ, List.set_cons_zero, List.set_cons_succ,
  dC, dVar, dOp, dTru, gTru, tru, dChain, dAnd, dOr, dNot, dAndV, dOrV, dNotV, dIf, dNeg, gNeg, dNil, dCons, dTup, dLst, dOwn, gIx, rBin, gAdd, gCmpI, dCall, dCallK, dSeq, dNext, dDrop, dRet, dRetN, dIfS, dName, dGNil, dGCons, dGTup, dSub, gSetL, dAsg, dPar, dPar3, dAug, gIpI, dSeqI, gSeqI, dRngI, gRng1, gRng2, dCB, gAbs, gInt, gMax, gMin, gGcd, gLen, lenD, gIsi, tyM, tyD, dBits, gBits, dMet, gAppend, dPart, dNoPart, dSl, gSl_tup, gSl_lst, cut_1, dEnds, gIs, isB, dNever, dCallX, dRaise, dTry, dFld, dCallV, gLRng, gFrz, dFrz, dFor, dLc, wipeD, dYes,
  sizeLine_eq, Nat.reduceLeDiff, gEq_int, gNe_int, gEq_strs, gNe_strs, gIn_two, gRepr_bl, rs_lst, rs_tup, rs_scr, rs_int, atI_0, atI_1, atI_2, atI_3, atI_4, atI_5, ixN_30, ixN_31, ixN_32, gEq_bl, gNe_bl, decide_eq_true_eq, beq_iff_eq, Bool.not_eq_true', beq_eq_false_iff_ne, decide_eq_false_iff_not, Bool.not_true, Bool.not_false, if_true, if_false, Bool.false_eq_true, ite_true, ite_false, true_and, and_true, ne_eq, Bool.bne_false, Bool.bne_true, reduceCtorEq])
local macro_rules | `(tactic| walk_at "rh") => `(tactic| simp only [*, startD, List.map, List.replicate, List.length_cons, List.length_nil, List.append_eq, List.append_nil, List.nil_append, List.cons_append, Nat.reduceSub, Nat.reduceAdd, List.getElem?_cons_zero, List.getElem?_cons_succ, List.set_cons_zero, List.set_cons_succ,
  dC, dVar, dOp, dTru, gTru, tru, dChain, dAnd, dOr, dNot, dAndV, dOrV, dNotV, dIf, dNeg, gNeg, dNil, dCons, dTup, dLst, dOwn, gIx, rBin, gAdd, gCmpI, dCall, dCallK, dSeq, dNext, dDrop, dRet, dRetN, dIfS, dName, dGNil, dGCons, dGTup, dSub, gSetL, dAsg, dPar, dPar3, dAug, gIpI, dSeqI, gSeqI, dRngI, gRng1, gRng2, dCB, gAbs, gInt, gMax, gMin, gGcd, gLen, lenD, gIsi, tyM, tyD, dBits, gBits, dMet, gAppend, dPart, dNoPart, dSl, gSl_tup, gSl_lst, cut_1, dEnds, gIs, isB, dNever, dCallX, dRaise, dTry, dFld, dCallV, gLRng, gFrz, dFrz, dFor, dLc, wipeD, dYes,
  sizeLine_eq, Nat.reduceLeDiff, gEq_int, gNe_int, gEq_strs, gNe_strs, gIn_two, gRepr_bl, rs_lst, rs_tup, rs_scr, rs_int, atI_0, atI_1, atI_2, atI_3, atI_4, atI_5, ixN_30, ixN_31, ixN_32, gEq_bl, gNe_bl, decide_eq_true_eq, beq_iff_eq, Bool.not_eq_true', beq_eq_false_iff_ne, decide_eq_false_iff_not, Bool.not_true, Bool.not_false, if_true, if_false, Bool.false_eq_true, ite_true, ite_false, true_and, and_true, ne_eq, Bool.bne_false, Bool.bne_true, reduceCtorEq])
local macro_rules | `(tactic| walk_at "kb") => `(tactic| simp only [kb_NoneType_list, kb_bool_list, kb_int_list, kb_str_list, kb_tuple_list, kb_list_list, kb_dict_list, kb_NoneType_int, kb_bool_int, kb_int_int, kb_str_int, kb_tuple_int, kb_list_int, kb_dict_int, kb_NoneType_bool, kb_bool_bool, kb_int_bool, kb_str_bool, kb_tuple_bool, kb_list_bool, kb_dict_bool, kb_NoneType_tuple, kb_bool_tuple, kb_int_tuple, kb_str_tuple, kb_tuple_tuple, kb_list_tuple, kb_dict_tuple, if_true, if_false, Bool.false_eq_true, ite_true, ite_false, Bool.not_true, Bool.not_false])
/-! RdCC: cuttings with their errors, numbered -/
def sp_check_cutting_x : DSp := fun ds M Q E => ∃ d, ds = [d] ∧ Askable 4 M d ∧ (isCutD d = true → Q .non M) ∧ (isCutD d = false → E "InvalidCutting" d M)
theorem rd_check_cutting_x : ∀ ds M Q E, ds.length = 1 → belowAll M.length ds = true → sp_check_cutting_x ds M Q E → t_check_cutting_x sp_is_cutting (dOut M E) (dEnds M Q) (startD 1 ds) M := by
  rintro _ M Q E - hb ⟨d, rfl, ha, q, q2⟩
  unfold t_check_cutting_x
  walk_at "rd"
  refine ⟨d, rfl, ha, ?_⟩
  cases h : isCutD d with
  | true => walk_at "rd"; exact rtq (q h)
  | false => walk_at "rd"; exact ⟨d, rfl, rtx (belowAll_mem hb (by simp)) (q2 h)⟩
/-! ### places in a list of tuples of whole numbers -/
def pdI (x : List Int) : PyData := .tuple (x.map PyData.int)
theorem toPyAll_ints : ∀ l : List Int, toPyAll (l.map D.int) = some (l.map PyData.int)
  | [] => rfl
  | i :: l => by simp only [List.map_cons, toPyAll, toPy, toPyAll_ints l]
theorem toPy_tI (x : List Int) : toPy (tI x) = some (pdI x) := by
  unfold tI pdI
  simp only [toPy, toPyAll_ints]
theorem toPyAll_tIs : ∀ l : List (List Int), toPyAll (l.map tI) = some (l.map pdI)
  | [] => rfl
  | x :: l => by simp only [List.map_cons, toPyAll, toPy_tI, toPyAll_tIs l]
theorem dpD_ints : ∀ l : List Int, dpDAll (l.map D.int) = true
  | [] => rfl
  | i :: l => by simp only [List.map_cons, dpDAll, dpD, dpD_ints l, Bool.and_self]
theorem dpD_tI (x : List Int) : dpD (tI x) = true := by unfold tI; simp only [dpD, dpD_ints]
theorem dpD_tIs : ∀ l : List (List Int), dpDAll (l.map tI) = true
  | [] => rfl
  | x :: l => by simp only [List.map_cons, dpDAll, dpD_tI, dpD_tIs l, Bool.and_self]
theorem cmpd_tI (x : List Int) : cmpd (tI x) = some (pdI x) := by
  obtain ⟨p, h1, h2⟩ := cmpd_fine (n := 4) (fine_tI x)
  rw [toPy_tI] at h1
  cases h1
  exact h2
theorem cmpd_tIs (l : List (List Int)) : cmpd (.lst (l.map tI)) = some (.list (l.map pdI)) := by
  obtain ⟨p, h1, h2⟩ := cmpd_fine (n := 5) (fine_lst_tIs l)
  simp only [toPy, toPyAll_tIs] at h1
  cases h1
  exact h2
theorem eqvAll_ints : ∀ x y : List Int, PyData.eqvAll (x.map PyData.int) (y.map PyData.int) = decide (x = y)
  | [], [] => by simp [PyData.eqvAll]
  | [], _ :: _ => by simp [PyData.eqvAll]
  | _ :: _, [] => by simp [PyData.eqvAll]
  | i :: x, j :: y => by
    simp only [List.map_cons, PyData.eqvAll, PyData.eqv, eqvAll_ints x y]
    by_cases h : i = j
    · by_cases h2 : x = y <;> simp [h, h2]
    · simp [h]
theorem eqv_pdI (x y : List Int) : PyData.eqv (pdI x) (pdI y) = decide (x = y) := by
  unfold pdI
  simp only [PyData.eqv]
  exact eqvAll_ints x y
theorem index_tI {o : D} {l : List (List Int)} {x : List Int} {j : Nat} {M : Mem} {Q : DQ} (ho : res M o = .lst (l.map tI)) (nd : l.Nodup) (h : l[j]? = some x) (q : Q (.int (j : Nat)) M) : gIndex o [tI x] M Q := by
  refine ⟨l.map tI, l.map pdI, pdI x, j, pdI x, ho, dpD_tIs l, dpD_tI x, cmpd_tIs l, cmpd_tI x, by rw [List.getElem?_map, h]; rfl, by rw [eqv_pdI]; simp, fun m z' hm hz => ?_, q⟩
  rw [List.getElem?_map] at hz
  obtain ⟨y, hy, rfl⟩ := Option.map_eq_some_iff.mp hz
  rw [eqv_pdI, decide_eq_false_iff_not]
  rintro rfl
  obtain ⟨a1, a2⟩ := List.getElem?_eq_some_iff.mp h
  obtain ⟨b1, b2⟩ := List.getElem?_eq_some_iff.mp hy
  exact (List.pairwise_iff_getElem.mp nd) m j b1 a1 hm (b2.trans a2.symm)
/-! ### the functions -/
def sp_listed_by : DSp := fun ds M Q _ => ∃ m : Int, ds = [.int m] ∧ 5 ≤ m ∧ m ≤ 16300 ∧ ∀ l, AllC m l → Q (.lst (l.map tI)) M
theorem rd_listed_by : ∀ ds M Q, ds.length = 1 → sp_listed_by ds M Q DX0 → t_listed_by sp_turns_of sp_with_turn (dEnds M Q) (startD 3 ds) M := by
  rintro _ M Q - ⟨m, rfl, m5, m1, q⟩
  unfold t_listed_by
  refine dSeq_open fun B hB => ?_
  walk_at "rd"
  rw [← hB]
  clear hB B
  refine dSeq_open fun B hB => ?_
  walk_at "rd"
  refine ⟨m, rfl, m5, m1, fun T hT => ?_⟩
  have hTl := hT.len
  refine ⟨fun i r M' => M' = M ∧ ∃ (L : List (List Int)) (t : Option D), r = [some (.int m), some (.lst (L.map tI)), t] ∧ CovX m L (fun _ e' => e' ∈ T.take i) ∧ L.length ≤ 10000 * i ∧ i ≤ T.length, ⟨rfl, [], none, rfl, CovX.start, by simp, Nat.zero_le _⟩, ?_⟩
  rintro i r M' ⟨rfl, L, t, rfl, hcov, hlen, hi⟩
  refine ⟨trivial, fun hli => ?_, fun d hd => ?_⟩
  · rw [List.length_map] at hli
    rw [← hB]
    clear hB B
    rw [List.take_of_length_le hli] at hcov
    have hall := hcov.all hT
    walk_at "rd"
    exact gSorted_tI (k := 4) hcov.len4 (by decide) fun l' pm sd => rtq (q l' (AllC.of hall (fun _ _ _ _ _ _ => trivial) (by omega) pm sd)) (below_tIs l')
  · rw [List.getElem?_map] at hd
    obtain ⟨e, he, rfl⟩ := Option.map_eq_some_iff.mp hd
    have hb := hT.bd e (List.mem_of_getElem? he)
    have hil := (List.getElem?_eq_some_iff.mp he).1
    walk_at "rd"
    refine ⟨m, e, rfl, by omega, m1, Bi.of_abs 200 (by omega) (by decide), fun l2 hl2 hll => ?_⟩
    dsimp only
    exact ⟨by rw [List.length_map, List.length_map]; omega, rfl, L ++ l2, _, by rw [List.map_append], hcov.turn hl2 hT.nd he, by rw [List.length_append]; omega, by omega⟩
/-- a good cutting and the list of its measure -/
def sp_cutting_number_x : DSp := fun ds M Q _ => ∃ a b c e : Int, ds = [T4 a b c e] ∧ isCut a b c e = true ∧ meas4 b c e ≤ 16300 ∧ ∀ l (j : Nat), AllC (meas4 b c e) l → l[j]? = some [a, b, c, e] → Q (.int (j : Nat)) M
theorem bi_le {n : Nat} {m : Int} (h0 : 0 ≤ m) (h : m ≤ 20000) (hn : 15 ≤ n := by decide) : Bi n m := (Bi.of_abs (n := 15) 20000 (by omega) (by decide)).mono hn
theorem AllC.at {m a b c e : Int} {l : List (List Int)} (h : AllC m l) (hc : isCut a b c e = true) (hm : meas4 b c e = m) : ∃ j : Nat, l[j]? = some [a, b, c, e] :=
  List.mem_iff_getElem?.mp ((h.mem _).mpr ⟨a, b, c, e, rfl, hc, hm⟩)
theorem rd_cutting_number_x : ∀ ds M Q E, ds.length = 1 → belowAll M.length ds = true → sp_cutting_number_x ds M Q E → t_cutting_number_x sp_check_cutting_x sp_listed_by sp_measure_by (dOut M E) (dEnds M Q) (startD 1 ds) M := by
  rintro _ M Q E - hb ⟨a, b, c, e, rfl, hc, hm, q⟩
  have m5 := meas_ge (meas4_ok hc)
  obtain ⟨_, bb, bc, be⟩ := cut_bi hc (bi_le (n := 20) (by omega) (by omega))
  unfold t_cutting_number_x
  walk_at "rd"
  refine ⟨_, rfl, ask_fine M rfl, fun _ => ?_, fun z => (by rw [show isCutD (T4 a b c e) = true from hc] at z; cases z)⟩
  unfold dMeth
  walk_at "rd"
  refine ⟨a, b, c, e, rfl, bb.mono, bc.mono, be.mono, _, rfl, m5, hm, fun l hl => ?_⟩
  obtain ⟨j, hj⟩ := hl.at hc rfl
  exact ⟨⟨_, rfl⟩, index_tI (x := [a, b, c, e]) rfl hl.nd hj (rtq (q l j hl hj))⟩
theorem below_tI {n : Nat} (x : List Int) : below n (tI x) = true := by unfold tI; simp only [below]; exact below_ints _
theorem gIx_lst {l : List D} {n : Int} {d : D} {M : Mem} {Q : DQ} (h0 : 0 ≤ n) (h : l[n.toNat]? = some d) (q : Q d M) : gIx (.lst l) (.int n) M Q := by
  have hl := (List.getElem?_eq_some_iff.mp h).1
  have e : atI l n = some d := by
    have := atI_of n.toNat (l := l) hl
    rw [show ((n.toNat : Nat) : Int) = n by omega] at this
    rw [this, h]
  unfold gIx
  walk_at "rd"
  rw [e]
  exact q
/-- the one behind -/
def nextD (l : List (List Int)) (j : Nat) : D := match l[j + 1]? with
  | some x => tI x
  | none => .non
def sp_next_cutting_x : DSp := fun ds M Q _ => ∃ a b c e : Int, ds = [T4 a b c e] ∧ isCut a b c e = true ∧ meas4 b c e ≤ 16300 ∧ ∀ l (j : Nat), AllC (meas4 b c e) l → l[j]? = some [a, b, c, e] → Q (nextD l j) M
theorem rd_next_cutting_x : ∀ ds M Q E, ds.length = 1 → belowAll M.length ds = true → sp_next_cutting_x ds M Q E → t_next_cutting_x sp_check_cutting_x sp_listed_by sp_measure_by (dOut M E) (dEnds M Q) (startD 3 ds) M := by
  rintro _ M Q E - hb ⟨a, b, c, e, rfl, hc, hm, q⟩
  have m5 := meas_ge (meas4_ok hc)
  obtain ⟨_, bb, bc, be⟩ := cut_bi hc (bi_le (n := 20) (by omega) (by omega))
  unfold t_next_cutting_x
  refine dSeq_open fun B hB => ?_
  walk_at "rd"
  refine ⟨_, rfl, ask_fine M rfl, fun _ => ?_, fun z => (by rw [show isCutD (T4 a b c e) = true from hc] at z; cases z)⟩
  rw [← hB]
  clear hB B
  refine dSeq_open fun B hB => ?_
  walk_at "rd"
  refine ⟨a, b, c, e, rfl, bb.mono, bc.mono, be.mono, _, rfl, m5, hm, fun l hl => ?_⟩
  obtain ⟨j, hj⟩ := hl.at hc rfl
  have hjl := (List.getElem?_eq_some_iff.mp hj).1
  rw [← hB]
  clear hB B
  refine dSeq_open fun B hB => ?_
  unfold dMeth
  walk_at "rd"
  refine ⟨⟨_, rfl⟩, index_tI (x := [a, b, c, e]) rfl hl.nd hj ?_⟩
  dsimp only
  rw [← hB]
  clear hB B
  have hq := q l j hl hj
  unfold nextD at hq
  walk_at "rd"
  rw [List.length_map]
  by_cases h : (j : Int) + 1 < (l.length : Int)
  · rw [if_pos h]
    have hlt : j + 1 < l.length := by omega
    have hx := List.getElem?_eq_getElem hlt
    rw [hx] at hq
    have e : atI (l.map tI) ((j : Int) + 1) = some (tI l[j + 1]) := by
      have := atI_of (j + 1) (l := l.map tI) (by rw [List.length_map]; exact hlt)
      rw [show (((j + 1 : Nat) : Nat) : Int) = (j : Int) + 1 by omega] at this
      rw [this, List.getElem?_map, hx]; rfl
    first
    | (rw [e]; exact rtq hq (below_tI _))
    | (trace_state; exact gIx_lst (by omega) (by rw [show ((j : Int) + 1).toNat = j + 1 by omega, List.getElem?_map, hx]; rfl) (rtq hq (below_tI _)))
  · rw [if_neg h]
    rw [List.getElem?_eq_none (by omega)] at hq
    exact rtq hq
end DL
namespace DL
open PySem PySem.Spec PyProof.Rows L2
local macro_rules | `(tactic| walk_at "rd") => `(tactic| simp only [startD, List.map, List.replicate, List.length_cons, List.length_nil, List.append_eq, List.append_nil, List.nil_append, List.cons_append, Nat.reduceSub, Nat.reduceAdd, List.getElem?_cons_zero, List.getElem?_cons_succ, List.set_cons_zero, List.set_cons_succ,
  dC, dVar, dOp, dTru, gTru, tru, dChain, dAnd, dOr, dNot, dAndV, dOrV, dNotV, dIf, dNeg, gNeg, dNil, dCons, dTup, dLst, dOwn, gIx, rBin, gAdd, gCmpI, dCall, dCallK, dSeq, dNext, dDrop, dRet, dRetN, dIfS, dName, dGNil, dGCons, dGTup, dSub, gSetL, dAsg, dPar, dPar3, dAug, gIpI, dSeqI, gSeqI, dRngI, gRng1, gRng2, dCB, gAbs, gInt, gMax, gMin, gGcd, gLen, lenD, gIsi, tyM, tyD, dBits, gBits, dMet, gAppend, dPart, dNoPart, dSl, gSl_tup, gSl_lst, cut_1, dEnds, gIs, isB, dNever, dCallX, dRaise, dTry, dFld, dCallV, gLRng, gFrz, dFrz, dFor, dLc, wipeD, dYes,
  sizeLine_eq, Nat.reduceLeDiff, gEq_int, gNe_int, gEq_strs, gNe_strs, gIn_two, gRepr_bl, rs_lst, rs_tup, rs_scr, rs_int, atI_0, atI_1, atI_2, atI_3, atI_4, atI_5, ixN_30, ixN_31, ixN_32, gEq_bl, gNe_bl, decide_eq_true_eq, beq_iff_eq, Bool.not_eq_true', beq_eq_false_iff_ne, decide_eq_false_iff_not, Bool.not_true, Bool.not_false, if_true, if_false, Bool.false_eq_true, ite_true, ite_false, true_and, and_true, ne_eq, Bool.bne_false, Bool.bne_true, reduceCtorEq])
local macro_rules | `(tactic| walk_at "rh") => `(tactic| simp only [*, startD, List.map, List.replicate, List.length_cons, List.length_nil, List.append_eq, List.append_nil, List.nil_append, List.cons_append, Nat.reduceSub, Nat.reduceAdd, List.getElem?_cons_zero, List.getElem?_cons_succ, List.set_cons_zero, List.set_cons_succ,
  dC, dVar, dOp, dTru, gTru, tru, dChain, dAnd, dOr, dNot, dAndV, dOrV, dNotV, dIf, dNeg, gNeg, dNil, dCons, dTup, dLst, dOwn, gIx, rBin, gAdd, gCmpI, dCall, dCallK, dSeq, dNext, dDrop, dRet, dRetN, dIfS, dName, dGNil, dGCons, dGTup, dSub, gSetL, dAsg, dPar, dPar3, dAug, gIpI, dSeqI, gSeqI, dRngI, gRng1, gRng2, dCB, gAbs, gInt, gMax, gMin, gGcd, gLen, lenD, gIsi, tyM, tyD, dBits, gBits, dMet, gAppend, dPart, dNoPart, dSl, gSl_tup, gSl_lst, cut_1, dEnds, gIs, isB, dNever, dCallX, dRaise, dTry, dFld, dCallV, gLRng, gFrz, dFrz, dFor, dLc, wipeD, dYes,
  sizeLine_eq, Nat.reduceLeDiff, gEq_int, gNe_int, gEq_strs, gNe_strs, gIn_two, gRepr_bl, rs_lst, rs_tup, rs_scr, rs_int, atI_0, atI_1, atI_2, atI_3, atI_4, atI_5, ixN_30, ixN_31, ixN_32, gEq_bl, gNe_bl, decide_eq_true_eq, beq_iff_eq, Bool.not_eq_true', beq_eq_false_iff_ne, decide_eq_false_iff_not, Bool.not_true, Bool.not_false, if_true, if_false, Bool.false_eq_true, ite_true, ite_false, true_and, and_true, ne_eq, Bool.bne_false, Bool.bne_true, reduceCtorEq])
local macro_rules | `(tactic| walk_at "kb") => `(tactic| simp only [kb_NoneType_list, kb_bool_list, kb_int_list, kb_str_list, kb_tuple_list, kb_list_list, kb_dict_list, kb_NoneType_int, kb_bool_int, kb_int_int, kb_str_int, kb_tuple_int, kb_list_int, kb_dict_int, kb_NoneType_bool, kb_bool_bool, kb_int_bool, kb_str_bool, kb_tuple_bool, kb_list_bool, kb_dict_bool, kb_NoneType_tuple, kb_bool_tuple, kb_int_tuple, kb_str_tuple, kb_tuple_tuple, kb_list_tuple, kb_dict_tuple, if_true, if_false, Bool.false_eq_true, ite_true, ite_false, Bool.not_true, Bool.not_false])
/-! ### lists of whole numbers -/
end DL
namespace DL
open PySem PySem.Spec PyProof.Rows L2
local macro_rules | `(tactic| walk_at "rd") => `(tactic| simp only [startD, List.map, List.replicate, List.length_cons, List.length_nil, List.append_eq, List.append_nil, List.nil_append, List.cons_append, Nat.reduceSub, Nat.reduceAdd, List.getElem?_cons_zero, List.getElem?_cons_succ, List.set_cons_zero, List.set_cons_succ,
  dC, dVar, dOp, dTru, gTru, tru, dChain, dAnd, dOr, dNot, dAndV, dOrV, dNotV, dIf, dNeg, gNeg, dNil, dCons, dTup, dLst, dOwn, gIx, rBin, gAdd, gCmpI, dCall, dCallK, dSeq, dNext, dDrop, dRet, dRetN, dIfS, dName, dGNil, dGCons, dGTup, dSub, gSetL, dAsg, dPar, dPar3, dAug, gIpI, dSeqI, gSeqI, dRngI, gRng1, gRng2, dCB, gAbs, gInt, gMax, gMin, gGcd, gLen, lenD, gIsi, tyM, tyD, dBits, gBits, dMet, gAppend, dPart, dNoPart, dSl, gSl_tup, gSl_lst, cut_1, dEnds, gIs, isB, dNever, dCallX, dRaise, dTry, dFld, dCallV, gLRng, gFrz, dFrz, dFor, dLc, wipeD, dYes,
  sizeLine_eq, Nat.reduceLeDiff, gEq_int, gNe_int, gEq_strs, gNe_strs, gIn_two, gRepr_bl, rs_lst, rs_tup, rs_scr, rs_int, atI_0, atI_1, atI_2, atI_3, atI_4, atI_5, ixN_30, ixN_31, ixN_32, gEq_bl, gNe_bl, decide_eq_true_eq, beq_iff_eq, Bool.not_eq_true', beq_eq_false_iff_ne, decide_eq_false_iff_not, Bool.not_true, Bool.not_false, if_true, if_false, Bool.false_eq_true, ite_true, ite_false, true_and, and_true, ne_eq, Bool.bne_false, Bool.bne_true, reduceCtorEq])
local macro_rules | `(tactic| walk_at "rh") => `(tactic| simp only [*, startD, List.map, List.replicate, List.length_cons, List.length_nil, List.append_eq, List.append_nil, List.nil_append, List.cons_append, Nat.reduceSub, Nat.reduceAdd, List.getElem?_cons_zero, List.getElem?_cons_succ, List.set_cons_zero, List.set_cons_succ,
  dC, dVar, dOp, dTru, gTru, tru, dChain, dAnd, dOr, dNot, dAndV, dOrV, dNotV, dIf, dNeg, gNeg, dNil, dCons, dTup, dLst, dOwn, gIx, rBin, gAdd, gCmpI, dCall, dCallK, dSeq, dNext, dDrop, dRet, dRetN, dIfS, dName, dGNil, dGCons, dGTup, dSub, gSetL, dAsg, dPar, dPar3, dAug, gIpI, dSeqI, gSeqI, dRngI, gRng1, gRng2, dCB, gAbs, gInt, gMax, gMin, gGcd, gLen, lenD, gIsi, tyM, tyD, dBits, gBits, dMet, gAppend, dPart, dNoPart, dSl, gSl_tup, gSl_lst, cut_1, dEnds, gIs, isB, dNever, dCallX, dRaise, dTry, dFld, dCallV, gLRng, gFrz, dFrz, dFor, dLc, wipeD, dYes,
  sizeLine_eq, Nat.reduceLeDiff, gEq_int, gNe_int, gEq_strs, gNe_strs, gIn_two, gRepr_bl, rs_lst, rs_tup, rs_scr, rs_int, atI_0, atI_1, atI_2, atI_3, atI_4, atI_5, ixN_30, ixN_31, ixN_32, gEq_bl, gNe_bl, decide_eq_true_eq, beq_iff_eq, Bool.not_eq_true', beq_eq_false_iff_ne, decide_eq_false_iff_not, Bool.not_true, Bool.not_false, if_true, if_false, Bool.false_eq_true, ite_true, ite_false, true_and, and_true, ne_eq, Bool.bne_false, Bool.bne_true, reduceCtorEq])
local macro_rules | `(tactic| walk_at "kb") => `(tactic| simp only [kb_NoneType_list, kb_bool_list, kb_int_list, kb_str_list, kb_tuple_list, kb_list_list, kb_dict_list, kb_NoneType_int, kb_bool_int, kb_int_int, kb_str_int, kb_tuple_int, kb_list_int, kb_dict_int, kb_NoneType_bool, kb_bool_bool, kb_int_bool, kb_str_bool, kb_tuple_bool, kb_list_bool, kb_dict_bool, kb_NoneType_tuple, kb_bool_tuple, kb_int_tuple, kb_str_tuple, kb_tuple_tuple, kb_list_tuple, kb_dict_tuple, if_true, if_false, Bool.false_eq_true, ite_true, ite_false, Bool.not_true, Bool.not_false])
/-! ### steps within the heart; plain -/
/-! ### the readings -/
/-! ### a few deeds of one number -/
theorem Rtq.more {M M1 M2 : Mem} {Q : DQ} {d : D} (h : Rtq M Q d M1) (g : Plus M1 M2) : Rtq M Q d M2 := by
  obtain ⟨G, rfl, _⟩ := g
  obtain ⟨M3, G3, rfl, h1⟩ := h
  exact ⟨M3, G3 ++ G, List.append_assoc _ _ _, h1⟩
/-! ### small measures -/
theorem own_fresh {M : Mem} {k : Nat} {l : List D} (h : M[k]? = some (.lst l)) : k < M.length := (List.getElem?_eq_some_iff.mp h).1
/-! ### great measures -/
/-! ### too many -/
end DL
namespace DL
open PySem PySem.Spec PyProof.Rows L2
local macro_rules | `(tactic| walk_at "rd") => `(tactic| simp only [startD, List.map, List.replicate, List.length_cons, List.length_nil, List.append_eq, List.append_nil, List.nil_append, List.cons_append, Nat.reduceSub, Nat.reduceAdd, List.getElem?_cons_zero, List.getElem?_cons_succ, List.set_cons_zero, List.set_cons_succ,
  dC, dVar, dOp, dTru, gTru, tru, dChain, dAnd, dOr, dNot, dAndV, dOrV, dNotV, dIf, dNeg, gNeg, dNil, dCons, dTup, dLst, dOwn, gIx, rBin, gAdd, gCmpI, dCall, dCallK, dSeq, dNext, dDrop, dRet, dRetN, dIfS, dName, dGNil, dGCons, dGTup, dSub, gSetL, dAsg, dPar, dPar3, dAug, gIpI, dSeqI, gSeqI, dRngI, gRng1, gRng2, dCB, gAbs, gInt, gMax, gMin, gGcd, gLen, lenD, gIsi, tyM, tyD, dBits, gBits, dMet, gAppend, dPart, dNoPart, dSl, gSl_tup, gSl_lst, cut_1, dEnds, gIs, isB, dNever, dCallX, dRaise, dTry, dFld, dCallV, gLRng, gFrz, dFrz, dFor, dLc, wipeD, dYes,
  sizeLine_eq, Nat.reduceLeDiff, gEq_int, gNe_int, gEq_strs, gNe_strs, gIn_two, gRepr_bl, rs_lst, rs_tup, rs_scr, rs_int, atI_0, atI_1, atI_2, atI_3, atI_4, atI_5, ixN_30, ixN_31, ixN_32, gEq_bl, gNe_bl, decide_eq_true_eq, beq_iff_eq, Bool.not_eq_true', beq_eq_false_iff_ne, decide_eq_false_iff_not, Bool.not_true, Bool.not_false, if_true, if_false, Bool.false_eq_true, ite_true, ite_false, true_and, and_true, ne_eq, Bool.bne_false, Bool.bne_true, reduceCtorEq])
local macro_rules | `(tactic| walk_at "rh") => `(tactic| simp only [*, startD, List.map, List.replicate, List.length_cons, List.length_nil, List.append_eq, List.append_nil, List.nil_append, List.cons_append, Nat.reduceSub, Nat.reduceAdd, List.getElem?_cons_zero, List.getElem?_cons_succ, List.set_cons_zero, List.set_cons_succ,
  dC, dVar, dOp, dTru, gTru, tru, dChain, dAnd, dOr, dNot, dAndV, dOrV, dNotV, dIf, dNeg, gNeg, dNil, dCons, dTup, dLst, dOwn, gIx, rBin, gAdd, gCmpI, dCall, dCallK, dSeq, dNext, dDrop, dRet, dRetN, dIfS, dName, dGNil, dGCons, dGTup, dSub, gSetL, dAsg, dPar, dPar3, dAug, gIpI, dSeqI, gSeqI, dRngI, gRng1, gRng2, dCB, gAbs, gInt, gMax, gMin, gGcd, gLen, lenD, gIsi, tyM, tyD, dBits, gBits, dMet, gAppend, dPart, dNoPart, dSl, gSl_tup, gSl_lst, cut_1, dEnds, gIs, isB, dNever, dCallX, dRaise, dTry, dFld, dCallV, gLRng, gFrz, dFrz, dFor, dLc, wipeD, dYes,
  sizeLine_eq, Nat.reduceLeDiff, gEq_int, gNe_int, gEq_strs, gNe_strs, gIn_two, gRepr_bl, rs_lst, rs_tup, rs_scr, rs_int, atI_0, atI_1, atI_2, atI_3, atI_4, atI_5, ixN_30, ixN_31, ixN_32, gEq_bl, gNe_bl, decide_eq_true_eq, beq_iff_eq, Bool.not_eq_true', beq_eq_false_iff_ne, decide_eq_false_iff_not, Bool.not_true, Bool.not_false, if_true, if_false, Bool.false_eq_true, ite_true, ite_false, true_and, and_true, ne_eq, Bool.bne_false, Bool.bne_true, reduceCtorEq])
local macro_rules | `(tactic| walk_at "kb") => `(tactic| simp only [kb_NoneType_list, kb_bool_list, kb_int_list, kb_str_list, kb_tuple_list, kb_list_list, kb_dict_list, kb_NoneType_int, kb_bool_int, kb_int_int, kb_str_int, kb_tuple_int, kb_list_int, kb_dict_int, kb_NoneType_bool, kb_bool_bool, kb_int_bool, kb_str_bool, kb_tuple_bool, kb_list_bool, kb_dict_bool, kb_NoneType_tuple, kb_bool_tuple, kb_int_tuple, kb_str_tuple, kb_tuple_tuple, kb_list_tuple, kb_dict_tuple, if_true, if_false, Bool.false_eq_true, ite_true, ite_false, Bool.not_true, Bool.not_false])
/-! ### k09's own -/
def phiC (n : Nat) : Nat := (List.range n).countP fun i => Nat.gcd i n == 1
theorem phi_C (n : Nat) : phi n = phiC n := by
  unfold phi phiC cnt
  refine List.countP_congr fun i _ => ?_
  simp
def dueTC (W : Nat) (e : Int) (c : Nat) : Nat := if W % c = 0 ∧ (c : Int) + e < ((W / c : Nat) : Int) then Nat.gcd (W / c) c / Int.gcd ((Nat.gcd (W / c) c : Nat) : Int) e * phiC (Int.gcd ((Nat.gcd (W / c) c : Nat) : Int) e) else 0
def dueC (m e : Int) : Nat := if e * e < m ∧ (m - e * e) % 4 = 0 then sumN (dueTC ((m - e * e) / 4).toNat e) ((m - e * e) / 4).toNat else 0
theorem due_C : dueM = dueC := by
  funext m e
  unfold dueM dueC
  congr 1
  refine sumN_congr _ fun c _ _ => ?_
  unfold dueT dueTC lowN
  rw [phi_C]
/-! ### one measure -/
theorem cut_small {m a b c e : Int} (h : isCut a b c e = true) (hm : meas4 b c e = m) (h0 : 0 ≤ m) (m1 : m ≤ 20000) : CutB 20 a b c e := cut_bi h (by rw [hm]; exact bi_le h0 m1)
/-- the place of a cutting of a list -/
theorem at_get {l : List (List Int)} {x : List Int} {v : Int} (h0 : 0 ≤ v) (h : l[v.toNat]? = some x) : atI (l.map tI) v = some (tI x) := by
  have hl := (List.getElem?_eq_some_iff.mp h).1
  have := atI_of v.toNat (l := l.map tI) (by rw [List.length_map]; exact hl)
  rw [show ((v.toNat : Nat) : Int) = v by omega] at this
  rw [this, List.getElem?_map, h]; rfl
theorem cpow20 : CPow 10 20 := by first | decide | exact ⟨by decide, by decide⟩ | exact ⟨by decide, by decide, by decide⟩
/-! ### the great measure -/
end DL
namespace DL
open PySem PySem.Spec PyProof.Rows L2
local macro_rules | `(tactic| walk_at "rd") => `(tactic| simp only [startD, List.map, List.replicate, List.length_cons, List.length_nil, List.append_eq, List.append_nil, List.nil_append, List.cons_append, Nat.reduceSub, Nat.reduceAdd, List.getElem?_cons_zero, List.getElem?_cons_succ, List.set_cons_zero, List.set_cons_succ,
  dC, dVar, dOp, dTru, gTru, tru, dChain, dAnd, dOr, dNot, dAndV, dOrV, dNotV, dIf, dNeg, gNeg, dNil, dCons, dTup, dLst, dOwn, gIx, rBin, gAdd, gCmpI, dCall, dCallK, dSeq, dNext, dDrop, dRet, dRetN, dIfS, dName, dGNil, dGCons, dGTup, dSub, gSetL, dAsg, dPar, dPar3, dAug, gIpI, dSeqI, gSeqI, dRngI, gRng1, gRng2, dCB, gAbs, gInt, gMax, gMin, gGcd, gLen, lenD, gIsi, tyM, tyD, dBits, gBits, dMet, gAppend, dPart, dNoPart, dSl, gSl_tup, gSl_lst, cut_1, dEnds, gIs, isB, dNever, dCallX, dRaise, dTry, dFld, dCallV, gLRng, gFrz, dFrz, dFor, dLc, wipeD, dYes,
  sizeLine_eq, Nat.reduceLeDiff, gEq_int, gNe_int, gEq_strs, gNe_strs, gIn_two, gRepr_bl, rs_lst, rs_tup, rs_scr, rs_int, atI_0, atI_1, atI_2, atI_3, atI_4, atI_5, ixN_30, ixN_31, ixN_32, gEq_bl, gNe_bl, decide_eq_true_eq, beq_iff_eq, Bool.not_eq_true', beq_eq_false_iff_ne, decide_eq_false_iff_not, Bool.not_true, Bool.not_false, if_true, if_false, Bool.false_eq_true, ite_true, ite_false, true_and, and_true, ne_eq, Bool.bne_false, Bool.bne_true, reduceCtorEq])
local macro_rules | `(tactic| walk_at "rh") => `(tactic| simp only [*, startD, List.map, List.replicate, List.length_cons, List.length_nil, List.append_eq, List.append_nil, List.nil_append, List.cons_append, Nat.reduceSub, Nat.reduceAdd, List.getElem?_cons_zero, List.getElem?_cons_succ, List.set_cons_zero, List.set_cons_succ,
  dC, dVar, dOp, dTru, gTru, tru, dChain, dAnd, dOr, dNot, dAndV, dOrV, dNotV, dIf, dNeg, gNeg, dNil, dCons, dTup, dLst, dOwn, gIx, rBin, gAdd, gCmpI, dCall, dCallK, dSeq, dNext, dDrop, dRet, dRetN, dIfS, dName, dGNil, dGCons, dGTup, dSub, gSetL, dAsg, dPar, dPar3, dAug, gIpI, dSeqI, gSeqI, dRngI, gRng1, gRng2, dCB, gAbs, gInt, gMax, gMin, gGcd, gLen, lenD, gIsi, tyM, tyD, dBits, gBits, dMet, gAppend, dPart, dNoPart, dSl, gSl_tup, gSl_lst, cut_1, dEnds, gIs, isB, dNever, dCallX, dRaise, dTry, dFld, dCallV, gLRng, gFrz, dFrz, dFor, dLc, wipeD, dYes,
  sizeLine_eq, Nat.reduceLeDiff, gEq_int, gNe_int, gEq_strs, gNe_strs, gIn_two, gRepr_bl, rs_lst, rs_tup, rs_scr, rs_int, atI_0, atI_1, atI_2, atI_3, atI_4, atI_5, ixN_30, ixN_31, ixN_32, gEq_bl, gNe_bl, decide_eq_true_eq, beq_iff_eq, Bool.not_eq_true', beq_eq_false_iff_ne, decide_eq_false_iff_not, Bool.not_true, Bool.not_false, if_true, if_false, Bool.false_eq_true, ite_true, ite_false, true_and, and_true, ne_eq, Bool.bne_false, Bool.bne_true, reduceCtorEq])
local macro_rules | `(tactic| walk_at "kb") => `(tactic| simp only [kb_NoneType_list, kb_bool_list, kb_int_list, kb_str_list, kb_tuple_list, kb_list_list, kb_dict_list, kb_NoneType_int, kb_bool_int, kb_int_int, kb_str_int, kb_tuple_int, kb_list_int, kb_dict_int, kb_NoneType_bool, kb_bool_bool, kb_int_bool, kb_str_bool, kb_tuple_bool, kb_list_bool, kb_dict_bool, kb_NoneType_tuple, kb_bool_tuple, kb_int_tuple, kb_str_tuple, kb_tuple_tuple, kb_list_tuple, kb_dict_tuple, if_true, if_false, Bool.false_eq_true, ite_true, ite_false, Bool.not_true, Bool.not_false])
/-! ### the functions of cuttings with their errors -/
def sp_cutG (good : DSp) : DSp := fun ds M Q E => ∃ d, ds = [d] ∧ Askable 4 M d ∧ (isCutD d = false → E "InvalidCutting" d M) ∧ (isCutD d = true → good ds M Q E)
def sp_measure_ofG : DSp := fun ds M Q _ => ∃ a b c e : Int, ds = [T4 a b c e] ∧ isCut a b c e = true ∧ meas4 b c e ≤ 16300 ∧ Q (.int (meas4 b c e)) M
theorem rd_measure_of_x : ∀ ds M Q E, ds.length = 1 → belowAll M.length ds = true → sp_cutG sp_measure_ofG ds M Q E → t_measure_of_x sp_check_cutting_x sp_measure_by (dOut M E) (dEnds M Q) (startD 1 ds) M := by
  rintro _ M Q E - hb ⟨d, rfl, ha, q1, q2⟩
  unfold t_measure_of_x
  refine dSeq_open fun B hB => ?_
  walk_at "rd"
  refine ⟨_, rfl, ha, fun h => ?_, fun h => rtx (belowAll_mem hb (by simp)) (q1 h)⟩
  obtain ⟨a, b, c, e, ed, hc, hm, q⟩ := q2 h
  cases ed
  have m5 := meas_ge (meas4_ok hc)
  obtain ⟨_, bb, bc, be⟩ := cut_bi hc (bi_le (n := 20) (by omega) (by omega))
  rw [← hB]
  clear hB B
  walk_at "rd"
  exact ⟨a, b, c, e, rfl, bb.mono, bc.mono, be.mono, rtq q⟩
theorem rd_cutting_number_xG : ∀ ds M Q E, ds.length = 1 → belowAll M.length ds = true → sp_cutG sp_cutting_number_x ds M Q E → t_cutting_number_x sp_check_cutting_x sp_listed_by sp_measure_by (dOut M E) (dEnds M Q) (startD 1 ds) M := by
  rintro _ M Q E - hb ⟨d, rfl, ha, q1, q2⟩
  cases h : isCutD d with
  | true => exact rd_cutting_number_x _ M Q E rfl hb (q2 h)
  | false =>
    unfold t_cutting_number_x
    walk_at "rd"
    exact ⟨_, rfl, ha, fun z => (by rw [h] at z; cases z), fun _ => rtx (belowAll_mem hb (by simp)) (q1 h)⟩
theorem rd_next_cutting_xG : ∀ ds M Q E, ds.length = 1 → belowAll M.length ds = true → sp_cutG sp_next_cutting_x ds M Q E → t_next_cutting_x sp_check_cutting_x sp_listed_by sp_measure_by (dOut M E) (dEnds M Q) (startD 3 ds) M := by
  rintro _ M Q E - hb ⟨d, rfl, ha, q1, q2⟩
  cases h : isCutD d with
  | true => exact rd_next_cutting_x _ M Q E rfl hb (q2 h)
  | false =>
    unfold t_next_cutting_x
    refine dSeq_open fun B hB => ?_
    walk_at "rd"
    exact ⟨_, rfl, ha, fun z => (by rw [h] at z; cases z), fun _ => rtx (belowAll_mem hb (by simp)) (q1 h)⟩
def sp_measG (good : Int → Mem → DQ → DX → Prop) : DSp := fun ds M Q E => ∃ d T, ds = [d] ∧ tyM M d = some T ∧ (isMeas d = false → E "InvalidMeasure" d M) ∧ (∀ m, d = .int m → isMeas d = true → good m M Q E)
def gd_hmc (m : Int) (M : Mem) (Q : DQ) (_ : DX) : Prop := m ≤ 16300 ∧ ∀ l, CovX m l (fun _ _ => True) → Q (.int (l.length : Nat)) M
theorem rd_how_many_cuttings_x : ∀ ds M Q E, ds.length = 1 → belowAll M.length ds = true → sp_measG gd_hmc ds M Q E → t_how_many_cuttings_x sp_check_measure_x sp_count_by (dOut M E) (dEnds M Q) (startD 1 ds) M := by
  rintro _ M Q E - hb ⟨d, T, rfl, ht, q1, q2⟩
  unfold t_how_many_cuttings_x
  refine dSeq_open fun B hB => ?_
  walk_at "rd"
  refine ⟨_, T, rfl, ht, fun h => ?_, fun h => rtx (belowAll_mem hb (by simp)) (q1 h)⟩
  obtain ⟨m, rfl, m5, _⟩ := isMeas_int h
  obtain ⟨hm, q⟩ := q2 m rfl h
  rw [← hB]
  clear hB B
  walk_at "rd"
  exact ⟨m, rfl, m5, hm, fun l hl => rtq (q l hl)⟩
def gd_cut (m : Int) (M : Mem) (Q : DQ) (E : DX) : Prop := m ≤ 16300 ∧ ∀ l0, CovX m l0 (fun _ _ => True) → (2000 < l0.length → E "TooMany" (.int (l0.length : Nat)) M) ∧ (l0.length ≤ 2000 → ∀ l, AllC m l → Q (.lst (l.map tI)) M)
theorem rd_cuttings_x : ∀ ds M Q E, ds.length = 1 → belowAll M.length ds = true → sp_measG gd_cut ds M Q E → t_cuttings_x sp_check_measure_x sp_count_by sp_listed_by (dOut M E) (dEnds M Q) (startD 2 ds) M := by
  rintro _ M Q E - hb ⟨d, T, rfl, ht, q1, q2⟩
  unfold t_cuttings_x
  refine dSeq_open fun B hB => ?_
  walk_at "rd"
  refine ⟨_, T, rfl, ht, fun h => ?_, fun h => rtx (belowAll_mem hb (by simp)) (q1 h)⟩
  obtain ⟨m, rfl, m5, _⟩ := isMeas_int h
  obtain ⟨hm, q⟩ := q2 m rfl h
  rw [← hB]
  clear hB B
  refine dSeq_open fun B hB => ?_
  walk_at "rd"
  refine ⟨m, rfl, m5, hm, fun l0 hl0 => ?_⟩
  rw [← hB]
  clear hB B
  obtain ⟨qe, qv⟩ := q l0 hl0
  refine dSeq_open fun B hB => ?_
  walk_at "rd"
  by_cases hz : (2000 : Int) < (l0.length : Int)
  · rw [if_pos hz]
    exact ⟨_, rfl, rtx rfl (qe (by omega))⟩
  · rw [if_neg hz, ← hB]
    clear hB B
    walk_at "rd"
    exact ⟨m, rfl, m5, hm, fun l2 hl2 => rtq (qv (by omega) l2 hl2) (below_tIs _)⟩
def sp_meas2G (good : Int → Int → Mem → DQ → DX → Prop) : DSp := fun ds M Q E => ∃ d f T T', ds = [d, f] ∧ tyM M d = some T ∧ tyM M f = some T' ∧ (isMeas d = false → E "InvalidMeasure" d M) ∧ (isMeas d = true → isW f = false → E "InvalidNumber" f M) ∧ (∀ m, d = .int m → isMeas d = true → m ≤ 16300) ∧ (∀ m n, d = .int m → isMeas d = true → f = .int n → good m n M Q E)
def gd_hmwl (m e : Int) (M : Mem) (Q : DQ) (_ : DX) : Prop := Bi 100 e ∧ ∀ l, CovX m l (fun _ e' => e' = e) → l.length ≤ 10000 → Q (.int (l.length : Nat)) M
theorem isW_int {d : D} (h : isW d = true) : ∃ i, d = .int i := by cases d <;> first | exact ⟨_, rfl⟩ | cases h
theorem rd_how_many_with_last_xG : ∀ ds M Q E, ds.length = 2 → belowAll M.length ds = true → sp_meas2G gd_hmwl ds M Q E → t_how_many_with_last_x sp_check_measure_x sp_check_number_x sp_with_turn (dOut M E) (dEnds M Q) (startD 2 ds) M := by
  rintro _ M Q E - hb ⟨d, f, T, T', rfl, ht, ht', q1, q2, q0, q3⟩
  unfold t_how_many_with_last_x
  refine dSeq_open fun B hB => ?_
  walk_at "rd"
  refine ⟨_, T, rfl, ht, fun h => ?_, fun h => rtx (belowAll_mem hb (by simp)) (q1 h)⟩
  obtain ⟨m, rfl, m5, _⟩ := isMeas_int h
  rw [← hB]
  clear hB B
  refine dSeq_open fun B hB => ?_
  walk_at "rd"
  cases hw : isW f with
  | false =>
    refine ⟨_, .non, .non, T', rfl, ht', .inl rfl, .inl rfl, fun z => ?_, fun z => rtx (belowAll_mem hb (by simp)) (q2 h hw)⟩
    cases f <;> first | (cases hw; done) | (cases z; done)
  | true =>
    obtain ⟨e, rfl⟩ := isW_int hw
    have m1 := q0 m rfl h
    obtain ⟨be, q⟩ := q3 m e rfl h rfl
    refine ⟨_, .non, .non, T', rfl, ht', .inl rfl, .inl rfl, fun _ => ?_, fun z => (by cases z)⟩
    rw [← hB]
    clear hB B
    walk_at "rd"
    refine ⟨m, e, rfl, by omega, m1, be, fun l hl h6 => ?_⟩
    dsimp only
    rw [List.length_map]
    exact rtq (q l hl h6)
def gd_cn (m n : Int) (M : Mem) (Q : DQ) (E : DX) : Prop := ∀ l, AllC m l → (n < 0 ∨ (l.length : Int) ≤ n → E "InvalidNumber" (.int n) M) ∧ (0 ≤ n → ∀ x, l[n.toNat]? = some x → Q (tI x) M)
theorem rd_cutting_numbered_xG : ∀ ds M Q E, ds.length = 2 → belowAll M.length ds = true → sp_meas2G gd_cn ds M Q E → t_cutting_numbered_x sp_check_measure_x sp_listed_by sp_check_number_x (dOut M E) (dEnds M Q) (startD 3 ds) M := by
  rintro _ M Q E - hb ⟨d, f, T, T', rfl, ht, ht', q1, q2, q0, q3⟩
  unfold t_cutting_numbered_x
  refine dSeq_open fun B hB => ?_
  walk_at "rd"
  refine ⟨_, T, rfl, ht, fun h => ?_, fun h => rtx (belowAll_mem hb (by simp)) (q1 h)⟩
  obtain ⟨m, rfl, m5, _⟩ := isMeas_int h
  rw [← hB]
  clear hB B
  refine dSeq_open fun B hB => ?_
  walk_at "rd"
  have m1 := q0 m rfl h
  refine ⟨m, rfl, m5, m1, fun l hl => ?_⟩
  dsimp only
  rw [← hB]
  clear hB B
  refine dSeq_open fun B hB => ?_
  walk_at "rd"
  rw [List.length_map]
  refine ⟨_, .int 0, .int ((l.length : Int) - 1), T', rfl, ht', .inr ⟨_, rfl⟩, .inr ⟨_, rfl⟩, fun z => ?_, fun z => rtx (belowAll_mem hb (by simp)) ?_⟩
  · obtain ⟨n, rfl⟩ : ∃ n, f = .int n := by cases f <;> first | exact ⟨_, rfl⟩ | cases z
    unfold numOk at z
    simp only [Bool.and_eq_true, decide_eq_true_eq] at z
    obtain ⟨_, qv⟩ := q3 m n rfl h rfl l hl
    rw [← hB]
    clear hB B
    walk_at "rd"
    have hx := List.getElem?_eq_getElem (show n.toNat < l.length by omega)
    rw [at_get z.1 hx]
    exact rtq (qv z.1 _ hx) (below_tI _)
  · cases hw : isW f with
    | false => exact q2 h hw
    | true =>
      obtain ⟨n, rfl⟩ := isW_int hw
      obtain ⟨qe, _⟩ := q3 m n rfl h rfl l hl
      unfold numOk at z
      simp only [Bool.and_eq_false_iff, decide_eq_false_iff_not] at z
      exact qe (by omega)
theorem below_nextD {n : Nat} (l : List (List Int)) (j : Nat) : below n (nextD l j) = true := by
  unfold nextD
  split
  · exact below_tI _
  · rfl
/-! ### what is asked -/
abbrev er (x : Str) (d : D) : Option (Str × D) := some (x, d)
/-- what comes of an asking: let, or an error with its value -/
def Asks (w : Int) (x y : D) (M : Mem) (out : Option (Str × D)) : Prop :=
  (0 ≤ w ∧ w < 3 ∧ Askable 4 M x ∧ ((isCutD x = false ∧ out = er "InvalidCutting" x) ∨ (∃ a b c e : Int, x = T4 a b c e ∧ isCut a b c e = true ∧ meas4 b c e ≤ 16300 ∧ out = none))) ∨
  (w = 3 ∧ (∃ T, tyM M x = some T) ∧ ((isMeas x = false ∧ out = er "InvalidMeasure" x) ∨ (∃ m : Int, x = .int m ∧ isMeas x = true ∧ m ≤ 16300 ∧ out = none))) ∨
  (w = 4 ∧ (∃ T, tyM M x = some T) ∧ ((isMeas x = false ∧ out = er "InvalidMeasure" x) ∨ (∃ (m : Int) (n : Nat), x = .int m ∧ isMeas x = true ∧ m ≤ 16300 ∧ (∀ l0, CovX m l0 (fun _ _ => True) → l0.length = n) ∧ ((2000 < n ∧ out = er "TooMany" (.int n)) ∨ (n ≤ 2000 ∧ out = none))))) ∨
  (w = 5 ∧ (∃ T, tyM M x = some T) ∧ (∃ T, tyM M y = some T) ∧ ((isMeas x = false ∧ out = er "InvalidMeasure" x) ∨ (∃ m : Int, x = .int m ∧ isMeas x = true ∧ m ≤ 16300 ∧ ((isW y = false ∧ out = er "InvalidNumber" y) ∨ (∃ e : Int, y = .int e ∧ Bi 100 e ∧ out = none))))) ∨
  (w = 6 ∧ (∃ T, tyM M x = some T) ∧ (∃ T, tyM M y = some T) ∧ ((isMeas x = false ∧ out = er "InvalidMeasure" x) ∨ (∃ m : Int, x = .int m ∧ isMeas x = true ∧ m ≤ 16300 ∧ ((isW y = false ∧ out = er "InvalidNumber" y) ∨
    (∃ n : Int, y = .int n ∧ (((∀ l, AllC m l → n < 0 ∨ (l.length : Int) ≤ n) ∧ out = er "InvalidNumber" y) ∨ (0 ≤ n ∧ (∀ l, AllC m l → n < l.length) ∧ out = none)))))))
/-- any answer will do -/
def sp_asked11 : DSp := fun ds M Q E => ∃ (w : Int) (x y : D) (out : Option (Str × D)), ds = [.int w, x, y] ∧ Asks w x y M out ∧ (match out with | some (z, d) => E z d M | none => ∀ d, Q d M)
theorem rd_l_asked_e0b2_x : ∀ ds M Q E, ds.length = 3 → belowAll M.length ds = true → sp_asked11 ds M Q E → t_l_asked_e0b2_x (sp_cutG sp_measure_ofG) (sp_cutG sp_cutting_number_x) (sp_cutG sp_next_cutting_x) (sp_measG gd_hmc) (sp_measG gd_cut) (sp_meas2G gd_hmwl) (sp_meas2G gd_cn) (dOut M E) (dEnds M Q) (startD 3 ds) M := by
  rintro _ M Q E - hb ⟨w, x, y, out, rfl, ha, q⟩
  have hbx : below M.length x = true := belowAll_mem hb (by simp)
  have hby : below M.length y = true := belowAll_mem hb (by simp)
  unfold t_l_asked_e0b2_x
  refine dSeq_open fun B hB => ?_
  walk_at "rd"
  rcases ha with ⟨w0, w1, hx, hc⟩ | ha
  · rw [if_pos w1]
    have hcut : ∀ good : DSp, (∀ a b c e : Int, x = T4 a b c e → isCut a b c e = true → meas4 b c e ≤ 16300 → out = none → good [x] M (Rtq M Q) fun y_1 dv M2 => dOut M E [some (D.int w), some x, some y] y_1 dv M2) → sp_cutG good [x] M (Rtq M Q) fun y_1 dv M2 => dOut M E [some (D.int w), some x, some y] y_1 dv M2 := fun good hg => by
      refine ⟨x, rfl, hx, fun h => ?_, fun h => ?_⟩
      · rcases hc with ⟨_, rfl⟩ | ⟨a, b, c, e, rfl, h1, _⟩
        · exact rtx hbx q
        · rw [show isCutD (T4 a b c e) = true from h1] at h; cases h
      · rcases hc with ⟨h1, _⟩ | ⟨a, b, c, e, e1, h1, h2, h3⟩
        · rw [h] at h1; cases h1
        · exact hg a b c e e1 h1 h2 h3
    rcases (by omega : w = 0 ∨ w = 1 ∨ w = 2) with rfl | rfl | rfl
    · exact ⟨1, sp_cutG sp_measure_ofG, .head _, rfl, hcut _ fun a b c e e1 h1 h2 h3 => by subst h3; exact ⟨a, b, c, e, by rw [e1], h1, h2, rtq (q _)⟩⟩
    · exact ⟨1, sp_cutG sp_cutting_number_x, .tail _ (.head _), rfl, hcut _ fun a b c e e1 h1 h2 h3 => by subst h3; exact ⟨a, b, c, e, by rw [e1], h1, h2, fun l j _ _ => rtq (q _)⟩⟩
    · exact ⟨1, sp_cutG sp_next_cutting_x, .tail _ (.tail _ (.head _)), rfl, hcut _ fun a b c e e1 h1 h2 h3 => by subst h3; exact ⟨a, b, c, e, by rw [e1], h1, h2, fun l j _ _ => rtq (q _) (below_nextD l j)⟩⟩
  have w3 : ¬ w < 3 := by rcases ha with ⟨h, _⟩ | ⟨h, _⟩ | ⟨h, _⟩ | ⟨h, _⟩ <;> omega
  rw [if_neg w3, ← hB]
  clear hB B
  refine dSeq_open fun B hB => ?_
  walk_at "rd"
  rcases ha with ⟨rfl, ⟨T, ht⟩, hc⟩ | ⟨rfl, ⟨T, ht⟩, hc⟩ | ha
  · rw [if_pos (by decide)]
    refine ⟨1, sp_measG gd_hmc, .head _, rfl, x, T, rfl, ht, fun h => ?_, fun m e1 h => ?_⟩
    · rcases hc with ⟨_, rfl⟩ | ⟨m, rfl, h1, _⟩
      · exact rtx hbx q
      · rw [h] at h1; cases h1
    · rcases hc with ⟨h1, _⟩ | ⟨m', e2, h1, h2, rfl⟩
      · rw [h] at h1; cases h1
      · rw [e1] at e2
        cases e2
        exact ⟨h2, fun l hl => rtq (q _)⟩
  · rw [if_pos (by decide)]
    refine ⟨1, sp_measG gd_cut, .tail _ (.head _), rfl, x, T, rfl, ht, fun h => ?_, fun m e1 h => ?_⟩
    · rcases hc with ⟨_, rfl⟩ | ⟨m, n, rfl, h1, _⟩
      · exact rtx hbx q
      · rw [h] at h1; cases h1
    · rcases hc with ⟨h1, _⟩ | ⟨m', n, e2, h1, h2, h3, h4⟩
      · rw [h] at h1; cases h1
      · rw [e1] at e2
        cases e2
        refine ⟨h2, fun l0 hl0 => ?_⟩
        rw [h3 l0 hl0]
        rcases h4 with ⟨h5, rfl⟩ | ⟨h5, rfl⟩
        · exact ⟨fun _ => rtx rfl q, fun z => by omega⟩
        · exact ⟨fun z => by omega, fun _ l hl => rtq (q _) (below_tIs _)⟩
  have w5 : ¬ w < 5 := by rcases ha with ⟨h, _⟩ | ⟨h, _⟩ <;> omega
  rw [if_neg w5, ← hB]
  clear hB B
  walk_at "rd"
  rcases ha with ⟨rfl, ⟨T, ht⟩, ⟨T', ht'⟩, hc⟩ | ⟨rfl, ⟨T, ht⟩, ⟨T', ht'⟩, hc⟩
  · rw [if_pos (by decide)]
    refine ⟨x, y, T, T', rfl, ht, ht', fun h => ?_, fun h hw => ?_, fun m e1 h => ?_, fun m n e1 h e2 => ?_⟩
    · rcases hc with ⟨_, rfl⟩ | ⟨m, rfl, h1, _⟩
      · exact rtx hbx q
      · rw [h] at h1; cases h1
    · rcases hc with ⟨h1, _⟩ | ⟨m, _, _, _, ⟨_, rfl⟩ | ⟨e, rfl, _⟩⟩
      · rw [h] at h1; cases h1
      · exact rtx hby q
      · cases hw
    · rcases hc with ⟨h1, _⟩ | ⟨m', e2, _, h2, _⟩
      · rw [h] at h1; cases h1
      · rw [e1] at e2; cases e2; exact h2
    · rcases hc with ⟨h1, _⟩ | ⟨m', e3, _, h2, ⟨h4, _⟩ | ⟨e, e4, be, rfl⟩⟩
      · rw [h] at h1; cases h1
      · rw [e2] at h4; cases h4
      · rw [e2] at e4; cases e4
        exact ⟨be, fun l _ _ => rtq (q _)⟩
  · rw [if_neg (by decide)]
    refine ⟨x, y, T, T', rfl, ht, ht', fun h => ?_, fun h hw => ?_, fun m e1 h => ?_, fun m n e1 h e2 => ?_⟩
    · rcases hc with ⟨_, rfl⟩ | ⟨m, rfl, h1, _⟩
      · exact rtx hbx q
      · rw [h] at h1; cases h1
    · rcases hc with ⟨h1, _⟩ | ⟨m, _, _, _, ⟨_, rfl⟩ | ⟨e, rfl, _⟩⟩
      · rw [h] at h1; cases h1
      · exact rtx hby q
      · cases hw
    · rcases hc with ⟨h1, _⟩ | ⟨m', e2, _, h2, _⟩
      · rw [h] at h1; cases h1
      · rw [e1] at e2; cases e2; exact h2
    · rcases hc with ⟨h1, _⟩ | ⟨m', e3, _, h2, ⟨h4, _⟩ | ⟨e, e4, hl4⟩⟩
      · rw [h] at h1; cases h1
      · rw [e2] at h4; cases h4
      · rw [e2] at e4; cases e4
        rw [e1] at e3; cases e3
        intro l hl
        rcases hl4 with ⟨h5, rfl⟩ | ⟨h5, h6, rfl⟩
        · replace h5 := h5 l hl
          refine ⟨fun _ => ?_, fun h0 z hz => ?_⟩
          · rw [← e2]; exact rtx hby q
          · have := (List.getElem?_eq_some_iff.mp hz).1
            omega
        · replace h6 := h6 l hl
          exact ⟨fun z => by omega, fun _ z hz => rtq (q _) (below_tI _)⟩
/-! ### what is told -/
def caughtD : Option (Str × D) → D
  | none => .tup [.lst [.bl false, .bl false, .bl false, .bl false], .non]
  | some (x, d) => .tup [.lst [.bl (x == "InvalidCutting"), .bl (x == "InvalidMeasure"), .bl (x == "InvalidNumber"), .bl (x == "TooMany")], d]
def cls11 : List (Str × Int) := [("InvalidCutting", 0), ("InvalidMeasure", 1), ("InvalidNumber", 2), ("TooMany", 3)]
def sp_lonly11 : DSp := fun ds M Q _ => ∃ (x : Str) (d : D) (p : Int), ds = [caughtD (er x d), .int p, d] ∧ (x, p) ∈ cls11 ∧ (∃ z, shwnZ (resD M d) = some z) ∧ Q (.bl true) M
theorem gReprZ_res {d : D} {M : Mem} {Q : DQ} {z : Str} (h : shwnZ (resD M d) = some z) (q : Q (.str z) M) : gReprZ [d] M Q := by
  unfold gReprZ
  dsimp only
  rw [h]
  exact q
theorem rd_l_only_1d99 : ∀ ds M Q, ds.length = 3 → sp_lonly11 ds M Q DX0 → t_l_only_1d99 (dEnds M Q) (startD 4 ds) M := by
  rintro _ M Q - ⟨x, d, p, rfl, hx, ⟨z, hz⟩, q⟩
  unfold t_l_only_1d99 caughtD
  walk_at "rd"
  refine ⟨⟨by decide, by decide⟩, ?_⟩
  refine lcW_pure (fun d => match d with | .int i => some (.bl (i == p)) | _ => none) trivial (by rw [rng_len, sizeLine_eq]; decide) (fun d hd Y N' hy => ?_) ?_
  · obtain ⟨i, hi⟩ := List.mem_iff_getElem?.mp hd
    obtain ⟨hi, rfl⟩ := rng_get.mp hi
    walk_at "rd"
    exact hy
  have e : (rng 0 (Int.toNat 4)).filterMap (fun d => match d with | .int i => some (.bl (i == p)) | _ => none) = [D.bl (x == "InvalidCutting"), D.bl (x == "InvalidMeasure"), D.bl (x == "InvalidNumber"), D.bl (x == "TooMany")] := by
    simp only [cls11, List.mem_cons, List.not_mem_nil, or_false, Prod.mk.injEq] at hx
    rcases hx with ⟨rfl, rfl⟩ | ⟨rfl, rfl⟩ | ⟨rfl, rfl⟩ | ⟨rfl, rfl⟩ <;> rfl
  rw [e]
  refine gEq_same (n := 3) rfl ?_
  dsimp only
  rw [if_pos rfl]
  refine gReprZ_res hz (gReprZ_res hz ?_)
  rw [gEq_strs, str_self]
  exact rtq q
def sp_lcaught11 : DSp := fun ds M Q _ => ∃ (w : Int) (x y : D) (out : Option (Str × D)), ds = [.int w, x, y] ∧ Asks w x y M out ∧ (∃ z, shwnZ (resD M (.lst [x, y])) = some z) ∧ below M.length (caughtD out) = true ∧ Q (caughtD out) M
theorem asks_cls {w : Int} {x y d : D} {M : Mem} {z : Str} (h : Asks w x y M (some (z, d))) : z = "InvalidCutting" ∨ z = "InvalidMeasure" ∨ z = "InvalidNumber" ∨ z = "TooMany" := by
  unfold Asks at h
  rcases h with ⟨_, _, _, ⟨_, h⟩ | ⟨_, _, _, _, _, _, _, h⟩⟩ | ⟨_, _, ⟨_, h⟩ | ⟨_, _, _, _, h⟩⟩ | ⟨_, _, ⟨_, h⟩ | ⟨_, _, _, _, _, _, ⟨_, h⟩ | ⟨_, h⟩⟩⟩ | ⟨_, _, _, ⟨_, h⟩ | ⟨_, _, _, _, ⟨_, h⟩ | ⟨_, _, _, h⟩⟩⟩ | ⟨_, _, _, ⟨_, h⟩ | ⟨m, _, _, _, ⟨_, h⟩ | ⟨_, _, ⟨_, h⟩ | ⟨_, _, h⟩⟩⟩⟩
  all_goals first
    | (cases h; simp; done)
    | (cases h; done)
theorem rd_l_caught_eda3 : ∀ ds M Q, ds.length = 3 → sp_lcaught11 ds M Q DX0 → t_l_caught_eda3 sp_asked11 (dEnds M Q) (startD 7 ds) M := by
  rintro _ M Q - ⟨w, x, y, out, rfl, ha, ⟨z, hz⟩, hbl, q⟩
  unfold t_l_caught_eda3
  refine dSeq_open fun B hB => ?_
  walk_at "rd"
  refine gReprZ_res hz ?_
  rw [← hB]
  clear hB B
  refine dSeq_open fun B hB => ?_
  walk_at "rd"
  refine ⟨w, x, y, out, rfl, ha, ?_⟩
  cases out with
  | none =>
    intro _
    show B _ _
    rw [← hB]
    clear hB B
    refine dSeq_open fun B hB => ?_
    walk_at "rd"
    refine gReprZ_res hz ?_
    rw [gNe_strs, str_self]
    dsimp only
    rw [if_neg (by decide), ← hB]
    clear hB B
    refine dSeq_open fun B hB => ?_
    walk_at "rd"
    refine ⟨by decide, ⟨by decide, ⟨by decide, ⟨by decide, ?_⟩⟩⟩⟩
    rw [← hB]
    clear hB B
    walk_at "rd"
    exact rtq q hbl
  | some zd =>
    obtain ⟨k, d⟩ := zd
    have hk := asks_cls ha
    dsimp only
    have hu : XA.under k "SheetError" = true := by rcases hk with rfl | rfl | rfl | rfl <;> rfl
    refine ⟨hu, ?_⟩
    rw [← hB]
    clear hB B
    refine dSeq_open fun B hB => ?_
    walk_at "rd"
    refine gReprZ_res hz ?_
    rw [gNe_strs, str_self]
    dsimp only
    rw [if_neg (by decide), ← hB]
    clear hB B
    refine dSeq_open fun B hB => ?_
    walk_at "rd"
    refine ⟨by decide, ⟨by decide, ⟨by decide, ⟨by decide, ?_⟩⟩⟩⟩
    have e : [D.bl (XA.under k "InvalidCutting"), D.bl (XA.under k "InvalidMeasure"), D.bl (XA.under k "InvalidNumber"), D.bl (XA.under k "TooMany")] = [D.bl (k == "InvalidCutting"), D.bl (k == "InvalidMeasure"), D.bl (k == "InvalidNumber"), D.bl (k == "TooMany")] := by
      rcases hk with rfl | rfl | rfl | rfl <;> rfl
    dsimp only
    rw [e, ← hB]
    clear hB B
    walk_at "rd"
    exact rtq q hbl
/-! ### data that is shown -/
structure Sh (d : D) : Prop where
  f : fine 10 d = true
  l : lit 200 d = true
  w : wt 200 d ≤ 10000
mutual
theorem resD_fine (M : Mem) : ∀ (n : Nat) (d : D), fine n d = true → resD M d = d
  | _, .non, _ => rfl
  | _, .bl _, _ => rfl
  | _, .int _, _ => rfl
  | _, .str _, _ => rfl
  | 0, .tup l, h => by simp [fine] at h
  | 0, .lst l, h => by simp [fine] at h
  | n + 1, .tup l, h => by unfold resD; rw [resDA_fine M n l (by simpa only [fine] using h)]
  | n + 1, .lst l, h => by unfold resD; rw [resDA_fine M n l (by simpa only [fine] using h)]
  | _, .dct0, h => rfl
  | _, .scr _, h => by simp [fine] at h
  | _, .own _, h => by simp [fine] at h
  | _, .exc _ _, h => by simp [fine] at h
  | _, .glb _, h => by simp [fine] at h
  | _, .val _, h => by simp [fine] at h
theorem resDA_fine (M : Mem) : ∀ (n : Nat) (ds : List D), fineAll n ds = true → resDA M ds = ds
  | _, [], _ => rfl
  | n, d :: ds, h => by
    have h' : fine n d = true ∧ fineAll n ds = true := by simpa only [fineAll, Bool.and_eq_true] using h
    unfold resDA
    rw [resD_fine M n d h'.1, resDA_fine M n ds h'.2]
end
mutual
theorem fine_mono : ∀ (n k : Nat) (d : D), n ≤ k → fine n d = true → fine k d = true
  | _, _, .non, _, _ => rfl
  | _, _, .bl _, _, _ => rfl
  | _, _, .int _, _, _ => rfl
  | _, _, .str _, _, h => by simpa only [fine] using h
  | 0, _, .tup l, _, h => by simp [fine] at h
  | 0, _, .lst l, _, h => by simp [fine] at h
  | n + 1, 0, .tup l, hn, _ => by omega
  | n + 1, 0, .lst l, hn, _ => by omega
  | n + 1, k + 1, .tup l, hn, h => by simp only [fine] at h ⊢; exact fineA_mono n k l (by omega) h
  | n + 1, k + 1, .lst l, hn, h => by simp only [fine] at h ⊢; exact fineA_mono n k l (by omega) h
  | _, _, .dct0, _, h => by simp [fine] at h
  | _, _, .scr _, _, h => by simp [fine] at h
  | _, _, .own _, _, h => by simp [fine] at h
  | _, _, .exc _ _, _, h => by simp [fine] at h
  | _, _, .glb _, _, h => by simp [fine] at h
  | _, _, .val _, _, h => by simp [fine] at h
theorem fineA_mono : ∀ (n k : Nat) (ds : List D), n ≤ k → fineAll n ds = true → fineAll k ds = true
  | _, _, [], _, _ => rfl
  | n, k, d :: ds, hn, h => by
    have h' : fine n d = true ∧ fineAll n ds = true := by simpa only [fineAll, Bool.and_eq_true] using h
    simp only [fineAll, fine_mono n k d hn h'.1, fineA_mono n k ds hn h'.2, Bool.and_self]
end
theorem fine_up {d : D} (h : fine 10 d = true) : fine 41 d = true := fine_mono 10 41 d (by decide) h
theorem Sh.shown {d : D} (h : Sh d) (M : Mem) : ∃ z, shwnZ (resD M d) = some z := by
  rw [resD_fine M 10 d h.f]
  obtain ⟨z, hz⟩ := shw_of 200 10 h.f h.l (by have := h.w; omega)
  exact ⟨z, shwnZ_of hz⟩
theorem Sh.two {x y : D} (h : Sh x) (g : Sh y) (M : Mem) : ∃ z, shwnZ (resD M (.lst [x, y])) = some z := by
  have f2 : fine 11 (.lst [x, y]) = true := by simp only [fine, fineAll, h.f, g.f, Bool.and_self]
  rw [resD_fine M 11 _ f2]
  obtain ⟨z, hz⟩ := shw_of 200 11 f2 (by simp only [lit, litAll, h.l, g.l, Bool.and_self]) (by have h1 := h.w; have h2 := g.w; simp only [wt, wtAll]; omega)
  exact ⟨z, shwnZ_of hz⟩
theorem sh_int {i : Int} (h : Bi 150 i) : lit 200 (.int i) = true := decide_eq_true (Nat.lt_of_lt_of_le (log2_of 150 h (by decide)) (by decide))
/-- the great measures' counts -/
theorem cnt_of {m : Int} {R : Nat} (h1 : m ≤ ((R : Int) + 1) * ((R : Int) + 1)) {n : Nat} (hn : sumZ (dueC m) (-(R : Int)) (2 * R + 1) = n) : ∀ l0, CovX m l0 (fun _ _ => True) → l0.length = n := fun l0 h => by
  rw [due_all h h1, due_mid h1, due_C, hn]
theorem cnt_14041 : ∀ l0, CovX 14041 l0 (fun _ _ => True) → l0.length = 2476 := cnt_of (R := 118) (by decide) (by decide +kernel)
theorem cnt_16273 : ∀ l0, CovX 16273 l0 (fun _ _ => True) → l0.length = 2002 := cnt_of (R := 127) (by decide) (by decide +kernel)
theorem cnt_16041 : ∀ l0, CovX 16041 l0 (fun _ _ => True) → l0.length = 2000 := cnt_of (R := 126) (by decide) (by decide +kernel)
theorem below_caught {n : Nat} {k : Str} {d : D} (h : below n d = true) : below n (caughtD (er k d)) = true := by
  unfold caughtD
  simp only [below, belowAll, h, Bool.and_self]
theorem cpow1029 : CPow 10 29 := by first | decide | exact ⟨by decide, by decide⟩
theorem gMulL4 {M : Mem} {Q : DQ} (q : Q (.lst [.bl false, .bl false, .bl false, .bl false]) M) : gMulL (.lst [.bl false]) (.int 4) M Q := ⟨⟨by decide, by decide, by rw [sizeLine_eq]; decide⟩, q⟩
/-! ### the weak ones, and the law -/
def sp_hmc11 : DSp := fun ds M Q _ => ∃ m : Int, ds = [.int m] ∧ isMeas (.int m) = true ∧ m ≤ 16300 ∧ ∀ l, CovX m l (fun _ _ => True) → Q (.int (l.length : Nat)) M
theorem wk_how_many_cuttings : ∀ ds M Q E, sp_hmc11 ds M Q E → sp_measG gd_hmc ds M Q DX0 := by
  rintro _ M Q E ⟨m, rfl, hm, m1, q⟩
  exact ⟨_, _, rfl, rfl, fun z => (by rw [hm] at z; cases z), fun m' e _ => by cases e; exact ⟨m1, q⟩⟩
def sp_cuttings11 : DSp := fun ds M Q _ => ∃ m : Int, ds = [.int m] ∧ isMeas (.int m) = true ∧ m ≤ 16300 ∧ (∀ l0, CovX m l0 (fun _ _ => True) → l0.length ≤ 2000) ∧ ∀ l, AllC m l → Q (.lst (l.map tI)) M
theorem wk_cuttings : ∀ ds M Q E, sp_cuttings11 ds M Q E → sp_measG gd_cut ds M Q DX0 := by
  rintro _ M Q E ⟨m, rfl, hm, m1, h2, q⟩
  exact ⟨_, _, rfl, rfl, fun z => (by rw [hm] at z; cases z), fun m' e _ => by cases e; exact ⟨m1, fun l0 hl0 => ⟨fun z => by have := h2 l0 hl0; omega, fun _ => q⟩⟩⟩
theorem rd_l_law_ad18 : ∀ ds M Q, ds.length = 1 → spLaw ds M Q DX0 → t_l_law_ad18 sp_generator sp_lall sp_ldrawn sp_random sp_lonly11 sp_lcaught11 sp_measure_by sp_hmc11 sp_cuttings11 (dEnds M Q) (startD 16 ds) M := by
  rintro _ M Q - ⟨rfl, ⟨ns, rfl⟩, q⟩
  unfold t_l_law_ad18
  have fin : ∀ M2, Rtq [] Q (.bl true) M2 := fun M2 => ⟨[], M2, rfl, Nat.zero_le _, rfl, fun i c h => by simp at h, q⟩
  refine dSeq_open fun B hB => ?_
  walk_at "rd"
  refine ⟨ns, _, rfl, by decide, by unfold P31; decide, fun M1 ml hg hold => ?_⟩
  rw [← hB]
  clear hB B
  refine dSeq_open fun B hB => ?_
  walk_at "rd"
  refine ⟨0, 40, _, rfl, by decide, by decide, hg, by unfold P40; decide, fun m M2 hm hb g2 => ?_⟩
  have m5 := meas_ge hm
  refine ⟨m, rfl, m5, by omega, fun l hl => ?_⟩
  have hlen : l.length ≤ 900 := cov_small hl.cov (by omega) (by omega)
  have hpos := allC_pos hm hl
  dsimp only
  rw [← hB]
  clear hB B
  refine dSeq_open fun B hB => ?_
  walk_at "rd"
  rw [List.length_map]
  refine ⟨0, _, _, rfl, by omega, lt900 (by omega), g2.2.1, by unfold P40; omega, fun v M3 v0 v1 g3 => ?_⟩
  have hlt : v.toNat < l.length := by omega
  obtain ⟨a, b, c, e, ex, hc, hme⟩ := (hl.mem l[v.toNat]).mp (List.getElem_mem hlt)
  have hx := List.getElem?_eq_getElem hlt
  rw [ex] at hx
  dsimp only
  rw [at_get v0 hx]
  show 4 = 4 ∧ B [some (.scr ns), some (.own 0), some (.lst (l.map tI)), some (.int a), some (.int b), some (.int c), some (.int e), none, none, none, none, none, none, none, none, none] M3
  refine ⟨rfl, ?_⟩
  rw [← hB]
  clear hB B
  refine dSeq_open fun B hB => ?_
  walk_at "rd"
  rw [← hB]
  clear hB B
  refine dSeq_open fun B hB => ?_
  walk_at "rd"
  obtain ⟨k1, k2, k3, k4, k5, _⟩ := cut_parts hc
  obtain ⟨ba, bb, bc, be⟩ := cut_small hc hme (by omega) (by omega)
  have la := sh_int ba.mono
  have lb := sh_int bb.mono
  have lc := sh_int bc.mono
  have le := sh_int be.mono
  have bbc : (b - c).natAbs ≤ 10 ^ 7 := by
    have h1 : b.natAbs < 2 ^ 20 := bb
    have h2 : c.natAbs < 2 ^ 20 := bc
    omega
  have lbc : lit 200 (.int (b - c)) = true := sh_int (Bi.of_abs (10 ^ 7) bbc (by decide +kernel))
  obtain ⟨W, hW⟩ : ∃ W : D → Prop, W = fun d => Askable 4 M3 d ∧ isCutD d = false ∧ (∃ z, shwnZ (resD M3 d) = some z) ∧ (∃ z, shwnZ (resD M3 (.lst [d, .non])) = some z) ∧ below M3.length d = true := ⟨_, rfl⟩
  have shn : Sh D.non := ⟨rfl, rfl, Nat.le_of_ble_eq_true rfl⟩
  have hsh : ∀ d, Sh d → isCutD d = false → below M3.length d = true → W d := fun d h1 h2 h3 => by
    rw [hW]
    exact ⟨ask_fine M3 (fine_up h1.f), h2, h1.shown M3, h1.two shn M3, h3⟩
  obtain ⟨wr, hwr, hall⟩ : ∃ wr : List D, wr = [D.non, D.int 0, D.str (PySem.Str.ofString "0111"), D.tup [], D.lst [D.int a, D.int b, D.int c, D.int e],
            D.tup [D.int a, D.int b, D.int c], D.tup [D.int a, D.int b, D.int c, D.int e, D.int 0],
            D.tup [D.int a, D.int b, D.int 0, D.int e], D.tup [D.int a, D.int 0, D.int c, D.int e],
            D.tup [D.int a, D.int b, D.int c, D.int (b - c)], D.tup [D.int (-1), D.int b, D.int c, D.int e],
            D.tup [D.int b, D.int b, D.int c, D.int e], D.tup [D.int a, D.int b, D.int c, D.non],
            D.tup [D.int a, D.bl true, D.int c, D.int e], D.tup [D.non, D.int b, D.int c, D.int e],
            D.tup [D.int a, D.int b, D.str (PySem.Str.ofString "1"), D.int e], D.tup [D.int 0, D.int 2, D.int 2, D.int (-2)],
            D.dct0, D.lst [D.non], D.tup [D.tup [D.int a], D.int b, D.int c, D.int e]] ∧ ∀ d ∈ wr, W d := by
    refine ⟨_, rfl, fun d hd => ?_⟩
    simp only [List.mem_cons, List.not_mem_nil, or_false] at hd
    rcases hd with rfl | rfl | rfl | rfl | rfl | rfl | rfl | rfl | rfl | rfl | rfl | rfl | rfl | rfl | rfl | rfl | rfl | rfl | rfl | rfl
    all_goals first
      | (refine hsh _ ⟨?_, ?_, ?_⟩ ?_ rfl
         · first | rfl | decide +kernel | (simp only [fine, fineAll, Bool.and_true, Bool.true_and]; decide +kernel)
         · repeat' (first | exact la | exact lb | exact lc | exact le | exact lbc | exact rfl | apply lit_cons)
         · first | exact Nat.le_of_ble_eq_true rfl | decide +kernel | (simp only [wt, wtAll]; decide +kernel)
         · first
           | rfl
           | (refine Bool.eq_false_iff.mpr fun h => ?_
              obtain ⟨j1, j2, j3, j4, j5, _⟩ := cut_parts h
              omega)
           | (refine Bool.eq_false_iff.mpr fun h => ?_
              obtain ⟨j1, j2, j3, j4, j5, _⟩ := cut_parts h
              have := Int.le_of_dvd (show 0 < b by omega) (Int.gcd_dvd_left b c)
              omega)
           | decide)
      | skip
    rw [hW]
    refine ⟨⟨⟨_, rfl⟩, fun l e => by cases e⟩, rfl, (show ∃ z, shwnZ D.dct0 = some z from shwZ_of 200 rfl rfl (Nat.le_of_ble_eq_true rfl)), (show ∃ z, shwnZ (D.lst [.dct0, .non]) = some z from shwZ_of 200 rfl rfl (Nat.le_of_ble_eq_true rfl)), rfl⟩
  rw [← hwr]
  clear hwr
  rw [← hB]
  clear hB B
  refine dSeq_open fun B hB => ?_
  walk_at "rd"
  refine ⟨fun i r M' => M' = M3 ∧ ∃ t8 : Option D, r = [some (.scr ns), some (.own 0), some (.lst (l.map tI)), some (.int a), some (.int b), some (.int c), some (.int e), some (.lst wr), t8, none, none, none, none, none, none, none], ⟨rfl, none, rfl⟩, ?_⟩
  rintro i r M' ⟨rfl, t8, rfl⟩
  refine ⟨trivial, fun hli => ?_, fun d hd => ?_⟩
  rotate_left
  · have hw := hall d (List.mem_of_getElem? hd)
    rw [hW] at hw
    obtain ⟨w1, w2, w3, w4, w5⟩ := hw
    walk_at "rd"
    refine ⟨⟨by decide, by decide⟩, ?_⟩
    refine lcW_pure (fun _ => none) trivial (by rw [rng_len, sizeLine_eq]; decide) (fun x hx Y N' hy => ?_) ?_
    · obtain ⟨j, hj0⟩ := List.mem_iff_getElem?.mp hx
      obtain ⟨hj, rfl⟩ := rng_get.mp hj0
      replace hj : j < 3 := hj
      walk_at "rd"
      refine ⟨_, d, .non, er "InvalidCutting" d, rfl, .inl ⟨by omega, by omega, w1, .inl ⟨w2, rfl⟩⟩, w4, below_caught w5, ?_⟩
      refine ⟨"InvalidCutting", d, 0, rfl, .head _, w3, ?_⟩
      dsimp only
      rw [if_neg (by decide)]
      exact hy
    · rw [List.filterMap_eq_nil_iff.mpr fun _ _ => rfl]
      refine gNe_same (n := 3) rfl ?_
      dsimp only
      rw [if_neg (by decide)]
      exact ⟨rfl, _, rfl⟩
  dsimp only
  rw [← hB]
  clear hB B hli hall i
  refine dSeq_open fun B hB => ?_
  walk_at "rd"
  clear hW hsh
  have sh0 : Sh (D.int 0) := ⟨rfl, rfl, Nat.le_of_ble_eq_true rfl⟩
  have e29 : (10 : Int) ^ Int.toNat 29 + 2 = 100000000000000000000000000002 := by decide +kernel
  have hs2 : ∀ d ∈ [D.non, D.int 0, D.int 1, D.int 4, D.int 6, D.int 7, D.int (-8), D.int (-7), D.bl true, D.str (PySem.Str.ofString "5"), D.lst [D.int 5], D.tup [D.int 5], D.int 100000000000000000000000000002], Sh d ∧ isMeas d = false ∧ below M'.length d = true := fun d hd => by
    simp only [List.mem_cons, List.not_mem_nil, or_false] at hd
    rcases hd with rfl | rfl | rfl | rfl | rfl | rfl | rfl | rfl | rfl | rfl | rfl | rfl | rfl
    all_goals
      refine ⟨⟨?_, ?_, ?_⟩, by decide, rfl⟩
      · first | rfl | decide +kernel
      · first | rfl | decide +kernel
      · first | exact Nat.le_of_ble_eq_true rfl | decide +kernel
  rw [e29]
  refine ⟨cpow1029, ?_⟩
  generalize [D.non, D.int 0, D.int 1, D.int 4, D.int 6, D.int 7, D.int (-8), D.int (-7), D.bl true, D.str (PySem.Str.ofString "5"), D.lst [D.int 5], D.tup [D.int 5], D.int 100000000000000000000000000002] = ws at *
  refine ⟨fun i r M3 => M3 = M' ∧ ∃ t8 t10 : Option D, r = [some (.scr ns), some (.own 0), some (.lst (l.map tI)), some (.int a), some (.int b), some (.int c), some (.int e), some (.lst wr), t8, none, t10, none, none, none, none, none], ⟨rfl, _, none, rfl⟩, ?_⟩
  clear t8
  rintro i r M3 ⟨rfl, t8, t10, rfl⟩
  refine ⟨trivial, fun hli => ?_, fun d hd => ?_⟩
  rotate_left
  · obtain ⟨sd, nm, bd⟩ := hs2 d (List.mem_of_getElem? hd)
    have td := fine_ty M3 (fine_up sd.f)
    walk_at "rd"
    refine ⟨fun i r M4 => M4 = M3 ∧ ∃ t10 : Option D, r = [some (.scr ns), some (.own 0), some (.lst (l.map tI)), some (.int a), some (.int b), some (.int c), some (.int e), some (.lst wr), some d, none, t10, none, none, none, none, none], ⟨rfl, _, rfl⟩, ?_⟩
    rintro i2 r M4 ⟨rfl, t10, rfl⟩
    refine ⟨trivial, fun hli => ?_, fun y hy => ?_⟩
    · exact ⟨rfl, _, _, rfl⟩
    · have sy : Sh y := by
        have := List.mem_of_getElem? hy
        simp only [List.mem_cons, List.not_mem_nil, or_false] at this
        rcases this with rfl | rfl
        · exact shn
        · exact sh0
      have ty := fine_ty M4 (fine_up sy.f)
      walk_at "rd"
      refine ⟨⟨by unfold Rg; decide, by unfold Rg; decide⟩, ?_⟩
      refine lcW_pure (fun _ => none) trivial (by rw [rng_len, sizeLine_eq]; decide) (fun x hx Y N' hy => ?_) ?_
      · obtain ⟨j, hj0⟩ := List.mem_iff_getElem?.mp hx
        obtain ⟨hj, rfl⟩ := rng_get.mp hj0
        replace hj : j < 4 := hj
        walk_at "rd"
        have hask : Asks (3 + (j : Int)) d y M4 (er "InvalidMeasure" d) := by
          unfold Asks
          rcases (by omega : j = 0 ∨ j = 1 ∨ j = 2 ∨ j = 3) with rfl | rfl | rfl | rfl
          · exact .inr (.inl ⟨by decide, td, .inl ⟨nm, rfl⟩⟩)
          · exact .inr (.inr (.inl ⟨by decide, td, .inl ⟨nm, rfl⟩⟩))
          · exact .inr (.inr (.inr (.inl ⟨by decide, td, ty, .inl ⟨nm, rfl⟩⟩)))
          · exact .inr (.inr (.inr (.inr ⟨by decide, td, ty, .inl ⟨nm, rfl⟩⟩)))
        refine ⟨_, d, y, er "InvalidMeasure" d, rfl, hask, sd.two sy M4, below_caught bd, ?_⟩
        refine ⟨"InvalidMeasure", d, 1, rfl, .tail _ (.head _), sd.shown M4, ?_⟩
        dsimp only
        rw [if_neg (by decide)]
        exact hy
      · rw [List.filterMap_eq_nil_iff.mpr fun _ _ => rfl]
        refine gNe_same (n := 3) rfl ?_
        dsimp only
        rw [if_neg (by decide)]
        exact ⟨rfl, _, rfl⟩
  dsimp only
  rw [← hB]
  clear hB B hli hs2 i
  refine dSeq_open fun B hB => ?_
  walk_at "rd"
  refine ⟨a, b, c, e, rfl, bb.mono, bc.mono, be.mono, ?_⟩
  rw [hme, ← hB]
  clear hB B
  have bm : Bi 20 m := bi_le (by omega) (by omega)
  have shm : Sh (D.int m) := ⟨rfl, sh_int bm.mono, Nat.le_of_ble_eq_true rfl⟩
  have hs3 : ∀ d ∈ [D.non, D.bl true, D.str (PySem.Str.ofString "0"), D.lst [D.int 0], D.tup []], Sh d ∧ isW d = false ∧ below M3.length d = true := fun d hd => by
    simp only [List.mem_cons, List.not_mem_nil, or_false] at hd
    rcases hd with rfl | rfl | rfl | rfl | rfl
    all_goals
      refine ⟨⟨?_, ?_, ?_⟩, by decide, rfl⟩
      · first | rfl | decide +kernel
      · first | rfl | decide +kernel
      · first | exact Nat.le_of_ble_eq_true rfl | decide +kernel
  refine dSeq_open fun B hB => ?_
  walk_at "rd"
  generalize [D.non, D.bl true, D.str (PySem.Str.ofString "0"), D.lst [D.int 0], D.tup []] = us at *
  refine ⟨fun i r M4 => M4 = M3 ∧ ∃ t8 : Option D, r = [some (.scr ns), some (.own 0), some (.lst (l.map tI)), some (.int a), some (.int b), some (.int c), some (.int e), some (.lst wr), t8, none, t10, some (.int m), none, none, none, none], ⟨rfl, _, rfl⟩, ?_⟩
  clear t8
  rintro i r M4 ⟨rfl, t8, rfl⟩
  refine ⟨trivial, fun hli => ?_, fun d hd => ?_⟩
  rotate_left
  · obtain ⟨sd, nw, bd⟩ := hs3 d (List.mem_of_getElem? hd)
    have td := fine_ty M4 (fine_up sd.f)
    walk_at "rd"
    refine ⟨5, .int m, d, er "InvalidNumber" d, rfl, .inr (.inr (.inr (.inl ⟨rfl, ⟨_, rfl⟩, td, .inr ⟨m, rfl, hm, by omega, .inl ⟨nw, rfl⟩⟩⟩))), shm.two sd M4, below_caught bd, ?_⟩
    refine ⟨"InvalidNumber", d, 2, rfl, .tail _ (.tail _ (.head _)), sd.shown M4, ?_⟩
    dsimp only
    rw [if_neg (by decide)]
    refine ⟨6, .int m, d, er "InvalidNumber" d, rfl, .inr (.inr (.inr (.inr ⟨rfl, ⟨_, rfl⟩, td, .inr ⟨m, rfl, hm, by omega, .inl ⟨nw, rfl⟩⟩⟩))), shm.two sd M4, below_caught bd, ?_⟩
    refine ⟨"InvalidNumber", d, 2, rfl, .tail _ (.tail _ (.head _)), sd.shown M4, ?_⟩
    dsimp only
    rw [if_neg (by decide)]
    exact ⟨rfl, _, rfl⟩
  dsimp only
  rw [← hB]
  clear hB B hli hs3 i
  refine dSeq_open fun B hB => ?_
  walk_at "rd"
  have shl : Sh (D.int (l.length : Nat)) := ⟨rfl, sh_int (Bi.of_abs (n := 150) 1000 (by omega) (by decide +kernel)), Nat.le_of_ble_eq_true rfl⟩
  have shn1 : Sh (D.int (-1)) := ⟨rfl, rfl, Nat.le_of_ble_eq_true rfl⟩
  have num : ∀ n : Int, (n < 0 ∨ (l.length : Int) ≤ n) → Asks 6 (.int m) (.int n) M4 (er "InvalidNumber" (.int n)) := fun n hn =>
    .inr (.inr (.inr (.inr ⟨rfl, ⟨_, rfl⟩, ⟨_, rfl⟩, .inr ⟨m, rfl, hm, by omega, .inr ⟨n, rfl, .inl ⟨fun l' hl' => by rw [hl'.uniq hl]; exact hn, rfl⟩⟩⟩⟩)))
  refine ⟨6, .int m, .int (-1), er "InvalidNumber" (.int (-1)), rfl, num _ (.inl (by decide)), shm.two shn1 M4, below_caught rfl, ?_⟩
  refine ⟨"InvalidNumber", .int (-1), 2, rfl, .tail _ (.tail _ (.head _)), shn1.shown M4, ?_⟩
  dsimp only
  rw [if_neg (by decide), List.length_map]
  refine ⟨6, .int m, .int (l.length : Nat), er "InvalidNumber" (.int (l.length : Nat)), rfl, num _ (.inr (Int.le_refl _)), shm.two shl M4, below_caught rfl, ?_⟩
  refine ⟨"InvalidNumber", .int (l.length : Nat), 2, rfl, .tail _ (.tail _ (.head _)), shl.shown M4, ?_⟩
  dsimp only
  rw [if_neg (by decide), ← hB]
  clear hB B
  refine dSeq_open fun B hB => ?_
  have hrest : ∀ (M' : Mem) (t12 t13 : Option D), B [some (.scr ns), some (.own 0), some (.lst (l.map tI)), some (.int a), some (.int b), some (.int c), some (.int e), some (.lst wr), t8, none, t10, some (.int m), t12, t13, none, none] M' := fun M' t12 t13 => by
    rw [← hB]
    clear hB B
    refine dSeq_open fun B hB => ?_
    walk_at "rd"
    have hc2 : (M' ++ [Own.lst [.non]])[M'.length]? = some (.lst [.non]) := new_at M' _
    generalize M'.length = k at *
    generalize M' ++ [Own.lst [.non]] = M'' at *
    rw [← hB]
    clear hB B
    have hk : k < M''.length := own_fresh hc2
    refine dSeq_open fun B hB => ?_
    walk_at "rd"
    have hty : tyM M'' (.own k) = some "list" := by
      unfold tyM
      dsimp only
      rw [hc2]
    have hrs : resD M'' (.lst [.own k, .non]) = .lst [.lst [.non], .non] := by
      simp only [resD, resDA, cellL, hc2]
    refine ⟨0, .own k, .non, er "InvalidCutting" (.own k), rfl, .inl ⟨by decide, by decide, ⟨⟨_, hty⟩, fun l e => by cases e⟩, .inl ⟨rfl, rfl⟩⟩, ?_, below_caught (by simpa only [below, decide_eq_true_eq] using hk), ?_⟩
    · rw [hrs]
      obtain ⟨z, hz⟩ := shw_of 200 10 (d := .lst [.lst [.non], .non]) rfl rfl (by decide)
      exact ⟨z, shwnZ_of hz⟩
    dsimp only
    rw [← hB]
    clear hB B
    refine dSeq_open fun B hB => ?_
    walk_at "rd"
    refine ⟨⟨_, _, rfl, hc2⟩, ?_⟩
    rw [hc2]
    dsimp only
    refine ⟨by decide, ?_⟩
    have hc3 : (M''.set k (.lst ([.non] ++ [.int 7])))[k]? = some (.lst [.non, .int 7]) := List.getElem?_set_self hk
    generalize M''.set k (.lst ([.non] ++ [.int 7])) = M3 at *
    rw [← hB]
    clear hB B
    refine dSeq_open fun B hB => ?_
    unfold caughtD
    walk_at "rd"
    refine gNe_res (n := 5) (res_own hc3) rfl rfl ?_
    dsimp only
    rw [if_neg (by decide)]
    refine ⟨6, .int m, .int 0, none, rfl, .inr (.inr (.inr (.inr ⟨rfl, ⟨_, rfl⟩, ⟨_, rfl⟩, .inr ⟨m, rfl, hm, by omega, .inr ⟨0, rfl, .inr ⟨by decide, fun l' hl' => by rw [hl'.uniq hl]; omega, rfl⟩⟩⟩⟩))), shm.two sh0 M3, rfl, ?_⟩
    dsimp only [caughtD]
    refine gMulL4 ?_
    refine gNe_same (n := 4) rfl ?_
    dsimp only
    rw [if_neg (by decide)]
    have e20 : -(10 : Int) ^ Int.toNat 20 = -100000000000000000000 := by decide +kernel
    rw [e20]
    have sh20 : Sh (D.int (-100000000000000000000)) := ⟨rfl, by decide +kernel, Nat.le_of_ble_eq_true rfl⟩
    refine ⟨cpow20, 5, .int m, .int (-100000000000000000000), none, rfl, .inr (.inr (.inr (.inl ⟨rfl, ⟨_, rfl⟩, ⟨_, rfl⟩, .inr ⟨m, rfl, hm, by omega, .inr ⟨_, rfl, Bi.of_abs (10 ^ 20) (by decide) (by decide +kernel), rfl⟩⟩⟩))), shm.two sh20 M3, rfl, ?_⟩
    dsimp only [caughtD]
    refine gMulL4 ?_
    refine gNe_same (n := 4) rfl ?_
    dsimp only
    rw [if_neg (by decide), ← hB]
    clear hB B
    walk_at "rd"
    have shc : Sh (D.tup [.int a, .int b, .int c, .int e]) := ⟨rfl, lit_cons la (lit_cons lb (lit_cons lc (lit_cons le rfl))), Nat.le_of_ble_eq_true rfl⟩
    refine ⟨0, .tup [.int a, .int b, .int c, .int e], .non, none, rfl, .inl ⟨by decide, by decide, ask_fine M3 rfl, .inr ⟨a, b, c, e, rfl, hc, by omega, rfl⟩⟩, shc.two shn M3, rfl, ?_⟩
    dsimp only [caughtD]
    refine gMulL4 ?_
    exact gEq_same (n := 4) rfl (fin _)
  walk_at "rd"
  refine ⟨0, 4, _, rfl, by decide, lt900 (by decide), g3.2.1, by unfold P40; omega, fun v M5 v0 v1 g5 => ?_⟩
  dsimp only
  rw [gEq_int]
  dsimp only
  by_cases hv : v = 0
  · rw [if_pos (by simpa using hv)]
    refine ⟨0, 2, _, rfl, by decide, lt900 (by decide), g5.2.1, by unfold P40; omega, fun u M6 u0 u1 g6 => ?_⟩
    dsimp only
    rcases (by omega : u = 0 ∨ u = 1) with rfl | rfl
    · rw [show atI [D.tup [D.int 14041, D.int 2476], D.tup [D.int 16273, D.int 2002]] 0 = some (D.tup [D.int 14041, D.int 2476]) from rfl]
      show 2 = 2 ∧ _
      refine ⟨rfl, ?_⟩
      refine ⟨4, .int 14041, .non, er "TooMany" (.int (2476 : Nat)), rfl, .inr (.inr (.inl ⟨rfl, ⟨_, rfl⟩, .inr ⟨14041, 2476, rfl, by decide, by decide, cnt_14041, .inl ⟨by decide, rfl⟩⟩⟩)), (Sh.two ⟨rfl, rfl, Nat.le_of_ble_eq_true rfl⟩ shn M6), below_caught rfl, ?_⟩
      refine ⟨"TooMany", .int (2476 : Nat), 3, rfl, .tail _ (.tail _ (.tail _ (.head _))), Sh.shown ⟨rfl, rfl, Nat.le_of_ble_eq_true rfl⟩ M6, ?_⟩
      dsimp only
      rw [if_neg (by decide)]
      refine ⟨14041, rfl, by decide, by decide, fun l2 hl2 => ?_⟩
      rw [cnt_14041 l2 hl2]
      refine gNe_same (n := 3) rfl ?_
      dsimp only
      rw [if_neg (by decide)]
      refine ⟨16041, rfl, by decide, by decide, fun l0 h => by rw [cnt_16041 l0 h]; decide, fun l2 hl2 => ?_⟩
      dsimp only
      rw [List.length_map, cnt_16041 l2 hl2.cov]
      rw [if_neg (by decide)]
      refine ⟨16041, rfl, by decide, by decide, fun l2 hl2 => ?_⟩
      rw [cnt_16041 l2 hl2]
      refine gNe_same (n := 3) rfl ?_
      dsimp only
      rw [if_neg (by decide)]
      exact hrest _ _ _
    · rw [show atI [D.tup [D.int 14041, D.int 2476], D.tup [D.int 16273, D.int 2002]] 1 = some (D.tup [D.int 16273, D.int 2002]) from rfl]
      show 2 = 2 ∧ _
      refine ⟨rfl, ?_⟩
      refine ⟨4, .int 16273, .non, er "TooMany" (.int (2002 : Nat)), rfl, .inr (.inr (.inl ⟨rfl, ⟨_, rfl⟩, .inr ⟨16273, 2002, rfl, by decide, by decide, cnt_16273, .inl ⟨by decide, rfl⟩⟩⟩)), (Sh.two ⟨rfl, rfl, Nat.le_of_ble_eq_true rfl⟩ shn M6), below_caught rfl, ?_⟩
      refine ⟨"TooMany", .int (2002 : Nat), 3, rfl, .tail _ (.tail _ (.tail _ (.head _))), Sh.shown ⟨rfl, rfl, Nat.le_of_ble_eq_true rfl⟩ M6, ?_⟩
      dsimp only
      rw [if_neg (by decide)]
      refine ⟨16273, rfl, by decide, by decide, fun l2 hl2 => ?_⟩
      rw [cnt_16273 l2 hl2]
      refine gNe_same (n := 3) rfl ?_
      dsimp only
      rw [if_neg (by decide)]
      refine ⟨16041, rfl, by decide, by decide, fun l0 h => by rw [cnt_16041 l0 h]; decide, fun l2 hl2 => ?_⟩
      dsimp only
      rw [List.length_map, cnt_16041 l2 hl2.cov]
      rw [if_neg (by decide)]
      refine ⟨16041, rfl, by decide, by decide, fun l2 hl2 => ?_⟩
      rw [cnt_16041 l2 hl2]
      refine gNe_same (n := 3) rfl ?_
      dsimp only
      rw [if_neg (by decide)]
      exact hrest _ _ _
  · rw [if_neg (by simpa using hv)]
    exact hrest _ _ _
end DL
namespace C_k11
open PySem PySem.Spec PyProof.Rows L2 DL
theorem law_ok {P : Program} {w : World} {K : PySem.W.Frag} {mg : Str → Option Value} {base : Heap} (T : Txt P K mg base) : Def P w K mg base CX0 8 "law" s_l_law_ad18 ["_law_script"] spLaw := by
  have D_l_cell_cf3b := ok_l_cell_cf3b (P := P) (w := w) T  rd_l_cell_cf3b
  have D_l_generator_b324 := ok_l_generator_b324 (P := P) (w := w) T D_l_cell_cf3b rd_l_generator_b324
  have D_l_turns_2ef2 := ok_l_turns_2ef2 (P := P) (w := w) T  rd_l_turns_2ef2
  have D_l_common_7348 := ok_l_common_7348 (P := P) (w := w) T  rd_l_common_7348
  have D_l_is_cutting_19aa := ok_l_is_cutting_19aa (P := P) (w := w) T D_l_common_7348 rd_l_is_cutting_19aa
  have D_l_with_e507 := ok_l_with_e507 (P := P) (w := w) T D_l_common_7348 D_l_is_cutting_19aa rd_l_with_e507
  have D_l_all_a488 := ok_l_all_a488 (P := P) (w := w) T D_l_turns_2ef2 D_l_with_e507 rd_l_all_a488
  have D_l_hash_d8d1 := ok_l_hash_d8d1 (P := P) (w := w) T  rd_l_hash_d8d1
  have D_l_random_7821 := ok_l_random_7821 (P := P) (w := w) T D_l_hash_d8d1 rd_l_random_7821
  have D_l_drawn_measure_d212 := ok_l_drawn_measure_d212 (P := P) (w := w) T D_l_random_7821 rd_l_drawn_measure_d212
  have D_l_only_1d99 := ok_l_only_1d99 (P := P) (w := w) T  rd_l_only_1d99
  have D_is_whole := ok_is_whole (P := P) (w := w) T  rd_is_whole
  have D_common_by := ok_common_by (P := P) (w := w) T  rd_common_by
  have D_is_cutting_by := ok_is_cutting_by (P := P) (w := w) T D_is_whole D_common_by rd_is_cutting_by
  have D_check_cutting_x := ok_check_cutting_x (P := P) (w := w) T D_is_cutting_by rd_check_cutting_x
  have D_measure_by := ok_measure_by (P := P) (w := w) T  rd_measure_by
  have D_measure_of_x := ok_measure_of_x (P := P) (w := w) T D_check_cutting_x D_measure_by rd_measure_of_x
  have D_root_floor_by := ok_root_floor_by (P := P) (w := w) T  rd_root_floor_by
  have D_turns_of := ok_turns_of (P := P) (w := w) T D_root_floor_by rd_turns_of
  have D_sides_with := ok_sides_with (P := P) (w := w) T  rd_sides_with
  have D_lows_with := ok_lows_with (P := P) (w := w) T D_common_by rd_lows_with
  have D_with_turn := ok_with_turn (P := P) (w := w) T D_sides_with D_lows_with rd_with_turn
  have D_listed_by := ok_listed_by (P := P) (w := w) T D_turns_of D_with_turn rd_listed_by
  have D_cutting_number_x := ok_cutting_number_x (P := P) (w := w) T D_check_cutting_x D_listed_by D_measure_by rd_cutting_number_xG
  have D_next_cutting_x := ok_next_cutting_x (P := P) (w := w) T D_check_cutting_x D_listed_by D_measure_by rd_next_cutting_xG
  have D_is_between := ok_is_between (P := P) (w := w) T D_is_whole rd_is_between
  have D_is_measure_by := ok_is_measure_by (P := P) (w := w) T D_is_between rd_is_measure_by
  have D_check_measure_x := ok_check_measure_x (P := P) (w := w) T D_is_measure_by rd_check_measure_x
  have D_count_by := ok_count_by (P := P) (w := w) T D_turns_of D_with_turn rd_count_by
  have D_how_many_cuttings_x := ok_how_many_cuttings_x (P := P) (w := w) T D_check_measure_x D_count_by rd_how_many_cuttings_x
  have D_how_many_cuttings := D_how_many_cuttings_x.weak wk_how_many_cuttings
  have D_cuttings_x := ok_cuttings_x (P := P) (w := w) T D_check_measure_x D_count_by D_listed_by rd_cuttings_x
  have D_cuttings := D_cuttings_x.weak wk_cuttings
  have D_check_number_x := ok_check_number_x (P := P) (w := w) T D_is_whole rd_check_number_x
  have D_how_many_with_last_x := ok_how_many_with_last_x (P := P) (w := w) T D_check_measure_x D_check_number_x D_with_turn rd_how_many_with_last_xG
  have D_cutting_numbered_x := ok_cutting_numbered_x (P := P) (w := w) T D_check_measure_x D_listed_by D_check_number_x rd_cutting_numbered_xG
  have D_l_asked_e0b2_x := ok_l_asked_e0b2_x (P := P) (w := w) T D_measure_of_x D_cutting_number_x D_next_cutting_x D_how_many_cuttings_x D_cuttings_x D_how_many_with_last_x D_cutting_numbered_x rd_l_asked_e0b2_x
  have D_l_caught_eda3 := ok_l_caught_eda3 (P := P) (w := w) T D_l_asked_e0b2_x rd_l_caught_eda3
  have D_l_measure_919a := ok_l_measure_919a (P := P) (w := w) T  rd_measure_by
  exact ok_l_law_ad18 T D_l_generator_b324 D_l_all_a488 D_l_drawn_measure_d212 D_l_random_7821 D_l_only_1d99 D_l_caught_eda3 D_l_measure_919a D_how_many_cuttings D_cuttings rd_l_law_ad18
end C_k11
/-! XH: what super().__init__ means, from the class's own line -/
namespace XA
open PySem PySem.W PySem.Calls PyProof.Rows PySem.HandSPX
theorem sup_of {K : Frag} {x : Str} {C S N : Addr} {q : Str} {bs : List Value} {sn : List Str} {sub : List Value} {ab : Bool} {col : Option Bool} {dd : Option Addr} {k0 k1 k2 k3 k5 : Option Value} {n : String}
    (lk : K.lookup C = some (excClassObj x q C N bs [.ref S, .type "ValueError", .type "Exception", .type "BaseException", .type "object"] true sn sub ab col dd k0 k1 k2 k3 k5 n))
    (sp : ks_superIn K C C "__init__" = some (some (.builtin "ValueError.__init__"))) : alongIn K "__init__" [.ref S, .type "ValueError", .type "Exception", .type "BaseException", .type "object"] = some (some (.builtin "ValueError.__init__")) := by
  have h1 : ∃ cd, PySem.W.clsIn K C = some cd ∧ cd.mro = .ref C :: [.ref S, .type "ValueError", .type "Exception", .type "BaseException", .type "object"] := ⟨_, by unfold PySem.W.clsIn; rw [lk], rfl⟩
  obtain ⟨cd, h1, h2⟩ := h1
  unfold ks_superIn at sp
  rw [h1, Option.bind_some, h2] at sp
  simpa using sp
end XA
namespace C_k11
open PySem PySem.Spec PyProof.Rows L2 DL
theorem all_mk {K : PySem.W.Frag} {h : Heap} {mg : Str → Option Value} (X : K.In h) (G : h.Ns mainGlobals mg)
    (n_abs : PySem.W.nsIn K mainGlobals "abs" = some none)
    (n_bool : PySem.W.nsIn K mainGlobals "bool" = some none)
    (n_int : PySem.W.nsIn K mainGlobals "int" = some none)
    (n_isinstance : PySem.W.nsIn K mainGlobals "isinstance" = some none)
    (n_len : PySem.W.nsIn K mainGlobals "len" = some none)
    (n_max : PySem.W.nsIn K mainGlobals "max" = some none)
    (n_range : PySem.W.nsIn K mainGlobals "range" = some none)
    (n_repr : PySem.W.nsIn K mainGlobals "repr" = some none)
    (n_sorted : PySem.W.nsIn K mainGlobals "sorted" = some none)
    (n_sum : PySem.W.nsIn K mainGlobals "sum" = some none)
    (n_tuple : PySem.W.nsIn K mainGlobals "tuple" = some none)
    {tk_LEAST : Tok} (c_LEAST : PySem.W.nsIn K mainGlobals "LEAST" = some (some (.int 5 tk_LEAST)))
    {tk_MOST_LISTED : Tok} (c_MOST_LISTED : PySem.W.nsIn K mainGlobals "MOST_LISTED" = some (some (.int 2000 tk_MOST_LISTED)))
    {cS nS : Addr} {qS : Str} {bS : List Value} {snS : List Str} {suS : List Value} {abS : Bool} {coS : Option Bool} {ddS : Option Addr} {k0S k1S k2S k3S k5S : Option Value}
    (ns_S : PySem.W.nsIn K mainGlobals "SheetError" = some (some (.ref cS))) (lk_S : K.lookup cS = some (excClassObj "SheetError" qS cS nS bS [.type "ValueError", .type "Exception", .type "BaseException", .type "object"] true snS suS abS coS ddS k0S k1S k2S k3S k5S "ValueError.__new__"))
    (gs_S : PySem.W.specialIn K (.builtin "object.__class__") "__get__" = some (some (.builtin "getset_descriptor.__get__"))) (tk_S : PySem.W.takesIn K (.builtin "object.__class__") = some true)
    (any_S : PySem.W.nsIn K PySem.cStatics "thirdparty.any" = some none) (msup_S : PySem.W.nsIn K mainGlobals "super" = some none)
    {c_InvalidMeasure f_InvalidMeasure n_InvalidMeasure cda_InvalidMeasure cc_InvalidMeasure td_InvalidMeasure : Addr} {q_InvalidMeasure : Str} {b_InvalidMeasure : List Value} {sn_InvalidMeasure : List Str} {su_InvalidMeasure : List Value} {ab_InvalidMeasure : Bool} {co_InvalidMeasure : Option Bool} {dd_InvalidMeasure : Option Addr} {k0_InvalidMeasure k1_InvalidMeasure k2_InvalidMeasure k3_InvalidMeasure k5_InvalidMeasure : Option Value} {od_InvalidMeasure an_InvalidMeasure : Option Addr} {kV_InvalidMeasure dc_InvalidMeasure pm_InvalidMeasure ct_InvalidMeasure : Value} {osl_InvalidMeasure : Array (Option Value)} {c1_InvalidMeasure c2_InvalidMeasure c3_InvalidMeasure : Value} {d1_InvalidMeasure d2_InvalidMeasure d3_InvalidMeasure : Option Addr} {sl1_InvalidMeasure sl2_InvalidMeasure sl3_InvalidMeasure : Array (Option Value)} {tn_InvalidMeasure : Nat} {vs_InvalidMeasure : Array Value} {fi_InvalidMeasure : Str} {tf_InvalidMeasure : Tok}
    (ns_InvalidMeasure : PySem.W.nsIn K mainGlobals "InvalidMeasure" = some (some (.ref c_InvalidMeasure))) (lk_InvalidMeasure : K.lookup c_InvalidMeasure = some (excClassObj "InvalidMeasure" q_InvalidMeasure c_InvalidMeasure n_InvalidMeasure b_InvalidMeasure [.ref cS, .type "ValueError", .type "Exception", .type "BaseException", .type "object"] true sn_InvalidMeasure su_InvalidMeasure ab_InvalidMeasure co_InvalidMeasure dd_InvalidMeasure k0_InvalidMeasure k1_InvalidMeasure k2_InvalidMeasure k3_InvalidMeasure k5_InvalidMeasure "ValueError.__new__"))
    (sa_InvalidMeasure : PySem.W.findIn K (.ref c_InvalidMeasure) "__setattr__" = some (some (.builtin "object.__setattr__"))) (ga_InvalidMeasure : PySem.W.findIn K (.ref c_InvalidMeasure) "__getattribute__" = some (some (.builtin "BaseException.__getattribute__"))) (gg_InvalidMeasure : PySem.W.findIn K (.ref c_InvalidMeasure) "__getattr__" = some none)
    (nv_InvalidMeasure : PySem.W.findIn K (.ref c_InvalidMeasure) "value" = some none) (kp_InvalidMeasure : PySem.W.keepIn K (.ref c_InvalidMeasure) = true) (hc_InvalidMeasure : PySem.W.findIn K (.ref c_InvalidMeasure) "__class__" = some (some (.builtin "object.__class__"))) (iC_InvalidMeasure : PySem.W.findIn K (.ref c_InvalidMeasure) "__init__" = some (some (.ref f_InvalidMeasure))) (sp_InvalidMeasure : PySem.W.ks_superIn K c_InvalidMeasure c_InvalidMeasure "__init__" = some (some (.builtin "ValueError.__init__")))
    (lf_InvalidMeasure : K.lookup f_InvalidMeasure = some ⟨.type "function", od_InvalidMeasure, .func (PySem.W.fnX "__init__" "InvalidMeasure.__init__" (defArgs k_InvalidMeasure) (defBody k_InvalidMeasure) (defScope k_InvalidMeasure) [("__class__", cc_InvalidMeasure)] (.ref td_InvalidMeasure) kV_InvalidMeasure dc_InvalidMeasure pm_InvalidMeasure an_InvalidMeasure (.ref cda_InvalidMeasure) ct_InvalidMeasure), osl_InvalidMeasure⟩) (cd_InvalidMeasure : PySem.W.codeIn K (.ref cda_InvalidMeasure) "InvalidMeasure.__init__" = true)
    (lc_InvalidMeasure : K.lookup cc_InvalidMeasure = some ⟨c1_InvalidMeasure, d1_InvalidMeasure, .cell (some (.ref c_InvalidMeasure)), sl1_InvalidMeasure⟩) (lt_InvalidMeasure : K.lookup td_InvalidMeasure = some ⟨c2_InvalidMeasure, d2_InvalidMeasure, .seq #[.none] tn_InvalidMeasure, sl2_InvalidMeasure⟩) (lv_InvalidMeasure : K.lookup cda_InvalidMeasure = some ⟨c3_InvalidMeasure, d3_InvalidMeasure, .fields vs_InvalidMeasure, sl3_InvalidMeasure⟩) (hv_InvalidMeasure : vs_InvalidMeasure[2]? = some (.str fi_InvalidMeasure tf_InvalidMeasure)) (hf_InvalidMeasure : (((PySem.Challenge.pw_slitsheets_k11_cuttings_refused : Program).main.file : Str) == fi_InvalidMeasure) = true)
    {c_InvalidNumber f_InvalidNumber n_InvalidNumber cda_InvalidNumber cc_InvalidNumber td_InvalidNumber : Addr} {q_InvalidNumber : Str} {b_InvalidNumber : List Value} {sn_InvalidNumber : List Str} {su_InvalidNumber : List Value} {ab_InvalidNumber : Bool} {co_InvalidNumber : Option Bool} {dd_InvalidNumber : Option Addr} {k0_InvalidNumber k1_InvalidNumber k2_InvalidNumber k3_InvalidNumber k5_InvalidNumber : Option Value} {od_InvalidNumber an_InvalidNumber : Option Addr} {kV_InvalidNumber dc_InvalidNumber pm_InvalidNumber ct_InvalidNumber : Value} {osl_InvalidNumber : Array (Option Value)} {c1_InvalidNumber c2_InvalidNumber c3_InvalidNumber : Value} {d1_InvalidNumber d2_InvalidNumber d3_InvalidNumber : Option Addr} {sl1_InvalidNumber sl2_InvalidNumber sl3_InvalidNumber : Array (Option Value)} {tn_InvalidNumber : Nat} {vs_InvalidNumber : Array Value} {fi_InvalidNumber : Str} {tf_InvalidNumber : Tok}
    (ns_InvalidNumber : PySem.W.nsIn K mainGlobals "InvalidNumber" = some (some (.ref c_InvalidNumber))) (lk_InvalidNumber : K.lookup c_InvalidNumber = some (excClassObj "InvalidNumber" q_InvalidNumber c_InvalidNumber n_InvalidNumber b_InvalidNumber [.ref cS, .type "ValueError", .type "Exception", .type "BaseException", .type "object"] true sn_InvalidNumber su_InvalidNumber ab_InvalidNumber co_InvalidNumber dd_InvalidNumber k0_InvalidNumber k1_InvalidNumber k2_InvalidNumber k3_InvalidNumber k5_InvalidNumber "ValueError.__new__"))
    (sa_InvalidNumber : PySem.W.findIn K (.ref c_InvalidNumber) "__setattr__" = some (some (.builtin "object.__setattr__"))) (ga_InvalidNumber : PySem.W.findIn K (.ref c_InvalidNumber) "__getattribute__" = some (some (.builtin "BaseException.__getattribute__"))) (gg_InvalidNumber : PySem.W.findIn K (.ref c_InvalidNumber) "__getattr__" = some none)
    (nv_InvalidNumber : PySem.W.findIn K (.ref c_InvalidNumber) "value" = some none) (kp_InvalidNumber : PySem.W.keepIn K (.ref c_InvalidNumber) = true) (hc_InvalidNumber : PySem.W.findIn K (.ref c_InvalidNumber) "__class__" = some (some (.builtin "object.__class__"))) (iC_InvalidNumber : PySem.W.findIn K (.ref c_InvalidNumber) "__init__" = some (some (.ref f_InvalidNumber))) (sp_InvalidNumber : PySem.W.ks_superIn K c_InvalidNumber c_InvalidNumber "__init__" = some (some (.builtin "ValueError.__init__")))
    (lf_InvalidNumber : K.lookup f_InvalidNumber = some ⟨.type "function", od_InvalidNumber, .func (PySem.W.fnX "__init__" "InvalidNumber.__init__" (defArgs k_InvalidNumber) (defBody k_InvalidNumber) (defScope k_InvalidNumber) [("__class__", cc_InvalidNumber)] (.ref td_InvalidNumber) kV_InvalidNumber dc_InvalidNumber pm_InvalidNumber an_InvalidNumber (.ref cda_InvalidNumber) ct_InvalidNumber), osl_InvalidNumber⟩) (cd_InvalidNumber : PySem.W.codeIn K (.ref cda_InvalidNumber) "InvalidNumber.__init__" = true)
    (lc_InvalidNumber : K.lookup cc_InvalidNumber = some ⟨c1_InvalidNumber, d1_InvalidNumber, .cell (some (.ref c_InvalidNumber)), sl1_InvalidNumber⟩) (lt_InvalidNumber : K.lookup td_InvalidNumber = some ⟨c2_InvalidNumber, d2_InvalidNumber, .seq #[.none] tn_InvalidNumber, sl2_InvalidNumber⟩) (lv_InvalidNumber : K.lookup cda_InvalidNumber = some ⟨c3_InvalidNumber, d3_InvalidNumber, .fields vs_InvalidNumber, sl3_InvalidNumber⟩) (hv_InvalidNumber : vs_InvalidNumber[2]? = some (.str fi_InvalidNumber tf_InvalidNumber)) (hf_InvalidNumber : (((PySem.Challenge.pw_slitsheets_k11_cuttings_refused : Program).main.file : Str) == fi_InvalidNumber) = true)
    {c_InvalidCutting f_InvalidCutting n_InvalidCutting cda_InvalidCutting cc_InvalidCutting td_InvalidCutting : Addr} {q_InvalidCutting : Str} {b_InvalidCutting : List Value} {sn_InvalidCutting : List Str} {su_InvalidCutting : List Value} {ab_InvalidCutting : Bool} {co_InvalidCutting : Option Bool} {dd_InvalidCutting : Option Addr} {k0_InvalidCutting k1_InvalidCutting k2_InvalidCutting k3_InvalidCutting k5_InvalidCutting : Option Value} {od_InvalidCutting an_InvalidCutting : Option Addr} {kV_InvalidCutting dc_InvalidCutting pm_InvalidCutting ct_InvalidCutting : Value} {osl_InvalidCutting : Array (Option Value)} {c1_InvalidCutting c2_InvalidCutting c3_InvalidCutting : Value} {d1_InvalidCutting d2_InvalidCutting d3_InvalidCutting : Option Addr} {sl1_InvalidCutting sl2_InvalidCutting sl3_InvalidCutting : Array (Option Value)} {tn_InvalidCutting : Nat} {vs_InvalidCutting : Array Value} {fi_InvalidCutting : Str} {tf_InvalidCutting : Tok}
    (ns_InvalidCutting : PySem.W.nsIn K mainGlobals "InvalidCutting" = some (some (.ref c_InvalidCutting))) (lk_InvalidCutting : K.lookup c_InvalidCutting = some (excClassObj "InvalidCutting" q_InvalidCutting c_InvalidCutting n_InvalidCutting b_InvalidCutting [.ref cS, .type "ValueError", .type "Exception", .type "BaseException", .type "object"] true sn_InvalidCutting su_InvalidCutting ab_InvalidCutting co_InvalidCutting dd_InvalidCutting k0_InvalidCutting k1_InvalidCutting k2_InvalidCutting k3_InvalidCutting k5_InvalidCutting "ValueError.__new__"))
    (sa_InvalidCutting : PySem.W.findIn K (.ref c_InvalidCutting) "__setattr__" = some (some (.builtin "object.__setattr__"))) (ga_InvalidCutting : PySem.W.findIn K (.ref c_InvalidCutting) "__getattribute__" = some (some (.builtin "BaseException.__getattribute__"))) (gg_InvalidCutting : PySem.W.findIn K (.ref c_InvalidCutting) "__getattr__" = some none)
    (nv_InvalidCutting : PySem.W.findIn K (.ref c_InvalidCutting) "value" = some none) (kp_InvalidCutting : PySem.W.keepIn K (.ref c_InvalidCutting) = true) (hc_InvalidCutting : PySem.W.findIn K (.ref c_InvalidCutting) "__class__" = some (some (.builtin "object.__class__"))) (iC_InvalidCutting : PySem.W.findIn K (.ref c_InvalidCutting) "__init__" = some (some (.ref f_InvalidCutting))) (sp_InvalidCutting : PySem.W.ks_superIn K c_InvalidCutting c_InvalidCutting "__init__" = some (some (.builtin "ValueError.__init__")))
    (lf_InvalidCutting : K.lookup f_InvalidCutting = some ⟨.type "function", od_InvalidCutting, .func (PySem.W.fnX "__init__" "InvalidCutting.__init__" (defArgs k_InvalidCutting) (defBody k_InvalidCutting) (defScope k_InvalidCutting) [("__class__", cc_InvalidCutting)] (.ref td_InvalidCutting) kV_InvalidCutting dc_InvalidCutting pm_InvalidCutting an_InvalidCutting (.ref cda_InvalidCutting) ct_InvalidCutting), osl_InvalidCutting⟩) (cd_InvalidCutting : PySem.W.codeIn K (.ref cda_InvalidCutting) "InvalidCutting.__init__" = true)
    (lc_InvalidCutting : K.lookup cc_InvalidCutting = some ⟨c1_InvalidCutting, d1_InvalidCutting, .cell (some (.ref c_InvalidCutting)), sl1_InvalidCutting⟩) (lt_InvalidCutting : K.lookup td_InvalidCutting = some ⟨c2_InvalidCutting, d2_InvalidCutting, .seq #[.none] tn_InvalidCutting, sl2_InvalidCutting⟩) (lv_InvalidCutting : K.lookup cda_InvalidCutting = some ⟨c3_InvalidCutting, d3_InvalidCutting, .fields vs_InvalidCutting, sl3_InvalidCutting⟩) (hv_InvalidCutting : vs_InvalidCutting[2]? = some (.str fi_InvalidCutting tf_InvalidCutting)) (hf_InvalidCutting : (((PySem.Challenge.pw_slitsheets_k11_cuttings_refused : Program).main.file : Str) == fi_InvalidCutting) = true)
    {c_TooMany f_TooMany n_TooMany cda_TooMany cc_TooMany td_TooMany : Addr} {q_TooMany : Str} {b_TooMany : List Value} {sn_TooMany : List Str} {su_TooMany : List Value} {ab_TooMany : Bool} {co_TooMany : Option Bool} {dd_TooMany : Option Addr} {k0_TooMany k1_TooMany k2_TooMany k3_TooMany k5_TooMany : Option Value} {od_TooMany an_TooMany : Option Addr} {kV_TooMany dc_TooMany pm_TooMany ct_TooMany : Value} {osl_TooMany : Array (Option Value)} {c1_TooMany c2_TooMany c3_TooMany : Value} {d1_TooMany d2_TooMany d3_TooMany : Option Addr} {sl1_TooMany sl2_TooMany sl3_TooMany : Array (Option Value)} {tn_TooMany : Nat} {vs_TooMany : Array Value} {fi_TooMany : Str} {tf_TooMany : Tok}
    (ns_TooMany : PySem.W.nsIn K mainGlobals "TooMany" = some (some (.ref c_TooMany))) (lk_TooMany : K.lookup c_TooMany = some (excClassObj "TooMany" q_TooMany c_TooMany n_TooMany b_TooMany [.ref cS, .type "ValueError", .type "Exception", .type "BaseException", .type "object"] true sn_TooMany su_TooMany ab_TooMany co_TooMany dd_TooMany k0_TooMany k1_TooMany k2_TooMany k3_TooMany k5_TooMany "ValueError.__new__"))
    (sa_TooMany : PySem.W.findIn K (.ref c_TooMany) "__setattr__" = some (some (.builtin "object.__setattr__"))) (ga_TooMany : PySem.W.findIn K (.ref c_TooMany) "__getattribute__" = some (some (.builtin "BaseException.__getattribute__"))) (gg_TooMany : PySem.W.findIn K (.ref c_TooMany) "__getattr__" = some none)
    (nv_TooMany : PySem.W.findIn K (.ref c_TooMany) "value" = some none) (kp_TooMany : PySem.W.keepIn K (.ref c_TooMany) = true) (hc_TooMany : PySem.W.findIn K (.ref c_TooMany) "__class__" = some (some (.builtin "object.__class__"))) (iC_TooMany : PySem.W.findIn K (.ref c_TooMany) "__init__" = some (some (.ref f_TooMany))) (sp_TooMany : PySem.W.ks_superIn K c_TooMany c_TooMany "__init__" = some (some (.builtin "ValueError.__init__")))
    (lf_TooMany : K.lookup f_TooMany = some ⟨.type "function", od_TooMany, .func (PySem.W.fnX "__init__" "TooMany.__init__" (defArgs k_TooMany) (defBody k_TooMany) (defScope k_TooMany) [("__class__", cc_TooMany)] (.ref td_TooMany) kV_TooMany dc_TooMany pm_TooMany an_TooMany (.ref cda_TooMany) ct_TooMany), osl_TooMany⟩) (cd_TooMany : PySem.W.codeIn K (.ref cda_TooMany) "TooMany.__init__" = true)
    (lc_TooMany : K.lookup cc_TooMany = some ⟨c1_TooMany, d1_TooMany, .cell (some (.ref c_TooMany)), sl1_TooMany⟩) (lt_TooMany : K.lookup td_TooMany = some ⟨c2_TooMany, d2_TooMany, .seq #[.none] tn_TooMany, sl2_TooMany⟩) (lv_TooMany : K.lookup cda_TooMany = some ⟨c3_TooMany, d3_TooMany, .fields vs_TooMany, sl3_TooMany⟩) (hv_TooMany : vs_TooMany[2]? = some (.str fi_TooMany tf_TooMany)) (hf_TooMany : (((PySem.Challenge.pw_slitsheets_k11_cuttings_refused : Program).main.file : Str) == fi_TooMany) = true)
    {va_cutting_number : Addr} (vn_cutting_number : PySem.W.nsIn K mainGlobals "cutting_number" = some (some (.ref va_cutting_number)))
    {va_cuttings : Addr} (vn_cuttings : PySem.W.nsIn K mainGlobals "cuttings" = some (some (.ref va_cuttings)))
    {va_how_many_cuttings : Addr} (vn_how_many_cuttings : PySem.W.nsIn K mainGlobals "how_many_cuttings" = some (some (.ref va_how_many_cuttings)))
    {va_measure_of : Addr} (vn_measure_of : PySem.W.nsIn K mainGlobals "measure_of" = some (some (.ref va_measure_of)))
    {va_next_cutting : Addr} (vn_next_cutting : PySem.W.nsIn K mainGlobals "next_cutting" = some (some (.ref va_next_cutting)))
    {f_l_cell_cf3b : Addr} {oc_l_cell_cf3b kV_l_cell_cf3b dc_l_cell_cf3b pm_l_cell_cf3b cd_l_cell_cf3b ct_l_cell_cf3b : Value} {od_l_cell_cf3b an_l_cell_cf3b : Option Addr} {sl_l_cell_cf3b : Array (Option Value)}
    (a_l_cell_cf3b : PySem.W.nsIn K mainGlobals "_law_cell" = some (some (.ref f_l_cell_cf3b))) (l_l_cell_cf3b : K.lookup f_l_cell_cf3b = some ⟨oc_l_cell_cf3b, od_l_cell_cf3b, .func (PySem.W.fnOf "_law_cell" "_law_cell" (defArgs s_l_cell_cf3b) (defBody s_l_cell_cf3b) (defScope s_l_cell_cf3b) .none kV_l_cell_cf3b dc_l_cell_cf3b pm_l_cell_cf3b an_l_cell_cf3b cd_l_cell_cf3b ct_l_cell_cf3b), sl_l_cell_cf3b⟩) (e_l_cell_cf3b : PySem.W.codeIn K cd_l_cell_cf3b "_law_cell" = true) (k_l_cell_cf3b : PySem.W.keepIn K (.ref f_l_cell_cf3b) = true)
    {f_l_generator_b324 : Addr} {oc_l_generator_b324 kV_l_generator_b324 dc_l_generator_b324 pm_l_generator_b324 cd_l_generator_b324 ct_l_generator_b324 : Value} {od_l_generator_b324 an_l_generator_b324 : Option Addr} {sl_l_generator_b324 : Array (Option Value)}
    (a_l_generator_b324 : PySem.W.nsIn K mainGlobals "_law_generator" = some (some (.ref f_l_generator_b324))) (l_l_generator_b324 : K.lookup f_l_generator_b324 = some ⟨oc_l_generator_b324, od_l_generator_b324, .func (PySem.W.fnOf "_law_generator" "_law_generator" (defArgs s_l_generator_b324) (defBody s_l_generator_b324) (defScope s_l_generator_b324) .none kV_l_generator_b324 dc_l_generator_b324 pm_l_generator_b324 an_l_generator_b324 cd_l_generator_b324 ct_l_generator_b324), sl_l_generator_b324⟩) (e_l_generator_b324 : PySem.W.codeIn K cd_l_generator_b324 "_law_generator" = true) (k_l_generator_b324 : PySem.W.keepIn K (.ref f_l_generator_b324) = true)
    {f_l_turns_2ef2 : Addr} {oc_l_turns_2ef2 kV_l_turns_2ef2 dc_l_turns_2ef2 pm_l_turns_2ef2 cd_l_turns_2ef2 ct_l_turns_2ef2 : Value} {od_l_turns_2ef2 an_l_turns_2ef2 : Option Addr} {sl_l_turns_2ef2 : Array (Option Value)}
    (a_l_turns_2ef2 : PySem.W.nsIn K mainGlobals "_law_turns" = some (some (.ref f_l_turns_2ef2))) (l_l_turns_2ef2 : K.lookup f_l_turns_2ef2 = some ⟨oc_l_turns_2ef2, od_l_turns_2ef2, .func (PySem.W.fnOf "_law_turns" "_law_turns" (defArgs s_l_turns_2ef2) (defBody s_l_turns_2ef2) (defScope s_l_turns_2ef2) .none kV_l_turns_2ef2 dc_l_turns_2ef2 pm_l_turns_2ef2 an_l_turns_2ef2 cd_l_turns_2ef2 ct_l_turns_2ef2), sl_l_turns_2ef2⟩) (e_l_turns_2ef2 : PySem.W.codeIn K cd_l_turns_2ef2 "_law_turns" = true) (k_l_turns_2ef2 : PySem.W.keepIn K (.ref f_l_turns_2ef2) = true)
    {f_l_common_7348 : Addr} {oc_l_common_7348 kV_l_common_7348 dc_l_common_7348 pm_l_common_7348 cd_l_common_7348 ct_l_common_7348 : Value} {od_l_common_7348 an_l_common_7348 : Option Addr} {sl_l_common_7348 : Array (Option Value)}
    (a_l_common_7348 : PySem.W.nsIn K mainGlobals "_law_common" = some (some (.ref f_l_common_7348))) (l_l_common_7348 : K.lookup f_l_common_7348 = some ⟨oc_l_common_7348, od_l_common_7348, .func (PySem.W.fnOf "_law_common" "_law_common" (defArgs s_l_common_7348) (defBody s_l_common_7348) (defScope s_l_common_7348) .none kV_l_common_7348 dc_l_common_7348 pm_l_common_7348 an_l_common_7348 cd_l_common_7348 ct_l_common_7348), sl_l_common_7348⟩) (e_l_common_7348 : PySem.W.codeIn K cd_l_common_7348 "_law_common" = true) (k_l_common_7348 : PySem.W.keepIn K (.ref f_l_common_7348) = true)
    {f_l_is_cutting_19aa : Addr} {oc_l_is_cutting_19aa kV_l_is_cutting_19aa dc_l_is_cutting_19aa pm_l_is_cutting_19aa cd_l_is_cutting_19aa ct_l_is_cutting_19aa : Value} {od_l_is_cutting_19aa an_l_is_cutting_19aa : Option Addr} {sl_l_is_cutting_19aa : Array (Option Value)}
    (a_l_is_cutting_19aa : PySem.W.nsIn K mainGlobals "_law_is_cutting" = some (some (.ref f_l_is_cutting_19aa))) (l_l_is_cutting_19aa : K.lookup f_l_is_cutting_19aa = some ⟨oc_l_is_cutting_19aa, od_l_is_cutting_19aa, .func (PySem.W.fnOf "_law_is_cutting" "_law_is_cutting" (defArgs s_l_is_cutting_19aa) (defBody s_l_is_cutting_19aa) (defScope s_l_is_cutting_19aa) .none kV_l_is_cutting_19aa dc_l_is_cutting_19aa pm_l_is_cutting_19aa an_l_is_cutting_19aa cd_l_is_cutting_19aa ct_l_is_cutting_19aa), sl_l_is_cutting_19aa⟩) (e_l_is_cutting_19aa : PySem.W.codeIn K cd_l_is_cutting_19aa "_law_is_cutting" = true) (k_l_is_cutting_19aa : PySem.W.keepIn K (.ref f_l_is_cutting_19aa) = true)
    {f_l_with_e507 : Addr} {oc_l_with_e507 kV_l_with_e507 dc_l_with_e507 pm_l_with_e507 cd_l_with_e507 ct_l_with_e507 : Value} {od_l_with_e507 an_l_with_e507 : Option Addr} {sl_l_with_e507 : Array (Option Value)}
    (a_l_with_e507 : PySem.W.nsIn K mainGlobals "_law_with" = some (some (.ref f_l_with_e507))) (l_l_with_e507 : K.lookup f_l_with_e507 = some ⟨oc_l_with_e507, od_l_with_e507, .func (PySem.W.fnOf "_law_with" "_law_with" (defArgs s_l_with_e507) (defBody s_l_with_e507) (defScope s_l_with_e507) .none kV_l_with_e507 dc_l_with_e507 pm_l_with_e507 an_l_with_e507 cd_l_with_e507 ct_l_with_e507), sl_l_with_e507⟩) (e_l_with_e507 : PySem.W.codeIn K cd_l_with_e507 "_law_with" = true) (k_l_with_e507 : PySem.W.keepIn K (.ref f_l_with_e507) = true)
    {f_l_all_a488 : Addr} {oc_l_all_a488 kV_l_all_a488 dc_l_all_a488 pm_l_all_a488 cd_l_all_a488 ct_l_all_a488 : Value} {od_l_all_a488 an_l_all_a488 : Option Addr} {sl_l_all_a488 : Array (Option Value)}
    (a_l_all_a488 : PySem.W.nsIn K mainGlobals "_law_all" = some (some (.ref f_l_all_a488))) (l_l_all_a488 : K.lookup f_l_all_a488 = some ⟨oc_l_all_a488, od_l_all_a488, .func (PySem.W.fnOf "_law_all" "_law_all" (defArgs s_l_all_a488) (defBody s_l_all_a488) (defScope s_l_all_a488) .none kV_l_all_a488 dc_l_all_a488 pm_l_all_a488 an_l_all_a488 cd_l_all_a488 ct_l_all_a488), sl_l_all_a488⟩) (e_l_all_a488 : PySem.W.codeIn K cd_l_all_a488 "_law_all" = true) (k_l_all_a488 : PySem.W.keepIn K (.ref f_l_all_a488) = true)
    {f_l_hash_d8d1 : Addr} {oc_l_hash_d8d1 kV_l_hash_d8d1 dc_l_hash_d8d1 pm_l_hash_d8d1 cd_l_hash_d8d1 ct_l_hash_d8d1 : Value} {od_l_hash_d8d1 an_l_hash_d8d1 : Option Addr} {sl_l_hash_d8d1 : Array (Option Value)}
    (a_l_hash_d8d1 : PySem.W.nsIn K mainGlobals "_law_hash" = some (some (.ref f_l_hash_d8d1))) (l_l_hash_d8d1 : K.lookup f_l_hash_d8d1 = some ⟨oc_l_hash_d8d1, od_l_hash_d8d1, .func (PySem.W.fnOf "_law_hash" "_law_hash" (defArgs s_l_hash_d8d1) (defBody s_l_hash_d8d1) (defScope s_l_hash_d8d1) .none kV_l_hash_d8d1 dc_l_hash_d8d1 pm_l_hash_d8d1 an_l_hash_d8d1 cd_l_hash_d8d1 ct_l_hash_d8d1), sl_l_hash_d8d1⟩) (e_l_hash_d8d1 : PySem.W.codeIn K cd_l_hash_d8d1 "_law_hash" = true) (k_l_hash_d8d1 : PySem.W.keepIn K (.ref f_l_hash_d8d1) = true)
    {f_l_random_7821 : Addr} {oc_l_random_7821 kV_l_random_7821 dc_l_random_7821 pm_l_random_7821 cd_l_random_7821 ct_l_random_7821 : Value} {od_l_random_7821 an_l_random_7821 : Option Addr} {sl_l_random_7821 : Array (Option Value)}
    (a_l_random_7821 : PySem.W.nsIn K mainGlobals "_law_random" = some (some (.ref f_l_random_7821))) (l_l_random_7821 : K.lookup f_l_random_7821 = some ⟨oc_l_random_7821, od_l_random_7821, .func (PySem.W.fnOf "_law_random" "_law_random" (defArgs s_l_random_7821) (defBody s_l_random_7821) (defScope s_l_random_7821) .none kV_l_random_7821 dc_l_random_7821 pm_l_random_7821 an_l_random_7821 cd_l_random_7821 ct_l_random_7821), sl_l_random_7821⟩) (e_l_random_7821 : PySem.W.codeIn K cd_l_random_7821 "_law_random" = true) (k_l_random_7821 : PySem.W.keepIn K (.ref f_l_random_7821) = true)
    {f_l_drawn_measure_d212 : Addr} {oc_l_drawn_measure_d212 kV_l_drawn_measure_d212 dc_l_drawn_measure_d212 pm_l_drawn_measure_d212 cd_l_drawn_measure_d212 ct_l_drawn_measure_d212 : Value} {od_l_drawn_measure_d212 an_l_drawn_measure_d212 : Option Addr} {sl_l_drawn_measure_d212 : Array (Option Value)}
    (a_l_drawn_measure_d212 : PySem.W.nsIn K mainGlobals "_law_drawn_measure" = some (some (.ref f_l_drawn_measure_d212))) (l_l_drawn_measure_d212 : K.lookup f_l_drawn_measure_d212 = some ⟨oc_l_drawn_measure_d212, od_l_drawn_measure_d212, .func (PySem.W.fnOf "_law_drawn_measure" "_law_drawn_measure" (defArgs s_l_drawn_measure_d212) (defBody s_l_drawn_measure_d212) (defScope s_l_drawn_measure_d212) .none kV_l_drawn_measure_d212 dc_l_drawn_measure_d212 pm_l_drawn_measure_d212 an_l_drawn_measure_d212 cd_l_drawn_measure_d212 ct_l_drawn_measure_d212), sl_l_drawn_measure_d212⟩) (e_l_drawn_measure_d212 : PySem.W.codeIn K cd_l_drawn_measure_d212 "_law_drawn_measure" = true) (k_l_drawn_measure_d212 : PySem.W.keepIn K (.ref f_l_drawn_measure_d212) = true)
    {f_l_only_1d99 : Addr} {oc_l_only_1d99 kV_l_only_1d99 dc_l_only_1d99 pm_l_only_1d99 cd_l_only_1d99 ct_l_only_1d99 : Value} {od_l_only_1d99 an_l_only_1d99 : Option Addr} {sl_l_only_1d99 : Array (Option Value)}
    (a_l_only_1d99 : PySem.W.nsIn K mainGlobals "_law_only" = some (some (.ref f_l_only_1d99))) (l_l_only_1d99 : K.lookup f_l_only_1d99 = some ⟨oc_l_only_1d99, od_l_only_1d99, .func (PySem.W.fnOf "_law_only" "_law_only" (defArgs s_l_only_1d99) (defBody s_l_only_1d99) (defScope s_l_only_1d99) .none kV_l_only_1d99 dc_l_only_1d99 pm_l_only_1d99 an_l_only_1d99 cd_l_only_1d99 ct_l_only_1d99), sl_l_only_1d99⟩) (e_l_only_1d99 : PySem.W.codeIn K cd_l_only_1d99 "_law_only" = true) (k_l_only_1d99 : PySem.W.keepIn K (.ref f_l_only_1d99) = true)
    {f_is_whole : Addr} {oc_is_whole kV_is_whole dc_is_whole pm_is_whole cd_is_whole ct_is_whole : Value} {od_is_whole an_is_whole : Option Addr} {sl_is_whole : Array (Option Value)}
    (a_is_whole : PySem.W.nsIn K mainGlobals "is_whole" = some (some (.ref f_is_whole))) (l_is_whole : K.lookup f_is_whole = some ⟨oc_is_whole, od_is_whole, .func (PySem.W.fnOf "is_whole" "is_whole" (defArgs s_is_whole) (defBody s_is_whole) (defScope s_is_whole) .none kV_is_whole dc_is_whole pm_is_whole an_is_whole cd_is_whole ct_is_whole), sl_is_whole⟩) (e_is_whole : PySem.W.codeIn K cd_is_whole "is_whole" = true) (k_is_whole : PySem.W.keepIn K (.ref f_is_whole) = true)
    {f_common_by : Addr} {oc_common_by kV_common_by dc_common_by pm_common_by cd_common_by ct_common_by : Value} {od_common_by an_common_by : Option Addr} {sl_common_by : Array (Option Value)}
    (a_common_by : PySem.W.nsIn K mainGlobals "common_by" = some (some (.ref f_common_by))) (l_common_by : K.lookup f_common_by = some ⟨oc_common_by, od_common_by, .func (PySem.W.fnOf "common_by" "common_by" (defArgs s_common_by) (defBody s_common_by) (defScope s_common_by) .none kV_common_by dc_common_by pm_common_by an_common_by cd_common_by ct_common_by), sl_common_by⟩) (e_common_by : PySem.W.codeIn K cd_common_by "common_by" = true) (k_common_by : PySem.W.keepIn K (.ref f_common_by) = true)
    {f_is_cutting_by : Addr} {oc_is_cutting_by kV_is_cutting_by dc_is_cutting_by pm_is_cutting_by cd_is_cutting_by ct_is_cutting_by : Value} {od_is_cutting_by an_is_cutting_by : Option Addr} {sl_is_cutting_by : Array (Option Value)}
    (a_is_cutting_by : PySem.W.nsIn K mainGlobals "is_cutting_by" = some (some (.ref f_is_cutting_by))) (l_is_cutting_by : K.lookup f_is_cutting_by = some ⟨oc_is_cutting_by, od_is_cutting_by, .func (PySem.W.fnOf "is_cutting_by" "is_cutting_by" (defArgs s_is_cutting_by) (defBody s_is_cutting_by) (defScope s_is_cutting_by) .none kV_is_cutting_by dc_is_cutting_by pm_is_cutting_by an_is_cutting_by cd_is_cutting_by ct_is_cutting_by), sl_is_cutting_by⟩) (e_is_cutting_by : PySem.W.codeIn K cd_is_cutting_by "is_cutting_by" = true) (k_is_cutting_by : PySem.W.keepIn K (.ref f_is_cutting_by) = true)
    {f_check_cutting_x : Addr} {oc_check_cutting_x kV_check_cutting_x dc_check_cutting_x pm_check_cutting_x cd_check_cutting_x ct_check_cutting_x : Value} {od_check_cutting_x an_check_cutting_x : Option Addr} {sl_check_cutting_x : Array (Option Value)}
    (a_check_cutting_x : PySem.W.nsIn K mainGlobals "check_cutting" = some (some (.ref f_check_cutting_x))) (l_check_cutting_x : K.lookup f_check_cutting_x = some ⟨oc_check_cutting_x, od_check_cutting_x, .func (PySem.W.fnOf "check_cutting" "check_cutting" (defArgs s_check_cutting_x) (defBody s_check_cutting_x) (defScope s_check_cutting_x) .none kV_check_cutting_x dc_check_cutting_x pm_check_cutting_x an_check_cutting_x cd_check_cutting_x ct_check_cutting_x), sl_check_cutting_x⟩) (e_check_cutting_x : PySem.W.codeIn K cd_check_cutting_x "check_cutting" = true) (k_check_cutting_x : PySem.W.keepIn K (.ref f_check_cutting_x) = true)
    {f_measure_by : Addr} {oc_measure_by kV_measure_by dc_measure_by pm_measure_by cd_measure_by ct_measure_by : Value} {od_measure_by an_measure_by : Option Addr} {sl_measure_by : Array (Option Value)}
    (a_measure_by : PySem.W.nsIn K mainGlobals "measure_by" = some (some (.ref f_measure_by))) (l_measure_by : K.lookup f_measure_by = some ⟨oc_measure_by, od_measure_by, .func (PySem.W.fnOf "measure_by" "measure_by" (defArgs s_measure_by) (defBody s_measure_by) (defScope s_measure_by) .none kV_measure_by dc_measure_by pm_measure_by an_measure_by cd_measure_by ct_measure_by), sl_measure_by⟩) (e_measure_by : PySem.W.codeIn K cd_measure_by "measure_by" = true) (k_measure_by : PySem.W.keepIn K (.ref f_measure_by) = true)
    {f_measure_of_x : Addr} {oc_measure_of_x kV_measure_of_x dc_measure_of_x pm_measure_of_x cd_measure_of_x ct_measure_of_x : Value} {od_measure_of_x an_measure_of_x : Option Addr} {sl_measure_of_x : Array (Option Value)}
    (a_measure_of_x : PySem.W.nsIn K mainGlobals "measure_of" = some (some (.ref f_measure_of_x))) (l_measure_of_x : K.lookup f_measure_of_x = some ⟨oc_measure_of_x, od_measure_of_x, .func (PySem.W.fnOf "measure_of" "measure_of" (defArgs s_measure_of_x) (defBody s_measure_of_x) (defScope s_measure_of_x) .none kV_measure_of_x dc_measure_of_x pm_measure_of_x an_measure_of_x cd_measure_of_x ct_measure_of_x), sl_measure_of_x⟩) (e_measure_of_x : PySem.W.codeIn K cd_measure_of_x "measure_of" = true) (k_measure_of_x : PySem.W.keepIn K (.ref f_measure_of_x) = true)
    {f_root_floor_by : Addr} {oc_root_floor_by kV_root_floor_by dc_root_floor_by pm_root_floor_by cd_root_floor_by ct_root_floor_by : Value} {od_root_floor_by an_root_floor_by : Option Addr} {sl_root_floor_by : Array (Option Value)}
    (a_root_floor_by : PySem.W.nsIn K mainGlobals "root_floor_by" = some (some (.ref f_root_floor_by))) (l_root_floor_by : K.lookup f_root_floor_by = some ⟨oc_root_floor_by, od_root_floor_by, .func (PySem.W.fnOf "root_floor_by" "root_floor_by" (defArgs s_root_floor_by) (defBody s_root_floor_by) (defScope s_root_floor_by) .none kV_root_floor_by dc_root_floor_by pm_root_floor_by an_root_floor_by cd_root_floor_by ct_root_floor_by), sl_root_floor_by⟩) (e_root_floor_by : PySem.W.codeIn K cd_root_floor_by "root_floor_by" = true) (k_root_floor_by : PySem.W.keepIn K (.ref f_root_floor_by) = true)
    {f_turns_of : Addr} {oc_turns_of kV_turns_of dc_turns_of pm_turns_of cd_turns_of ct_turns_of : Value} {od_turns_of an_turns_of : Option Addr} {sl_turns_of : Array (Option Value)}
    (a_turns_of : PySem.W.nsIn K mainGlobals "turns_of" = some (some (.ref f_turns_of))) (l_turns_of : K.lookup f_turns_of = some ⟨oc_turns_of, od_turns_of, .func (PySem.W.fnOf "turns_of" "turns_of" (defArgs s_turns_of) (defBody s_turns_of) (defScope s_turns_of) .none kV_turns_of dc_turns_of pm_turns_of an_turns_of cd_turns_of ct_turns_of), sl_turns_of⟩) (e_turns_of : PySem.W.codeIn K cd_turns_of "turns_of" = true) (k_turns_of : PySem.W.keepIn K (.ref f_turns_of) = true)
    {f_sides_with : Addr} {oc_sides_with kV_sides_with dc_sides_with pm_sides_with cd_sides_with ct_sides_with : Value} {od_sides_with an_sides_with : Option Addr} {sl_sides_with : Array (Option Value)}
    (a_sides_with : PySem.W.nsIn K mainGlobals "sides_with" = some (some (.ref f_sides_with))) (l_sides_with : K.lookup f_sides_with = some ⟨oc_sides_with, od_sides_with, .func (PySem.W.fnOf "sides_with" "sides_with" (defArgs s_sides_with) (defBody s_sides_with) (defScope s_sides_with) .none kV_sides_with dc_sides_with pm_sides_with an_sides_with cd_sides_with ct_sides_with), sl_sides_with⟩) (e_sides_with : PySem.W.codeIn K cd_sides_with "sides_with" = true) (k_sides_with : PySem.W.keepIn K (.ref f_sides_with) = true)
    {f_lows_with : Addr} {oc_lows_with kV_lows_with dc_lows_with pm_lows_with cd_lows_with ct_lows_with : Value} {od_lows_with an_lows_with : Option Addr} {sl_lows_with : Array (Option Value)}
    (a_lows_with : PySem.W.nsIn K mainGlobals "lows_with" = some (some (.ref f_lows_with))) (l_lows_with : K.lookup f_lows_with = some ⟨oc_lows_with, od_lows_with, .func (PySem.W.fnOf "lows_with" "lows_with" (defArgs s_lows_with) (defBody s_lows_with) (defScope s_lows_with) .none kV_lows_with dc_lows_with pm_lows_with an_lows_with cd_lows_with ct_lows_with), sl_lows_with⟩) (e_lows_with : PySem.W.codeIn K cd_lows_with "lows_with" = true) (k_lows_with : PySem.W.keepIn K (.ref f_lows_with) = true)
    {f_with_turn : Addr} {oc_with_turn kV_with_turn dc_with_turn pm_with_turn cd_with_turn ct_with_turn : Value} {od_with_turn an_with_turn : Option Addr} {sl_with_turn : Array (Option Value)}
    (a_with_turn : PySem.W.nsIn K mainGlobals "with_turn" = some (some (.ref f_with_turn))) (l_with_turn : K.lookup f_with_turn = some ⟨oc_with_turn, od_with_turn, .func (PySem.W.fnOf "with_turn" "with_turn" (defArgs s_with_turn) (defBody s_with_turn) (defScope s_with_turn) .none kV_with_turn dc_with_turn pm_with_turn an_with_turn cd_with_turn ct_with_turn), sl_with_turn⟩) (e_with_turn : PySem.W.codeIn K cd_with_turn "with_turn" = true) (k_with_turn : PySem.W.keepIn K (.ref f_with_turn) = true)
    {f_listed_by : Addr} {oc_listed_by kV_listed_by dc_listed_by pm_listed_by cd_listed_by ct_listed_by : Value} {od_listed_by an_listed_by : Option Addr} {sl_listed_by : Array (Option Value)}
    (a_listed_by : PySem.W.nsIn K mainGlobals "listed_by" = some (some (.ref f_listed_by))) (l_listed_by : K.lookup f_listed_by = some ⟨oc_listed_by, od_listed_by, .func (PySem.W.fnOf "listed_by" "listed_by" (defArgs s_listed_by) (defBody s_listed_by) (defScope s_listed_by) .none kV_listed_by dc_listed_by pm_listed_by an_listed_by cd_listed_by ct_listed_by), sl_listed_by⟩) (e_listed_by : PySem.W.codeIn K cd_listed_by "listed_by" = true) (k_listed_by : PySem.W.keepIn K (.ref f_listed_by) = true)
    {f_cutting_number_x : Addr} {oc_cutting_number_x kV_cutting_number_x dc_cutting_number_x pm_cutting_number_x cd_cutting_number_x ct_cutting_number_x : Value} {od_cutting_number_x an_cutting_number_x : Option Addr} {sl_cutting_number_x : Array (Option Value)}
    (a_cutting_number_x : PySem.W.nsIn K mainGlobals "cutting_number" = some (some (.ref f_cutting_number_x))) (l_cutting_number_x : K.lookup f_cutting_number_x = some ⟨oc_cutting_number_x, od_cutting_number_x, .func (PySem.W.fnOf "cutting_number" "cutting_number" (defArgs s_cutting_number_x) (defBody s_cutting_number_x) (defScope s_cutting_number_x) .none kV_cutting_number_x dc_cutting_number_x pm_cutting_number_x an_cutting_number_x cd_cutting_number_x ct_cutting_number_x), sl_cutting_number_x⟩) (e_cutting_number_x : PySem.W.codeIn K cd_cutting_number_x "cutting_number" = true) (k_cutting_number_x : PySem.W.keepIn K (.ref f_cutting_number_x) = true)
    {f_next_cutting_x : Addr} {oc_next_cutting_x kV_next_cutting_x dc_next_cutting_x pm_next_cutting_x cd_next_cutting_x ct_next_cutting_x : Value} {od_next_cutting_x an_next_cutting_x : Option Addr} {sl_next_cutting_x : Array (Option Value)}
    (a_next_cutting_x : PySem.W.nsIn K mainGlobals "next_cutting" = some (some (.ref f_next_cutting_x))) (l_next_cutting_x : K.lookup f_next_cutting_x = some ⟨oc_next_cutting_x, od_next_cutting_x, .func (PySem.W.fnOf "next_cutting" "next_cutting" (defArgs s_next_cutting_x) (defBody s_next_cutting_x) (defScope s_next_cutting_x) .none kV_next_cutting_x dc_next_cutting_x pm_next_cutting_x an_next_cutting_x cd_next_cutting_x ct_next_cutting_x), sl_next_cutting_x⟩) (e_next_cutting_x : PySem.W.codeIn K cd_next_cutting_x "next_cutting" = true) (k_next_cutting_x : PySem.W.keepIn K (.ref f_next_cutting_x) = true)
    {f_is_between : Addr} {oc_is_between kV_is_between dc_is_between pm_is_between cd_is_between ct_is_between : Value} {od_is_between an_is_between : Option Addr} {sl_is_between : Array (Option Value)}
    (a_is_between : PySem.W.nsIn K mainGlobals "is_between" = some (some (.ref f_is_between))) (l_is_between : K.lookup f_is_between = some ⟨oc_is_between, od_is_between, .func (PySem.W.fnOf "is_between" "is_between" (defArgs s_is_between) (defBody s_is_between) (defScope s_is_between) .none kV_is_between dc_is_between pm_is_between an_is_between cd_is_between ct_is_between), sl_is_between⟩) (e_is_between : PySem.W.codeIn K cd_is_between "is_between" = true) (k_is_between : PySem.W.keepIn K (.ref f_is_between) = true)
    {f_is_measure_by : Addr} {oc_is_measure_by kV_is_measure_by dc_is_measure_by pm_is_measure_by cd_is_measure_by ct_is_measure_by : Value} {od_is_measure_by an_is_measure_by : Option Addr} {sl_is_measure_by : Array (Option Value)}
    (a_is_measure_by : PySem.W.nsIn K mainGlobals "is_measure_by" = some (some (.ref f_is_measure_by))) (l_is_measure_by : K.lookup f_is_measure_by = some ⟨oc_is_measure_by, od_is_measure_by, .func (PySem.W.fnOf "is_measure_by" "is_measure_by" (defArgs s_is_measure_by) (defBody s_is_measure_by) (defScope s_is_measure_by) .none kV_is_measure_by dc_is_measure_by pm_is_measure_by an_is_measure_by cd_is_measure_by ct_is_measure_by), sl_is_measure_by⟩) (e_is_measure_by : PySem.W.codeIn K cd_is_measure_by "is_measure_by" = true) (k_is_measure_by : PySem.W.keepIn K (.ref f_is_measure_by) = true)
    {f_check_measure_x : Addr} {oc_check_measure_x kV_check_measure_x dc_check_measure_x pm_check_measure_x cd_check_measure_x ct_check_measure_x : Value} {od_check_measure_x an_check_measure_x : Option Addr} {sl_check_measure_x : Array (Option Value)}
    (a_check_measure_x : PySem.W.nsIn K mainGlobals "check_measure" = some (some (.ref f_check_measure_x))) (l_check_measure_x : K.lookup f_check_measure_x = some ⟨oc_check_measure_x, od_check_measure_x, .func (PySem.W.fnOf "check_measure" "check_measure" (defArgs s_check_measure_x) (defBody s_check_measure_x) (defScope s_check_measure_x) .none kV_check_measure_x dc_check_measure_x pm_check_measure_x an_check_measure_x cd_check_measure_x ct_check_measure_x), sl_check_measure_x⟩) (e_check_measure_x : PySem.W.codeIn K cd_check_measure_x "check_measure" = true) (k_check_measure_x : PySem.W.keepIn K (.ref f_check_measure_x) = true)
    {f_count_by : Addr} {oc_count_by kV_count_by dc_count_by pm_count_by cd_count_by ct_count_by : Value} {od_count_by an_count_by : Option Addr} {sl_count_by : Array (Option Value)}
    (a_count_by : PySem.W.nsIn K mainGlobals "count_by" = some (some (.ref f_count_by))) (l_count_by : K.lookup f_count_by = some ⟨oc_count_by, od_count_by, .func (PySem.W.fnOf "count_by" "count_by" (defArgs s_count_by) (defBody s_count_by) (defScope s_count_by) .none kV_count_by dc_count_by pm_count_by an_count_by cd_count_by ct_count_by), sl_count_by⟩) (e_count_by : PySem.W.codeIn K cd_count_by "count_by" = true) (k_count_by : PySem.W.keepIn K (.ref f_count_by) = true)
    {f_how_many_cuttings_x : Addr} {oc_how_many_cuttings_x kV_how_many_cuttings_x dc_how_many_cuttings_x pm_how_many_cuttings_x cd_how_many_cuttings_x ct_how_many_cuttings_x : Value} {od_how_many_cuttings_x an_how_many_cuttings_x : Option Addr} {sl_how_many_cuttings_x : Array (Option Value)}
    (a_how_many_cuttings_x : PySem.W.nsIn K mainGlobals "how_many_cuttings" = some (some (.ref f_how_many_cuttings_x))) (l_how_many_cuttings_x : K.lookup f_how_many_cuttings_x = some ⟨oc_how_many_cuttings_x, od_how_many_cuttings_x, .func (PySem.W.fnOf "how_many_cuttings" "how_many_cuttings" (defArgs s_how_many_cuttings_x) (defBody s_how_many_cuttings_x) (defScope s_how_many_cuttings_x) .none kV_how_many_cuttings_x dc_how_many_cuttings_x pm_how_many_cuttings_x an_how_many_cuttings_x cd_how_many_cuttings_x ct_how_many_cuttings_x), sl_how_many_cuttings_x⟩) (e_how_many_cuttings_x : PySem.W.codeIn K cd_how_many_cuttings_x "how_many_cuttings" = true) (k_how_many_cuttings_x : PySem.W.keepIn K (.ref f_how_many_cuttings_x) = true)
    {f_cuttings_x : Addr} {oc_cuttings_x kV_cuttings_x dc_cuttings_x pm_cuttings_x cd_cuttings_x ct_cuttings_x : Value} {od_cuttings_x an_cuttings_x : Option Addr} {sl_cuttings_x : Array (Option Value)}
    (a_cuttings_x : PySem.W.nsIn K mainGlobals "cuttings" = some (some (.ref f_cuttings_x))) (l_cuttings_x : K.lookup f_cuttings_x = some ⟨oc_cuttings_x, od_cuttings_x, .func (PySem.W.fnOf "cuttings" "cuttings" (defArgs s_cuttings_x) (defBody s_cuttings_x) (defScope s_cuttings_x) .none kV_cuttings_x dc_cuttings_x pm_cuttings_x an_cuttings_x cd_cuttings_x ct_cuttings_x), sl_cuttings_x⟩) (e_cuttings_x : PySem.W.codeIn K cd_cuttings_x "cuttings" = true) (k_cuttings_x : PySem.W.keepIn K (.ref f_cuttings_x) = true)
    {f_check_number_x : Addr} {oc_check_number_x kV_check_number_x dc_check_number_x pm_check_number_x cd_check_number_x ct_check_number_x : Value} {od_check_number_x an_check_number_x : Option Addr} {sl_check_number_x : Array (Option Value)}
    (a_check_number_x : PySem.W.nsIn K mainGlobals "check_number" = some (some (.ref f_check_number_x))) (l_check_number_x : K.lookup f_check_number_x = some ⟨oc_check_number_x, od_check_number_x, .func (PySem.W.fnOf "check_number" "check_number" (defArgs s_check_number_x) (defBody s_check_number_x) (defScope s_check_number_x) .none kV_check_number_x dc_check_number_x pm_check_number_x an_check_number_x cd_check_number_x ct_check_number_x), sl_check_number_x⟩) (e_check_number_x : PySem.W.codeIn K cd_check_number_x "check_number" = true) (k_check_number_x : PySem.W.keepIn K (.ref f_check_number_x) = true)
    {f_how_many_with_last_x : Addr} {oc_how_many_with_last_x kV_how_many_with_last_x dc_how_many_with_last_x pm_how_many_with_last_x cd_how_many_with_last_x ct_how_many_with_last_x : Value} {od_how_many_with_last_x an_how_many_with_last_x : Option Addr} {sl_how_many_with_last_x : Array (Option Value)}
    (a_how_many_with_last_x : PySem.W.nsIn K mainGlobals "how_many_with_last" = some (some (.ref f_how_many_with_last_x))) (l_how_many_with_last_x : K.lookup f_how_many_with_last_x = some ⟨oc_how_many_with_last_x, od_how_many_with_last_x, .func (PySem.W.fnOf "how_many_with_last" "how_many_with_last" (defArgs s_how_many_with_last_x) (defBody s_how_many_with_last_x) (defScope s_how_many_with_last_x) .none kV_how_many_with_last_x dc_how_many_with_last_x pm_how_many_with_last_x an_how_many_with_last_x cd_how_many_with_last_x ct_how_many_with_last_x), sl_how_many_with_last_x⟩) (e_how_many_with_last_x : PySem.W.codeIn K cd_how_many_with_last_x "how_many_with_last" = true) (k_how_many_with_last_x : PySem.W.keepIn K (.ref f_how_many_with_last_x) = true)
    {f_cutting_numbered_x : Addr} {oc_cutting_numbered_x kV_cutting_numbered_x dc_cutting_numbered_x pm_cutting_numbered_x cd_cutting_numbered_x ct_cutting_numbered_x : Value} {od_cutting_numbered_x an_cutting_numbered_x : Option Addr} {sl_cutting_numbered_x : Array (Option Value)}
    (a_cutting_numbered_x : PySem.W.nsIn K mainGlobals "cutting_numbered" = some (some (.ref f_cutting_numbered_x))) (l_cutting_numbered_x : K.lookup f_cutting_numbered_x = some ⟨oc_cutting_numbered_x, od_cutting_numbered_x, .func (PySem.W.fnOf "cutting_numbered" "cutting_numbered" (defArgs s_cutting_numbered_x) (defBody s_cutting_numbered_x) (defScope s_cutting_numbered_x) .none kV_cutting_numbered_x dc_cutting_numbered_x pm_cutting_numbered_x an_cutting_numbered_x cd_cutting_numbered_x ct_cutting_numbered_x), sl_cutting_numbered_x⟩) (e_cutting_numbered_x : PySem.W.codeIn K cd_cutting_numbered_x "cutting_numbered" = true) (k_cutting_numbered_x : PySem.W.keepIn K (.ref f_cutting_numbered_x) = true)
    {f_l_asked_e0b2_x : Addr} {oc_l_asked_e0b2_x kV_l_asked_e0b2_x dc_l_asked_e0b2_x pm_l_asked_e0b2_x cd_l_asked_e0b2_x ct_l_asked_e0b2_x : Value} {od_l_asked_e0b2_x an_l_asked_e0b2_x : Option Addr} {sl_l_asked_e0b2_x : Array (Option Value)}
    (a_l_asked_e0b2_x : PySem.W.nsIn K mainGlobals "_law_asked" = some (some (.ref f_l_asked_e0b2_x))) (l_l_asked_e0b2_x : K.lookup f_l_asked_e0b2_x = some ⟨oc_l_asked_e0b2_x, od_l_asked_e0b2_x, .func (PySem.W.fnOf "_law_asked" "_law_asked" (defArgs s_l_asked_e0b2_x) (defBody s_l_asked_e0b2_x) (defScope s_l_asked_e0b2_x) .none kV_l_asked_e0b2_x dc_l_asked_e0b2_x pm_l_asked_e0b2_x an_l_asked_e0b2_x cd_l_asked_e0b2_x ct_l_asked_e0b2_x), sl_l_asked_e0b2_x⟩) (e_l_asked_e0b2_x : PySem.W.codeIn K cd_l_asked_e0b2_x "_law_asked" = true) (k_l_asked_e0b2_x : PySem.W.keepIn K (.ref f_l_asked_e0b2_x) = true)
    {f_l_caught_eda3 : Addr} {oc_l_caught_eda3 kV_l_caught_eda3 dc_l_caught_eda3 pm_l_caught_eda3 cd_l_caught_eda3 ct_l_caught_eda3 : Value} {od_l_caught_eda3 an_l_caught_eda3 : Option Addr} {sl_l_caught_eda3 : Array (Option Value)}
    (a_l_caught_eda3 : PySem.W.nsIn K mainGlobals "_law_caught" = some (some (.ref f_l_caught_eda3))) (l_l_caught_eda3 : K.lookup f_l_caught_eda3 = some ⟨oc_l_caught_eda3, od_l_caught_eda3, .func (PySem.W.fnOf "_law_caught" "_law_caught" (defArgs s_l_caught_eda3) (defBody s_l_caught_eda3) (defScope s_l_caught_eda3) .none kV_l_caught_eda3 dc_l_caught_eda3 pm_l_caught_eda3 an_l_caught_eda3 cd_l_caught_eda3 ct_l_caught_eda3), sl_l_caught_eda3⟩) (e_l_caught_eda3 : PySem.W.codeIn K cd_l_caught_eda3 "_law_caught" = true) (k_l_caught_eda3 : PySem.W.keepIn K (.ref f_l_caught_eda3) = true)
    {f_l_measure_919a : Addr} {oc_l_measure_919a kV_l_measure_919a dc_l_measure_919a pm_l_measure_919a cd_l_measure_919a ct_l_measure_919a : Value} {od_l_measure_919a an_l_measure_919a : Option Addr} {sl_l_measure_919a : Array (Option Value)}
    (a_l_measure_919a : PySem.W.nsIn K mainGlobals "_law_measure" = some (some (.ref f_l_measure_919a))) (l_l_measure_919a : K.lookup f_l_measure_919a = some ⟨oc_l_measure_919a, od_l_measure_919a, .func (PySem.W.fnOf "_law_measure" "_law_measure" (defArgs s_l_measure_919a) (defBody s_l_measure_919a) (defScope s_l_measure_919a) .none kV_l_measure_919a dc_l_measure_919a pm_l_measure_919a an_l_measure_919a cd_l_measure_919a ct_l_measure_919a), sl_l_measure_919a⟩) (e_l_measure_919a : PySem.W.codeIn K cd_l_measure_919a "_law_measure" = true) (k_l_measure_919a : PySem.W.keepIn K (.ref f_l_measure_919a) = true)
    {f_l_law_ad18 : Addr} {oc_l_law_ad18 kV_l_law_ad18 dc_l_law_ad18 pm_l_law_ad18 cd_l_law_ad18 ct_l_law_ad18 : Value} {od_l_law_ad18 an_l_law_ad18 : Option Addr} {sl_l_law_ad18 : Array (Option Value)}
    (a_l_law_ad18 : PySem.W.nsIn K mainGlobals "law" = some (some (.ref f_l_law_ad18))) (l_l_law_ad18 : K.lookup f_l_law_ad18 = some ⟨oc_l_law_ad18, od_l_law_ad18, .func (PySem.W.fnOf "law" "law" (defArgs s_l_law_ad18) (defBody s_l_law_ad18) (defScope s_l_law_ad18) .none kV_l_law_ad18 dc_l_law_ad18 pm_l_law_ad18 an_l_law_ad18 cd_l_law_ad18 ct_l_law_ad18), sl_l_law_ad18⟩) (e_l_law_ad18 : PySem.W.codeIn K cd_l_law_ad18 "law" = true) (k_l_law_ad18 : PySem.W.keepIn K (.ref f_l_law_ad18) = true)
    (base : Heap) (Xb : K.In base) : Txt PySem.Challenge.pw_slitsheets_k11_cuttings_refused K mg base where
  s_SheetError := ⟨_, XA.shC_mk ns_S lk_S, PySem.W.mg_of X G ns_S⟩
  e_InvalidMeasure := XA.erM_mk X G (XA.shC_mk ns_S lk_S) it_InvalidMeasure (by decide) ns_InvalidMeasure lk_InvalidMeasure sa_InvalidMeasure ga_InvalidMeasure gg_InvalidMeasure nv_InvalidMeasure kp_InvalidMeasure hc_InvalidMeasure gs_S tk_S iC_InvalidMeasure (XA.sup_of lk_InvalidMeasure sp_InvalidMeasure) any_S msup_S lf_InvalidMeasure cd_InvalidMeasure lc_InvalidMeasure lt_InvalidMeasure lv_InvalidMeasure hv_InvalidMeasure hf_InvalidMeasure (by decide +kernel)
  e_InvalidNumber := XA.erM_mk X G (XA.shC_mk ns_S lk_S) it_InvalidNumber (by decide) ns_InvalidNumber lk_InvalidNumber sa_InvalidNumber ga_InvalidNumber gg_InvalidNumber nv_InvalidNumber kp_InvalidNumber hc_InvalidNumber gs_S tk_S iC_InvalidNumber (XA.sup_of lk_InvalidNumber sp_InvalidNumber) any_S msup_S lf_InvalidNumber cd_InvalidNumber lc_InvalidNumber lt_InvalidNumber lv_InvalidNumber hv_InvalidNumber hf_InvalidNumber (by decide +kernel)
  e_InvalidCutting := XA.erM_mk X G (XA.shC_mk ns_S lk_S) it_InvalidCutting (by decide) ns_InvalidCutting lk_InvalidCutting sa_InvalidCutting ga_InvalidCutting gg_InvalidCutting nv_InvalidCutting kp_InvalidCutting hc_InvalidCutting gs_S tk_S iC_InvalidCutting (XA.sup_of lk_InvalidCutting sp_InvalidCutting) any_S msup_S lf_InvalidCutting cd_InvalidCutting lc_InvalidCutting lt_InvalidCutting lv_InvalidCutting hv_InvalidCutting hf_InvalidCutting (by decide +kernel)
  e_TooMany := XA.erM_mk X G (XA.shC_mk ns_S lk_S) it_TooMany (by decide) ns_TooMany lk_TooMany sa_TooMany ga_TooMany gg_TooMany nv_TooMany kp_TooMany hc_TooMany gs_S tk_S iC_TooMany (XA.sup_of lk_TooMany sp_TooMany) any_S msup_S lf_TooMany cd_TooMany lc_TooMany lt_TooMany lv_TooMany hv_TooMany hf_TooMany (by decide +kernel)
  v_cutting_number := ⟨_, vn_cutting_number, PySem.W.mg_of X G vn_cutting_number⟩
  v_cuttings := ⟨_, vn_cuttings, PySem.W.mg_of X G vn_cuttings⟩
  v_how_many_cuttings := ⟨_, vn_how_many_cuttings, PySem.W.mg_of X G vn_how_many_cuttings⟩
  v_measure_of := ⟨_, vn_measure_of, PySem.W.mg_of X G vn_measure_of⟩
  v_next_cutting := ⟨_, vn_next_cutting, PySem.W.mg_of X G vn_next_cutting⟩
  n_abs := PySem.W.mg_none_of X G n_abs
  n_bool := PySem.W.mg_none_of X G n_bool
  n_int := PySem.W.mg_none_of X G n_int
  n_isinstance := PySem.W.mg_none_of X G n_isinstance
  n_len := PySem.W.mg_none_of X G n_len
  n_max := PySem.W.mg_none_of X G n_max
  n_range := PySem.W.mg_none_of X G n_range
  n_repr := PySem.W.mg_none_of X G n_repr
  n_sorted := PySem.W.mg_none_of X G n_sorted
  n_sum := PySem.W.mg_none_of X G n_sum
  n_tuple := PySem.W.mg_none_of X G n_tuple
  c_LEAST := ⟨_, PySem.W.mg_of X G c_LEAST⟩
  c_MOST_LISTED := ⟨_, PySem.W.mg_of X G c_MOST_LISTED⟩
  h_l_cell_cf3b := here_of (st := s_l_cell_cf3b) X G a_l_cell_cf3b l_l_cell_cf3b e_l_cell_cf3b k_l_cell_cf3b fun _ _ _ _ _ _ us hl => match us, hl with | [_, _], _ => rfl
  h_l_generator_b324 := here_of (st := s_l_generator_b324) X G a_l_generator_b324 l_l_generator_b324 e_l_generator_b324 k_l_generator_b324 fun _ _ _ _ _ _ us hl => match us, hl with | [_, _], _ => rfl
  h_l_turns_2ef2 := here_of (st := s_l_turns_2ef2) X G a_l_turns_2ef2 l_l_turns_2ef2 e_l_turns_2ef2 k_l_turns_2ef2 fun _ _ _ _ _ _ us hl => match us, hl with | [_], _ => rfl
  h_l_common_7348 := here_of (st := s_l_common_7348) X G a_l_common_7348 l_l_common_7348 e_l_common_7348 k_l_common_7348 fun _ _ _ _ _ _ us hl => match us, hl with | [_, _], _ => rfl
  h_l_is_cutting_19aa := here_of (st := s_l_is_cutting_19aa) X G a_l_is_cutting_19aa l_l_is_cutting_19aa e_l_is_cutting_19aa k_l_is_cutting_19aa fun _ _ _ _ _ _ us hl => match us, hl with | [_, _, _, _], _ => rfl
  h_l_with_e507 := here_of (st := s_l_with_e507) X G a_l_with_e507 l_l_with_e507 e_l_with_e507 k_l_with_e507 fun _ _ _ _ _ _ us hl => match us, hl with | [_, _], _ => rfl
  h_l_all_a488 := here_of (st := s_l_all_a488) X G a_l_all_a488 l_l_all_a488 e_l_all_a488 k_l_all_a488 fun _ _ _ _ _ _ us hl => match us, hl with | [_], _ => rfl
  h_l_hash_d8d1 := here_of (st := s_l_hash_d8d1) X G a_l_hash_d8d1 l_l_hash_d8d1 e_l_hash_d8d1 k_l_hash_d8d1 fun _ _ _ _ _ _ us hl => match us, hl with | [_, _], _ => rfl
  h_l_random_7821 := here_of (st := s_l_random_7821) X G a_l_random_7821 l_l_random_7821 e_l_random_7821 k_l_random_7821 fun _ _ _ _ _ _ us hl => match us, hl with | [_, _], _ => rfl
  h_l_drawn_measure_d212 := here_of (st := s_l_drawn_measure_d212) X G a_l_drawn_measure_d212 l_l_drawn_measure_d212 e_l_drawn_measure_d212 k_l_drawn_measure_d212 fun _ _ _ _ _ _ us hl => match us, hl with | [_, _], _ => rfl
  h_l_only_1d99 := here_of (st := s_l_only_1d99) X G a_l_only_1d99 l_l_only_1d99 e_l_only_1d99 k_l_only_1d99 fun _ _ _ _ _ _ us hl => match us, hl with | [_, _, _], _ => rfl
  h_is_whole := here_of (st := s_is_whole) X G a_is_whole l_is_whole e_is_whole k_is_whole fun _ _ _ _ _ _ us hl => match us, hl with | [_], _ => rfl
  h_common_by := here_of (st := s_common_by) X G a_common_by l_common_by e_common_by k_common_by fun _ _ _ _ _ _ us hl => match us, hl with | [_, _], _ => rfl
  h_is_cutting_by := here_of (st := s_is_cutting_by) X G a_is_cutting_by l_is_cutting_by e_is_cutting_by k_is_cutting_by fun _ _ _ _ _ _ us hl => match us, hl with | [_], _ => rfl
  h_check_cutting_x := here_of (st := s_check_cutting_x) X G a_check_cutting_x l_check_cutting_x e_check_cutting_x k_check_cutting_x fun _ _ _ _ _ _ us hl => match us, hl with | [_], _ => rfl
  h_measure_by := here_of (st := s_measure_by) X G a_measure_by l_measure_by e_measure_by k_measure_by fun _ _ _ _ _ _ us hl => match us, hl with | [_], _ => rfl
  h_measure_of_x := here_of (st := s_measure_of_x) X G a_measure_of_x l_measure_of_x e_measure_of_x k_measure_of_x fun _ _ _ _ _ _ us hl => match us, hl with | [_], _ => rfl
  h_root_floor_by := here_of (st := s_root_floor_by) X G a_root_floor_by l_root_floor_by e_root_floor_by k_root_floor_by fun _ _ _ _ _ _ us hl => match us, hl with | [_], _ => rfl
  h_turns_of := here_of (st := s_turns_of) X G a_turns_of l_turns_of e_turns_of k_turns_of fun _ _ _ _ _ _ us hl => match us, hl with | [_], _ => rfl
  h_sides_with := here_of (st := s_sides_with) X G a_sides_with l_sides_with e_sides_with k_sides_with fun _ _ _ _ _ _ us hl => match us, hl with | [_, _], _ => rfl
  h_lows_with := here_of (st := s_lows_with) X G a_lows_with l_lows_with e_lows_with k_lows_with fun _ _ _ _ _ _ us hl => match us, hl with | [_, _, _], _ => rfl
  h_with_turn := here_of (st := s_with_turn) X G a_with_turn l_with_turn e_with_turn k_with_turn fun _ _ _ _ _ _ us hl => match us, hl with | [_, _], _ => rfl
  h_listed_by := here_of (st := s_listed_by) X G a_listed_by l_listed_by e_listed_by k_listed_by fun _ _ _ _ _ _ us hl => match us, hl with | [_], _ => rfl
  h_cutting_number_x := here_of (st := s_cutting_number_x) X G a_cutting_number_x l_cutting_number_x e_cutting_number_x k_cutting_number_x fun _ _ _ _ _ _ us hl => match us, hl with | [_], _ => rfl
  h_next_cutting_x := here_of (st := s_next_cutting_x) X G a_next_cutting_x l_next_cutting_x e_next_cutting_x k_next_cutting_x fun _ _ _ _ _ _ us hl => match us, hl with | [_], _ => rfl
  h_is_between := here_of (st := s_is_between) X G a_is_between l_is_between e_is_between k_is_between fun _ _ _ _ _ _ us hl => match us, hl with | [_, _, _], _ => rfl
  h_is_measure_by := here_of (st := s_is_measure_by) X G a_is_measure_by l_is_measure_by e_is_measure_by k_is_measure_by fun _ _ _ _ _ _ us hl => match us, hl with | [_], _ => rfl
  h_check_measure_x := here_of (st := s_check_measure_x) X G a_check_measure_x l_check_measure_x e_check_measure_x k_check_measure_x fun _ _ _ _ _ _ us hl => match us, hl with | [_], _ => rfl
  h_count_by := here_of (st := s_count_by) X G a_count_by l_count_by e_count_by k_count_by fun _ _ _ _ _ _ us hl => match us, hl with | [_], _ => rfl
  h_how_many_cuttings_x := here_of (st := s_how_many_cuttings_x) X G a_how_many_cuttings_x l_how_many_cuttings_x e_how_many_cuttings_x k_how_many_cuttings_x fun _ _ _ _ _ _ us hl => match us, hl with | [_], _ => rfl
  h_cuttings_x := here_of (st := s_cuttings_x) X G a_cuttings_x l_cuttings_x e_cuttings_x k_cuttings_x fun _ _ _ _ _ _ us hl => match us, hl with | [_], _ => rfl
  h_check_number_x := here_of (st := s_check_number_x) X G a_check_number_x l_check_number_x e_check_number_x k_check_number_x fun _ _ _ _ _ _ us hl => match us, hl with | [_, _, _], _ => rfl
  h_how_many_with_last_x := here_of (st := s_how_many_with_last_x) X G a_how_many_with_last_x l_how_many_with_last_x e_how_many_with_last_x k_how_many_with_last_x fun _ _ _ _ _ _ us hl => match us, hl with | [_, _], _ => rfl
  h_cutting_numbered_x := here_of (st := s_cutting_numbered_x) X G a_cutting_numbered_x l_cutting_numbered_x e_cutting_numbered_x k_cutting_numbered_x fun _ _ _ _ _ _ us hl => match us, hl with | [_, _], _ => rfl
  h_l_asked_e0b2_x := here_of (st := s_l_asked_e0b2_x) X G a_l_asked_e0b2_x l_l_asked_e0b2_x e_l_asked_e0b2_x k_l_asked_e0b2_x fun _ _ _ _ _ _ us hl => match us, hl with | [_, _, _], _ => rfl
  h_l_caught_eda3 := here_of (st := s_l_caught_eda3) X G a_l_caught_eda3 l_l_caught_eda3 e_l_caught_eda3 k_l_caught_eda3 fun _ _ _ _ _ _ us hl => match us, hl with | [_, _, _], _ => rfl
  h_l_measure_919a := here_of (st := s_l_measure_919a) X G a_l_measure_919a l_l_measure_919a e_l_measure_919a k_l_measure_919a fun _ _ _ _ _ _ us hl => match us, hl with | [_], _ => rfl
  h_l_law_ad18 := here_of (st := s_l_law_ad18) X G a_l_law_ad18 l_l_law_ad18 e_l_law_ad18 k_l_law_ad18 fun _ _ _ _ _ _ us hl => match us, hl with | [_], _ => rfl
end C_k11
open PySem PySem.W PyProof.Rows
set_option maxHeartbeats 0 in
theorem PySem.Challenge.cw_slitsheets_k11_cuttings_refused_holds : PySem.Challenge.rw_slitsheets_k11_cuttings_refused.Holds := by
  w_on; o_law; k_head; (case hw => w_witness2)
  k_fill
  refine DL.walkD (l := PySem.Challenge.rw_slitsheets_k11_cuttings_refused) (n := 63) (k := 8) (x := "_law_script") (st := C_k11.s_l_law_ad18) rfl (by decide) rfl ⟨rfl, by decide, by decide⟩ (fun w h Y => PySem.W.kIn_of Y) ?F (fun _ _ _ _ _ _ _ => rfl)
  case F =>
    intro w mg h KX G base Xb Gb
    refine' C_k11.law_ok (C_k11.all_mk KX G ?n_abs ?n_bool ?n_int ?n_isinstance ?n_len ?n_max ?n_range ?n_repr ?n_sorted ?n_sum ?n_tuple ?c_LEAST ?c_MOST_LISTED ?ns_S ?lk_S ?gs_S ?tk_S ?any_S ?msup_S ?ns_InvalidMeasure ?lk_InvalidMeasure ?sa_InvalidMeasure ?ga_InvalidMeasure ?gg_InvalidMeasure ?nv_InvalidMeasure ?kp_InvalidMeasure ?hc_InvalidMeasure ?iC_InvalidMeasure ?sp_InvalidMeasure ?lf_InvalidMeasure ?cd_InvalidMeasure ?lc_InvalidMeasure ?lt_InvalidMeasure ?lv_InvalidMeasure ?hv_InvalidMeasure ?hf_InvalidMeasure ?ns_InvalidNumber ?lk_InvalidNumber ?sa_InvalidNumber ?ga_InvalidNumber ?gg_InvalidNumber ?nv_InvalidNumber ?kp_InvalidNumber ?hc_InvalidNumber ?iC_InvalidNumber ?sp_InvalidNumber ?lf_InvalidNumber ?cd_InvalidNumber ?lc_InvalidNumber ?lt_InvalidNumber ?lv_InvalidNumber ?hv_InvalidNumber ?hf_InvalidNumber ?ns_InvalidCutting ?lk_InvalidCutting ?sa_InvalidCutting ?ga_InvalidCutting ?gg_InvalidCutting ?nv_InvalidCutting ?kp_InvalidCutting ?hc_InvalidCutting ?iC_InvalidCutting ?sp_InvalidCutting ?lf_InvalidCutting ?cd_InvalidCutting ?lc_InvalidCutting ?lt_InvalidCutting ?lv_InvalidCutting ?hv_InvalidCutting ?hf_InvalidCutting ?ns_TooMany ?lk_TooMany ?sa_TooMany ?ga_TooMany ?gg_TooMany ?nv_TooMany ?kp_TooMany ?hc_TooMany ?iC_TooMany ?sp_TooMany ?lf_TooMany ?cd_TooMany ?lc_TooMany ?lt_TooMany ?lv_TooMany ?hv_TooMany ?hf_TooMany ?vn_cutting_number ?vn_cuttings ?vn_how_many_cuttings ?vn_measure_of ?vn_next_cutting ?a_l_cell_cf3b ?l_l_cell_cf3b ?e_l_cell_cf3b ?k_l_cell_cf3b ?a_l_generator_b324 ?l_l_generator_b324 ?e_l_generator_b324 ?k_l_generator_b324 ?a_l_turns_2ef2 ?l_l_turns_2ef2 ?e_l_turns_2ef2 ?k_l_turns_2ef2 ?a_l_common_7348 ?l_l_common_7348 ?e_l_common_7348 ?k_l_common_7348 ?a_l_is_cutting_19aa ?l_l_is_cutting_19aa ?e_l_is_cutting_19aa ?k_l_is_cutting_19aa ?a_l_with_e507 ?l_l_with_e507 ?e_l_with_e507 ?k_l_with_e507 ?a_l_all_a488 ?l_l_all_a488 ?e_l_all_a488 ?k_l_all_a488 ?a_l_hash_d8d1 ?l_l_hash_d8d1 ?e_l_hash_d8d1 ?k_l_hash_d8d1 ?a_l_random_7821 ?l_l_random_7821 ?e_l_random_7821 ?k_l_random_7821 ?a_l_drawn_measure_d212 ?l_l_drawn_measure_d212 ?e_l_drawn_measure_d212 ?k_l_drawn_measure_d212 ?a_l_only_1d99 ?l_l_only_1d99 ?e_l_only_1d99 ?k_l_only_1d99 ?a_is_whole ?l_is_whole ?e_is_whole ?k_is_whole ?a_common_by ?l_common_by ?e_common_by ?k_common_by ?a_is_cutting_by ?l_is_cutting_by ?e_is_cutting_by ?k_is_cutting_by ?a_check_cutting_x ?l_check_cutting_x ?e_check_cutting_x ?k_check_cutting_x ?a_measure_by ?l_measure_by ?e_measure_by ?k_measure_by ?a_measure_of_x ?l_measure_of_x ?e_measure_of_x ?k_measure_of_x ?a_root_floor_by ?l_root_floor_by ?e_root_floor_by ?k_root_floor_by ?a_turns_of ?l_turns_of ?e_turns_of ?k_turns_of ?a_sides_with ?l_sides_with ?e_sides_with ?k_sides_with ?a_lows_with ?l_lows_with ?e_lows_with ?k_lows_with ?a_with_turn ?l_with_turn ?e_with_turn ?k_with_turn ?a_listed_by ?l_listed_by ?e_listed_by ?k_listed_by ?a_cutting_number_x ?l_cutting_number_x ?e_cutting_number_x ?k_cutting_number_x ?a_next_cutting_x ?l_next_cutting_x ?e_next_cutting_x ?k_next_cutting_x ?a_is_between ?l_is_between ?e_is_between ?k_is_between ?a_is_measure_by ?l_is_measure_by ?e_is_measure_by ?k_is_measure_by ?a_check_measure_x ?l_check_measure_x ?e_check_measure_x ?k_check_measure_x ?a_count_by ?l_count_by ?e_count_by ?k_count_by ?a_how_many_cuttings_x ?l_how_many_cuttings_x ?e_how_many_cuttings_x ?k_how_many_cuttings_x ?a_cuttings_x ?l_cuttings_x ?e_cuttings_x ?k_cuttings_x ?a_check_number_x ?l_check_number_x ?e_check_number_x ?k_check_number_x ?a_how_many_with_last_x ?l_how_many_with_last_x ?e_how_many_with_last_x ?k_how_many_with_last_x ?a_cutting_numbered_x ?l_cutting_numbered_x ?e_cutting_numbered_x ?k_cutting_numbered_x ?a_l_asked_e0b2_x ?l_l_asked_e0b2_x ?e_l_asked_e0b2_x ?k_l_asked_e0b2_x ?a_l_caught_eda3 ?l_l_caught_eda3 ?e_l_caught_eda3 ?k_l_caught_eda3 ?a_l_measure_919a ?l_l_measure_919a ?e_l_measure_919a ?k_l_measure_919a ?a_l_law_ad18 ?l_l_law_ad18 ?e_l_law_ad18 ?k_l_law_ad18 base Xb)
    (case n_abs => k_is)
    (case n_bool => k_is)
    (case n_int => k_is)
    (case n_isinstance => k_is)
    (case n_len => k_is)
    (case n_max => k_is)
    (case n_range => k_is)
    (case n_repr => k_is)
    (case n_sorted => k_is)
    (case n_sum => k_is)
    (case n_tuple => k_is)
    (case c_LEAST => k_is)
    (case c_MOST_LISTED => k_is)
    (case ns_S => k_is)
    (case lk_S => k_is)
    (case gs_S => k_is)
    (case tk_S => k_is)
    (case any_S => k_is)
    (case msup_S => k_is)
    (case ns_InvalidMeasure => k_is)
    (case lk_InvalidMeasure => k_is)
    (case sa_InvalidMeasure => k_is)
    (case ga_InvalidMeasure => k_is)
    (case gg_InvalidMeasure => k_is)
    (case nv_InvalidMeasure => k_is)
    (case kp_InvalidMeasure => k_is)
    (case hc_InvalidMeasure => k_is)
    (case iC_InvalidMeasure => k_is)
    (case sp_InvalidMeasure => ks_is)
    (case lf_InvalidMeasure => k_is)
    (case cd_InvalidMeasure => k_is)
    (case lc_InvalidMeasure => k_is)
    (case lt_InvalidMeasure => k_is)
    (case lv_InvalidMeasure => k_is)
    (case hv_InvalidMeasure => first | rfl | decide +kernel)
    (case hf_InvalidMeasure => first | rfl | decide +kernel)
    (case ns_InvalidNumber => k_is)
    (case lk_InvalidNumber => k_is)
    (case sa_InvalidNumber => k_is)
    (case ga_InvalidNumber => k_is)
    (case gg_InvalidNumber => k_is)
    (case nv_InvalidNumber => k_is)
    (case kp_InvalidNumber => k_is)
    (case hc_InvalidNumber => k_is)
    (case iC_InvalidNumber => k_is)
    (case sp_InvalidNumber => ks_is)
    (case lf_InvalidNumber => k_is)
    (case cd_InvalidNumber => k_is)
    (case lc_InvalidNumber => k_is)
    (case lt_InvalidNumber => k_is)
    (case lv_InvalidNumber => k_is)
    (case hv_InvalidNumber => first | rfl | decide +kernel)
    (case hf_InvalidNumber => first | rfl | decide +kernel)
    (case ns_InvalidCutting => k_is)
    (case lk_InvalidCutting => k_is)
    (case sa_InvalidCutting => k_is)
    (case ga_InvalidCutting => k_is)
    (case gg_InvalidCutting => k_is)
    (case nv_InvalidCutting => k_is)
    (case kp_InvalidCutting => k_is)
    (case hc_InvalidCutting => k_is)
    (case iC_InvalidCutting => k_is)
    (case sp_InvalidCutting => ks_is)
    (case lf_InvalidCutting => k_is)
    (case cd_InvalidCutting => k_is)
    (case lc_InvalidCutting => k_is)
    (case lt_InvalidCutting => k_is)
    (case lv_InvalidCutting => k_is)
    (case hv_InvalidCutting => first | rfl | decide +kernel)
    (case hf_InvalidCutting => first | rfl | decide +kernel)
    (case ns_TooMany => k_is)
    (case lk_TooMany => k_is)
    (case sa_TooMany => k_is)
    (case ga_TooMany => k_is)
    (case gg_TooMany => k_is)
    (case nv_TooMany => k_is)
    (case kp_TooMany => k_is)
    (case hc_TooMany => k_is)
    (case iC_TooMany => k_is)
    (case sp_TooMany => ks_is)
    (case lf_TooMany => k_is)
    (case cd_TooMany => k_is)
    (case lc_TooMany => k_is)
    (case lt_TooMany => k_is)
    (case lv_TooMany => k_is)
    (case hv_TooMany => first | rfl | decide +kernel)
    (case hf_TooMany => first | rfl | decide +kernel)
    (case vn_cutting_number => k_is)
    (case vn_cuttings => k_is)
    (case vn_how_many_cuttings => k_is)
    (case vn_measure_of => k_is)
    (case vn_next_cutting => k_is)
    (case a_l_cell_cf3b => k_is)
    (case l_l_cell_cf3b => k_is)
    (case e_l_cell_cf3b => k_is)
    (case k_l_cell_cf3b => k_is)
    (case a_l_generator_b324 => k_is)
    (case l_l_generator_b324 => k_is)
    (case e_l_generator_b324 => k_is)
    (case k_l_generator_b324 => k_is)
    (case a_l_turns_2ef2 => k_is)
    (case l_l_turns_2ef2 => k_is)
    (case e_l_turns_2ef2 => k_is)
    (case k_l_turns_2ef2 => k_is)
    (case a_l_common_7348 => k_is)
    (case l_l_common_7348 => k_is)
    (case e_l_common_7348 => k_is)
    (case k_l_common_7348 => k_is)
    (case a_l_is_cutting_19aa => k_is)
    (case l_l_is_cutting_19aa => k_is)
    (case e_l_is_cutting_19aa => k_is)
    (case k_l_is_cutting_19aa => k_is)
    (case a_l_with_e507 => k_is)
    (case l_l_with_e507 => k_is)
    (case e_l_with_e507 => k_is)
    (case k_l_with_e507 => k_is)
    (case a_l_all_a488 => k_is)
    (case l_l_all_a488 => k_is)
    (case e_l_all_a488 => k_is)
    (case k_l_all_a488 => k_is)
    (case a_l_hash_d8d1 => k_is)
    (case l_l_hash_d8d1 => k_is)
    (case e_l_hash_d8d1 => k_is)
    (case k_l_hash_d8d1 => k_is)
    (case a_l_random_7821 => k_is)
    (case l_l_random_7821 => k_is)
    (case e_l_random_7821 => k_is)
    (case k_l_random_7821 => k_is)
    (case a_l_drawn_measure_d212 => k_is)
    (case l_l_drawn_measure_d212 => k_is)
    (case e_l_drawn_measure_d212 => k_is)
    (case k_l_drawn_measure_d212 => k_is)
    (case a_l_only_1d99 => k_is)
    (case l_l_only_1d99 => k_is)
    (case e_l_only_1d99 => k_is)
    (case k_l_only_1d99 => k_is)
    (case a_is_whole => k_is)
    (case l_is_whole => k_is)
    (case e_is_whole => k_is)
    (case k_is_whole => k_is)
    (case a_common_by => k_is)
    (case l_common_by => k_is)
    (case e_common_by => k_is)
    (case k_common_by => k_is)
    (case a_is_cutting_by => k_is)
    (case l_is_cutting_by => k_is)
    (case e_is_cutting_by => k_is)
    (case k_is_cutting_by => k_is)
    (case a_check_cutting_x => k_is)
    (case l_check_cutting_x => k_is)
    (case e_check_cutting_x => k_is)
    (case k_check_cutting_x => k_is)
    (case a_measure_by => k_is)
    (case l_measure_by => k_is)
    (case e_measure_by => k_is)
    (case k_measure_by => k_is)
    (case a_measure_of_x => k_is)
    (case l_measure_of_x => k_is)
    (case e_measure_of_x => k_is)
    (case k_measure_of_x => k_is)
    (case a_root_floor_by => k_is)
    (case l_root_floor_by => k_is)
    (case e_root_floor_by => k_is)
    (case k_root_floor_by => k_is)
    (case a_turns_of => k_is)
    (case l_turns_of => k_is)
    (case e_turns_of => k_is)
    (case k_turns_of => k_is)
    (case a_sides_with => k_is)
    (case l_sides_with => k_is)
    (case e_sides_with => k_is)
    (case k_sides_with => k_is)
    (case a_lows_with => k_is)
    (case l_lows_with => k_is)
    (case e_lows_with => k_is)
    (case k_lows_with => k_is)
    (case a_with_turn => k_is)
    (case l_with_turn => k_is)
    (case e_with_turn => k_is)
    (case k_with_turn => k_is)
    (case a_listed_by => k_is)
    (case l_listed_by => k_is)
    (case e_listed_by => k_is)
    (case k_listed_by => k_is)
    (case a_cutting_number_x => k_is)
    (case l_cutting_number_x => k_is)
    (case e_cutting_number_x => k_is)
    (case k_cutting_number_x => k_is)
    (case a_next_cutting_x => k_is)
    (case l_next_cutting_x => k_is)
    (case e_next_cutting_x => k_is)
    (case k_next_cutting_x => k_is)
    (case a_is_between => k_is)
    (case l_is_between => k_is)
    (case e_is_between => k_is)
    (case k_is_between => k_is)
    (case a_is_measure_by => k_is)
    (case l_is_measure_by => k_is)
    (case e_is_measure_by => k_is)
    (case k_is_measure_by => k_is)
    (case a_check_measure_x => k_is)
    (case l_check_measure_x => k_is)
    (case e_check_measure_x => k_is)
    (case k_check_measure_x => k_is)
    (case a_count_by => k_is)
    (case l_count_by => k_is)
    (case e_count_by => k_is)
    (case k_count_by => k_is)
    (case a_how_many_cuttings_x => k_is)
    (case l_how_many_cuttings_x => k_is)
    (case e_how_many_cuttings_x => k_is)
    (case k_how_many_cuttings_x => k_is)
    (case a_cuttings_x => k_is)
    (case l_cuttings_x => k_is)
    (case e_cuttings_x => k_is)
    (case k_cuttings_x => k_is)
    (case a_check_number_x => k_is)
    (case l_check_number_x => k_is)
    (case e_check_number_x => k_is)
    (case k_check_number_x => k_is)
    (case a_how_many_with_last_x => k_is)
    (case l_how_many_with_last_x => k_is)
    (case e_how_many_with_last_x => k_is)
    (case k_how_many_with_last_x => k_is)
    (case a_cutting_numbered_x => k_is)
    (case l_cutting_numbered_x => k_is)
    (case e_cutting_numbered_x => k_is)
    (case k_cutting_numbered_x => k_is)
    (case a_l_asked_e0b2_x => k_is)
    (case l_l_asked_e0b2_x => k_is)
    (case e_l_asked_e0b2_x => k_is)
    (case k_l_asked_e0b2_x => k_is)
    (case a_l_caught_eda3 => k_is)
    (case l_l_caught_eda3 => k_is)
    (case e_l_caught_eda3 => k_is)
    (case k_l_caught_eda3 => k_is)
    (case a_l_measure_919a => k_is)
    (case l_l_measure_919a => k_is)
    (case e_l_measure_919a => k_is)
    (case k_l_measure_919a => k_is)
    (case a_l_law_ad18 => k_is)
    (case l_l_law_ad18 => k_is)
    (case e_l_law_ad18 => k_is)
    (case k_l_law_ad18 => k_is)
